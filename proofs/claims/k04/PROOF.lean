import PyProof.Rows.All
import Wide.All
import OpenK.AllK
import Wide.FinOn
import HandS.ForMost
import HandS.Evl
import HandS.Wide
import HandS.WideBits
import HandS.Style
import HandS.Conv
import HandS.Walk
import HandS.Codes
import HandS.NoneIn
import HandS.IsInst
import HandS.Defaults
import HandS.SortInts
import HandS.HeadEnd
import PyProof.ReprRoads
import HandS.MakeKw
import HandS.MakeKwOnly
import HandS.RaiseMore
import HandS.OwnEq
import HandS.More
import PyProof.Rows.ReprOcc
import HandS.Head0
import HandS.Head1
import HandS.Head2
import HandS.HeadHook1
import HandS.HeadHook2
import HandS.HeadHook3
import HandS.HeadHook4
import Wide.Once
import PySem.Challenge.RW_seamlayers_k04_whole_products_and_opposi
set_option Elab.async false
set_option linter.all false
set_option maxRecDepth 100000
set_option maxHeartbeats 0
/-! Promises of defs that may want to know that no repr runs (gb = true). -/
namespace Lay
open PySem PySem.Spec PyProof.Rows L2
open Evl (Ex)
structure FnB (gb : Bool) (P : Program) (wd : World) (KF : PySem.W.Frag) (mg : Str → Option Value) (bs : Heap) (CX : CXT) (lv : Nat) (fa : Addr) (fd : FuncData) (ns : List Str) (sp : Sp) : Prop where
  len : ∀ vs H Q E, sp vs H Q E → vs.length = ns.length
  run : ∀ (A : Around) (out : List Env) (st : Shared) (H : Hp) (ar : Args) (us : List Value) (vs : List V) (Q : VK) (E : XK), (gb = true → A.guards = some []) → Room lv A → Env0 P wd KF mg bs A out st H → BindsTo st fd ar (ns.zip us) → Vals vs us → sp vs H Q E →
    codeAny (model P wd) A (.call (.ref fa) ar) (CR CX out P wd H st Q E) st
section
variable {gb : Bool} {P : Program} {wd : World} {KF : PySem.W.Frag} {mg : Str → Option Value} {bs : Heap} {CX : CXT} {lv : Nat} {fa : Addr} {fd : FuncData} {ns : List Str} {sp : Sp}
theorem FnB.of (F : FnOk P wd KF mg bs CX lv fa fd ns sp) : FnB gb P wd KF mg bs CX lv fa fd ns sp := ⟨F.len, fun A out st H ar us vs Q E _ => F.run A out st H ar us vs Q E⟩
theorem FnB.ok (F : FnB false P wd KF mg bs CX lv fa fd ns sp) : FnOk P wd KF mg bs CX lv fa fd ns sp := ⟨F.len, fun A out st H ar us vs Q E => F.run A out st H ar us vs Q E fun z => nomatch z⟩
end
section
variable {gb : Bool} {X : Cx} {CX : CXT} {lv : Nat} {fa : Addr} {fd : FuncData} {ns : List Str} {sp : Sp} {dvs : List V} {ds : List Value} {E : XK} {nm : Str} {p1 p2 : Pos} {ex : Expr} {exs : List Expr} {ta : TA}
/-- the callee runs -/
theorem runB {pn : List (Addr × Obj)} {σ : L2.St} {H : Hp} {st : Shared} {Q : VK} {us : List Value} {vs : List V} (F : FnB gb X.prog X.w X.K X.mg X.base CX lv fa fd ns sp) (gd : gb = true → X.A.guards = some []) (rm : Room lv X.A) (bi : Binds X.K fd ns ds) (dv : Vals dvs ds) (pas : Passes CX X E)
    (I : Inv X pn σ H st) (rel : Vals vs us) (hs : sp (vs ++ dvs) H Q E) : wpAny (model X.prog X.w) X.A (call (.ref fa) us) (EP X pn σ Q) X.xe st := by
  have ra := rel.append dv
  have le : (us ++ ds).length = ns.length := ra.length.symm.trans (F.len _ _ _ _ hs)
  have go := F.run X.A X.stack st H ⟨us, []⟩ (us ++ ds) (vs ++ dvs) Q E gd rm I.env0 (bi st us I.kIn le) ra hs
  refine wpAny_call (codeAny_mono go ?_)
  intro res st' hq
  match res, hq with
  | .error er, hq => exact pas pn σ H st er st' I hq
  | .ok (.ret u), hq => exact I.after hq
  | .ok .next, hq => exact hq.elim
  | .ok .brk, hq => exact hq.elim
  | .ok .cont, hq => exact hq.elim
theorem pe_callGB (F : FnB gb X.prog X.w X.K X.mg X.base CX lv fa fd ns sp) (gd : gb = true → X.A.guards = some []) (rm : Room lv X.A) (gl : Gl X nm) (mm : X.mg nm = some (.ref fa)) (kp : PySem.W.keepIn X.K (.ref fa) = true) (bi : Binds X.K fd ns ds) (dv : Vals dvs ds) (pas : Passes CX X E)
    (pa : PA X (ex :: exs) ta) (nd : (nm == ("__debug__" : Str)) = false := by decide) (se : starEach (ex :: exs) X.env = (false, eval ex X.env) :: starEach exs X.env := by rfl) (sp' : (backTo p2 (starEach exs X.env)).any (·.1) = false := by rfl) :
    PE X (.Call (.Name nm p1) (ex :: exs) [] p2) (tCall sp dvs E ta) := ⟨fun pn st σ H Q I hh => wpAny_Call_Name_kw (ld_glob I gl mm (PySem.W.callWith_K (h₀ := X.base) I.ok.mod.kin kp (thn (pa.run p2 pn st σ H _ I hh) fun us st1 ⟨_, _, I1, rr, qq⟩ => ⟨I1.kIn, runB F gd rm bi dv pas I1 rr qq⟩) se sp') nd)⟩
end
/-! the rule for a def's body -/
theorem fn_ofB {gb : Bool} {CX : CXT} {P : Program} {wd : World} {KF : PySem.W.Frag} {mg : Str → Option Value} {bs : Heap} {lv : Nat} {fa : Addr} {nm qn : Str} {pr : Arguments} {bd : List Stmt} {sco : Scope} {fd : FuncData} {N ns : List Str} {sp : Sp} (F : FunD KF nm qn pr bd sco [] [] fa fd) (S : FnScope N ns sco)
    (len : ∀ vs H Q E, sp vs H Q E → vs.length = ns.length)
    (hb : ∀ (cdv : Value) (A : Around) (out : List Env) (st : Shared) (H : Hp) (vs : List V) (Q : VK) (E : XK), (gb = true → A.guards = some []) → Room lv (A.deeper (envOfC qn sco st.heap.objs.size fa cdv)) → sp vs H Q E →
      ∃ t, PSs (cxOf CX P wd KF mg bs N qn sco fa cdv A out st H E) bd t ∧ t { nx := fun _ H' => Q .non H', rt := Q } (start N vs) H) : FnB gb P wd KF mg bs CX (lv + 1) fa fd ns sp := by
  obtain ⟨oc, od, dV, kV, doc, pm, an, cdv, ct, osl, efd, lk, hcd, _, _⟩ := F.ex
  subst efd
  constructor
  · exact len
  intro A out st H ar us vs Q E gd rm e0 bi rel hs
  have le := len _ _ _ _ hs
  have old : ∀ b o, bs.get? b = some o → st.heap.get? b = some o := fun b o e => (e0.bs b o e).1
  have KX : KF.In st.heap := e0.mod.kin.keeps old
  have kinds : ∀ y ∈ ns.zip us, sco.names.lookup y.1 = some .local ∨ (sco.names.lookup y.1 = some .cell ∧ ((cellsFrom (st.heap.objs.size + 1) sco.names []).lookup y.1).isSome = true) := by
    rintro ⟨n, v⟩ hy
    exact (S.par n (List.of_mem_zip hy).1).imp id fun z => ⟨z, PySem.W.cellsFrom_some _ _ _ (.inl z)⟩
  refine codeAny_call_function rm.depth (KX _ _ lk) rfl S.co S.gen rfl (PySem.W.codeRec_of KX hcd) (bi _ _ _ _ (wpAny_newFunctionEnv_cells S.kind kinds ?_))
  rintro env rfl st1 x
  refine ⟨(e0.mod.nolimit.keeps old).keeps x.toInCall.keep, codeAny_func ?_⟩
  obtain ⟨t, ht, hq⟩ := hb cdv A out st H vs Q E gd (rm.deeper _) hs
  have I := inv_start (CX := CX) (E := E) S rm.hd e0 le rel x
  refine wpAny_mono (ht.run [] st1 (start N vs) H _ I hq) ?_ fun _ _ z => z
  intro fl st' hs'
  match fl, hs' with
  | .ret u, ⟨v, σ', H', J, rv, q⟩ => exact ⟨v, H', J.os, J.bare, J.base, J.hok, rv, q⟩
  | .next, ⟨σ', H', J, q⟩ => exact ⟨V.non, H', J.os, J.bare, J.base, J.hok, rfl, q⟩
  | .brk, ⟨_, _, _, q⟩ => exact q.elim
  | .cont, ⟨_, _, _, q⟩ => exact q.elim

/-! the end: a law's call -/
theorem law_callB {gb : Bool} {P : Program} {wd : World} {KF : PySem.W.Frag} {mg mb : Str → Option Value} {CX : CXT} {lv : Nat} {fa ad : Addr} {fd : FuncData} {x : Str} {sp : Sp} {s1 : Shared} {us : List Value} {ns : List Int}
    (KX : KF.In s1.heap) (h1 : s1.heap.Ns mainGlobals mg) (h2 : s1.heap.Ns builtinsNs mb) (h3 : ∀ x : Str, x ≠ "__name__" → mb x = bootBuiltins x) (h4 : s1.heap.NoLimit) (h5 : s1.gens = #[])
    (h6 : s1.heap.get? ad = some { cls := .type "list", data := .seq us.toArray }) (h7 : IntsAre us ns) (h8 : ns.length ≤ sizeLine) (rm : Room lv callerA)
    (F : ∀ bs : Heap, KF.In bs → bs.Ns mainGlobals mg → FnB gb P wd KF mg bs CX lv fa fd [x] sp) (bi : ∀ (st : Shared) (u : Value), BindsTo st fd ⟨[u], []⟩ [(x, u)])
    (hs : ∀ H : Hp, Only H → SqL KF H ad (ns.map V.int) → sp [.ref ad] H (fun v _ => v = .bl true) fun _ _ _ => False)
    (hC : ∀ H e s', CX [] H s1 (fun _ _ _ => False) e s' → False) :
    codeAny (model P wd) callerA (.call (.ref fa) ⟨[.ref ad], []⟩) (fun res t' => res = .ok (.ret (.bool true)) ∧ OldK s1.heap t'.heap ∧ t'.os = s1.os ∧ AllBare t'.gens) s1 := by
  have main : ∀ H : Hp, Only H → SqL KF H ad (ns.map V.int) → HOk P wd H s1.heap → (∀ b, H b ≠ none → b = ad ∧ KF.lookup ad = none) →
      codeAny (model P wd) callerA (.call (.ref fa) ⟨[.ref ad], []⟩) (fun res t' => res = .ok (.ret (.bool true)) ∧ OldK s1.heap t'.heap ∧ t'.os = s1.os ∧ AllBare t'.gens) s1 := by
    intro H only sq ok al
    have un : ∀ {b : Addr} {o : Obj}, s1.heap.get? b = some o → (b = ad → KF.lookup ad = none → False) → (hidT s1.heap H).get? b = some o := by
      intro b o e z
      refine hidT_get e ?_
      cases q : H b with
      | none => rfl
      | some u =>
        obtain ⟨z1, z2⟩ := al b (by rw [q]; exact fun y => nomatch y)
        exact (z z1 z2).elim
    have nsp : ∀ {b : Addr} {m : Str → Option Value}, s1.heap.Ns b m → (hidT s1.heap H).Ns b m := by
      rintro b m ⟨o, es, ep, e, d, r⟩
      refine ⟨o, es, ep, un e ?_, d, r⟩
      intro z _
      subst z
      rw [h6] at e
      cases e
      cases d
    have KI : KF.In (hidT s1.heap H) := by
      intro b o e
      refine un (KX b o e) ?_
      intro z y
      rw [z, y] at e
      cases e
    obtain ⟨mc, l1, l2⟩ := h4
    have en : Env0 P wd KF mg (hidT s1.heap H) callerA [] s1 H := ⟨rfl, ⟨KI, nsp h1, ⟨mb, nsp h2, h3⟩, ⟨mc, nsp l1, l2⟩⟩, fun b o e => of_hidT e, Nat.le_of_eq (hidT_size _ _), trivial, fun b z => absurd (show b ∈ ([] : List Addr) from z) List.not_mem_nil, ok, .of_eq h5⟩
    have go := (F _ KI (nsp h1)).run callerA [] s1 H ⟨[.ref ad], []⟩ [.ref ad] [.ref ad] _ _ (fun _ => rfl) rm en (bi s1 (.ref ad)) (.cons rfl .nil) (hs H only sq)
    refine codeAny_mono go ?_
    intro res t' z
    match res, z with
    | .error e, z => exact (hC H e t' z).elim
    | .ok .next, z => exact z.elim
    | .ok .brk, z => exact z.elim
    | .ok .cont, z => exact z.elim
    | .ok (.ret u), ⟨v, H', o1, o2, ch, ok', rv, q⟩ =>
      cases (show v = .bl true from q)
      cases (show u = Value.bool true from rv)
      refine ⟨rfl, OldK.of_keep ?_, o1, o2⟩
      intro b o e
      cases y : H b with
      | none => exact ch.keep b o e y (fun z => absurd (show b ∈ ([] : List Addr) from z) List.not_mem_nil) List.not_mem_nil
      | some u' =>
        rcases only b with z | ⟨ob, xs, z⟩
        · rw [y] at z
          cases z
        · have a1 := (ok b _ z).1
          have a2 := (ok' b _ (ch.frzs b ob _ z)).1
          rw [e] at a1
          cases a1
          exact a2
  have rel := vals_ints h7
  by_cases hk : KF.lookup ad = none
  · refine main (fun b => if b = ad then some (.frz { cls := .type "list", data := .seq us.toArray } (.lst (ns.map V.int))) else none) ?_ (.inl (.inr ⟨_, if_pos rfl⟩)) ?_ ?_
    · intro b
      by_cases z : b = ad
      · exact .inr ⟨_, _, if_pos z⟩
      · exact .inl (if_neg z)
    · intro b u z
      by_cases y : b = ad
      · subst y
        have z1 := (if_pos (rfl : b = b)).symm.trans z
        cases z1
        exact ⟨h6, by rw [List.length_map]; exact h8, us, _, rel, h6⟩
      · have z1 := (if_neg y).symm.trans z
        cases z1
    · intro b z
      by_cases y : b = ad
      · exact ⟨y, hk⟩
      · exact absurd (if_neg y) z
  · cases y : KF.lookup ad with
    | none => exact absurd y hk
    | some o =>
      have e := KX ad o y
      rw [h6] at e
      cases e
      refine main (fun _ => none) (fun _ => .inl rfl) (.inr ⟨_, us.toArray, _, y, rfl, rfl, rfl, ?_, ?_⟩) (fun b u z => nomatch (show (none : Option HO) = some u from z)) (fun b z => absurd rfl z)
      · rw [List.size_toArray, h7.length]
        exact h8
      · simpa using rel
theorem walk_B {gb : Bool} {l : PySem.W.OpenLaw} {n lv : Nat} {q : Program} {loose : List Str} {XP : (Str → Option Value) → Heap → Prop} {YP : World → Heap → Prop} {d : DefRec} {CX : CXT} {x : Str}
    (h1 : l.most = some n) (h2 : n ≤ sizeLine) (h3 : d.params.defaults = []) (rm : Room lv callerA)
    (F : ∀ (wd : World) (mg : Str → Option Value) (fa : Addr) (hp : Heap), YP wd hp → hp.Ns mainGlobals mg → mg d.name = some (.ref fa) →
      ∃ (KF : PySem.W.Frag) (fd : FuncData) (sp : Sp), KF.In hp ∧ (∀ (st : Shared) (u : Value), BindsTo st fd ⟨[u], []⟩ [(x, u)]) ∧
        (∀ (H : Hp) (a : Addr) (ns : List Int), ns.length ≤ n → Only H → SqL KF H a (ns.map V.int) → sp [.ref a] H (fun v _ => v = .bl true) fun _ _ _ => False) ∧
        ∀ bs : Heap, KF.In bs → bs.Ns mainGlobals mg → FnB gb l.prog wd KF mg bs CX lv fa fd [x] sp)
    (hC : ∀ (H : Hp) (st : Shared) (e : Value) (t : Shared), CX [] H st (fun _ _ _ => False) e t → False) :
    PySem.W.WalkO q loose XP YP l.row.toRowW d [] (fun f vs => PySem.call f vs) := by
  refine Att.attach_call h1 h3 ?_
  intro wd s0 s1 mg mb fa o pm cd doc a us ns G Y ho hd hcd hmg hobj hints hlen hgn
  obtain ⟨KF, fd, sp, KX, hb, hsp, hF⟩ := F wd mg fa _ Y G.T.g hmg
  exact law_callB KX G.T.g G.T.b G.T.builtins G.T.nolimit hgn hobj hints (Nat.le_trans hlen h2) rm hF hb (fun H only sq => hsp H a ns hlen only sq) fun H e t => hC H s1 e t
end Lay

/-! A layer of my own: Python data as Lean data (D), where it stands in a heap (Rep), what slots hold (Rl), what expressions and statements compute (EV, EO, ET, SS). -/
namespace Lay
open PySem PySem.Spec PyProof.Rows L2
open Evl (Ex)
abbrev Fg := PySem.W.Frag

/-! ### data -/
inductive D where
  | non | bl (b : Bool) | int (i : Int) | str (s : Str)
  | lst (xs : List D) | tup (xs : List D)
  | scr (ns : List Int)
  | obj (c : Str) (ns : List Str) (ds : List D)
  deriving Inhabited

mutual
def Rep (K : Fg) (cl : Str → Addr) (H : Hp) : V → D → Prop
  | v, .non => v = .non
  | v, .bl b => v = .bl b
  | v, .int i => v = .int i
  | v, .str s => v = .str s
  | v, .lst ds => ∃ a vs, v = .ref a ∧ H a = some (.lst vs) ∧ Reps K cl H vs ds
  | v, .tup ds => ∃ a vs, v = .ref a ∧ H a = some (.tup vs) ∧ Reps K cl H vs ds
  | v, .scr ns => ∃ a, v = .ref a ∧ SqL K H a (ns.map V.int)
  | v, .obj c ns ds => ∃ a dx vs, v = .ref a ∧ H a = some (.ins (cl c) dx (ns.zip vs)) ∧ ns.length = vs.length ∧ Reps K cl H vs ds
def Reps (K : Fg) (cl : Str → Addr) (H : Hp) : List V → List D → Prop
  | vs, [] => vs = []
  | vs, d :: ds => ∃ v r, vs = v :: r ∧ Rep K cl H v d ∧ Reps K cl H r ds
end

section
variable {K : Fg} {cl : Str → Addr} {H H' : Hp}
mutual
theorem Rep.mono (e : Ex H H') : ∀ {d : D} {v : V}, Rep K cl H v d → Rep K cl H' v d
  | .non, _, h => h
  | .bl _, _, h => h
  | .int _, _, h => h
  | .str _, _, h => h
  | .lst ds, v, h => by
    unfold Rep at h ⊢
    obtain ⟨a, vs, h1, h2, h3⟩ := h
    exact ⟨a, vs, h1, e _ _ h2, Reps.mono e h3⟩
  | .tup ds, v, h => by
    unfold Rep at h ⊢
    obtain ⟨a, vs, h1, h2, h3⟩ := h
    exact ⟨a, vs, h1, e _ _ h2, Reps.mono e h3⟩
  | .scr ns, v, h => by
    unfold Rep at h ⊢
    obtain ⟨a, h1, h2⟩ := h
    exact ⟨a, h1, Evl.ex_l e h2⟩
  | .obj c ns ds, v, h => by
    unfold Rep at h ⊢
    obtain ⟨a, dx, vs, h1, h2, h3, h4⟩ := h
    exact ⟨a, dx, vs, h1, e _ _ h2, h3, Reps.mono e h4⟩
theorem Reps.mono (e : Ex H H') : ∀ {ds : List D} {vs : List V}, Reps K cl H vs ds → Reps K cl H' vs ds
  | [], _, h => h
  | d :: ds, vs, h => by
    unfold Reps at h ⊢
    obtain ⟨v, r, h1, h2, h3⟩ := h
    exact ⟨v, r, h1, Rep.mono e h2, Reps.mono e h3⟩
end
theorem Reps.nil_iff {vs : List V} : Reps K cl H vs [] ↔ vs = [] := by unfold Reps; exact Iff.rfl
theorem Reps.cons_iff {vs : List V} {d : D} {ds : List D} : Reps K cl H vs (d :: ds) ↔ ∃ v r, vs = v :: r ∧ Rep K cl H v d ∧ Reps K cl H r ds := by
  rw [Reps]
theorem Reps.nil : Reps K cl H [] [] := Reps.nil_iff.2 rfl
theorem Reps.cons {v : V} {r : List V} {d : D} {ds : List D} (h : Rep K cl H v d) (t : Reps K cl H r ds) : Reps K cl H (v :: r) (d :: ds) := Reps.cons_iff.2 ⟨v, r, rfl, h, t⟩
theorem Reps.length : ∀ {ds : List D} {vs : List V}, Reps K cl H vs ds → vs.length = ds.length
  | [], _, h => by rw [Reps.nil_iff.1 h]; rfl
  | d :: ds, _, h => by
    obtain ⟨v, r, rfl, _, t⟩ := Reps.cons_iff.1 h
    simp [Reps.length t]
theorem Reps.append : ∀ {ds es : List D} {vs us : List V}, Reps K cl H vs ds → Reps K cl H us es → Reps K cl H (vs ++ us) (ds ++ es)
  | [], _, _, _, h, g => by rw [Reps.nil_iff.1 h]; exact g
  | d :: ds, _, _, _, h, g => by
    obtain ⟨v, r, rfl, h1, t⟩ := Reps.cons_iff.1 h
    exact Reps.cons h1 (Reps.append t g)
theorem Reps.get : ∀ {ds : List D} {vs : List V} {i : Nat} {d : D}, Reps K cl H vs ds → ds[i]? = some d → ∃ v, vs[i]? = some v ∧ Rep K cl H v d
  | [], _, _, _, h, e => by simp at e
  | d :: ds, _, 0, _, h, e => by
    obtain ⟨v, r, rfl, h1, t⟩ := Reps.cons_iff.1 h
    simp at e; subst e
    exact ⟨v, rfl, h1⟩
  | d :: ds, _, i + 1, _, h, e => by
    obtain ⟨v, r, rfl, h1, t⟩ := Reps.cons_iff.1 h
    obtain ⟨u, h2, h3⟩ := Reps.get (i := i) t (by simpa using e)
    exact ⟨u, by simpa using h2, h3⟩
theorem Reps.getV : ∀ {ds : List D} {vs : List V} {i : Nat} {v : V}, Reps K cl H vs ds → vs[i]? = some v → ∃ d, ds[i]? = some d ∧ Rep K cl H v d
  | [], _, _, _, h, e => by rw [Reps.nil_iff.1 h] at e; simp at e
  | d :: ds, _, 0, _, h, e => by
    obtain ⟨v, r, rfl, h1, t⟩ := Reps.cons_iff.1 h
    simp at e; subst e
    exact ⟨d, rfl, h1⟩
  | d :: ds, _, i + 1, _, h, e => by
    obtain ⟨v, r, rfl, h1, t⟩ := Reps.cons_iff.1 h
    obtain ⟨u, h2, h3⟩ := Reps.getV (i := i) t (by simpa using e)
    exact ⟨u, by simpa using h2, h3⟩
theorem Reps.take : ∀ {ds : List D} {vs : List V} (n : Nat), Reps K cl H vs ds → Reps K cl H (vs.take n) (ds.take n)
  | _, _, 0, _ => Reps.nil
  | [], _, n + 1, h => by rw [Reps.nil_iff.1 h]; exact Reps.nil
  | d :: ds, _, n + 1, h => by
    obtain ⟨v, r, rfl, h1, t⟩ := Reps.cons_iff.1 h
    exact Reps.cons h1 (Reps.take n t)
theorem Reps.drop : ∀ {ds : List D} {vs : List V} (n : Nat), Reps K cl H vs ds → Reps K cl H (vs.drop n) (ds.drop n)
  | _, _, 0, h => h
  | [], _, n + 1, h => by rw [Reps.nil_iff.1 h]; exact Reps.nil
  | d :: ds, _, n + 1, h => by
    obtain ⟨v, r, rfl, h1, t⟩ := Reps.cons_iff.1 h
    exact Reps.drop n t
theorem Reps.set : ∀ {ds : List D} {vs : List V} {v : V} {d : D} (n : Nat), Reps K cl H vs ds → Rep K cl H v d → Reps K cl H (vs.set n v) (ds.set n d)
  | [], _, _, _, n, h, _ => by rw [Reps.nil_iff.1 h]; exact Reps.nil
  | e :: ds, _, _, _, 0, h, g => by
    obtain ⟨u, r, rfl, h1, t⟩ := Reps.cons_iff.1 h
    exact Reps.cons g t
  | e :: ds, _, _, _, n + 1, h, g => by
    obtain ⟨u, r, rfl, h1, t⟩ := Reps.cons_iff.1 h
    exact Reps.cons h1 (Reps.set n t g)
theorem Reps.reverse {ds : List D} {vs : List V} (h : Reps K cl H vs ds) : Reps K cl H vs.reverse ds.reverse := by
  induction ds generalizing vs with
  | nil => rw [Reps.nil_iff.1 h]; exact Reps.nil
  | cons d ds ih =>
    obtain ⟨v, r, rfl, h1, t⟩ := Reps.cons_iff.1 h
    rw [List.reverse_cons, List.reverse_cons]
    exact Reps.append (ih t) (Reps.cons h1 Reps.nil)
theorem Reps.dropLast {ds : List D} {vs : List V} (h : Reps K cl H vs ds) : Reps K cl H vs.dropLast ds.dropLast := by
  rw [List.dropLast_eq_take, List.dropLast_eq_take, h.length]
  exact h.take _
theorem Reps.rep {ds : List D} {vs : List V} (h : Reps K cl H vs ds) : ∀ n, Reps K cl H (List.replicate n vs).flatten (List.replicate n ds).flatten
  | 0 => Reps.nil
  | n + 1 => by
    rw [List.replicate_succ, List.replicate_succ, List.flatten_cons, List.flatten_cons]
    exact Reps.append h (Reps.rep h n)
theorem Reps.ints : ∀ (ns : List Int), Reps K cl H (ns.map V.int) (ns.map D.int)
  | [] => Reps.nil
  | n :: ns => Reps.cons (by unfold Rep; rfl) (Reps.ints ns)
end

/-! ### what a part of the heap hides -/
def hid (M : List Addr) (H : Hp) : Hp := fun a => if a ∈ M then none else H a
theorem hid_nil (H : Hp) : hid [] H = H := by funext a; simp [hid]
theorem hid_not {M : List Addr} {H : Hp} {a : Addr} (h : a ∉ M) : hid M H a = H a := if_neg h
theorem hid_some {M : List Addr} {H : Hp} {a : Addr} {o : HO} (h : hid M H a = some o) : a ∉ M ∧ H a = some o := by
  unfold hid at h
  split at h
  · cases h
  · exact ⟨by assumption, h⟩
theorem ex_hid {M : List Addr} {H H' : Hp} (e : Ex H H') : Ex (hid M H) (hid M H') := fun a o h => by
  obtain ⟨h1, h2⟩ := hid_some h
  rw [hid_not h1]
  exact e a o h2
/-- a view grows where less is hidden -/
theorem ex_sub {M M' : List Addr} {H H' : Hp} (e : ∀ a o, H a = some o → a ∉ M → H' a = some o) (s : ∀ a, a ∈ M' → a ∈ M ∨ H a = none) : Ex (hid M H) (hid M' H') := fun a o h => by
  obtain ⟨h1, h2⟩ := hid_some h
  have : a ∉ M' := fun q => by
    rcases s a q with z | z
    · exact h1 z
    · rw [h2] at z; cases z
  rw [hid_not this]
  exact e a o h2 h1
theorem ex_le {M M' : List Addr} {H : Hp} (s : ∀ a, a ∈ M' → a ∈ M) : Ex (hid M H) (hid M' H) := ex_sub (fun _ _ h _ => h) fun a h => .inl (s a h)

/-! ### slots -/
inductive Slot where
  | emp | val (d : D) | own (xs : List D) | par (xs : List D)
  deriving Inhabited
inductive SR (K : Fg) (cl : Str → Addr) (V : Hp) (H : Hp) (q : Option Addr) : List Slot → L2.St → List Addr → Prop
  | nil : SR K cl V H q [] [] []
  | emp {x e σ os} : SR K cl V H q e σ os → SR K cl V H q (.emp :: e) (x :: σ) os
  | val {v d e σ os} : Rep K cl V v d → SR K cl V H q e σ os → SR K cl V H q (.val d :: e) (some v :: σ) os
  | own {p vs xs e σ os} : H p = some (.lst vs) → Reps K cl V vs xs → SR K cl V H q e σ os → SR K cl V H q (.own xs :: e) (some (.ref p) :: σ) (p :: os)
  | par {p vs xs e σ os} : q = some p → H p = some (.lst vs) → Reps K cl V vs xs → SR K cl V H q e σ os → SR K cl V H q (.par xs :: e) (some (.ref p) :: σ) os
structure Rl (K : Fg) (cl : Str → Addr) (M : List Addr) (q : Option Addr) (os : List Addr) (e : List Slot) (σ : L2.St) (H : Hp) : Prop where
  sr : SR K cl (hid (os ++ M) H) H q e σ os
  nd : os.Nodup
  dj : ∀ p ∈ os, p ∉ M
  tr : ∀ a ∈ os ++ M, H a ≠ none
  qm : ∀ a, q = some a → a ∈ M

section
variable {K : Fg} {cl : Str → Addr} {V V' H H' : Hp} {q : Option Addr} {e : List Slot} {σ : L2.St} {os M : List Addr}
theorem SR.mono (h : SR K cl V H q e σ os) (v : Ex V V') (k : ∀ a o, (a ∈ os ∨ q = some a) → H a = some o → H' a = some o) : SR K cl V' H' q e σ os := by
  induction h with
  | nil => exact .nil
  | emp _ ih => exact .emp (ih k)
  | val r _ ih => exact .val (r.mono v) (ih k)
  | own h1 h2 _ ih => exact .own (k _ _ (.inl (by simp)) h1) (h2.mono v) (ih fun a o ha => k a o (ha.imp (by intro z; simp [z]) id))
  | par hq h1 h2 _ ih => exact .par hq (k _ _ (.inr hq) h1) (h2.mono v) (ih k)
theorem Rl.ex (r : Rl K cl M q os e σ H) (x : Ex H H') : Rl K cl M q os e σ H' :=
  ⟨r.sr.mono (ex_hid x) fun a o _ h => x a o h, r.nd, r.dj, fun a ha => by
    cases h : H a with
    | none => exact absurd h (r.tr a ha)
    | some o => rw [x a o h]; simp, r.qm⟩
theorem SR.len (h : SR K cl V H q e σ os) : σ.length = e.length := by
  induction h with
  | nil => rfl
  | emp _ ih => simp [ih]
  | val _ _ ih => simp [ih]
  | own _ _ _ ih => simp [ih]
  | par _ _ _ _ ih => simp [ih]
theorem SR.get_val (h : SR K cl V H q e σ os) : ∀ {i : Nat} {d : D}, e[i]? = some (.val d) → ∃ v, σ[i]? = some (some v) ∧ Rep K cl V v d := by
  induction h with
  | nil => intro i d h; simp at h
  | emp _ ih => intro i d h; cases i with
    | zero => simp at h
    | succ i => simpa using ih (i := i) (by simpa using h)
  | val r _ ih => intro i d h; cases i with
    | zero => simp at h; subst h; exact ⟨_, rfl, r⟩
    | succ i => simpa using ih (i := i) (by simpa using h)
  | own _ _ _ ih => intro i d h; cases i with
    | zero => simp at h
    | succ i => simpa using ih (i := i) (by simpa using h)
  | par _ _ _ _ ih => intro i d h; cases i with
    | zero => simp at h
    | succ i => simpa using ih (i := i) (by simpa using h)
theorem SR.get_own (h : SR K cl V H q e σ os) : ∀ {i : Nat} {xs : List D}, e[i]? = some (.own xs) → ∃ p vs, σ[i]? = some (some (.ref p)) ∧ p ∈ os ∧ H p = some (.lst vs) ∧ Reps K cl V vs xs := by
  induction h with
  | nil => intro i d h; simp at h
  | emp _ ih => intro i d h; cases i with
    | zero => simp at h
    | succ i => simpa using ih (i := i) (by simpa using h)
  | val r _ ih => intro i d h; cases i with
    | zero => simp at h
    | succ i => simpa using ih (i := i) (by simpa using h)
  | own h1 h2 _ ih => intro i d h; cases i with
    | zero => simp at h; subst h; exact ⟨_, _, rfl, by simp, h1, h2⟩
    | succ i =>
      obtain ⟨p, vs, a, b, c, d⟩ := ih (i := i) (by simpa using h)
      exact ⟨p, vs, by simpa using a, by simp [b], c, d⟩
  | par _ _ _ _ ih => intro i d h; cases i with
    | zero => simp at h
    | succ i => simpa using ih (i := i) (by simpa using h)
theorem SR.get_par (h : SR K cl V H q e σ os) : ∀ {i : Nat} {xs : List D}, e[i]? = some (.par xs) → ∃ p vs, σ[i]? = some (some (.ref p)) ∧ q = some p ∧ H p = some (.lst vs) ∧ Reps K cl V vs xs := by
  induction h with
  | nil => intro i d h; simp at h
  | emp _ ih => intro i d h; cases i with
    | zero => simp at h
    | succ i => simpa using ih (i := i) (by simpa using h)
  | val r _ ih => intro i d h; cases i with
    | zero => simp at h
    | succ i => simpa using ih (i := i) (by simpa using h)
  | own h1 h2 _ ih => intro i d h; cases i with
    | zero => simp at h
    | succ i => simpa using ih (i := i) (by simpa using h)
  | par hq h1 h2 _ ih => intro i d h; cases i with
    | zero => simp at h; subst h; exact ⟨_, _, rfl, hq, h1, h2⟩
    | succ i => simpa using ih (i := i) (by simpa using h)
/-- a value is put into a slot; what it owned is let go -/
theorem SR.set_val {v : L2.V} {d : D} (h : SR K cl V H q e σ os) (r : Rep K cl V v d) : ∀ (i : Nat), ∃ os', (∀ p ∈ os', p ∈ os) ∧ (os.Nodup → os'.Nodup) ∧ SR K cl V H q (e.set i (.val d)) (σ.set i (some v)) os' := by
  induction h with
  | nil => intro i; exact ⟨[], fun _ z => z, fun z => z, .nil⟩
  | @emp x e σ os h ih => intro i; cases i with
    | zero => exact ⟨os, fun _ z => z, fun z => z, .val r h⟩
    | succ i => obtain ⟨os', a, b, c⟩ := ih i; exact ⟨os', a, b, .emp c⟩
  | @val v' d' e σ os r' h ih => intro i; cases i with
    | zero => exact ⟨os, fun _ z => z, fun z => z, .val r h⟩
    | succ i => obtain ⟨os', a, b, c⟩ := ih i; exact ⟨os', a, b, .val r' c⟩
  | @own p vs xs e σ os h1 h2 h ih => intro i; cases i with
    | zero => exact ⟨os, fun _ z => by simp [z], fun z => (List.nodup_cons.1 z).2, .val r h⟩
    | succ i =>
      obtain ⟨os', a, b, c⟩ := ih i
      refine ⟨p :: os', fun y hy => ?_, fun z => ?_, .own h1 h2 c⟩
      · rcases List.mem_cons.1 hy with rfl | hy
        · simp
        · simp [a y hy]
      · obtain ⟨z1, z2⟩ := List.nodup_cons.1 z
        exact List.nodup_cons.2 ⟨fun q => z1 (a _ q), b z2⟩
  | @par p vs xs e σ os hq h1 h2 h ih => intro i; cases i with
    | zero => exact ⟨os, fun _ z => z, fun z => z, .val r h⟩
    | succ i => obtain ⟨os', a, b, c⟩ := ih i; exact ⟨os', a, b, .par hq h1 h2 c⟩
theorem SR.set_emp {x : Option L2.V} (h : SR K cl V H q e σ os) : ∀ (i : Nat), ∃ os', (∀ p ∈ os', p ∈ os) ∧ (os.Nodup → os'.Nodup) ∧ SR K cl V H q (e.set i .emp) (σ.set i x) os' := by
  induction h with
  | nil => intro i; exact ⟨[], fun _ z => z, fun z => z, .nil⟩
  | @emp x e σ os h ih => intro i; cases i with
    | zero => exact ⟨os, fun _ z => z, fun z => z, .emp h⟩
    | succ i => obtain ⟨os', a, b, c⟩ := ih i; exact ⟨os', a, b, .emp c⟩
  | @val v' d' e σ os r' h ih => intro i; cases i with
    | zero => exact ⟨os, fun _ z => z, fun z => z, .emp h⟩
    | succ i => obtain ⟨os', a, b, c⟩ := ih i; exact ⟨os', a, b, .val r' c⟩
  | @own p vs xs e σ os h1 h2 h ih => intro i; cases i with
    | zero => exact ⟨os, fun _ z => by simp [z], fun z => (List.nodup_cons.1 z).2, .emp h⟩
    | succ i =>
      obtain ⟨os', a, b, c⟩ := ih i
      refine ⟨p :: os', fun y hy => ?_, fun z => ?_, .own h1 h2 c⟩
      · rcases List.mem_cons.1 hy with rfl | hy
        · simp
        · simp [a y hy]
      · obtain ⟨z1, z2⟩ := List.nodup_cons.1 z
        exact List.nodup_cons.2 ⟨fun q => z1 (a _ q), b z2⟩
  | @par p vs xs e σ os hq h1 h2 h ih => intro i; cases i with
    | zero => exact ⟨os, fun _ z => z, fun z => z, .emp h⟩
    | succ i => obtain ⟨os', a, b, c⟩ := ih i; exact ⟨os', a, b, .par hq h1 h2 c⟩
/-- a new list is put into a slot that owns it from now on -/
theorem SR.set_own {p : Addr} {vs : List L2.V} {xs : List D} (h : SR K cl V H q e σ os) (hp : H p = some (.lst vs)) (r : Reps K cl V vs xs) : ∀ (i : Nat), i < e.length → ∃ os', (∀ y ∈ os', y = p ∨ y ∈ os) ∧ p ∈ os' ∧ (p ∉ os → os.Nodup → os'.Nodup) ∧ SR K cl V H q (e.set i (.own xs)) (σ.set i (some (.ref p))) os' := by
  induction h with
  | nil => intro i hi; simp at hi
  | @emp x e σ os h ih => intro i hi; cases i with
    | zero => exact ⟨p :: os, fun _ z => by simpa using z, by simp, fun a b => List.nodup_cons.2 ⟨a, b⟩, .own hp r h⟩
    | succ i => obtain ⟨os', a, b, c, d⟩ := ih i (by simpa using hi); exact ⟨os', a, b, c, .emp d⟩
  | @val v' d' e σ os r' h ih => intro i hi; cases i with
    | zero => exact ⟨p :: os, fun _ z => by simpa using z, by simp, fun a b => List.nodup_cons.2 ⟨a, b⟩, .own hp r h⟩
    | succ i => obtain ⟨os', a, b, c, d⟩ := ih i (by simpa using hi); exact ⟨os', a, b, c, .val r' d⟩
  | @own p' vs' xs' e σ os h1 h2 h ih => intro i hi; cases i with
    | zero =>
      refine ⟨p :: os, fun y z => ?_, by simp, fun a b => List.nodup_cons.2 ⟨fun z => a (by simp [z]), (List.nodup_cons.1 b).2⟩, .own hp r h⟩
      rcases List.mem_cons.1 z with z | z
      · exact .inl z
      · exact .inr (by simp [z])
    | succ i =>
      obtain ⟨os', a, b, c, d⟩ := ih i (by simpa using hi)
      refine ⟨p' :: os', fun y hy => ?_, by simp [b], fun z1 z2 => ?_, .own h1 h2 d⟩
      · rcases List.mem_cons.1 hy with rfl | hy
        · simp
        · rcases a y hy with z | z
          · exact .inl z
          · exact .inr (by simp [z])
      · obtain ⟨y1, y2⟩ := List.nodup_cons.1 z2
        have z1' : p ≠ p' ∧ p ∉ os := by simpa using z1
        refine List.nodup_cons.2 ⟨fun z => ?_, c z1'.2 y2⟩
        rcases a _ z with z | z
        · exact z1'.1 z.symm
        · exact y1 z
  | @par p' vs' xs' e σ os hq h1 h2 h ih => intro i hi; cases i with
    | zero => exact ⟨p :: os, fun _ z => by simpa using z, by simp, fun a b => List.nodup_cons.2 ⟨a, b⟩, .own hp r h⟩
    | succ i => obtain ⟨os', a, b, c, d⟩ := ih i (by simpa using hi); exact ⟨os', a, b, c, .par hq h1 h2 d⟩
end
end Lay

namespace Lay
open PySem PySem.Spec PyProof.Rows L2
open Evl (Ex)
abbrev Env' := List Slot
def vw (w : Bool) (os M : List Addr) : List Addr := if w = true then os ++ M else M
def Tk (M : List Addr) (H : Hp) : Prop := ∀ a ∈ M, H a ≠ none
theorem Tk.new {M : List Addr} {H : Hp} {p : Addr} (t : Tk M H) (h : H p = none) : p ∉ M := fun z => t p z h
theorem Tk.ex {M : List Addr} {H H' : Hp} (t : Tk M H) (e : Ex H H') : Tk M H' := fun a ha => by
  cases h : H a with
  | none => exact absurd h (t a ha)
  | some o => rw [e a o h]; simp
section
variable {K : Fg} {cl : Str → Addr} {M os : List Addr} {q : Option Addr} {ev : Env'} {σ : L2.St} {H H' : Hp}
theorem vw_sub (w : Bool) : ∀ a, a ∈ vw w os M → a ∈ os ++ M := by
  intro a h
  cases w with
  | true => exact h
  | false => exact List.mem_append_right _ h
theorem vw_sub' (w : Bool) : ∀ a, a ∈ M → a ∈ vw w os M := by
  intro a h
  cases w with
  | true => exact List.mem_append_right _ h
  | false => exact h
theorem Rl.tk (r : Rl K cl M q os ev σ H) (w : Bool) : Tk (vw w os M) H := fun a h => r.tr a (vw_sub w a h)
end

/-! ### what expressions come to -/
section
variable (w : Bool) (X : Cx) (cl : Str → Addr)
/-- a value -/
def EV (e : Expr) (m : Env' → Option D) : Prop :=
  ∃ te, PE X e te ∧ ∀ M q os ev σ H d, m ev = some d → Rl X.K cl M q os ev σ H → ∀ Q : VK, (∀ v H', Ex H H' → Rep X.K cl (hid (vw w os M) H') v d → Q v H') → te σ H Q
/-- a new list -/
def EO (e : Expr) (m : Env' → Option (List D)) : Prop :=
  ∃ te, PE X e te ∧ ∀ M q os ev σ H d, m ev = some d → Rl X.K cl M q os ev σ H → ∀ Q : VK, (∀ p H' vs, H p = none → Ex H H' → H' p = some (.lst vs) → Reps X.K cl (hid (p :: vw w os M) H') vs d → Q (.ref p) H') → te σ H Q
/-- arguments -/
def EA (es : List Expr) (m : Env' → Option (List D)) : Prop :=
  ∃ te, PA X es te ∧ ∀ M q os ev σ H d, m ev = some d → Rl X.K cl M q os ev σ H → ∀ Q : List L2.V → Hp → Prop, (∀ v H', Ex H H' → Reps X.K cl (hid (vw w os M) H') v d → Q v H') → te σ H Q
/-- a test -/
def ET (e : Expr) (m : Env' → Option Bool) : Prop :=
  ∃ te, PT X e te ∧ ∀ M q os ev σ H d, m ev = some d → Rl X.K cl M q os ev σ H → ∀ Q : Bool → Hp → Prop, (∀ H', Ex H H' → Q d H') → te σ H Q
def EW (e : Expr) (m : Env' → Option Bool) : Prop :=
  ∃ te, PW X e te ∧ ∀ M q os ev σ H d, m ev = some d → Rl X.K cl M q os ev σ H → ∀ Q : Bool → Hp → Prop, (∀ H', Ex H H' → Q d H') → te σ H Q
end

def D.flat : D → Bool
  | .non => true | .bl _ => true | .int _ => true | .str _ => true | _ => false
theorem Rep.flat {K : Fg} {cl : Str → Addr} {H H' : Hp} {v : L2.V} {d : D} (f : d.flat = true) (h : Rep K cl H v d) : Rep K cl H' v d := by
  cases d <;> first | (unfold Rep at h ⊢; exact h) | exact absurd f (by simp [D.flat])
theorem Reps.flat {K : Fg} {cl : Str → Addr} {H H' : Hp} : ∀ {ds : List D} {vs : List L2.V}, ds.all D.flat = true → Reps K cl H vs ds → Reps K cl H' vs ds
  | [], vs, _, h => by rw [Reps.nil_iff.1 h]; exact Reps.nil
  | d :: ds, vs, f, h => by
    obtain ⟨v, r, rfl, h1, t⟩ := Reps.cons_iff.1 h
    rw [List.all_cons, Bool.and_eq_true] at f
    exact Reps.cons (h1.flat f.1) (Reps.flat f.2 t)

section
variable {w : Bool} {X : Cx} {cl : Str → Addr} {e a b c : Expr} {es : List Expr} {pos : Pos}
variable {m ma mb mc : Env' → Option D}
theorem rep_lst {K : Fg} {H : Hp} {p : Addr} {vs : List L2.V} {xs : List D} {M : List Addr} (h : H p = some (.lst vs)) (hm : p ∉ M) (r : Reps K cl (hid (p :: M) H) vs xs) : Rep K cl (hid M H) (.ref p) (.lst xs) := by
  unfold Rep
  exact ⟨p, vs, rfl, by rw [hid_not hm]; exact h, r.mono (ex_le fun a ha => by simp [ha])⟩
theorem ev_of_eo {m : Env' → Option (List D)} (h : EO w X cl e m) : EV w X cl e (fun ev => (m ev).map D.lst) := by
  obtain ⟨te, hp, h⟩ := h
  refine ⟨te, hp, fun M q os ev σ H d hm r Q k => ?_⟩
  obtain ⟨xs, h1, rfl⟩ := Option.map_eq_some_iff.1 hm
  exact h M q os ev σ H xs h1 r _ fun p H' vs hn e2 h2 h3 => k _ _ e2 (rep_lst h2 ((r.tk w).new hn) h3)
theorem ev_loose (h : EV true X cl e m) : EV false X cl e m := by
  obtain ⟨te, hp, h⟩ := h
  exact ⟨te, hp, fun M q os ev σ H d hm r Q k => h M q os ev σ H d hm r Q fun v H' e2 h3 => k v H' e2 (h3.mono (ex_le fun a ha => List.mem_append_right _ ha))⟩
theorem ea_loose {m : Env' → Option (List D)} (h : EA true X cl es m) : EA false X cl es m := by
  obtain ⟨te, hp, h⟩ := h
  exact ⟨te, hp, fun M q os ev σ H d hm r Q k => h M q os ev σ H d hm r Q fun v H' e2 h3 => k v H' e2 (h3.mono (ex_le fun a ha => List.mem_append_right _ ha))⟩
/-- a flat value may be told of every view -/
def tight (m : Env' → Option D) : Env' → Option D := fun ev => (m ev).bind fun d => if d.flat = true then some d else none
theorem ev_tight (h : EV false X cl e m) : EV w X cl e (tight m) := by
  obtain ⟨te, hp, h⟩ := h
  refine ⟨te, hp, fun M q os ev σ H d hm r Q k => ?_⟩
  obtain ⟨d', h1, h2⟩ := Option.bind_eq_some_iff.1 hm
  split at h2
  · cases h2
    exact h M q os ev σ H _ h1 r Q fun v H' e2 h3 => k v H' e2 (h3.flat (by assumption))
  · cases h2
def tightO (m : Env' → Option (List D)) : Env' → Option (List D) := fun ev => (m ev).bind fun d => if d.all D.flat = true then some d else none
theorem eo_tight {m : Env' → Option (List D)} (h : EO false X cl e m) : EO w X cl e (tightO m) := by
  obtain ⟨te, hp, h⟩ := h
  refine ⟨te, hp, fun M q os ev σ H d hm r Q k => ?_⟩
  obtain ⟨d', h1, h2⟩ := Option.bind_eq_some_iff.1 hm
  split at h2
  · cases h2
    exact h M q os ev σ H _ h1 r Q fun p H' vs hn e2 h3 h4 => k p H' vs hn e2 h3 (h4.flat (by assumption))
  · cases h2

/-! names, constants -/
structure VarAt (X : Cx) (i : Nat) (x : Str) : Prop where
  ix : X.N[i]? = some x
  vis : Vis X.env.scope x
  nd : (x == ("__debug__" : Str)) = false
  nc : (x == ("__classdict__" : Str)) = false
def xv (i : Nat) : Env' → Option D := fun ev => match ev[i]? with
  | some (.val d) => some d
  | _ => none
/-- .. or what the slot owns -/
def xb (i : Nat) : Env' → Option D := fun ev => match ev[i]? with
  | some (.val d) => some d
  | some (.own xs) => some (.lst xs)
  | _ => none
def xc (d : D) : Env' → Option D := fun _ => some d
theorem ev_v {i : Nat} {x : Str} (h : VarAt X i x) : EV w X cl (.Name x pos) (xv i) := by
  refine ⟨tVar i, pe_var h.ix h.vis h.nd h.nc, fun M q os ev σ H d hm r Q k => ?_⟩
  unfold xv at hm
  split at hm
  · next d' hd =>
    cases hm
    obtain ⟨v, h1, h2⟩ := r.sr.get_val hd
    exact ⟨v, h1, k v H (Evl.Ex.refl H) (h2.mono (ex_le (vw_sub w)))⟩
  · cases hm
theorem ev_b {i : Nat} {x : Str} (h : VarAt X i x) : EV false X cl (.Name x pos) (xb i) := by
  refine ⟨tVar i, pe_var h.ix h.vis h.nd h.nc, fun M q os ev σ H d hm r Q k => ?_⟩
  unfold xb at hm
  split at hm
  · next d' hd =>
    cases hm
    obtain ⟨v, h1, h2⟩ := r.sr.get_val hd
    exact ⟨v, h1, k v H (Evl.Ex.refl H) (h2.mono (ex_le (vw_sub false)))⟩
  · next xs hd =>
    cases hm
    obtain ⟨p, vs, h1, h2, h3, h4⟩ := r.sr.get_own hd
    refine ⟨_, h1, k _ H (Evl.Ex.refl H) ?_⟩
    unfold Rep
    exact ⟨p, vs, rfl, by show hid M H p = _; rw [hid_not (r.dj p h2)]; exact h3, h4.mono (ex_le fun a ha => List.mem_append_right _ ha)⟩
  · cases hm
theorem ev_int {i : Int} {j : Nat} : EV w X cl (.Constant (.int i) j pos) (xc (.int i)) := by
  refine ⟨_, pe_int, fun M q os ev σ H d hm r Q k => ?_⟩
  cases hm
  exact k _ _ (Evl.Ex.refl H) (by unfold Rep; rfl)
theorem ev_bl {i : Bool} {j : Nat} : EV w X cl (.Constant (.bool i) j pos) (xc (.bl i)) := by
  refine ⟨_, pe_bl, fun M q os ev σ H d hm r Q k => ?_⟩
  cases hm
  exact k _ _ (Evl.Ex.refl H) (by unfold Rep; rfl)
theorem ev_non {j : Nat} : EV w X cl (.Constant .none j pos) (xc .non) := by
  refine ⟨_, pe_non, fun M q os ev σ H d hm r Q k => ?_⟩
  cases hm
  exact k _ _ (Evl.Ex.refl H) (by unfold Rep; rfl)
theorem ev_str {i : Str} {j : Nat} : EV w X cl (.Constant (.str i) j pos) (xc (.str i)) := by
  refine ⟨_, pe_str, fun M q os ev σ H d hm r Q k => ?_⟩
  cases hm
  exact k _ _ (Evl.Ex.refl H) (by unfold Rep; rfl)
/-- a number, a text, a truth value that the module has -/
theorem ev_globI {x : Str} {i : Int} {t : Tok} (hg : Gl X x) (hm : X.mg x = some (.int i t)) (hd : (x == ("__debug__" : Str)) = false) : EV w X cl (.Name x pos) (xc (.int i)) := by
  refine ⟨_, pe_glob hg hm (v := .int i) ⟨_, rfl⟩ hd, fun M q os ev σ H d hm r Q k => ?_⟩
  cases hm
  exact k _ _ (Evl.Ex.refl H) (by unfold Rep; rfl)

/-! arguments -/
theorem ea_nil : EA w X cl [] (fun _ => some []) := by
  refine ⟨_, pa_nil, fun M q os ev σ H d hm r Q k => ?_⟩
  cases hm
  exact k _ _ (Evl.Ex.refl H) Reps.nil
def acons (m : Env' → Option D) (n : Env' → Option (List D)) : Env' → Option (List D) := fun ev => do
  let d ← m ev
  let ds ← n ev
  some (d :: ds)
theorem acons_some {m : Env' → Option D} {n : Env' → Option (List D)} {ev : Env'} {r : List D} (h : acons m n ev = some r) : ∃ d ds, m ev = some d ∧ n ev = some ds ∧ r = d :: ds := by
  unfold acons at h
  cases h1 : m ev with
  | none => rw [h1] at h; cases h
  | some d =>
    rw [h1] at h
    cases h2 : n ev with
    | none => rw [h2] at h; cases h
    | some ds => rw [h2] at h; exact ⟨d, ds, rfl, rfl, (Option.some.inj h).symm⟩
theorem ea_cons {n : Env' → Option (List D)} (h : EV w X cl e m) (t : EA w X cl es n) (hs : starEach (e :: es) X.env = (false, eval e X.env) :: starEach es X.env := by rfl) : EA w X cl (e :: es) (acons m n) := by
  obtain ⟨te, hp, h⟩ := h
  obtain ⟨tr, hr, t⟩ := t
  refine ⟨_, pa_cons hp hr hs, fun M q os ev σ H d hm r Q k => ?_⟩
  obtain ⟨d, ds, h1, h2, rfl⟩ := acons_some hm
  exact h M q os ev σ H d h1 r _ fun v H1 e1 r1 => t M q os ev σ H1 ds h2 (r.ex e1) _ fun vs H2 e2 r2 => k _ _ (e1.trans e2) (Reps.cons (r1.mono (ex_hid e2)) r2)

/-! ### operations by values -/
/-- r comes to f: of one, of two values; to a new list -/
def RD1 (K : Fg) (cl : Str → Addr) (r : L2.V → Hp → VK → Prop) (f : D → Option D) : Prop :=
  ∀ M H x d d', f d = some d' → Tk M H → Rep K cl (hid M H) x d → ∀ Q : VK, (∀ v H', Ex H H' → Rep K cl (hid M H') v d' → Q v H') → r x H Q
def RD2 (K : Fg) (cl : Str → Addr) (r : R2) (f : D → D → Option D) : Prop :=
  ∀ M H x y d e d', f d e = some d' → Tk M H → Rep K cl (hid M H) x d → Rep K cl (hid M H) y e → ∀ Q : VK, (∀ v H', Ex H H' → Rep K cl (hid M H') v d' → Q v H') → r x y H Q
def RO2 (K : Fg) (cl : Str → Addr) (r : R2) (f : D → D → Option (List D)) : Prop :=
  ∀ M H x y d e d', f d e = some d' → Tk M H → Rep K cl (hid M H) x d → Rep K cl (hid M H) y e → ∀ Q : VK, (∀ p H' vs, H p = none → Ex H H' → H' p = some (.lst vs) → Reps K cl (hid (p :: M) H') vs d' → Q (.ref p) H') → r x y H Q
def RDL (K : Fg) (cl : Str → Addr) (r : List L2.V → Hp → VK → Prop) (f : List D → Option D) : Prop :=
  ∀ M H x d d', f d = some d' → Tk M H → Reps K cl (hid M H) x d → ∀ Q : VK, (∀ v H', Ex H H' → Rep K cl (hid M H') v d' → Q v H') → r x H Q
def ROL (K : Fg) (cl : Str → Addr) (r : List L2.V → Hp → VK → Prop) (f : List D → Option (List D)) : Prop :=
  ∀ M H x d d', f d = some d' → Tk M H → Reps K cl (hid M H) x d → ∀ Q : VK, (∀ p H' vs, H p = none → Ex H H' → H' p = some (.lst vs) → Reps K cl (hid (p :: M) H') vs d' → Q (.ref p) H') → r x H Q
/-- the same where the answer is flat -/
def m1 (f : D → Option D) (ma : Env' → Option D) : Env' → Option D := fun ev => do let d ← ma ev; f d
def m2 (f : D → D → Option D) (ma mb : Env' → Option D) : Env' → Option D := fun ev => do let d ← ma ev; let e ← mb ev; f d e
def m2o (f : D → D → Option (List D)) (ma mb : Env' → Option D) : Env' → Option (List D) := fun ev => do let d ← ma ev; let e ← mb ev; f d e
def mL (f : List D → Option D) (ma : Env' → Option (List D)) : Env' → Option D := fun ev => do let d ← ma ev; f d
def mLo (f : List D → Option (List D)) (ma : Env' → Option (List D)) : Env' → Option (List D) := fun ev => do let d ← ma ev; f d
theorem bind_some' {α β : Type} {o : Option α} {f : α → Option β} {b : β} (h : (o >>= f) = some b) : ∃ a, o = some a ∧ f a = some b := Option.bind_eq_some_iff.1 h

theorem tOp_ok {r : R2} {f : D → D → Option D} {ta tb : TE} (hr : RD2 X.K cl r f)
    (ha : ∀ M q os ev σ H d, ma ev = some d → Rl X.K cl M q os ev σ H → ∀ Q : VK, (∀ v H', Ex H H' → Rep X.K cl (hid (vw w os M) H') v d → Q v H') → ta σ H Q)
    (hb : ∀ M q os ev σ H d, mb ev = some d → Rl X.K cl M q os ev σ H → ∀ Q : VK, (∀ v H', Ex H H' → Rep X.K cl (hid (vw w os M) H') v d → Q v H') → tb σ H Q) :
    ∀ M q os ev σ H d, m2 f ma mb ev = some d → Rl X.K cl M q os ev σ H → ∀ Q : VK, (∀ v H', Ex H H' → Rep X.K cl (hid (vw w os M) H') v d → Q v H') → tOp r ta tb σ H Q := by
  intro M q os ev σ H d hm rl Q k
  obtain ⟨x, h1, hm⟩ := bind_some' hm
  obtain ⟨y, h2, hm⟩ := bind_some' hm
  exact ha M q os ev σ H x h1 rl _ fun v H1 e1 r1 => hb M q os ev σ H1 y h2 (rl.ex e1) _ fun u H2 e2 r2 => hr _ _ _ _ _ _ _ hm ((rl.ex (e1.trans e2)).tk w) (r1.mono (ex_hid e2)) r2 _ fun z H3 e3 r3 => k z H3 ((e1.trans e2).trans e3) r3
theorem tOpO_ok {r : R2} {f : D → D → Option (List D)} {ta tb : TE} (hr : RO2 X.K cl r f)
    (ha : ∀ M q os ev σ H d, ma ev = some d → Rl X.K cl M q os ev σ H → ∀ Q : VK, (∀ v H', Ex H H' → Rep X.K cl (hid (vw w os M) H') v d → Q v H') → ta σ H Q)
    (hb : ∀ M q os ev σ H d, mb ev = some d → Rl X.K cl M q os ev σ H → ∀ Q : VK, (∀ v H', Ex H H' → Rep X.K cl (hid (vw w os M) H') v d → Q v H') → tb σ H Q) :
    ∀ M q os ev σ H d, m2o f ma mb ev = some d → Rl X.K cl M q os ev σ H → ∀ Q : VK, (∀ p H' vs, H p = none → Ex H H' → H' p = some (.lst vs) → Reps X.K cl (hid (p :: vw w os M) H') vs d → Q (.ref p) H') → tOp r ta tb σ H Q := by
  intro M q os ev σ H d hm rl Q k
  obtain ⟨x, h1, hm⟩ := bind_some' hm
  obtain ⟨y, h2, hm⟩ := bind_some' hm
  exact ha M q os ev σ H x h1 rl _ fun v H1 e1 r1 => hb M q os ev σ H1 y h2 (rl.ex e1) _ fun u H2 e2 r2 => hr _ _ _ _ _ _ _ hm ((rl.ex (e1.trans e2)).tk w) (r1.mono (ex_hid e2)) r2 _ fun p H3 vs hn e3 h3 h4 => k p H3 vs (Evl.fresh_back (e1.trans e2) hn) ((e1.trans e2).trans e3) h3 h4
theorem ev_bin {op : Operator} {r : R2} {f : D → D → Option D} (ho : OpR X (binaryOp op) r) (hr : RD2 X.K cl r f) (ha : EV w X cl a ma) (hb : EV w X cl b mb) : EV w X cl (.BinOp a op b pos) (m2 f ma mb) := by
  obtain ⟨ta, pa, ha⟩ := ha
  obtain ⟨tb, pb, hb⟩ := hb
  exact ⟨_, pe_op ho pa pb, tOp_ok hr ha hb⟩
theorem eo_bin {op : Operator} {r : R2} {f : D → D → Option (List D)} (ho : OpR X (binaryOp op) r) (hr : RO2 X.K cl r f) (ha : EV w X cl a ma) (hb : EV w X cl b mb) : EO w X cl (.BinOp a op b pos) (m2o f ma mb) := by
  obtain ⟨ta, pa, ha⟩ := ha
  obtain ⟨tb, pb, hb⟩ := hb
  exact ⟨_, pe_op ho pa pb, tOpO_ok hr ha hb⟩
theorem ev_un {op : UnaryOp} {r : L2.V → Hp → VK → Prop} {f : D → Option D} (ho : UnR X (unaryOp op) r) (hr : RD1 X.K cl r f) (ha : EV w X cl a ma) : EV w X cl (.UnaryOp op a pos) (m1 f ma) := by
  obtain ⟨ta, pa, ha⟩ := ha
  refine ⟨_, pe_un ho pa, fun M q os ev σ H d hm rl Q k => ?_⟩
  obtain ⟨x, h1, hm⟩ := bind_some' hm
  exact ha M q os ev σ H x h1 rl _ fun v H1 e1 r1 => hr _ _ _ _ _ hm ((rl.ex e1).tk w) r1 _ fun z H3 e3 r3 => k z H3 (e1.trans e3) r3
/-- a comparison: its operands may be owned, its answer is flat -/
def RC2 (K : Fg) (cl : Str → Addr) (r : R2) (f : D → D → Option Bool) : Prop :=
  ∀ M H x y d e d', f d e = some d' → Tk M H → Rep K cl (hid M H) x d → Rep K cl (hid M H) y e → ∀ Q : VK, (∀ H', Ex H H' → Q (.bl d') H') → r x y H Q
def c2 (f : D → D → Option Bool) (ma mb : Env' → Option D) : Env' → Option Bool := fun ev => do let d ← ma ev; let e ← mb ev; f d e
def vB (m : Env' → Option Bool) : Env' → Option D := fun ev => (m ev).map D.bl
theorem tCmp_ok {r : R2} {f : D → D → Option Bool} {ta tb : TE} (hr : RC2 X.K cl r f)
    (ha : ∀ M q os ev σ H d, ma ev = some d → Rl X.K cl M q os ev σ H → ∀ Q : VK, (∀ v H', Ex H H' → Rep X.K cl (hid (vw false os M) H') v d → Q v H') → ta σ H Q)
    (hb : ∀ M q os ev σ H d, mb ev = some d → Rl X.K cl M q os ev σ H → ∀ Q : VK, (∀ v H', Ex H H' → Rep X.K cl (hid (vw false os M) H') v d → Q v H') → tb σ H Q) :
    ∀ M q os ev σ H d, c2 f ma mb ev = some d → Rl X.K cl M q os ev σ H → ∀ Q : VK, (∀ H', Ex H H' → Q (.bl d) H') → tOp r ta tb σ H Q := by
  intro M q os ev σ H d hm rl Q k
  obtain ⟨x, h1, hm⟩ := bind_some' hm
  obtain ⟨y, h2, hm⟩ := bind_some' hm
  exact ha M q os ev σ H x h1 rl _ fun v H1 e1 r1 => hb M q os ev σ H1 y h2 (rl.ex e1) _ fun u H2 e2 r2 => hr _ _ _ _ _ _ _ hm ((rl.ex (e1.trans e2)).tk false) (r1.mono (ex_hid e2)) r2 _ fun H3 e3 => k H3 ((e1.trans e2).trans e3)
theorem ev_cmp {op : CmpOp} {r : R2} {f : D → D → Option Bool} (ho : OpR X (compareOp op) r) (hr : RC2 X.K cl r f) (ha : EV false X cl a ma) (hb : EV false X cl b mb) (hmk : behindInMarks op b = false) : EV w X cl (.Compare a [op] [b] pos) (vB (c2 f ma mb)) := by
  obtain ⟨ta, pa, ha⟩ := ha
  obtain ⟨tb, pb, hb⟩ := hb
  refine ⟨_, pe_cmpR ho pa pb hmk, fun M q os ev σ H d hm rl Q k => ?_⟩
  obtain ⟨x, h1, rfl⟩ := Option.map_eq_some_iff.1 hm
  exact tCmp_ok hr ha hb M q os ev σ H x h1 rl _ fun H' e' => k _ H' e' (by unfold Rep; rfl)
theorem et_cmp {op : CmpOp} {r : R2} {f : D → D → Option Bool} (ho : OpR X (compareOp op) r) (hr : RC2 X.K cl r f) (ha : EV false X cl a ma) (hb : EV false X cl b mb) (hmk : behindInMarks op b = false) : ET X cl (.Compare a [op] [b] pos) (c2 f ma mb) := by
  obtain ⟨ta, pa, ha⟩ := ha
  obtain ⟨tb, pb, hb⟩ := hb
  refine ⟨_, pt_cmpR ho pa pb hmk, fun M q os ev σ H d hm rl Q k => ?_⟩
  exact tCmp_ok hr ha hb M q os ev σ H d hm rl _ fun H' e' => ⟨d, rfl, k H' e'⟩
/-- a value that is a truth value, as a test -/
def tB' (m : Env' → Option D) : Env' → Option Bool := fun ev => match m ev with
  | some (.bl b) => some b
  | _ => none
theorem et_val (h : EV false X cl e m) (he : ∀ whole, isTrue e X.env whole = (do let v ← whole; standAt e.pos; holding [v] (truthy v)) := by intro _; rfl) : ET X cl e (tB' m) := by
  obtain ⟨te, hp, h⟩ := h
  refine ⟨_, pt_val hp he, fun M q os ev σ H d hm rl Q k => ?_⟩
  unfold tB' at hm
  split at hm
  · next b hb =>
    cases hm
    refine h M q os ev σ H _ hb rl _ fun v H' e' r' => ?_
    unfold Rep at r'
    exact ⟨_, r', k H' e'⟩
  · cases hm
def nB (m : Env' → Option Bool) : Env' → Option Bool := fun ev => (m ev).map (!·)
def andB (m n : Env' → Option Bool) : Env' → Option Bool := fun ev => do let b ← m ev; if b = true then n ev else some false
def orB (m n : Env' → Option Bool) : Env' → Option Bool := fun ev => do let b ← m ev; if b = true then some true else n ev
variable {t u : Env' → Option Bool}
theorem et_not (h : ET X cl a t) : ET X cl (.UnaryOp .Not a pos) (nB t) := by
  obtain ⟨te, hp, h⟩ := h
  refine ⟨_, pt_not hp, fun M q os ev σ H d hm rl Q k => ?_⟩
  obtain ⟨x, h1, rfl⟩ := Option.map_eq_some_iff.1 hm
  exact h M q os ev σ H x h1 rl _ k
theorem et_pw (h : EW X cl a t) : ET X cl a t := by
  obtain ⟨te, hp, h⟩ := h
  exact ⟨te, hp.pt, h⟩
theorem ew_and1 (h : ET X cl a t) : EW X cl (.BoolOp .And [a] pos) t := by
  obtain ⟨te, hp, h⟩ := h
  exact ⟨te, pw_and1 hp, h⟩
theorem ew_or1 (h : ET X cl a t) : EW X cl (.BoolOp .Or [a] pos) t := by
  obtain ⟨te, hp, h⟩ := h
  exact ⟨te, pw_or1 hp, h⟩
theorem ew_and {rest : List Expr} (h : ET X cl a t) (g : EW X cl (.BoolOp .And (b :: rest) pos) u) : EW X cl (.BoolOp .And (a :: b :: rest) pos) (andB t u) := by
  obtain ⟨te, hp, h⟩ := h
  obtain ⟨tf, gp, g⟩ := g
  refine ⟨_, pw_and hp gp, fun M q os ev σ H d hm rl Q k => ?_⟩
  obtain ⟨x, h1, hm⟩ := bind_some' hm
  refine h M q os ev σ H x h1 rl _ fun H1 e1 => ?_
  cases x with
  | true => exact iteT (g M q os ev σ H1 d hm (rl.ex e1) _ fun H2 e2 => k H2 (e1.trans e2))
  | false => cases hm; exact iteF (k H1 e1)
theorem ew_or {rest : List Expr} (h : ET X cl a t) (g : EW X cl (.BoolOp .Or (b :: rest) pos) u) : EW X cl (.BoolOp .Or (a :: b :: rest) pos) (orB t u) := by
  obtain ⟨te, hp, h⟩ := h
  obtain ⟨tf, gp, g⟩ := g
  refine ⟨_, pw_or hp gp, fun M q os ev σ H d hm rl Q k => ?_⟩
  obtain ⟨x, h1, hm⟩ := bind_some' hm
  refine h M q os ev σ H x h1 rl _ fun H1 e1 => ?_
  cases x with
  | false => exact iteF (g M q os ev σ H1 d hm (rl.ex e1) _ fun H2 e2 => k H2 (e1.trans e2))
  | true => cases hm; exact iteT (k H1 e1)
/-- as values -/
theorem vB_some {ev : Env'} {d : D} (h : vB t ev = some d) : ∃ b, t ev = some b ∧ d = .bl b := by
  obtain ⟨x, h1, rfl⟩ := Option.map_eq_some_iff.1 h
  exact ⟨x, h1, rfl⟩
theorem ev_one {op} (h : EV w X cl a ma) : EV w X cl (.BoolOp op [a] pos) ma := by
  obtain ⟨te, hp, h⟩ := h
  exact ⟨te, pe_one hp, h⟩
def xand (ma mb : Env' → Option D) : Env' → Option D := fun ev => match ma ev with
  | some (.bl true) => mb ev
  | some (.bl false) => some (.bl false)
  | _ => none
def xor (ma mb : Env' → Option D) : Env' → Option D := fun ev => match ma ev with
  | some (.bl true) => some (.bl true)
  | some (.bl false) => mb ev
  | _ => none
def xnot (ma : Env' → Option D) : Env' → Option D := fun ev => match ma ev with
  | some (.bl b) => some (.bl (!b))
  | _ => none
def xtup (ma : Env' → Option (List D)) : Env' → Option D := fun ev => do let ds ← ma ev; if ds.length ≤ 1000000 then some (.tup ds) else none
def xlst (ma : Env' → Option (List D)) : Env' → Option (List D) := fun ev => do let ds ← ma ev; if ds.length ≤ 1000000 then some ds else none
theorem ev_and {rest : List Expr} (h : EV false X cl a ma) (g : EV w X cl (.BoolOp .And (b :: rest) pos) mb) : EV w X cl (.BoolOp .And (a :: b :: rest) pos) (xand ma mb) := by
  obtain ⟨te, hp, h⟩ := h
  obtain ⟨tf, gp, g⟩ := g
  refine ⟨_, pe_and hp gp, fun M q os ev σ H d hm rl Q k => ?_⟩
  unfold xand at hm
  split at hm
  · next hb =>
    refine h M q os ev σ H _ hb rl _ fun v H1 e1 r1 => ?_
    unfold Rep at r1
    exact ⟨true, r1, iteT (g M q os ev σ H1 d hm (rl.ex e1) _ fun v2 H2 e2 r2 => k v2 H2 (e1.trans e2) r2)⟩
  · next hb =>
    cases hm
    refine h M q os ev σ H _ hb rl _ fun v H1 e1 r1 => ?_
    unfold Rep at r1
    exact ⟨false, r1, iteF (k _ H1 e1 (by unfold Rep; rfl))⟩
  · cases hm
theorem ev_or {rest : List Expr} (h : EV false X cl a ma) (g : EV w X cl (.BoolOp .Or (b :: rest) pos) mb) : EV w X cl (.BoolOp .Or (a :: b :: rest) pos) (xor ma mb) := by
  obtain ⟨te, hp, h⟩ := h
  obtain ⟨tf, gp, g⟩ := g
  refine ⟨_, pe_or hp gp, fun M q os ev σ H d hm rl Q k => ?_⟩
  unfold xor at hm
  split at hm
  · next hb =>
    cases hm
    refine h M q os ev σ H _ hb rl _ fun v H1 e1 r1 => ?_
    unfold Rep at r1
    exact ⟨true, r1, iteT (k _ H1 e1 (by unfold Rep; rfl))⟩
  · next hb =>
    refine h M q os ev σ H _ hb rl _ fun v H1 e1 r1 => ?_
    unfold Rep at r1
    exact ⟨false, r1, iteF (g M q os ev σ H1 d hm (rl.ex e1) _ fun v2 H2 e2 r2 => k v2 H2 (e1.trans e2) r2)⟩
  · cases hm
theorem ev_not (h : EV false X cl a ma) : EV w X cl (.UnaryOp .Not a pos) (xnot ma) := by
  obtain ⟨te, hp, h⟩ := h
  refine ⟨_, pe_not hp, fun M q os ev σ H d hm rl Q k => ?_⟩
  unfold xnot at hm
  split at hm
  · next b hb =>
    cases hm
    refine h M q os ev σ H _ hb rl _ fun v H1 e1 r1 => ?_
    unfold Rep at r1
    exact ⟨b, r1, k _ H1 e1 (by unfold Rep; rfl)⟩
  · cases hm
def xif {α : Type} (t : Env' → Option Bool) (m n : Env' → Option α) : Env' → Option α := fun ev => do let b ← t ev; if b = true then m ev else n ev
theorem ev_if (hc : ET X cl c t) (ha : EV w X cl a ma) (hb : EV w X cl b mb) : EV w X cl (.IfExp c a b pos) (xif t ma mb) := by
  obtain ⟨te, hp, h⟩ := hc
  obtain ⟨ta, pa, ha⟩ := ha
  obtain ⟨tb, pb, hb⟩ := hb
  refine ⟨_, pe_ifExp hp pa pb, fun M q os ev σ H d hm rl Q k => ?_⟩
  obtain ⟨x, h1, hm⟩ := bind_some' hm
  refine h M q os ev σ H x h1 rl _ fun H1 e1 => ?_
  cases x with
  | true => exact iteT (ha M q os ev σ H1 d hm (rl.ex e1) _ fun v H2 e2 r2 => k v H2 (e1.trans e2) r2)
  | false => exact iteF (hb M q os ev σ H1 d hm (rl.ex e1) _ fun v H2 e2 r2 => k v H2 (e1.trans e2) r2)
theorem eo_if {ma mb : Env' → Option (List D)} (hc : ET X cl c t) (ha : EO w X cl a ma) (hb : EO w X cl b mb) : EO w X cl (.IfExp c a b pos) (xif t ma mb) := by
  obtain ⟨te, hp, h⟩ := hc
  obtain ⟨ta, pa, ha⟩ := ha
  obtain ⟨tb, pb, hb⟩ := hb
  refine ⟨_, pe_ifExp hp pa pb, fun M q os ev σ H d hm rl Q k => ?_⟩
  obtain ⟨x, h1, hm⟩ := bind_some' hm
  refine h M q os ev σ H x h1 rl _ fun H1 e1 => ?_
  cases x with
  | true => exact iteT (ha M q os ev σ H1 d hm (rl.ex e1) _ fun p H2 vs hn e2 h2 r2 => k p H2 vs (Evl.fresh_back e1 hn) (e1.trans e2) h2 r2)
  | false => exact iteF (hb M q os ev σ H1 d hm (rl.ex e1) _ fun p H2 vs hn e2 h2 r2 => k p H2 vs (Evl.fresh_back e1 hn) (e1.trans e2) h2 r2)
/-! displays -/
theorem ev_tup {ma : Env' → Option (List D)} {x1} (h : EA w X cl es ma) : EV w X cl (.Tuple es x1 pos) (xtup ma) := by
  obtain ⟨te, hp, h⟩ := h
  refine ⟨_, pe_tup hp, fun M q os ev σ H d hm rl Q k => ?_⟩
  obtain ⟨ds, h1, hm⟩ := bind_some' hm
  split at hm
  · cases hm
    refine h M q os ev σ H ds h1 rl _ fun vs H1 e1 r1 => ⟨?_, fun p hn => ?_⟩
    · rw [r1.length, sizeLine_eq]; omega
    · refine k _ _ (e1.trans (Evl.Ex.new hn)) ?_
      have hp : p ∉ vw w os M := ((rl.ex e1).tk w).new hn
      unfold Rep
      exact ⟨p, vs, rfl, by rw [hid_not hp, upd_same], r1.mono (ex_hid (Evl.Ex.new hn))⟩
  · cases hm
theorem eo_lst {ma : Env' → Option (List D)} (h : EA w X cl es ma) : EO w X cl (.List es pos) (xlst ma) := by
  obtain ⟨te, hp, h⟩ := h
  refine ⟨_, pe_lst hp, fun M q os ev σ H d hm rl Q k => ?_⟩
  obtain ⟨ds, h1, hm⟩ := bind_some' hm
  split at hm
  · have hq := Option.some.inj hm
    subst hq
    refine h M q os ev σ H ds h1 rl _ fun vs H1 e1 r1 => ⟨?_, fun p hn => ?_⟩
    · rw [r1.length, sizeLine_eq]; omega
    · refine k p _ vs (Evl.fresh_back e1 hn) (e1.trans (Evl.Ex.new hn)) upd_same (r1.mono ?_)
      refine ex_sub (fun a o h _ => Evl.Ex.new hn a o h) fun a ha => ?_
      rcases List.mem_cons.1 ha with rfl | ha
      · exact .inr hn
      · exact .inl ha
  · cases hm
end
end Lay

namespace Lay
open PySem PySem.Spec PyProof.Rows L2
open Evl (Ex)
section
variable {K : Fg} {cl : Str → Addr} {M : List Addr} {H : Hp} {v : L2.V}
theorem rep_non : Rep K cl H v .non ↔ v = .non := by unfold Rep; exact Iff.rfl
theorem rep_bl {b : Bool} : Rep K cl H v (.bl b) ↔ v = .bl b := by unfold Rep; exact Iff.rfl
theorem rep_int {b : Int} : Rep K cl H v (.int b) ↔ v = .int b := by unfold Rep; exact Iff.rfl
theorem rep_str {b : Str} : Rep K cl H v (.str b) ↔ v = .str b := by unfold Rep; exact Iff.rfl
theorem rep_list {ds : List D} : Rep K cl H v (.lst ds) ↔ ∃ a vs, v = .ref a ∧ H a = some (.lst vs) ∧ Reps K cl H vs ds := by rw [Rep]
theorem rep_tup {ds : List D} : Rep K cl H v (.tup ds) ↔ ∃ a vs, v = .ref a ∧ H a = some (.tup vs) ∧ Reps K cl H vs ds := by rw [Rep]
theorem rep_scr {ns : List Int} : Rep K cl H v (.scr ns) ↔ ∃ a, v = .ref a ∧ SqL K H a (ns.map V.int) := by rw [Rep]
theorem sq_hid {a : Addr} {xs : List L2.V} (h : SqL K (hid M H) a xs) : SqL K H a xs := by
  rcases h with h | h
  · refine .inl ?_
    rcases h with h | ⟨o, h⟩
    · exact .inl (hid_some h).2
    · exact .inr ⟨o, (hid_some h).2⟩
  · exact .inr h
theorem new_lst {p : Addr} {vs : List L2.V} {ds : List D} (hn : H p = none) (t : Tk M H) (r : Reps K cl (hid M H) vs ds) : Ex H (upd H p (.lst vs)) ∧ (upd H p (.lst vs)) p = some (.lst vs) ∧ Reps K cl (hid (p :: M) (upd H p (.lst vs))) vs ds := by
  refine ⟨Evl.Ex.new hn, upd_same, r.mono (ex_sub (fun a o h _ => Evl.Ex.new hn a o h) fun a ha => ?_)⟩
  rcases List.mem_cons.1 ha with rfl | ha
  · exact .inr hn
  · exact .inl ha
theorem new_tup {p : Addr} {vs : List L2.V} {ds : List D} (hn : H p = none) (t : Tk M H) (r : Reps K cl (hid M H) vs ds) : Ex H (upd H p (.tup vs)) ∧ Rep K cl (hid M (upd H p (.tup vs))) (.ref p) (.tup ds) := by
  refine ⟨Evl.Ex.new hn, ?_⟩
  rw [rep_tup]
  exact ⟨p, vs, rfl, by rw [hid_not (t.new hn), upd_same], r.mono (ex_hid (Evl.Ex.new hn))⟩
end
theorem Ex0 {H : Hp} : Ex H H := Evl.Ex.refl H

/-! ### numbers and sequences -/
def mulOk (i j : Int) : Bool := decide (i.natAbs < 18446744073709551616) || (decide (j.natAbs < 18446744073709551616) || decide (i.natAbs.log2 + j.natAbs.log2 < 1000000))
theorem mulOk_ok {i j : Int} (h : mulOk i j = true) : IntMulOk i j := by
  unfold mulOk at h
  rcases (Bool.or_eq_true _ _).mp h with h | h
  · have := of_decide_eq_true h
    exact CMul.ok (.inl (by omega))
  · rcases (Bool.or_eq_true _ _).mp h with h | h
    · have := of_decide_eq_true h
      exact CMul.ok (.inr (by omega))
    · have h' : i.natAbs.log2 + j.natAbs.log2 < 1000000 := of_decide_eq_true h
      exact CMulW.ok h'
def D.add : D → D → Option D
  | .int a, .int b => some (.int (a + b))
  | .lst a, .lst b => if a.length + b.length ≤ 1000000 then some (.lst (a ++ b)) else none
  | .tup a, .tup b => if a.length + b.length ≤ 1000000 ∧ a ≠ [] ∧ b ≠ [] then some (.tup (a ++ b)) else none
  | .str a, .str b => if a.length + b.length ≤ 1000000 then some (.str (a ++ b)) else none
  | _, _ => none
def D.cat : D → D → Option (List D)
  | .lst a, .lst b => if a.length + b.length ≤ 1000000 then some (a ++ b) else none
  | _, _ => none
def D.sub : D → D → Option D
  | .int a, .int b => some (.int (a - b))
  | _, _ => none
def D.mul : D → D → Option D
  | .int a, .int b => if mulOk a b = true then some (.int (a * b)) else none
  | _, _ => none
def D.rep : D → D → Option (List D)
  | .lst a, .int n => if n < 1000000 ∧ -1000000 < n ∧ a.length * n.toNat ≤ 1000000 then some (List.replicate n.toNat a).flatten else none
  | _, _ => none
def D.fdiv : D → D → Option D
  | .int a, .int b => if 0 < b ∧ b.natAbs.log2 < 9000 then some (.int (a / b)) else none
  | _, _ => none
def D.mod : D → D → Option D
  | .int a, .int b => if 0 < b then some (.int (a % b)) else none
  | _, _ => none
def D.pow : D → D → Option D
  | .int a, .int n => if 0 ≤ n ∧ (Builtin.Int.intBits a : Int) * n ≤ 2 ^ 27 then some (.int (a ^ n.toNat)) else none
  | _, _ => none
def D.neg : D → Option D
  | .int a => some (.int (-a))
  | _ => none
section
variable {X : Cx} {cl : Str → Addr} {K : Fg}
def rMulD : R2 := fun x y H Q => ∃ i j, x = .int i ∧ y = .int j ∧ mulOk i j = true ∧ Q (.int (i * j)) H
theorem op_mulD : OpR X (binaryOp .Mult) rMulD := opI (C := fun i j => mulOk i j = true) fun _ _ _ _ _ _ _ hc q => mul_int q (mulOk_ok hc)
def rPowD : R2 := rI (fun i j => 0 ≤ j ∧ (Builtin.Int.intBits i : Int) * j ≤ 2 ^ 27) fun i j => .int (i ^ j.toNat)
theorem op_powD : OpR X (binaryOp .Pow) rPowD := opI fun _ _ _ _ _ _ _ hc q => PyProof.Rows.pow_int hc.1 hc.2 q
def rAddS : R2 := fun x y H Q => ∃ i j, x = .str i ∧ y = .str j ∧ i.length + j.length ≤ sizeLine ∧ Q (.str (i ++ j)) H
def rAddD (K : Fg) : R2 := fun x y H Q => rI0 (fun i j => .int (i + j)) x y H Q ∨ (rCat x y H Q ∨ (rAddS x y H Q ∨ rCatT K x y H Q))
theorem op_addD : OpR X (binaryOp .Add) (rAddD X.K) := op_add.or (op_cat.or (op_add_str.or op_catT))
theorem rd_add : RD2 K cl (rAddD K) D.add := by
  intro M H x y d e d' hf t hx hy Q k
  unfold D.add at hf
  split at hf
  · cases hf
    exact .inl ⟨_, _, rep_int.1 hx, rep_int.1 hy, k _ H Ex0 (rep_int.2 rfl)⟩
  · split at hf
    · cases hf
      obtain ⟨a, vs, rfl, ha, ra⟩ := rep_list.1 hx
      obtain ⟨b, us, rfl, hb, rb⟩ := rep_list.1 hy
      refine .inr (.inl ⟨a, b, vs, us, rfl, rfl, (hid_some ha).2, (hid_some hb).2, by rw [ra.length, rb.length, sizeLine_eq]; omega, fun p hn => ?_⟩)
      obtain ⟨h1, h2, h3⟩ := new_lst hn t (ra.append rb)
      exact k _ _ h1 (rep_lst h2 ((t.ex Ex0).new hn) h3)
    · cases hf
  · split at hf
    · next hc =>
      cases hf
      obtain ⟨a, vs, rfl, ha, ra⟩ := rep_tup.1 hx
      obtain ⟨b, us, rfl, hb, rb⟩ := rep_tup.1 hy
      refine .inr (.inr (.inr ⟨a, b, vs, us, rfl, rfl, .of (hid_some ha).2, .of (hid_some hb).2, ?_, by rw [ra.length, rb.length, sizeLine_eq]; omega, ?_, ?_⟩))
      · intro z
        subst z
        have := ra.length
        exact hc.2.1 (List.length_eq_zero_iff.1 (by simpa using this.symm))
      · intro z
        subst z
        have := rb.length
        exact absurd (List.length_eq_zero_iff.1 (by simpa using this.symm)) hc.2.2
      · intro _ p hn
        obtain ⟨h1, h2⟩ := new_tup hn t (ra.append rb)
        exact k _ _ h1 h2
    · cases hf
  · split at hf
    · cases hf
      exact .inr (.inr (.inl ⟨_, _, rep_str.1 hx, rep_str.1 hy, by rw [sizeLine_eq]; omega, k _ H Ex0 (rep_str.2 rfl)⟩))
    · cases hf
  · cases hf
theorem ro_cat : RO2 K cl rCat D.cat := by
  intro M H x y d e d' hf t hx hy Q k
  unfold D.cat at hf
  split at hf
  · split at hf
    · cases hf
      obtain ⟨a, vs, rfl, ha, ra⟩ := rep_list.1 hx
      obtain ⟨b, us, rfl, hb, rb⟩ := rep_list.1 hy
      refine ⟨a, b, vs, us, rfl, rfl, (hid_some ha).2, (hid_some hb).2, by rw [ra.length, rb.length, sizeLine_eq]; omega, fun p hn => ?_⟩
      obtain ⟨h1, h2, h3⟩ := new_lst hn t (ra.append rb)
      exact k p _ _ hn h1 h2 h3
    · cases hf
  · cases hf
theorem ro_rep : RO2 K cl rRep D.rep := by
  intro M H x y d e d' hf t hx hy Q k
  unfold D.rep at hf
  split at hf
  · split at hf
    · cases hf
      obtain ⟨a, vs, rfl, ha, ra⟩ := rep_list.1 hx
      refine ⟨a, _, vs, rfl, rep_int.1 hy, (hid_some ha).2, by omega, by omega, by rw [ra.length, sizeLine_eq]; omega, fun p hn => ?_⟩
      obtain ⟨h1, h2, h3⟩ := new_lst hn t (ra.rep _)
      exact k p _ _ hn h1 h2 h3
    · cases hf
  · cases hf
theorem rd_sub : RD2 K cl (rI0 fun i j => .int (i - j)) D.sub := by
  intro M H x y d e d' hf t hx hy Q k
  unfold D.sub at hf
  split at hf
  · cases hf
    exact ⟨_, _, rep_int.1 hx, rep_int.1 hy, k _ H Ex0 (rep_int.2 rfl)⟩
  · cases hf
theorem rd_mul : RD2 K cl rMulD D.mul := by
  intro M H x y d e d' hf t hx hy Q k
  unfold D.mul at hf
  split at hf
  · split at hf
    · cases hf
      exact ⟨_, _, rep_int.1 hx, rep_int.1 hy, by assumption, k _ H Ex0 (rep_int.2 rfl)⟩
    · cases hf
  · cases hf
theorem rd_fdiv : RD2 K cl (rI CDivW fun i j => .int (i / j)) D.fdiv := by
  intro M H x y d e d' hf t hx hy Q k
  unfold D.fdiv at hf
  split at hf
  · split at hf
    · cases hf
      exact ⟨_, _, rep_int.1 hx, rep_int.1 hy, by assumption, k _ H Ex0 (rep_int.2 rfl)⟩
    · cases hf
  · cases hf
theorem rd_mod : RD2 K cl (rI (fun _ j => 0 < j) fun i j => .int (i % j)) D.mod := by
  intro M H x y d e d' hf t hx hy Q k
  unfold D.mod at hf
  split at hf
  · split at hf
    · cases hf
      exact ⟨_, _, rep_int.1 hx, rep_int.1 hy, by assumption, k _ H Ex0 (rep_int.2 rfl)⟩
    · cases hf
  · cases hf
theorem rd_pow : RD2 K cl rPowD D.pow := by
  intro M H x y d e d' hf t hx hy Q k
  unfold D.pow at hf
  split at hf
  · split at hf
    · cases hf
      exact ⟨_, _, rep_int.1 hx, rep_int.1 hy, by assumption, k _ H Ex0 (rep_int.2 rfl)⟩
    · cases hf
  · cases hf
theorem rd_neg : RD1 K cl (rU fun i => .int (-i)) D.neg := by
  intro M H x d d' hf t hx Q k
  unfold D.neg at hf
  split at hf
  · cases hf
    exact ⟨_, rep_int.1 hx, k _ H Ex0 (rep_int.2 rfl)⟩
  · cases hf

/-! ### comparisons -/
mutual
def D.toPy : D → Option PyData
  | .non => some .none
  | .bl b => some (.bool b)
  | .int i => some (.int i)
  | .str s => some (.str s)
  | .lst xs => (D.toPys xs).map PyData.list
  | .tup xs => (D.toPys xs).map PyData.tuple
  | .scr _ => none
  | .obj _ _ _ => none
def D.toPys : List D → Option (List PyData)
  | [] => some []
  | d :: ds => (D.toPy d).bind fun p => (D.toPys ds).map fun ps => p :: ps
end
mutual
theorem dp_of {H : Hp} {M : List Addr} : ∀ {d : D} {v : L2.V} {p : PyData}, Rep K cl (hid M H) v d → d.toPy = some p → Dp K H v p
  | .non, v, p, h, e => by rw [rep_non] at h; subst h; rw [D.toPy] at e; cases e; exact .non
  | .bl b, v, p, h, e => by rw [rep_bl] at h; subst h; rw [D.toPy] at e; cases e; exact .bl b
  | .int b, v, p, h, e => by rw [rep_int] at h; subst h; rw [D.toPy] at e; cases e; exact .int b
  | .str b, v, p, h, e => by rw [rep_str] at h; subst h; rw [D.toPy] at e; cases e; exact .str b
  | .lst xs, v, p, h, e => by
    obtain ⟨a, vs, rfl, ha, ra⟩ := rep_list.1 h
    rw [D.toPy] at e
    obtain ⟨ps, e1, rfl⟩ := Option.map_eq_some_iff.1 e
    exact .lst (.of (hid_some ha).2) (dps_of ra e1)
  | .tup xs, v, p, h, e => by
    obtain ⟨a, vs, rfl, ha, ra⟩ := rep_tup.1 h
    rw [D.toPy] at e
    obtain ⟨ps, e1, rfl⟩ := Option.map_eq_some_iff.1 e
    exact .tup (.of (hid_some ha).2) (dps_of ra e1)
  | .scr _, v, p, h, e => by rw [D.toPy] at e; cases e
  | .obj _ _ _, v, p, h, e => by rw [D.toPy] at e; cases e
theorem dps_of {H : Hp} {M : List Addr} : ∀ {ds : List D} {vs : List L2.V} {ps : List PyData}, Reps K cl (hid M H) vs ds → D.toPys ds = some ps → DpAll K H vs ps
  | [], vs, ps, h, e => by rw [Reps.nil_iff.1 h]; rw [D.toPys] at e; cases e; exact .nil
  | d :: ds, vs, ps, h, e => by
    obtain ⟨v, r, rfl, h1, t⟩ := Reps.cons_iff.1 h
    rw [D.toPys] at e
    obtain ⟨p, e1, e2⟩ := Option.bind_eq_some_iff.1 e
    obtain ⟨qs, e3, rfl⟩ := Option.map_eq_some_iff.1 e2
    exact .cons (dp_of h1 e1) (dps_of t e3)
end
def D.eq (d e : D) : Option Bool := do
  let a ← d.toPy
  let b ← e.toPy
  if SeqAt.shaped a = true ∧ SeqAt.shaped b = true then some (PyData.eqv a b) else none
def D.ne (d e : D) : Option Bool := (D.eq d e).map (!·)
theorem eq_some {d e : D} {b : Bool} (h : D.eq d e = some b) : ∃ p q, d.toPy = some p ∧ e.toPy = some q ∧ SeqAt.shaped p = true ∧ SeqAt.shaped q = true ∧ b = PyData.eqv p q := by
  unfold D.eq at h
  obtain ⟨p, h1, h⟩ := bind_some' h
  obtain ⟨q, h2, h⟩ := bind_some' h
  split at h
  · next hc =>
    exact ⟨p, q, h1, h2, hc.1, hc.2, (Option.some.inj h).symm⟩
  · cases h
theorem rc_eq : RC2 K cl (rEqD K) D.eq := by
  intro M H x y d e d' hf t hx hy Q k
  obtain ⟨p, q, h1, h2, h3, h4, rfl⟩ := eq_some hf
  exact ⟨p, q, dp_of hx h1, dp_of hy h2, h3, h4, k H Ex0⟩
theorem rc_ne : RC2 K cl (rNeD K) D.ne := by
  intro M H x y d e d' hf t hx hy Q k
  obtain ⟨b, hb, rfl⟩ := Option.map_eq_some_iff.1 hf
  obtain ⟨p, q, h1, h2, h3, h4, rfl⟩ := eq_some hb
  exact ⟨p, q, dp_of hx h1, dp_of hy h2, h3, h4, k H Ex0⟩
def D.lt : D → D → Option Bool
  | .int a, .int b => some (decide (a < b))
  | _, _ => none
def D.le : D → D → Option Bool
  | .int a, .int b => some (decide (a ≤ b))
  | _, _ => none
def D.gt : D → D → Option Bool
  | .int a, .int b => some (decide (b < a))
  | _, _ => none
def D.ge : D → D → Option Bool
  | .int a, .int b => some (decide (b ≤ a))
  | _, _ => none
theorem rc_lt : RC2 K cl (rI0 fun i j => .bl (decide (i < j))) D.lt := by
  intro M H x y d e d' hf t hx hy Q k
  unfold D.lt at hf
  split at hf
  · cases hf; exact ⟨_, _, rep_int.1 hx, rep_int.1 hy, k H Ex0⟩
  · cases hf
theorem rc_le : RC2 K cl (rI0 fun i j => .bl (decide (i ≤ j))) D.le := by
  intro M H x y d e d' hf t hx hy Q k
  unfold D.le at hf
  split at hf
  · cases hf; exact ⟨_, _, rep_int.1 hx, rep_int.1 hy, k H Ex0⟩
  · cases hf
theorem rc_gt : RC2 K cl (rI0 fun i j => .bl (decide (j < i))) D.gt := by
  intro M H x y d e d' hf t hx hy Q k
  unfold D.gt at hf
  split at hf
  · cases hf; exact ⟨_, _, rep_int.1 hx, rep_int.1 hy, k H Ex0⟩
  · cases hf
theorem rc_ge : RC2 K cl (rI0 fun i j => .bl (decide (j ≤ i))) D.ge := by
  intro M H x y d e d' hf t hx hy Q k
  unfold D.ge at hf
  split at hf
  · cases hf; exact ⟨_, _, rep_int.1 hx, rep_int.1 hy, k H Ex0⟩
  · cases hf
/-- is None, is True -/
def D.isN : D → D → Option Bool
  | .non, .non => some true
  | _, .non => some false
  | .bl a, .bl b => some (decide (a = b))
  | _, _ => none
def D.notN (d e : D) : Option Bool := (D.isN d e).map (!·)
def rIsD : R2 := fun x y H Q => (y = .non ∧ Q (.bl (decide (x = .non))) H) ∨ rIsB x y H Q
def rNotD : R2 := fun x y H Q => (y = .non ∧ Q (.bl (!decide (x = .non))) H) ∨ rNotB x y H Q
theorem op_isD : OpR X (compareOp .Is) rIsD := op_isN.or op_isBl
theorem op_notD : OpR X (compareOp .IsNot) rNotD := op_notN.or op_notBl
def D.isNon : D → Bool
  | .non => true
  | _ => false
theorem rep_isN {H : Hp} {v : L2.V} {d : D} (h : Rep K cl H v d) : decide (v = .non) = d.isNon := by
  cases d with
  | non => rw [rep_non.1 h]; rfl
  | bl _ => rw [rep_bl.1 h]; rfl
  | int _ => rw [rep_int.1 h]; rfl
  | str _ => rw [rep_str.1 h]; rfl
  | lst _ => obtain ⟨a, vs, rfl, _⟩ := rep_list.1 h; rfl
  | tup _ => obtain ⟨a, vs, rfl, _⟩ := rep_tup.1 h; rfl
  | scr _ => obtain ⟨a, rfl, _⟩ := rep_scr.1 h; rfl
  | obj _ _ _ => unfold Rep at h; obtain ⟨a, dx, vs, rfl, _⟩ := h; rfl
theorem isN_cases {d e : D} {b : Bool} (h : D.isN d e = some b) : (e = .non ∧ b = d.isNon) ∨ ∃ x y, d = .bl x ∧ e = .bl y ∧ b = decide (x = y) := by
  unfold D.isN at h
  split at h
  · cases h; exact .inl ⟨rfl, rfl⟩
  · next hd =>
    refine .inl ⟨rfl, ?_⟩
    have := Option.some.inj h
    rw [← this]
    cases d <;> first | rfl | exact (hd rfl).elim
  · cases h; exact .inr ⟨_, _, rfl, rfl, rfl⟩
  · cases h
theorem rc_is : RC2 K cl rIsD D.isN := by
  intro M H x y d e d' hf t hx hy Q k
  rcases isN_cases hf with ⟨rfl, hb⟩ | ⟨a, b, rfl, rfl, rfl⟩
  · refine .inl ⟨rep_non.1 hy, ?_⟩
    rw [rep_isN hx, ← hb]
    exact k H Ex0
  · exact .inr ⟨a, b, rep_bl.1 hx, rep_bl.1 hy, k H Ex0⟩
theorem rc_notis : RC2 K cl rNotD D.notN := by
  intro M H x y d e d' hf t hx hy Q k
  obtain ⟨c, hf2, rfl⟩ := Option.map_eq_some_iff.1 hf
  rcases isN_cases hf2 with ⟨rfl, hb⟩ | ⟨a, b, rfl, rfl, rfl⟩
  · refine .inl ⟨rep_non.1 hy, ?_⟩
    rw [rep_isN hx, ← hb]
    exact k H Ex0
  · exact .inr ⟨a, b, rep_bl.1 hx, rep_bl.1 hy, k H Ex0⟩
/-- in: flat items -/
def D.eqF : D → D → Bool
  | .non, .non => true
  | .bl a, .bl b => a == b
  | .bl a, .int b => (if a then 1 else 0) == b
  | .int a, .bl b => a == (if b then 1 else 0)
  | .int a, .int b => a == b
  | .str a, .str b => a == b
  | _, _ => false
def D.isin (d : D) : D → Option Bool
  | .lst xs => if d.flat = true ∧ xs.all D.flat = true then some (xs.any fun y => D.eqF y d) else none
  | .tup xs => if d.flat = true ∧ xs.all D.flat = true then some (xs.any fun y => D.eqF y d) else none
  | _ => none
def D.notin (d e : D) : Option Bool := (D.isin d e).map (!·)
theorem flat_V {H : Hp} {v : L2.V} {d : D} (h : Rep K cl H v d) (f : d.flat = true) : flatV v = true := by
  cases d with
  | non => rw [rep_non.1 h]; rfl
  | bl _ => rw [rep_bl.1 h]; rfl
  | int _ => rw [rep_int.1 h]; rfl
  | str _ => rw [rep_str.1 h]; rfl
  | _ => exact absurd f (by simp [D.flat])
theorem flat_Vs {H : Hp} : ∀ {ds : List D} {vs : List L2.V}, Reps K cl H vs ds → ds.all D.flat = true → vs.all flatV = true
  | [], vs, h, _ => by rw [Reps.nil_iff.1 h]; rfl
  | d :: ds, vs, h, f => by
    obtain ⟨v, r, rfl, h1, t⟩ := Reps.cons_iff.1 h
    rw [List.all_cons, Bool.and_eq_true] at f
    rw [List.all_cons, flat_V h1 f.1, flat_Vs t f.2]
    rfl
theorem eqF_V {H H' : Hp} {v u : L2.V} {d e : D} (h : Rep K cl H v d) (g : Rep K cl H' u e) (f : d.flat = true) (f' : e.flat = true) : eqV v u = D.eqF d e := by
  cases d <;> first
    | (cases e <;> first | (unfold Rep at h g; subst h; subst g; rfl) | (simp [D.flat] at f'; done))
    | (simp [D.flat] at f; done)
theorem inV_D {H H' : Hp} {u : L2.V} {e : D} (g : Rep K cl H' u e) (f' : e.flat = true) : ∀ {ds : List D} {vs : List L2.V}, Reps K cl H vs ds → ds.all D.flat = true → inV u vs = ds.any fun y => D.eqF y e
  | [], vs, h, _ => by rw [Reps.nil_iff.1 h]; rfl
  | d :: ds, vs, h, f => by
    obtain ⟨v, r, rfl, h1, t⟩ := Reps.cons_iff.1 h
    rw [List.all_cons, Bool.and_eq_true] at f
    have ih := inV_D g f' t f.2
    unfold inV at ih ⊢
    rw [List.any_cons, List.any_cons, ih, eqF_V h1 g f.1 f']
theorem isin_cases {d e : D} {b : Bool} (h : D.isin d e = some b) : ∃ xs, (e = .lst xs ∨ e = .tup xs) ∧ d.flat = true ∧ xs.all D.flat = true ∧ b = xs.any fun y => D.eqF y d := by
  unfold D.isin at h
  split at h
  · split at h
    · next hc => exact ⟨_, .inl rfl, hc.1, hc.2, (Option.some.inj h).symm⟩
    · cases h
  · split at h
    · next hc => exact ⟨_, .inr rfl, hc.1, hc.2, (Option.some.inj h).symm⟩
    · cases h
  · cases h
theorem rc_in : RC2 K cl (rIn K false) D.isin := by
  intro M H x y d e d' hf t hx hy Q k
  obtain ⟨xs, h, f, f', rfl⟩ := isin_cases hf
  rcases h with rfl | rfl
  · obtain ⟨a, vs, rfl, ha, ra⟩ := rep_list.1 hy
    refine ⟨a, vs, rfl, .inl (.of (hid_some ha).2), flat_V hx f, flat_Vs ra f', ?_⟩
    have := k H Ex0
    rw [← inV_D hx f ra f'] at this
    exact this
  · obtain ⟨a, vs, rfl, ha, ra⟩ := rep_tup.1 hy
    refine ⟨a, vs, rfl, .inr (.of (hid_some ha).2), flat_V hx f, flat_Vs ra f', ?_⟩
    have := k H Ex0
    rw [← inV_D hx f ra f'] at this
    exact this
theorem rc_notin : RC2 K cl (rIn K true) D.notin := by
  intro M H x y d e d' hf t hx hy Q k
  obtain ⟨c, hf2, rfl⟩ := Option.map_eq_some_iff.1 hf
  obtain ⟨xs, h, f, f', rfl⟩ := isin_cases hf2
  rcases h with rfl | rfl
  · obtain ⟨a, vs, rfl, ha, ra⟩ := rep_list.1 hy
    refine ⟨a, vs, rfl, .inl (.of (hid_some ha).2), flat_V hx f, flat_Vs ra f', ?_⟩
    have := k H Ex0
    rw [← inV_D hx f ra f'] at this
    exact this
  · obtain ⟨a, vs, rfl, ha, ra⟩ := rep_tup.1 hy
    refine ⟨a, vs, rfl, .inr (.of (hid_some ha).2), flat_V hx f, flat_Vs ra f', ?_⟩
    have := k H Ex0
    rw [← inV_D hx f ra f'] at this
    exact this
end
end Lay

namespace Lay
open PySem PySem.Spec PyProof.Rows L2
open Evl (Ex)
/-! ### items, slices, built-ins -/
def D.ix : D → D → Option D
  | .lst xs, .int i => atI xs i
  | .tup xs, .int i => atI xs i
  | .scr ns, .int i => (atI ns i).map D.int
  | .str s, .int i => if s.length ≤ 1000000 then (atI s.cps.toList i).map fun c => D.str ⟨#[c]⟩ else none
  | _, _ => none
section
variable {X : Cx} {cl : Str → Addr} {K : Fg}
theorem atI_rep {H : Hp} {vs : List L2.V} {ds : List D} {i : Int} {d : D} (r : Reps K cl H vs ds) (h : atI ds i = some d) : ∃ v, atI vs i = some v ∧ Rep K cl H v d := by
  unfold atI at h ⊢
  obtain ⟨j, h1, h2⟩ := Option.bind_eq_some_iff.1 h
  rw [r.length, h1]
  exact r.get h2
theorem atI_map {α β : Type} {f : α → β} {xs : List α} {i : Int} : atI (xs.map f) i = (atI xs i).map f := by
  unfold atI
  rw [List.length_map]
  cases ixN xs.length i with
  | none => rfl
  | some j => simp
theorem rd_ix : RD2 K cl (rIx K) D.ix := by
  intro M H x y d e d' hf t hx hy Q k
  unfold D.ix at hf
  split at hf
  · obtain ⟨a, vs, rfl, ha, ra⟩ := rep_list.1 hx
    obtain ⟨v, h1, h2⟩ := atI_rep ra hf
    exact .inl ⟨a, vs, _, v, rfl, rep_int.1 hy, .of (hid_some ha).2, h1, k v H Ex0 h2⟩
  · obtain ⟨a, vs, rfl, ha, ra⟩ := rep_tup.1 hx
    obtain ⟨v, h1, h2⟩ := atI_rep ra hf
    exact .inr (.inl ⟨a, vs, _, v, rfl, rep_int.1 hy, .of (hid_some ha).2, h1, k v H Ex0 h2⟩)
  · obtain ⟨a, rfl, ha⟩ := rep_scr.1 hx
    obtain ⟨z, h1, rfl⟩ := Option.map_eq_some_iff.1 hf
    exact .inl ⟨a, _, _, .int z, rfl, rep_int.1 hy, sq_hid ha, by rw [atI_map, h1]; rfl, k _ H Ex0 (rep_int.2 rfl)⟩
  · split at hf
    · obtain ⟨c, h1, rfl⟩ := Option.map_eq_some_iff.1 hf
      exact .inr (.inr ⟨_, _, c, rep_str.1 hx, rep_int.1 hy, by rw [sizeLine_eq]; omega, h1, k _ H Ex0 (rep_str.2 rfl)⟩)
    · cases hf
  · cases hf
variable {w : Bool} {a b e : Expr} {es : List Expr} {pos : Pos} {m ma mb : Env' → Option D}
theorem ev_ix (ha : EV w X cl a ma) (hb : EV w X cl b mb) (hs : PlainIx b) : EV w X cl (.Subscript a b pos) (m2 D.ix ma mb) := by
  obtain ⟨ta, pa, ha⟩ := ha
  obtain ⟨tb, pb, hb⟩ := hb
  exact ⟨_, pe_ix ix_seq pa pb hs, tOp_ok rd_ix ha hb⟩
/-- an item of what a slot owns -/
def xixo (i : Nat) (mb : Env' → Option D) : Env' → Option D := fun ev => match ev[i]?, mb ev with
  | some (.own xs), some (.int j) => atI xs j
  | some (.par xs), some (.int j) => atI xs j
  | _, _ => none
theorem ev_ixo {i : Nat} {x : Str} {p2 : Pos} (h : VarAt X i x) (hb : EV w X cl b mb) (hs : PlainIx b) : EV w X cl (.Subscript (.Name x p2) b pos) (xixo i mb) := by
  obtain ⟨tb, pb, hb⟩ := hb
  refine ⟨_, pe_ix ix_seq (pe_var h.ix h.vis h.nd h.nc) pb hs, fun M q os ev σ H d hm rl Q k => ?_⟩
  unfold xixo at hm
  split at hm
  · next xs j h1 h2 =>
    obtain ⟨p, vs, e1, e2, e3, e4⟩ := rl.sr.get_own h1
    refine ⟨_, e1, hb M q os ev σ H _ h2 rl _ fun u H2 x2 r2 => ?_⟩
    obtain ⟨v, g1, g2⟩ := atI_rep e4 hm
    exact .inl ⟨p, vs, _, v, rfl, rep_int.1 r2, .of (x2 _ _ e3), g1, k v H2 x2 ((g2.mono (ex_le (vw_sub w))).mono (ex_hid x2))⟩
  · next xs j h1 h2 =>
    obtain ⟨p, vs, e1, e2, e3, e4⟩ := rl.sr.get_par h1
    refine ⟨_, e1, hb M q os ev σ H _ h2 rl _ fun u H2 x2 r2 => ?_⟩
    obtain ⟨v, g1, g2⟩ := atI_rep e4 hm
    exact .inl ⟨p, vs, _, v, rfl, rep_int.1 r2, .of (x2 _ _ e3), g1, k v H2 x2 ((g2.mono (ex_le (vw_sub w))).mono (ex_hid x2))⟩
  · cases hm

/-! slices -/
def cutG {α : Type} (xs : List α) (lo hi : Option Int) : List α := (xs.drop (HT.sIx xs.length 0 lo)).take (HT.sIx xs.length xs.length hi - HT.sIx xs.length 0 lo)
theorem cutG_V (xs : List L2.V) (lo hi : Option Int) : cutG xs lo hi = cutV xs lo hi := rfl
theorem cutG_rep {H : Hp} {vs : List L2.V} {ds : List D} (r : Reps K cl H vs ds) (lo hi : Option Int) : Reps K cl H (cutV vs lo hi) (cutG ds lo hi) := by
  unfold cutV cutG
  rw [r.length]
  exact (r.drop _).take _
theorem cutG_map {α β : Type} {f : α → β} {xs : List α} {lo hi : Option Int} : cutG (xs.map f) lo hi = (cutG xs lo hi).map f := by
  unfold cutG
  rw [List.length_map, List.map_take, List.map_drop]
def EP (w : Bool) (X : Cx) (cl : Str → Addr) (e : Option Expr) (m : Env' → Option (Option Int)) : Prop :=
  ∃ te, PO X e te ∧ ∀ M q os ev σ H d, m ev = some d → Rl X.K cl M q os ev σ H → ∀ Q : Option Int → Hp → Prop, (∀ H', Ex H H' → Q d H') → te σ H Q
def pN : Env' → Option (Option Int) := fun _ => some none
def pS (m : Env' → Option D) : Env' → Option (Option Int) := fun ev => match m ev with
  | some (.int i) => some (some i)
  | _ => none
theorem ep_none : EP w X cl none pN := ⟨_, po_none, fun M q os ev σ H d hm rl Q k => by cases hm; exact k H Ex0⟩
theorem ep_some (h : EV w X cl e m) : EP w X cl (some e) (pS m) := by
  obtain ⟨te, hp, h⟩ := h
  refine ⟨_, po_some hp, fun M q os ev σ H d hm rl Q k => ?_⟩
  unfold pS at hm
  split at hm
  · next i hi =>
    cases hm
    exact h M q os ev σ H _ hi rl _ fun v H' x r => ⟨i, rep_int.1 r, k H' x⟩
  · cases hm
def D.cut : D → Option Int → Option Int → Option (List D)
  | .lst xs, lo, hi => some (cutG xs lo hi)
  | .scr ns, lo, hi => some ((cutG ns lo hi).map D.int)
  | _, _, _ => none
def xcut (ma : Env' → Option D) (ml mh : Env' → Option (Option Int)) : Env' → Option (List D) := fun ev => do
  let d ← ma ev
  let lo ← ml ev
  let hi ← mh ev
  D.cut d lo hi
theorem eo_cut {lo hi : Option Expr} {p2 : Pos} {ml mh : Env' → Option (Option Int)} (ha : EV w X cl a ma) (hl : EP w X cl lo ml) (hh : EP w X cl hi mh) : EO w X cl (.Subscript a (.Slice lo hi none p2) pos) (xcut ma ml mh) := by
  obtain ⟨ta, pa, ha⟩ := ha
  obtain ⟨tl, pl, hl⟩ := hl
  obtain ⟨th, ph, hh⟩ := hh
  refine ⟨_, pe_slice sl_list pa pl ph, fun M q os ev σ H d hm rl Q k => ?_⟩
  obtain ⟨x, h1, hm⟩ := bind_some' hm
  obtain ⟨l, h2, hm⟩ := bind_some' hm
  obtain ⟨u, h3, hm⟩ := bind_some' hm
  refine ha M q os ev σ H x h1 rl _ fun v H1 x1 r1 => hl M q os ev σ H1 l h2 (rl.ex x1) _ fun H2 x2 => hh M q os ev σ H2 u h3 (rl.ex (x1.trans x2)) _ fun H3 x3 => ?_
  have r3 := (r1.mono (ex_hid (M := vw w os M) x2)).mono (ex_hid (M := vw w os M) x3)
  have t3 := (rl.ex ((x1.trans x2).trans x3)).tk w
  unfold D.cut at hm
  split at hm
  · cases hm
    obtain ⟨p, vs, rfl, g1, g2⟩ := rep_list.1 r3
    refine ⟨p, vs, rfl, .of (hid_some g1).2, fun y hn => ?_⟩
    obtain ⟨e1, e2, e3⟩ := new_lst hn t3 (cutG_rep g2 l u)
    exact k y _ _ (Evl.fresh_back ((x1.trans x2).trans x3) hn) (((x1.trans x2).trans x3).trans e1) e2 e3
  · cases hm
    obtain ⟨p, rfl, g1⟩ := rep_scr.1 r3
    refine ⟨p, _, rfl, sq_hid g1, fun y hn => ?_⟩
    rw [← cutG_V, cutG_map]
    obtain ⟨e1, e2, e3⟩ := new_lst hn t3 (Reps.ints (cutG _ l u))
    exact k y _ _ (Evl.fresh_back ((x1.trans x2).trans x3) hn) (((x1.trans x2).trans x3).trans e1) e2 e3
  · cases hm
def D.cutT : D → Option Int → Option Int → Option D
  | .tup xs, lo, hi => if ¬ (HT.sIx xs.length 0 lo = 0 ∧ HT.sIx xs.length xs.length hi = xs.length) then some (.tup (cutG xs lo hi)) else none
  | _, _, _ => none
def xcutT (ma : Env' → Option D) (ml mh : Env' → Option (Option Int)) : Env' → Option D := fun ev => do
  let d ← ma ev
  let lo ← ml ev
  let hi ← mh ev
  D.cutT d lo hi
theorem ev_cutT {lo hi : Option Expr} {p2 : Pos} {ml mh : Env' → Option (Option Int)} (ha : EV w X cl a ma) (hl : EP w X cl lo ml) (hh : EP w X cl hi mh) : EV w X cl (.Subscript a (.Slice lo hi none p2) pos) (xcutT ma ml mh) := by
  obtain ⟨ta, pa, ha⟩ := ha
  obtain ⟨tl, pl, hl⟩ := hl
  obtain ⟨th, ph, hh⟩ := hh
  refine ⟨_, pe_slice sl_tup pa pl ph, fun M q os ev σ H d hm rl Q k => ?_⟩
  obtain ⟨x, h1, hm⟩ := bind_some' hm
  obtain ⟨l, h2, hm⟩ := bind_some' hm
  obtain ⟨u, h3, hm⟩ := bind_some' hm
  refine ha M q os ev σ H x h1 rl _ fun v H1 x1 r1 => hl M q os ev σ H1 l h2 (rl.ex x1) _ fun H2 x2 => hh M q os ev σ H2 u h3 (rl.ex (x1.trans x2)) _ fun H3 x3 => ?_
  have r3 := (r1.mono (ex_hid (M := vw w os M) x2)).mono (ex_hid (M := vw w os M) x3)
  have t3 := (rl.ex ((x1.trans x2).trans x3)).tk w
  unfold D.cutT at hm
  split at hm
  · split at hm
    · next hc =>
      cases hm
      obtain ⟨p, vs, rfl, g1, g2⟩ := rep_tup.1 r3
      refine ⟨p, vs, rfl, .of (hid_some g1).2, by rw [g2.length]; exact hc, fun y hn => ?_⟩
      obtain ⟨e1, e2⟩ := new_tup hn t3 (cutG_rep g2 l u)
      exact k _ _ (((x1.trans x2).trans x3).trans e1) e2
    · cases hm
  · cases hm
def D.rev : D → Option (List D)
  | .lst xs => some xs.reverse
  | .scr ns => some (ns.reverse.map D.int)
  | _ => none
def xrev (ma : Env' → Option D) : Env' → Option (List D) := fun ev => do let d ← ma ev; D.rev d
theorem eo_rev {k : Nat} {p1 p2 p3 : Pos} (ha : EV w X cl a ma) : EO w X cl (.Subscript a (.Slice none none (some (.UnaryOp .USub (.Constant (.int 1) k p1) p2)) p3) pos) (xrev ma) := by
  obtain ⟨ta, pa, ha⟩ := ha
  refine ⟨_, pe_revL pa, fun M q os ev σ H d hm rl Q k => ?_⟩
  obtain ⟨x, h1, hm⟩ := bind_some' hm
  refine ha M q os ev σ H x h1 rl _ fun v H1 x1 r1 => ?_
  have t1 := (rl.ex x1).tk w
  unfold D.rev at hm
  split at hm
  · cases hm
    obtain ⟨p, vs, rfl, g1, g2⟩ := rep_list.1 r1
    refine ⟨p, vs, rfl, .of (hid_some g1).2, fun y hn => ?_⟩
    obtain ⟨e1, e2, e3⟩ := new_lst hn t1 g2.reverse
    exact k y _ _ (Evl.fresh_back x1 hn) (x1.trans e1) e2 e3
  · cases hm
    obtain ⟨p, rfl, g1⟩ := rep_scr.1 r1
    refine ⟨p, _, rfl, sq_hid g1, fun y hn => ?_⟩
    rw [← List.map_reverse]
    obtain ⟨e1, e2, e3⟩ := new_lst hn t1 (Reps.ints _)
    exact k y _ _ (Evl.fresh_back x1 hn) (x1.trans e1) e2 e3
  · cases hm

/-! calls of built-ins -/
theorem ev_B {id : String} {x : Str} {p : Pos} {r : List L2.V → Hp → VK → Prop} {f : List D → Option D} {ma : Env' → Option (List D)} (hc : CallR X (.builtin id) r) (hr : RDL X.K cl r f) (hg : Gl X x) (hm : X.mg x = none) (hv : bootBuiltins x = some (.builtin id)) (ha : EA w X cl (e :: es) ma)
    (hn : x ≠ "__name__") (hdb : (x == ("__debug__" : Str)) = false) (he : starEach (e :: es) X.env = (false, eval e X.env) :: starEach es X.env := by rfl) (hpl : (backTo pos (starEach es X.env)).any (·.1) = false := by rfl) :
    EV w X cl (.Call (.Name x p) (e :: es) [] pos) (mL f ma) := by
  obtain ⟨ta, pa, ha⟩ := ha
  refine ⟨_, pe_callB hc hg hm hv pa hn hdb he hpl, fun M q os ev σ H d hm rl Q k => ?_⟩
  obtain ⟨ds, h1, hm⟩ := bind_some' hm
  exact ha M q os ev σ H ds h1 rl _ fun vs H1 x1 r1 => hr _ _ _ _ _ hm ((rl.ex x1).tk w) r1 _ fun v H2 x2 r2 => k v H2 (x1.trans x2) r2
theorem eo_B {id : String} {x : Str} {p : Pos} {r : List L2.V → Hp → VK → Prop} {f : List D → Option (List D)} {ma : Env' → Option (List D)} (hc : CallR X (.builtin id) r) (hr : ROL X.K cl r f) (hg : Gl X x) (hm : X.mg x = none) (hv : bootBuiltins x = some (.builtin id)) (ha : EA w X cl (e :: es) ma)
    (hn : x ≠ "__name__") (hdb : (x == ("__debug__" : Str)) = false) (he : starEach (e :: es) X.env = (false, eval e X.env) :: starEach es X.env := by rfl) (hpl : (backTo pos (starEach es X.env)).any (·.1) = false := by rfl) :
    EO w X cl (.Call (.Name x p) (e :: es) [] pos) (mLo f ma) := by
  obtain ⟨ta, pa, ha⟩ := ha
  refine ⟨_, pe_callB hc hg hm hv pa hn hdb he hpl, fun M q os ev σ H d hm rl Q k => ?_⟩
  obtain ⟨ds, h1, hm⟩ := bind_some' hm
  exact ha M q os ev σ H ds h1 rl _ fun vs H1 x1 r1 => hr _ _ _ _ _ hm ((rl.ex x1).tk w) r1 _ fun p H2 vs hn x2 h2 r2 => k p H2 vs (Evl.fresh_back x1 hn) (x1.trans x2) h2 r2
theorem ev_Ty {T : String} {x : Str} {p : Pos} {r : List L2.V → Hp → VK → Prop} {f : List D → Option D} {ma : Env' → Option (List D)} (hc : CallR X (.type T) r) (hr : RDL X.K cl r f) (hg : Gl X x) (hm : X.mg x = none) (hv : bootBuiltins x = some (.type T)) (ha : EA w X cl (e :: es) ma)
    (hn : x ≠ "__name__") (hdb : (x == ("__debug__" : Str)) = false) (he : starEach (e :: es) X.env = (false, eval e X.env) :: starEach es X.env := by rfl) (hpl : (backTo pos (starEach es X.env)).any (·.1) = false := by rfl) :
    EV w X cl (.Call (.Name x p) (e :: es) [] pos) (mL f ma) := by
  obtain ⟨ta, pa, ha⟩ := ha
  refine ⟨_, pe_callTy hc hg hm hv pa hn hdb he hpl, fun M q os ev σ H d hm rl Q k => ?_⟩
  obtain ⟨ds, h1, hm⟩ := bind_some' hm
  exact ha M q os ev σ H ds h1 rl _ fun vs H1 x1 r1 => hr _ _ _ _ _ hm ((rl.ex x1).tk w) r1 _ fun v H2 x2 r2 => k v H2 (x1.trans x2) r2
theorem eo_Ty {T : String} {x : Str} {p : Pos} {r : List L2.V → Hp → VK → Prop} {f : List D → Option (List D)} {ma : Env' → Option (List D)} (hc : CallR X (.type T) r) (hr : ROL X.K cl r f) (hg : Gl X x) (hm : X.mg x = none) (hv : bootBuiltins x = some (.type T)) (ha : EA w X cl (e :: es) ma)
    (hn : x ≠ "__name__") (hdb : (x == ("__debug__" : Str)) = false) (he : starEach (e :: es) X.env = (false, eval e X.env) :: starEach es X.env := by rfl) (hpl : (backTo pos (starEach es X.env)).any (·.1) = false := by rfl) :
    EO w X cl (.Call (.Name x p) (e :: es) [] pos) (mLo f ma) := by
  obtain ⟨ta, pa, ha⟩ := ha
  refine ⟨_, pe_callTy hc hg hm hv pa hn hdb he hpl, fun M q os ev σ H d hm rl Q k => ?_⟩
  obtain ⟨ds, h1, hm⟩ := bind_some' hm
  exact ha M q os ev σ H ds h1 rl _ fun vs H1 x1 r1 => hr _ _ _ _ _ hm ((rl.ex x1).tk w) r1 _ fun p H2 vs hn x2 h2 r2 => k p H2 vs (Evl.fresh_back x1 hn) (x1.trans x2) h2 r2
/-- the answer is flat: the arguments may be owned -/
def fL (f : List D → Option D) : Prop := ∀ ds d, f ds = some d → d.flat = true
theorem ev_fl {ma : Env' → Option (List D)} {f : List D → Option D} (hf : fL f) (h : EV false X cl e (mL f ma)) : EV w X cl e (mL f ma) := by
  obtain ⟨te, hp, h⟩ := h
  refine ⟨te, hp, fun M q os ev σ H d hm r Q k => h M q os ev σ H d hm r Q fun v H' x r' => ?_⟩
  obtain ⟨ds, h1, h2⟩ := bind_some' hm
  exact k v H' x (r'.flat (hf _ _ h2))

def bLen : List D → Option D
  | [.lst xs] => some (.int xs.length)
  | [.tup xs] => some (.int xs.length)
  | [.scr xs] => some (.int xs.length)
  | [.str s] => if s.length ≤ 1000000 then some (.int s.length) else none
  | _ => none
def rLenD (K : Fg) : List L2.V → Hp → VK → Prop := fun xs H Q => (∃ p ys, xs = [.ref p] ∧ (SqL K H p ys ∨ SqT K H p ys) ∧ Q (.int ys.length) H) ∨ (∃ z, xs = [.str z] ∧ z.length ≤ sizeLine ∧ Q (.int z.length) H)
theorem call_lenD' : CallR X (.builtin "len") (rLenD X.K) := call_len_seq.or call_len_str
theorem reps1 {H : Hp} {vs : List L2.V} {d : D} (h : Reps K cl H vs [d]) : ∃ v, vs = [v] ∧ Rep K cl H v d := by
  obtain ⟨v, r, rfl, h1, h2⟩ := Reps.cons_iff.1 h
  rw [Reps.nil_iff.1 h2]
  exact ⟨v, rfl, h1⟩
theorem reps2 {H : Hp} {vs : List L2.V} {d e : D} (h : Reps K cl H vs [d, e]) : ∃ v u, vs = [v, u] ∧ Rep K cl H v d ∧ Rep K cl H u e := by
  obtain ⟨v, r, rfl, h1, h2⟩ := Reps.cons_iff.1 h
  obtain ⟨u, rfl, h3⟩ := reps1 h2
  exact ⟨v, u, rfl, h1, h3⟩
theorem rdl_len : RDL K cl (rLenD K) bLen := by
  intro M H x d d' hf t hx Q k
  unfold bLen at hf
  split at hf
  · cases hf
    obtain ⟨v, rfl, h⟩ := reps1 hx
    obtain ⟨a, vs, rfl, ha, ra⟩ := rep_list.1 h
    exact .inl ⟨a, vs, rfl, .inl (.of (hid_some ha).2), k _ H Ex0 (rep_int.2 (by rw [ra.length]))⟩
  · cases hf
    obtain ⟨v, rfl, h⟩ := reps1 hx
    obtain ⟨a, vs, rfl, ha, ra⟩ := rep_tup.1 h
    exact .inl ⟨a, vs, rfl, .inr (.of (hid_some ha).2), k _ H Ex0 (rep_int.2 (by rw [ra.length]))⟩
  · cases hf
    obtain ⟨v, rfl, h⟩ := reps1 hx
    obtain ⟨a, rfl, ha⟩ := rep_scr.1 h
    exact .inl ⟨a, _, rfl, .inl (sq_hid ha), k _ H Ex0 (rep_int.2 (by rw [List.length_map]))⟩
  · split at hf
    · cases hf
      obtain ⟨v, rfl, h⟩ := reps1 hx
      exact .inr ⟨_, by rw [rep_str.1 h], by rw [sizeLine_eq]; omega, k _ H Ex0 (rep_int.2 rfl)⟩
    · cases hf
  · cases hf
theorem fl_len : fL bLen := by
  intro ds d h
  unfold bLen at h
  split at h
  · cases h; rfl
  · cases h; rfl
  · cases h; rfl
  · split at h <;> cases h
    rfl
  · cases h
def bInt : List D → Option D
  | [.int i] => some (.int i)
  | [.bl b] => some (.int (if b then 1 else 0))
  | _ => none
theorem rdl_int : RDL K cl (fun xs H Q => (∃ i, xs = [.int i] ∧ Q (.int i) H) ∨ ∃ k, xs = [.bl k] ∧ Q (.int (if k then 1 else 0)) H) bInt := by
  intro M H x d d' hf t hx Q k
  unfold bInt at hf
  split at hf
  · cases hf
    obtain ⟨v, rfl, h⟩ := reps1 hx
    exact .inl ⟨_, by rw [rep_int.1 h], k _ H Ex0 (rep_int.2 rfl)⟩
  · cases hf
    obtain ⟨v, rfl, h⟩ := reps1 hx
    exact .inr ⟨_, by rw [rep_bl.1 h], k _ H Ex0 (rep_int.2 rfl)⟩
  · cases hf
def bAbs : List D → Option D
  | [.int i] => some (.int (if i < 0 then -i else i))
  | _ => none
theorem rdl_abs : RDL K cl (fun xs H Q => ∃ i, xs = [.int i] ∧ Q (.int (if i < 0 then -i else i)) H) bAbs := by
  intro M H x d d' hf t hx Q k
  unfold bAbs at hf
  split at hf
  · cases hf
    obtain ⟨v, rfl, h⟩ := reps1 hx
    exact ⟨_, by rw [rep_int.1 h], k _ H Ex0 (rep_int.2 rfl)⟩
  · cases hf
def bMax : List D → Option D
  | [.int i, .int j] => some (.int (if j > i then j else i))
  | _ => none
theorem rdl_max : RDL K cl (fun xs H Q => ∃ i j, xs = [.int i, .int j] ∧ Q (.int (if j > i then j else i)) H) bMax := by
  intro M H x d d' hf t hx Q k
  unfold bMax at hf
  split at hf
  · cases hf
    obtain ⟨v, u, rfl, h, g⟩ := reps2 hx
    exact ⟨_, _, by rw [rep_int.1 h, rep_int.1 g], k _ H Ex0 (rep_int.2 rfl)⟩
  · cases hf
def bMin : List D → Option D
  | [.int i, .int j] => some (.int (if j < i then j else i))
  | _ => none
theorem rdl_min : RDL K cl (fun xs H Q => ∃ i j, xs = [.int i, .int j] ∧ Q (.int (if j < i then j else i)) H) bMin := by
  intro M H x d d' hf t hx Q k
  unfold bMin at hf
  split at hf
  · cases hf
    obtain ⟨v, u, rfl, h, g⟩ := reps2 hx
    exact ⟨_, _, by rw [rep_int.1 h, rep_int.1 g], k _ H Ex0 (rep_int.2 rfl)⟩
  · cases hf
/-- all of them numbers -/
def ints? : List D → Option (List Int)
  | [] => some []
  | .int i :: r => (ints? r).map fun ns => i :: ns
  | _ :: _ => none
theorem ints?_map (ns : List Int) : ints? (ns.map D.int) = some ns := by
  induction ns with
  | nil => rfl
  | cons n ns ih => rw [List.map_cons, ints?, ih]; rfl
theorem ints?_rep {H : Hp} : ∀ {ds : List D} {vs : List L2.V} {ns : List Int}, Reps K cl H vs ds → ints? ds = some ns → vs = ns.map V.int ∧ ds = ns.map D.int
  | [], vs, ns, h, e => by rw [Reps.nil_iff.1 h]; cases e; exact ⟨rfl, rfl⟩
  | d :: ds, vs, ns, h, e => by
    obtain ⟨v, r, rfl, h1, t⟩ := Reps.cons_iff.1 h
    cases d <;> first | (cases e; done) | skip
    rw [ints?] at e
    obtain ⟨ms, e1, rfl⟩ := Option.map_eq_some_iff.1 e
    obtain ⟨g1, g2⟩ := ints?_rep t e1
    rw [g1, rep_int.1 h1, List.map_cons, List.map_cons, ← g2]
    exact ⟨rfl, rfl⟩
def bSum : List D → Option D
  | [.lst xs] => (ints? xs).map fun ns => .int ns.sum
  | _ => none
theorem rdl_sum : RDL K cl (rSum K) bSum := by
  intro M H x d d' hf t hx Q k
  unfold bSum at hf
  split at hf
  · obtain ⟨ns, h1, rfl⟩ := Option.map_eq_some_iff.1 hf
    obtain ⟨v, rfl, h⟩ := reps1 hx
    obtain ⟨a, vs, rfl, ha, ra⟩ := rep_list.1 h
    obtain ⟨rfl, _⟩ := ints?_rep ra h1
    exact ⟨a, ns, rfl, .of (hid_some ha).2, k _ H Ex0 (rep_int.2 rfl)⟩
  · cases hf
/-- in order -/
def sortI (ns : List Int) : List Int := ns.mergeSort
theorem sortI_perm (ns : List Int) : (sortI ns).Perm ns := List.mergeSort_perm _ _
theorem sortI_sorted (ns : List Int) : (sortI ns).Pairwise (· ≤ ·) := by
  have := List.pairwise_mergeSort (le := fun (a b : Int) => decide (a ≤ b)) (fun a b c h1 h2 => by simp at *; omega) (fun a b => by simp; omega) ns
  exact this.imp fun h => by simpa using h
theorem sortI_the {ns ms : List Int} (h : ms.Perm ns) (s : ms.Pairwise (· ≤ ·)) : ms = sortI ns :=
  (h.trans (sortI_perm ns).symm).eq_of_pairwise (fun a b _ _ h1 h2 => Int.le_antisymm h1 h2) s (sortI_sorted ns)
def bSorted : List D → Option (List D)
  | [.lst xs] => (ints? xs).map fun ns => (sortI ns).map D.int
  | _ => none
theorem rol_sorted : ROL K cl (rSortedI K) bSorted := by
  intro M H x d d' hf t hx Q k
  unfold bSorted at hf
  split at hf
  · obtain ⟨ns, h1, rfl⟩ := Option.map_eq_some_iff.1 hf
    obtain ⟨v, rfl, h⟩ := reps1 hx
    obtain ⟨a, vs, rfl, ha, ra⟩ := rep_list.1 h
    obtain ⟨rfl, _⟩ := ints?_rep ra h1
    refine ⟨a, ns, rfl, .of (hid_some ha).2, fun ns' p g1 g2 hn => ?_⟩
    rw [sortI_the g1 g2]
    obtain ⟨e1, e2, e3⟩ := new_lst hn t (Reps.ints (sortI ns))
    exact k p _ _ hn e1 e2 e3
  · cases hf
def bList : List D → Option (List D)
  | [.lst xs] => some xs
  | [.tup xs] => some xs
  | [.scr ns] => some (ns.map D.int)
  | _ => none
theorem rol_list : ROL K cl (fun xs H Q => ∃ p ys, xs = [.ref p] ∧ (SqL K H p ys ∨ SqT K H p ys) ∧ ∀ l, H l = none → Q (.ref l) (upd H l (.lst ys))) bList := by
  intro M H x d d' hf t hx Q k
  unfold bList at hf
  split at hf
  · cases hf
    obtain ⟨v, rfl, h⟩ := reps1 hx
    obtain ⟨a, vs, rfl, ha, ra⟩ := rep_list.1 h
    refine ⟨a, vs, rfl, .inl (.of (hid_some ha).2), fun l hn => ?_⟩
    obtain ⟨e1, e2, e3⟩ := new_lst hn t ra
    exact k l _ _ hn e1 e2 e3
  · cases hf
    obtain ⟨v, rfl, h⟩ := reps1 hx
    obtain ⟨a, vs, rfl, ha, ra⟩ := rep_tup.1 h
    refine ⟨a, vs, rfl, .inr (.of (hid_some ha).2), fun l hn => ?_⟩
    obtain ⟨e1, e2, e3⟩ := new_lst hn t ra
    exact k l _ _ hn e1 e2 e3
  · cases hf
    obtain ⟨v, rfl, h⟩ := reps1 hx
    obtain ⟨a, rfl, ha⟩ := rep_scr.1 h
    refine ⟨a, _, rfl, .inl (sq_hid ha), fun l hn => ?_⟩
    obtain ⟨e1, e2, e3⟩ := new_lst hn t (Reps.ints _)
    exact k l _ _ hn e1 e2 e3
  · cases hf
def bTuple : List D → Option D
  | [.lst xs] => some (.tup xs)
  | [.tup xs] => some (.tup xs)
  | _ => none
theorem rdl_tuple : RDL K cl (fun xs H Q => ∃ p ys, xs = [.ref p] ∧ ((SqL K H p ys ∧ ∀ l, H l = none → Q (.ref l) (upd H l (.tup ys))) ∨ (SqT K H p ys ∧ Q (.ref p) H))) bTuple := by
  intro M H x d d' hf t hx Q k
  unfold bTuple at hf
  split at hf
  · cases hf
    obtain ⟨v, rfl, h⟩ := reps1 hx
    obtain ⟨a, vs, rfl, ha, ra⟩ := rep_list.1 h
    refine ⟨a, vs, rfl, .inl ⟨.of (hid_some ha).2, fun l hn => ?_⟩⟩
    obtain ⟨e1, e2⟩ := new_tup hn t ra
    exact k _ _ e1 e2
  · cases hf
    obtain ⟨v, rfl, h⟩ := reps1 hx
    obtain ⟨a, vs, rfl, ha, ra⟩ := rep_tup.1 h
    exact ⟨a, vs, rfl, .inr ⟨.of (hid_some ha).2, k _ H Ex0 h⟩⟩
  · cases hf
/-- list(range(..)) -/
def RgOkB (a b : Int) : Bool := decide (-1000000 ≤ a) && (decide (a ≤ 1000000) && (decide (-1000000 ≤ b) && decide (b ≤ 1000000)))
theorem RgOkB_ok {a b : Int} (h : RgOkB a b = true) : RgOk a b := by
  unfold RgOkB at h
  simp only [Bool.and_eq_true, decide_eq_true_eq] at h
  obtain ⟨h1, h2, h3, h4⟩ := h
  exact ⟨by omega, by omega, by omega, by omega, by omega⟩
def rgI (a b : Int) : List Int := (List.range (b - a).toNat).map fun (i : Nat) => a + (i : Int)
theorem rgV_eq (a b : Int) : rgV a b = (rgI a b).map V.int := by
  unfold rgV rgI
  rw [List.map_map]
  rfl
def xrg1 (ma : Env' → Option D) : Env' → Option (Int × Int) := fun ev => match ma ev with
  | some (.int n) => some (0, n)
  | _ => none
def xrg2 (ma mb : Env' → Option D) : Env' → Option (Int × Int) := fun ev => match ma ev, mb ev with
  | some (.int a), some (.int b) => some (a, b)
  | _, _ => none
def ER (w : Bool) (X : Cx) (cl : Str → Addr) (e : Expr) (m : Env' → Option (Int × Int)) : Prop :=
  ∃ te, PRg X e te ∧ ∀ M q os ev σ H d, m ev = some d → Rl X.K cl M q os ev σ H → ∀ Q : Int → Int → Hp → Prop, (∀ H', Ex H H' → Q d.1 d.2 H') → te σ H Q
theorem er_1 {p : Pos} (hg : Gl X "range") (hm : X.mg "range" = none) (ha : EV w X cl a ma) (na : starEach [a] X.env = (false, eval a X.env) :: starEach [] X.env := by rfl) : ER w X cl (.Call (.Name "range" p) [a] [] pos) (xrg1 ma) := by
  obtain ⟨ta, pa, ha⟩ := ha
  refine ⟨_, prg_1 hg hm pa na, fun M q os ev σ H d hm rl Q k => ?_⟩
  unfold xrg1 at hm
  split at hm
  · next n hn =>
    cases hm
    exact ha M q os ev σ H _ hn rl _ fun v H1 x1 r1 => ⟨n, rep_int.1 r1, k H1 x1⟩
  · cases hm
theorem er_2 {p : Pos} (hg : Gl X "range") (hm : X.mg "range" = none) (ha : EV w X cl a ma) (hb : EV w X cl b mb) (na : starEach [a, b] X.env = (false, eval a X.env) :: starEach [b] X.env := by rfl) (nb : starEach [b] X.env = (false, eval b X.env) :: starEach [] X.env := by rfl) : ER w X cl (.Call (.Name "range" p) [a, b] [] pos) (xrg2 ma mb) := by
  obtain ⟨ta, pa, ha⟩ := ha
  obtain ⟨tb, pb, hb⟩ := hb
  refine ⟨_, prg_2 hg hm pa pb na nb (by rw [nb]; rfl), fun M q os ev σ H d hm rl Q k => ?_⟩
  unfold xrg2 at hm
  split at hm
  · next n m hn hm' =>
    cases hm
    exact ha M q os ev σ H _ hn rl _ fun v H1 x1 r1 => hb M q os ev σ H1 _ hm' (rl.ex x1) _ fun u H2 x2 r2 => ⟨n, m, rep_int.1 r1, rep_int.1 r2, k H2 (x1.trans x2)⟩
  · cases hm
def xlrg (m : Env' → Option (Int × Int)) : Env' → Option (List D) := fun ev => do
  let p ← m ev
  if RgOkB p.1 p.2 = true then some ((rgI p.1 p.2).map D.int) else none
theorem eo_listRg {m : Env' → Option (Int × Int)} {p : Pos} (hc : X.calm = true) (hg : Gl X "list") (hm : X.mg "list" = none) (he : ER w X cl e m) (na : starEach [e] X.env = (false, eval e X.env) :: starEach [] X.env := by rfl) : EO w X cl (.Call (.Name "list" p) [e] [] pos) (xlrg m) := by
  obtain ⟨te, pe, he⟩ := he
  refine ⟨_, pe_listRg hc hg hm pe na, fun M q os ev σ H d hm rl Q k => ?_⟩
  obtain ⟨⟨i, j⟩, h1, hm⟩ := bind_some' hm
  split at hm
  · next hc =>
    have hq := Option.some.inj hm
    subst hq
    refine he M q os ev σ H _ h1 rl _ fun H1 x1 => ⟨RgOkB_ok hc, fun y hn => ?_⟩
    rw [rgV_eq]
    obtain ⟨e1, e2, e3⟩ := new_lst hn ((rl.ex x1).tk w) (Reps.ints (rgI i j))
    exact k y _ _ (Evl.fresh_back x1 hn) (x1.trans e1) e2 e3
  · cases hm
/-- n.bit_length() -/
def D.bits : D → Option D
  | .int i => some (.int (Builtin.Int.intBits i : Nat))
  | _ => none
theorem ev_bits {apos : Pos} (ha : EV w X cl a ma) (hbase : attributeBase a "bit_length" X.env (eval a X.env) = eval a X.env := by rfl) (hline : (apos.endLine == pos.line) = true := by rfl) : EV w X cl (.Call (.Attribute a "bit_length" apos) [] [] pos) (m1 D.bits ma) := by
  obtain ⟨ta, pa, ha⟩ := ha
  refine ⟨_, pe_bits pa hbase hline, fun M q os ev σ H d hm rl Q k => ?_⟩
  obtain ⟨x, h1, hm⟩ := bind_some' hm
  unfold D.bits at hm
  split at hm
  · cases hm
    exact ha M q os ev σ H _ h1 rl _ fun v H1 x1 r1 => ⟨_, rep_int.1 r1, k _ H1 x1 (rep_int.2 rfl)⟩
  · cases hm
end
end Lay

namespace Lay
open PySem PySem.Spec PyProof.Rows L2
open Evl (Ex)
/-! ### one reading for all contexts -/
section
variable {w : Bool} {X : Cx} {cl : Str → Addr} {e : Expr}
def cv (w : Bool) (K : Fg) (cl : Str → Addr) (m : Env' → Option D) : TE := fun σ H Q => ∃ M q os ev d, m ev = some d ∧ Rl K cl M q os ev σ H ∧ ∀ v H', Ex H H' → Rep K cl (hid (vw w os M) H') v d → Q v H'
def ct (K : Fg) (cl : Str → Addr) (m : Env' → Option Bool) : TT := fun σ H Q => ∃ M q os ev d, m ev = some d ∧ Rl K cl M q os ev σ H ∧ ∀ H', Ex H H' → Q d H'
theorem EV.pe {m : Env' → Option D} (h : EV w X cl e m) : PE X e (cv w X.K cl m) := by
  obtain ⟨te, hp, h⟩ := h
  exact ⟨fun pins s σ H Q I ⟨M, q, os, ev, d, h1, h2, h3⟩ => hp.run pins s σ H Q I (h M q os ev σ H d h1 h2 Q h3)⟩
theorem ET.pt {m : Env' → Option Bool} (h : ET X cl e m) : PT X e (ct X.K cl m) := by
  obtain ⟨te, hp, h⟩ := h
  exact ⟨fun pins s σ H Q I ⟨M, q, os, ev, d, h1, h2, h3⟩ => hp.run pins s σ H Q I (h M q os ev σ H d h1 h2 Q h3)⟩
end

/-! ### slots that own nothing are set -/
def plainAt (e : List Slot) (i : Nat) : Bool := match e[i]? with
  | some .emp => true
  | some (.val _) => true
  | _ => false
section
variable {K : Fg} {cl : Str → Addr} {V H H' : Hp} {q : Option Addr} {e : List Slot} {σ : L2.St} {os M : List Addr}
theorem SR.set_plain {v : L2.V} {d : D} (h : SR K cl V H q e σ os) (r : Rep K cl V v d) : ∀ {i : Nat}, plainAt e i = true → SR K cl V H q (e.set i (.val d)) (σ.set i (some v)) os := by
  induction h with
  | nil => intro i hi; simp [plainAt] at hi
  | emp h ih => intro i hi; cases i with
    | zero => exact .val r h
    | succ i => exact .emp (ih (by simpa [plainAt] using hi))
  | val r' h ih => intro i hi; cases i with
    | zero => exact .val r h
    | succ i => exact .val r' (ih (by simpa [plainAt] using hi))
  | own h1 h2 h ih => intro i hi; cases i with
    | zero => simp [plainAt] at hi
    | succ i => exact .own h1 h2 (ih (by simpa [plainAt] using hi))
  | par hq h1 h2 h ih => intro i hi; cases i with
    | zero => simp [plainAt] at hi
    | succ i => exact .par hq h1 h2 (ih (by simpa [plainAt] using hi))
theorem SR.emp_plain {x : Option L2.V} (h : SR K cl V H q e σ os) : ∀ {i : Nat}, plainAt e i = true → SR K cl V H q (e.set i .emp) (σ.set i x) os := by
  induction h with
  | nil => intro i hi; simp [plainAt] at hi
  | emp h ih => intro i hi; cases i with
    | zero => exact .emp h
    | succ i => exact .emp (ih (by simpa [plainAt] using hi))
  | val r' h ih => intro i hi; cases i with
    | zero => exact .emp h
    | succ i => exact .val r' (ih (by simpa [plainAt] using hi))
  | own h1 h2 h ih => intro i hi; cases i with
    | zero => simp [plainAt] at hi
    | succ i => exact .own h1 h2 (ih (by simpa [plainAt] using hi))
  | par hq h1 h2 h ih => intro i hi; cases i with
    | zero => simp [plainAt] at hi
    | succ i => exact .par hq h1 h2 (ih (by simpa [plainAt] using hi))
theorem Rl.set_plain {v : L2.V} {d : D} (r : Rl K cl M q os e σ H) (h : Rep K cl (hid (os ++ M) H) v d) {i : Nat} (hi : plainAt e i = true) : Rl K cl M q os (e.set i (.val d)) (σ.set i (some v)) H :=
  ⟨r.sr.set_plain h hi, r.nd, r.dj, r.tr, r.qm⟩
theorem Rl.emp_plain (r : Rl K cl M q os e σ H) {i : Nat} (hi : plainAt e i = true) : Rl K cl M q os (e.set i .emp) (σ.set i none) H :=
  ⟨r.sr.emp_plain hi, r.nd, r.dj, r.tr, r.qm⟩
end
/-! targets -/
def plainAll (e : List Slot) (is : List Nat) : Bool := is.all (plainAt e)
def setL (e : List Slot) : List Nat → List D → List Slot
  | i :: is, d :: ds => setL (e.set i (.val d)) is ds
  | _, _ => e
def wipeE (e : List Slot) (is : List Nat) : List Slot := is.foldr (fun i e => e.set i .emp) e
/-- a name, names in a tuple -/
inductive Tgt where
  | one (i : Nat) | many (is : List Nat)
def Tgt.slots : Tgt → List Nat
  | .one i => [i]
  | .many is => is
def Tgt.put (t : Tgt) (d : D) (e : List Slot) : Option (List Slot) := match t with
  | .one i => if plainAt e i = true then some (e.set i (.val d)) else none
  | .many is => match d with
    | .tup ds => if ds.length = is.length ∧ plainAll e is = true then some (setL e is ds) else none
    | _ => none
theorem plainAt_set {e : List Slot} {i j : Nat} {d : D} (h : plainAt e j = true) : plainAt (e.set i (.val d)) j = true := by
  unfold plainAt at h ⊢
  by_cases hij : i = j
  · subst hij
    cases he : e[i]? with
    | none => rw [he] at h; cases h
    | some x =>
      have : i < e.length := (List.getElem?_eq_some_iff.1 he).1
      rw [List.getElem?_set_self this]
  · rw [List.getElem?_set_ne hij]
    exact h
theorem wipe_set {σ : L2.St} {i : Nat} {x : Option L2.V} : ∀ {vs : List Nat}, i ∈ vs → wipe (σ.set i x) vs = wipe σ vs
  | [], h => by simp at h
  | v :: vs, h => by
    show (wipe (σ.set i x) vs).set v none = (wipe σ vs).set v none
    by_cases hv : i ∈ vs
    · rw [wipe_set hv]
    · rcases List.mem_cons.1 h with rfl | h
      · have : ∀ (vs : List Nat) (σ : L2.St), i ∉ vs → wipe (σ.set i x) vs = (wipe σ vs).set i x := by
          intro vs
          induction vs with
          | nil => intro σ _; rfl
          | cons u us ih =>
            intro σ hu
            have hu' : i ≠ u ∧ i ∉ us := by simpa using hu
            show (wipe (σ.set i x) us).set u none = ((wipe σ us).set u none).set i x
            rw [ih σ hu'.2, List.set_comm _ _ (fun z => hu'.1 z)]
        rw [this vs σ hv, List.set_set]
      · exact absurd h hv
theorem wipe_comm {σ : L2.St} {i : Nat} : ∀ (vs : List Nat), (wipe σ vs).set i none = wipe (σ.set i none) vs
  | [] => rfl
  | v :: vs => by
    show ((wipe σ vs).set v none).set i none = (wipe (σ.set i none) vs).set v none
    by_cases h : v = i
    · subst h
      rw [List.set_set, ← wipe_comm vs, List.set_set]
    · rw [List.set_comm _ _ h, wipe_comm vs]
theorem wipe_wipe {σ : L2.St} : ∀ (us vs : List Nat), (∀ i ∈ us, i ∈ vs) → wipe (wipe σ us) vs = wipe σ vs
  | [], _, _ => rfl
  | u :: us, vs, h => by
    show wipe ((wipe σ us).set u none) vs = _
    rw [wipe_set (h u (by simp)), wipe_wipe us vs fun i hi => h i (by simp [hi])]

/-- the readings of targets -/
def gL : List Nat → TGs
  | [] => gNil
  | i :: is => gCons (gName i) (gL is)
def putV (σ : L2.St) : List Nat → List L2.V → L2.St
  | i :: is, v :: vs => putV (σ.set i (some v)) is vs
  | _, _ => σ
theorem gL_ok : ∀ {is : List Nat} {vs : List L2.V} {σ : L2.St} {H : Hp} {Q : L2.St → Hp → Prop}, vs.length = is.length → Q (putV σ is vs) H → gL is vs σ H Q
  | [], vs, σ, H, Q, hl, hq => ⟨List.length_eq_zero_iff.1 hl, by cases vs <;> exact hq⟩
  | i :: is, [], σ, H, Q, hl, hq => by simp at hl
  | i :: is, v :: vs, σ, H, Q, hl, hq => ⟨v, vs, rfl, gL_ok (is := is) (by simpa using hl) hq⟩
theorem wipe_putV {us : List Nat} : ∀ {is : List Nat} {vs : List L2.V} {σ : L2.St}, (∀ i ∈ is, i ∈ us) → wipe (putV σ is vs) us = wipe σ us
  | [], vs, σ, _ => by cases vs <;> rfl
  | i :: is, [], σ, _ => rfl
  | i :: is, v :: vs, σ, h => by
    show wipe (putV (σ.set i (some v)) is vs) us = _
    rw [wipe_putV fun j hj => h j (by simp [hj]), wipe_set (h i (by simp))]
def tgR (K : Fg) : Tgt → TG
  | .one i => gName i
  | .many is => gTup K is.length (gL is)
abbrev PGT (X : Cx) (tg : Expr) (t : Tgt) : Prop := PG X tg (tgR X.K t)
section
variable {K : Fg} {cl : Str → Addr} {q : Option Addr} {os M : List Addr} {H : Hp}
theorem plainAll_set {e : List Slot} {i : Nat} {d : D} {is : List Nat} (h : plainAll e is = true) : plainAll (e.set i (.val d)) is = true := by
  unfold plainAll at h ⊢
  rw [List.all_eq_true] at h ⊢
  exact fun j hj => plainAt_set (h j hj)
theorem Rl.putV : ∀ {is : List Nat} {vs : List L2.V} {ds : List D} {e : List Slot} {σ : L2.St}, Rl K cl M q os e σ H → Reps K cl (hid (os ++ M) H) vs ds → plainAll e is = true → Rl K cl M q os (setL e is ds) (Lay.putV σ is vs) H
  | [], vs, ds, e, σ, r, h, p => by cases vs <;> cases ds <;> exact r
  | i :: is, vs, [], e, σ, r, h, p => by rw [Reps.nil_iff.1 h]; exact r
  | i :: is, vs, d :: ds, e, σ, r, h, p => by
    obtain ⟨v, us, rfl, h1, h2⟩ := Reps.cons_iff.1 h
    have p' : plainAt e i = true ∧ plainAll e is = true := by
      unfold plainAll at p ⊢
      rw [List.all_cons, Bool.and_eq_true] at p
      exact p
    exact Rl.putV (is := is) (r.set_plain h1 p'.1) h2 (plainAll_set p'.2)
theorem tg_ok {t : Tgt} {e e' : List Slot} {σ : L2.St} {v : L2.V} {d : D} (hp : t.put d e = some e') (r : Rl K cl M q os e σ H) (hv : Rep K cl (hid (os ++ M) H) v d) {Q : L2.St → Hp → Prop}
    (k : ∀ σ', Rl K cl M q os e' σ' H → (∀ us, (∀ i ∈ t.slots, i ∈ us) → wipe σ' us = wipe σ us) → Q σ' H) : tgR K t v σ H Q := by
  cases t with
  | one i =>
    unfold Tgt.put at hp
    simp only at hp
    split at hp
    · next hc =>
      cases hp
      exact k _ (r.set_plain hv hc) fun us hs => wipe_set (hs i (by simp [Tgt.slots]))
    · cases hp
  | many is =>
    unfold Tgt.put at hp
    simp only at hp
    split at hp
    · split at hp
      · next ds hc =>
        cases hp
        obtain ⟨a, vs, rfl, g1, g2⟩ := rep_tup.1 hv
        refine ⟨a, vs, rfl, .of (hid_some g1).2, by rw [g2.length, hc.1], gL_ok (by rw [g2.length, hc.1]) ?_⟩
        exact k _ (r.putV g2 hc.2) fun us hs => wipe_putV hs
      · cases hp
    · cases hp
end
section
variable {X : Cx} {cl : Str → Addr} {pos : Pos}
structure LocAt (X : Cx) (i : Nat) (x : Str) : Prop where
  nd : X.N.Nodup
  ix : X.N[i]? = some x
  loc : Loc X.env.scope x
  fn : X.fn x = true ∨ X.env.scope.names.lookup x = some .local
theorem gt_one {i : Nat} {x : Str} (h : LocAt X i x) : PGT X (.Name x pos) (.one i) := pg_name h.nd h.ix h.loc h.fn
abbrev PGL (X : Cx) (tgs : List Expr) (is : List Nat) : Prop := PGs X tgs (gL is)
theorem gl_nil : PGL X [] [] := pgs_nil
theorem gl_cons {i : Nat} {x : Str} {tgs : List Expr} {is : List Nat} (h : LocAt X i x) (t : PGL X tgs is) (hs : (assignEach (.Name x pos :: tgs) X.env).map (·.2) = assign (.Name x pos) X.env :: (assignEach tgs X.env).map (·.2) := by rfl) : PGL X (.Name x pos :: tgs) (i :: is) :=
  pgs_cons (pg_name h.nd h.ix h.loc h.fn) t hs
theorem gt_many {es : List Expr} {kk : Nat} {is : List Nat} (hc : X.calm = true) (h : PGL X es is) (hn : (assignEach es X.env).length = is.length := by rfl) (hst : (assignEach es X.env).findIdx? (·.1) = none := by rfl) : PGT X (.Tuple es kk pos) (.many is) :=
  pg_tup hc h hn hst
end

/-! ### what is walked -/
def WalkD (K : Fg) (cl : Str → Addr) (W : List Addr) (J : It) (ds : List D) (H' : Hp) : Prop :=
  ∀ W' H2, Ex (hid W H') (hid W' H2) → Tk W' H2 → (∀ i d, ds[i]? = some d → J.go i H2 ∧ ∀ x H3, J.yld i H2 x H3 → Ex H2 H3 ∧ Rep K cl (hid W' H3) x d) ∧ J.stop ds.length H2
def EI (w : Bool) (X : Cx) (cl : Str → Addr) (tg it : Expr) (m : Env' → Option (List D)) : Prop :=
  ∃ wi, PI X tg it wi ∧ ∀ M q os ev σ H ds, m ev = some ds → Rl X.K cl M q os ev σ H → ∀ R : It → Hp → Prop, (∀ J H', Ex H H' → WalkD X.K cl (vw w os M) J ds H' → R J H') → wi σ H R
section
variable {w : Bool} {X : Cx} {cl : Str → Addr} {tg e a b : Expr} {pos : Pos} {m ma mb : Env' → Option D}
def iSeq (K : Fg) (tl : TE) : TI := fun σ H R => tl σ H fun x H1 => (∃ a, x = .ref a ∧ (∃ xs, SqL K H1 a xs) ∧ R (Itl K a) H1) ∨ (∃ a, x = .ref a ∧ (∃ xs, SqT K H1 a xs) ∧ R (Itt K a) H1)
theorem pi_seq {l : Expr} {tl : TE} (hl : PE X l tl) : PI X tg l (iSeq X.K tl) := by
  refine ⟨fun pins s σ H R I h => ?_⟩
  refine thn (hl.run pins s σ H _ I h) fun v s1 ⟨x, H1, I1, r1, q1⟩ => ?_
  rcases q1 with ⟨a, e, ⟨xs, hq⟩, q⟩ | ⟨a, e, ⟨xs, hq⟩, q⟩
  · subst e
    cases r1
    obtain ⟨its, rv, p, hz⟩ := I1.list hq
    refine wpAny_pyIter_list p.isList ?_
    refine ⟨s1.heap.objs.size, [s1.heap.objs.size], _, _, H1, rfl, I1.kept (t' := s1.toks) fun b o e => Heap.get?_push_of_some _ e, turn_list a _, ⟨_, Heap.get?_push_size _ rfl, rfl, rfl⟩, fun b hb => ?_, q⟩
    have e : b = s1.heap.objs.size := by simpa using hb
    subst e
    exact I1.fpOk (Nat.le_refl _) (I1.hok.fresh (Nat.le_refl _))
  · subst e
    cases r1
    obtain ⟨its, rv, p, hz⟩ := I1.tuple hq
    refine wpAny_pyIter_tuple (show s1.heap.IsTuple a its.toArray from p) ?_
    refine ⟨s1.heap.objs.size, [s1.heap.objs.size], _, _, H1, rfl, I1.kept (t' := s1.toks) fun b o e => Heap.get?_push_of_some _ e, turn_tuple a _, ⟨_, Heap.get?_push_size _ rfl, rfl, rfl⟩, fun b hb => ?_, q⟩
    have e : b = s1.heap.objs.size := by simpa using hb
    subst e
    exact I1.fpOk (Nat.le_refl _) (I1.hok.fresh (Nat.le_refl _))
def iSeqD : D → Option (List D)
  | .lst xs => some xs
  | .tup xs => some xs
  | _ => none
def iseq (ma : Env' → Option D) : Env' → Option (List D) := fun ev => do let d ← ma ev; iSeqD d
theorem ei_seq (ha : EV w X cl e m) : EI w X cl tg e (iseq m) := by
  obtain ⟨te, hp, h⟩ := ha
  refine ⟨_, pi_seq hp, fun M q os ev σ H ds hm rl R k => ?_⟩
  obtain ⟨d, h1, hm⟩ := bind_some' hm
  refine h M q os ev σ H d h1 rl _ fun v H1 x1 r1 => ?_
  unfold iSeqD at hm
  split at hm
  · cases hm
    obtain ⟨a, vs, rfl, g1, g2⟩ := rep_list.1 r1
    refine .inl ⟨a, rfl, ⟨vs, .of (hid_some g1).2⟩, k _ H1 x1 fun W' H2 x2 t2 => ?_⟩
    have h2 : SqL X.K H2 a vs := .of (hid_some (x2 _ _ g1)).2
    refine ⟨fun i d hd => ?_, ⟨vs, h2, Nat.le_of_eq g2.length⟩⟩
    obtain ⟨v, e1, e2⟩ := g2.get hd
    refine ⟨⟨vs, v, h2, e1⟩, fun x H3 ⟨y1, y2⟩ => ?_⟩
    subst y1
    have := (y2 vs h2).symm.trans e1
    cases this
    exact ⟨Ex0, e2.mono x2⟩
  · cases hm
    obtain ⟨a, vs, rfl, g1, g2⟩ := rep_tup.1 r1
    refine .inr ⟨a, rfl, ⟨vs, .of (hid_some g1).2⟩, k _ H1 x1 fun W' H2 x2 t2 => ?_⟩
    have h2 : SqT X.K H2 a vs := .of (hid_some (x2 _ _ g1)).2
    refine ⟨fun i d hd => ?_, ⟨vs, h2, Nat.le_of_eq g2.length⟩⟩
    obtain ⟨v, e1, e2⟩ := g2.get hd
    refine ⟨⟨vs, v, h2, e1⟩, fun x H3 ⟨y1, y2⟩ => ?_⟩
    subst y1
    have := (y2 vs h2).symm.trans e1
    cases this
    exact ⟨Ex0, e2.mono x2⟩
  · cases hm
def rgB (a b : Int) : Bool := decide (-1000000000 ≤ a) && (decide (a ≤ 1000000000) && (decide (-1000000000 ≤ b) && decide (b ≤ 1000000000)))
theorem rgB_ok {a b : Int} (h : rgB a b = true) : -(2 ^ 62) ≤ a ∧ a < 2 ^ 62 ∧ -(2 ^ 62) ≤ b ∧ b < 2 ^ 62 := by
  unfold rgB at h
  simp only [Bool.and_eq_true, decide_eq_true_eq] at h
  obtain ⟨h1, h2, h3, h4⟩ := h
  exact ⟨by omega, by omega, by omega, by omega⟩
theorem rgI_get {a b : Int} {i : Nat} {d : D} (h : ((rgI a b).map D.int)[i]? = some d) : i < (b - a).toNat ∧ d = .int (a + i) := by
  unfold rgI at h
  rw [List.map_map, List.getElem?_map] at h
  obtain ⟨j, h1, h2⟩ := Option.map_eq_some_iff.1 h
  have h3 : i < (b - a).toNat := by simpa using (List.getElem?_eq_some_iff.1 h1).1
  rw [List.getElem?_range h3] at h1
  cases h1
  exact ⟨h3, h2.symm⟩
theorem rgI_len {a b : Int} : ((rgI a b).map D.int).length = (b - a).toNat := by
  unfold rgI
  rw [List.length_map, List.length_map, List.length_range]
theorem walk_rg {K : Fg} {W : List Addr} {H : Hp} (a b : Int) : WalkD K cl W (Itr a (b - a).toNat) ((rgI a b).map D.int) H := fun W' H2 x2 t2 => by
  refine ⟨fun i d hd => ?_, by rw [rgI_len]; exact Nat.le_refl _⟩
  obtain ⟨h1, rfl⟩ := rgI_get hd
  exact ⟨h1, fun x H3 ⟨y1, y2⟩ => by subst y1; subst y2; exact ⟨Ex0, rep_int.2 rfl⟩⟩
def irg1 (ma : Env' → Option D) : Env' → Option (List D) := fun ev => match ma ev with
  | some (.int b) => if rgB 0 b = true then some ((rgI 0 b).map D.int) else none
  | _ => none
def irg2 (ma mb : Env' → Option D) : Env' → Option (List D) := fun ev => match ma ev, mb ev with
  | some (.int a), some (.int b) => if rgB a b = true then some ((rgI a b).map D.int) else none
  | _, _ => none
theorem ei_rg1 {p : Pos} (hg : Gl X "range") (hm : X.mg "range" = none) (ha : EV false X cl a ma) (hs : starEach [a] X.env = [(false, eval a X.env)] := by rfl) : EI w X cl tg (.Call (.Name "range" p) [a] [] pos) (irg1 ma) := by
  obtain ⟨te, hp, h⟩ := ha
  refine ⟨_, pi_range1 hg hm (pa_cons hp pa_nil hs) hs, fun M q os ev σ H ds hm rl R k => ?_⟩
  unfold irg1 at hm
  split at hm
  · next b h1 =>
    split at hm
    · next hc =>
      cases hm
      refine h M q os ev σ H _ h1 rl _ fun v H1 x1 r1 => ?_
      rw [rep_int.1 r1]
      refine ⟨b, rfl, (rgB_ok hc).2.2.1, (rgB_ok hc).2.2.2, k _ H1 x1 ?_⟩
      have := walk_rg (cl := cl) (K := X.K) (W := vw w os M) (H := H1) 0 b
      rw [Int.sub_zero] at this
      exact this
    · cases hm
  · cases hm
theorem ei_rg2 {p : Pos} (hg : Gl X "range") (hm : X.mg "range" = none) (ha : EV false X cl a ma) (hb : EV false X cl b mb) (hs : starEach [a, b] X.env = [(false, eval a X.env), (false, eval b X.env)] := by rfl) (hs2 : starEach [b] X.env = [(false, eval b X.env)] := by rfl) : EI w X cl tg (.Call (.Name "range" p) [a, b] [] pos) (irg2 ma mb) := by
  obtain ⟨te, hp, h⟩ := ha
  obtain ⟨tf, gp, g⟩ := hb
  refine ⟨_, pi_range2 hg hm (pa_cons hp (pa_cons gp pa_nil hs2) (by rw [hs, hs2])) hs hs2, fun M q os ev σ H ds hm rl R k => ?_⟩
  unfold irg2 at hm
  split at hm
  · next a' b' h1 h2 =>
    split at hm
    · next hc =>
      cases hm
      refine h M q os ev σ H _ h1 rl _ fun v H1 x1 r1 => g M q os ev σ H1 _ h2 (rl.ex x1) _ fun u H2 x2 r2 => ?_
      rw [rep_int.1 r1, rep_int.1 r2]
      exact ⟨a', b', rfl, rgB_ok hc, k _ H2 (x1.trans x2) (walk_rg a' b')⟩
    · cases hm
  · cases hm
/-- enumerate of a list -/
def enumD (n : Nat) : List D → List D
  | [] => []
  | d :: ds => .tup [.int n, d] :: enumD (n + 1) ds
theorem enumD_len : ∀ (n : Nat) (ds : List D), (enumD n ds).length = ds.length
  | _, [] => rfl
  | n, d :: ds => by simp [enumD, enumD_len (n + 1) ds]
theorem enumD_get : ∀ {n : Nat} {ds : List D} {i : Nat} {d : D}, (enumD n ds)[i]? = some d → ∃ x, ds[i]? = some x ∧ d = .tup [.int ((n + i : Nat) : Int), x]
  | _, [], i, d, h => by simp [enumD] at h
  | n, x :: ds, 0, d, h => by simp [enumD] at h; exact ⟨x, rfl, h.symm⟩
  | n, x :: ds, i + 1, d, h => by
    obtain ⟨y, h1, h2⟩ := enumD_get (n := n + 1) (ds := ds) (i := i) (d := d) (by simpa [enumD] using h)
    exact ⟨y, by simpa using h1, by rw [h2, Nat.add_right_comm]; rfl⟩
def ienum (ma : Env' → Option D) : Env' → Option (List D) := fun ev => match ma ev with
  | some (.lst xs) => some (enumD 0 xs)
  | _ => none
theorem pair_new {K : Fg} {W : List Addr} {H2 : Hp} {T : Addr} {x y : L2.V} {d e : D} (t : Tk W H2) (hn : H2 T = none) (hx : Rep K cl (hid W H2) x d) (hy : Rep K cl (hid W H2) y e) : Ex H2 (upd H2 T (.tup [x, y])) ∧ Rep K cl (hid W (upd H2 T (.tup [x, y]))) (.ref T) (.tup [d, e]) :=
  new_tup hn t (Reps.cons hx (Reps.cons hy Reps.nil))
theorem ei_enum {elts : List Expr} {kk : Nat} {p tpos : Pos} (hg : Gl X "enumerate") (hm : X.mg "enumerate" = none) (ha : EV w X cl e m) (hs : starEach [e] X.env = [(false, eval e X.env)] := by rfl) : EI w X cl (.Tuple elts kk tpos) (.Call (.Name "enumerate" p) [e] [] pos) (ienum m) := by
  obtain ⟨te, hp, h⟩ := ha
  refine ⟨_, pi_enum hg hm (pa_cons hp pa_nil hs) hs, fun M q os ev σ H ds hm rl R k => ?_⟩
  unfold ienum at hm
  split at hm
  · next xs h1 =>
    cases hm
    refine h M q os ev σ H _ h1 rl _ fun v H1 x1 r1 => ?_
    obtain ⟨a, vs, rfl, g1, g2⟩ := rep_list.1 r1
    refine ⟨a, vs, rfl, .of (hid_some g1).2, k _ H1 x1 fun W' H2 x2 t2 => ?_⟩
    have h2 : SqL X.K H2 a vs := .of (hid_some (x2 _ _ g1)).2
    have WK := walk_enum (K := X.K) (a := a) (xs := vs)
    refine ⟨fun i d hd => ?_, by rw [enumD_len, ← g2.length]; exact WK.stops H2 h2⟩
    obtain ⟨x, e1, rfl⟩ := enumD_get hd
    obtain ⟨u, e2, e3⟩ := g2.get e1
    have hi : i < vs.length := (List.getElem?_eq_some_iff.1 e2).1
    refine ⟨WK.goes i H2 hi h2, fun y H3 hy => ?_⟩
    obtain ⟨T, y1, y2, rfl, hT, rfl, hy1, hy2⟩ := WK.yields i H2 y H3 hi h2 hy
    have hy2' := e2.symm.trans hy2
    cases hy2'
    have hy1' := Option.some.inj hy1
    subst hy1'
    rw [Nat.zero_add]
    exact pair_new t2 hT (rep_int.2 rfl) (e3.mono x2)
  · cases hm
/-- zip of two lists -/
def zipD : List D → List D → List D
  | d :: ds, e :: es => .tup [d, e] :: zipD ds es
  | _, _ => []
theorem zipD_len : ∀ (ds es : List D), (zipD ds es).length = min ds.length es.length
  | [], _ => by simp [zipD]
  | _ :: _, [] => by simp [zipD]
  | d :: ds, e :: es => by simp [zipD, zipD_len ds es]
theorem zipD_get : ∀ {ds es : List D} {i : Nat} {d : D}, (zipD ds es)[i]? = some d → ∃ x y, ds[i]? = some x ∧ es[i]? = some y ∧ d = .tup [x, y]
  | [], _, i, d, h => by simp [zipD] at h
  | _ :: _, [], i, d, h => by simp [zipD] at h
  | x :: ds, y :: es, 0, d, h => by simp [zipD] at h; exact ⟨x, y, rfl, rfl, h.symm⟩
  | x :: ds, y :: es, i + 1, d, h => by
    obtain ⟨x', y', h1, h2, h3⟩ := zipD_get (ds := ds) (es := es) (i := i) (d := d) (by simpa [zipD] using h)
    exact ⟨x', y', by simpa using h1, by simpa using h2, h3⟩
def izip (ma mb : Env' → Option D) : Env' → Option (List D) := fun ev => match ma ev, mb ev with
  | some (.lst xs), some (.lst ys) => some (zipD xs ys)
  | _, _ => none
theorem ei_zip {elts : List Expr} {kk : Nat} {p tpos : Pos} (hg : Gl X "zip") (hm : X.mg "zip" = none) (ha : EV w X cl a ma) (hb : EV w X cl b mb) (hs : starEach [a, b] X.env = [(false, eval a X.env), (false, eval b X.env)] := by rfl) (hs2 : starEach [b] X.env = [(false, eval b X.env)] := by rfl) : EI w X cl (.Tuple elts kk tpos) (.Call (.Name "zip" p) [a, b] [] pos) (izip ma mb) := by
  obtain ⟨te, hp, h⟩ := ha
  obtain ⟨tf, gp, g⟩ := hb
  refine ⟨_, pi_zip hg hm (pa_cons hp (pa_cons gp pa_nil hs2) (by rw [hs, hs2])) (by rw [hs, hs2]) (by rw [hs2]; rfl), fun M q os ev σ H ds hm rl R k => ?_⟩
  unfold izip at hm
  split at hm
  · next xs ys h1 h2 =>
    cases hm
    refine h M q os ev σ H _ h1 rl _ fun v H1 x1 r1 => g M q os ev σ H1 _ h2 (rl.ex x1) _ fun u H2 x2 r2 => ?_
    obtain ⟨a, vs, rfl, g1, g2⟩ := rep_list.1 (r1.mono (ex_hid x2))
    obtain ⟨b, us, rfl, f1, f2⟩ := rep_list.1 r2
    refine ⟨a, b, vs, us, rfl, .of (hid_some g1).2, .of (hid_some f1).2, k _ H2 (x1.trans x2) fun W' H3 x3 t3 => ?_⟩
    have s1 : SqL X.K H3 a vs := .of (hid_some (x3 _ _ g1)).2
    have s2 : SqL X.K H3 b us := .of (hid_some (x3 _ _ f1)).2
    have WK := walk_zip (K := X.K) (a := a) (b := b) (xs := vs) (ys := us) rfl
    refine ⟨fun i d hd => ?_, by rw [zipD_len, ← g2.length, ← f2.length]; exact WK.stops H3 ⟨s1, s2⟩⟩
    obtain ⟨x, y, e1, e2, rfl⟩ := zipD_get hd
    obtain ⟨x', e3, e4⟩ := g2.get e1
    obtain ⟨y', e5, e6⟩ := f2.get e2
    have hi : i < min vs.length us.length := by
      have := (List.getElem?_eq_some_iff.1 e3).1
      have := (List.getElem?_eq_some_iff.1 e5).1
      omega
    refine ⟨WK.goes i H3 hi ⟨s1, s2⟩, fun z H4 hz => ?_⟩
    obtain ⟨T, z1, z2, rfl, hT, rfl, hz1, hz2⟩ := WK.yields i H3 z H4 hi ⟨s1, s2⟩ hz
    have hz1' := e3.symm.trans hz1
    have hz2' := e5.symm.trans hz2
    cases hz1'
    cases hz2'
    exact pair_new t3 hT (e4.mono x3) (e6.mono x3)
  · cases hm
/-- reversed(list) -/
def irev (ma : Env' → Option D) : Env' → Option (List D) := fun ev => match ma ev with
  | some (.lst xs) => some xs.reverse
  | _ => none
theorem ei_rev {p : Pos} (hg : Gl X "reversed") (hm : X.mg "reversed" = none) (ha : EV w X cl e m) (hs : starEach [e] X.env = [(false, eval e X.env)] := by rfl) : EI w X cl tg (.Call (.Name "reversed" p) [e] [] pos) (irev m) := by
  obtain ⟨te, hp, h⟩ := ha
  refine ⟨_, pi_reversed hg hm (pa_cons hp pa_nil hs) hs, fun M q os ev σ H ds hm rl R k => ?_⟩
  unfold irev at hm
  split at hm
  · next xs h1 =>
    cases hm
    refine h M q os ev σ H _ h1 rl _ fun v H1 x1 r1 => ?_
    obtain ⟨a, vs, rfl, g1, g2⟩ := rep_list.1 r1
    refine ⟨a, vs, rfl, .of (hid_some g1).2, k _ H1 x1 fun W' H2 x2 t2 => ?_⟩
    have h2 : SqL X.K H2 a vs := .of (hid_some (x2 _ _ g1)).2
    have WK := walk_rev (K := X.K) (a := a) (xs := vs)
    refine ⟨fun i d hd => ?_, by rw [List.length_reverse, ← g2.length]; exact WK.stops H2 h2⟩
    have hl := g2.length
    have hi : i < xs.length := by
      have := (List.getElem?_eq_some_iff.1 hd).1
      simpa using this
    rw [List.getElem?_reverse hi] at hd
    obtain ⟨u, e2, e3⟩ := g2.get hd
    refine ⟨WK.goes i H2 (by omega) h2, fun y H3 hy => ?_⟩
    obtain ⟨rfl, hy2⟩ := WK.yields i H2 y H3 (by omega) h2 hy
    rw [hl, e2] at hy2
    cases hy2
    exact ⟨Ex0, e3.mono x2⟩
  · cases hm
end
end Lay

namespace Lay
open PySem PySem.Spec PyProof.Rows L2
open Evl (Ex)
/-! ### comprehensions -/
def lcGo (ev : Env') (t : Tgt) (mt : Env' → Option Bool) (me : Env' → Option D) : List D → Option (List D)
  | [] => some []
  | d :: r => do
    let ev' ← t.put d ev
    let b ← mt ev'
    if b = true then do
      let y ← me ev'
      let ys ← lcGo ev t mt me r
      some (y :: ys)
    else lcGo ev t mt me r
/-- the block's own names forgotten -/
def lcM (fl : Bool) (t : Tgt) (own : List Nat) (mi : Env' → Option (List D)) (mt : Env' → Option Bool) (me : Env' → Option D) : Env' → Option (List D) := fun ev => do
  let ds ← mi ev
  if ds.length ≤ 1000000 ∧ plainAll ev own = true ∧ (fl = true → ds.all D.flat = true) then lcGo (wipeE ev own) t mt me ds else none
def tyes : Env' → Option Bool := fun _ => some true
section
variable {K : Fg} {cl : Str → Addr} {q : Option Addr} {os M : List Addr} {H H' : Hp} {σ : L2.St} {e : List Slot}
theorem plainAt_emp {e : List Slot} {i j : Nat} (h : plainAt e j = true) : plainAt (e.set i .emp) j = true := by
  unfold plainAt at h ⊢
  by_cases hij : i = j
  · subst hij
    cases he : e[i]? with
    | none => rw [he] at h; cases h
    | some x =>
      have : i < e.length := (List.getElem?_eq_some_iff.1 he).1
      rw [List.getElem?_set_self this]
  · rw [List.getElem?_set_ne hij]
    exact h
theorem plainAt_wipeE {e : List Slot} {j : Nat} (h : plainAt e j = true) : ∀ (is : List Nat), plainAt (wipeE e is) j = true
  | [] => h
  | i :: is => plainAt_emp (plainAt_wipeE h is)
theorem Rl.wipe (r : Rl K cl M q os e σ H) : ∀ {is : List Nat}, plainAll e is = true → Rl K cl M q os (wipeE e is) (L2.wipe σ is) H
  | [], _ => r
  | i :: is, h => by
    have h' : plainAt e i = true ∧ plainAll e is = true := by
      unfold plainAll at h ⊢
      rw [List.all_cons, Bool.and_eq_true] at h
      exact h
    exact (Rl.wipe r h'.2).emp_plain (plainAt_wipeE h'.1 is)
theorem hid_upd {p : Addr} {o : HO} (h : p ∈ M) : hid M (upd H p o) = hid M H := by
  funext a
  unfold hid
  split
  · rfl
  · next ha => rw [upd_ne fun z => ha (by rw [z]; exact h)]
/-- one more thing is hidden -/
theorem Rl.hide {p : Addr} (r : Rl K cl M q os e σ H) (x : Ex H H') (hn : H p = none) (hp : H' p ≠ none) : Rl K cl (p :: M) q os e σ H' := by
  refine ⟨r.sr.mono (ex_sub (fun a o h _ => x a o h) fun a ha => ?_) fun a o _ h => x a o h, r.nd, fun y hy => ?_, fun a ha => ?_, fun a ha => List.mem_cons_of_mem _ (r.qm a ha)⟩
  · rcases List.mem_append.1 ha with h | h
    · exact .inl (List.mem_append_left _ h)
    · rcases List.mem_cons.1 h with rfl | h
      · exact .inr hn
      · exact .inl (List.mem_append_right _ h)
  · intro z
    rcases List.mem_cons.1 z with rfl | z
    · exact r.tr y (List.mem_append_left _ hy) hn
    · exact r.dj y hy z
  · rcases List.mem_append.1 ha with h | h
    · exact (r.ex x).tr a (List.mem_append_left _ h)
    · rcases List.mem_cons.1 h with rfl | h
      · exact hp
      · exact (r.ex x).tr a (List.mem_append_right _ h)
theorem vw_cons {w : Bool} {p : Addr} : ∀ a, a ∈ p :: vw w os M ↔ a ∈ vw w os (p :: M) := by
  intro a
  cases w with
  | true =>
    show a ∈ p :: (os ++ M) ↔ a ∈ os ++ p :: M
    simp only [List.mem_cons, List.mem_append]
    constructor
    · rintro (h | h | h)
      · exact .inr (.inl h)
      · exact .inl h
      · exact .inr (.inr h)
    · rintro (h | h | h)
      · exact .inr (.inl h)
      · exact .inl h
      · exact .inr (.inr h)
  | false => exact Iff.rfl
end
section
variable {w : Bool} {X : Cx} {cl : Str → Addr} {elt tg iter : Expr} {ifs : List Expr} {scope : Scope} {pos : Pos} {mi : Env' → Option (List D)} {mt : Env' → Option Bool} {me : Env' → Option D} {t : Tgt} {own : List (Str × Nat)}
/-- the tests of a comprehension -/
abbrev ETs (X : Cx) (cl : Str → Addr) (ifs : List Expr) (m : Env' → Option Bool) : Prop := PTs X ifs (ct X.K cl m)
theorem ets_nil : ETs X cl [] tyes := ⟨fun pins s σ H Q I ⟨M, q, os, ev, d, h1, h2, h3⟩ => by
  cases h1
  exact wpAny_tests_nil ⟨H, I, h3 H Ex0⟩⟩
theorem ets_one {c : Expr} (h : ET X cl c mt) : ETs X cl [c] mt := pts_one h.pt
theorem lc_read {wi : TI} {K : Fg} {v fl : Bool} (hv : v = true ∨ fl = true)
    (hi : ∀ M q os ev σ H ds, mi ev = some ds → Rl K cl M q os ev σ H → ∀ R : It → Hp → Prop, (∀ J H', Ex H H' → WalkD K cl (vw v os M) J ds H' → R J H') → wi σ H R)
    (hsub : ∀ i ∈ t.slots, i ∈ own.map (·.2)) :
    ∀ M q os ev σ H d, lcM fl t (own.map (·.2)) mi mt me ev = some d → Rl K cl M q os ev σ H → ∀ Q : VK, (∀ p H' vs, H p = none → Ex H H' → H' p = some (.lst vs) → Reps K cl (hid (p :: vw w os M) H') vs d → Q (.ref p) H') →
      tLc wi (tgR K t) (ct K cl mt) (cv w K cl me) (own.map (·.2)) σ H Q := by
  intro M q os ev σ H d hm rl Q k
  obtain ⟨ds, h1, hm⟩ := bind_some' hm
  split at hm
  · next hc =>
    refine hi M q os ev σ H ds h1 rl _ fun J H1 x1 wk Dl hD => ?_
    refine ⟨fun i m H' => m = ds.length - i ∧ i ≤ ds.length ∧ Ex H1 H' ∧ ∃ vs acc rest, H' Dl = some (.lst vs) ∧ Reps K cl (hid (Dl :: vw w os M) H') vs acc ∧ acc.length ≤ i ∧ lcGo (wipeE ev (own.map (·.2))) t mt me (ds.drop i) = some rest ∧ d = acc ++ rest,
      ⟨ds.length, by simp, Nat.zero_le _, Evl.Ex.new hD, [], [], d, upd_same, Reps.nil, Nat.le_refl _, by simpa using hm, rfl⟩, fun i m H2 ⟨em, hi, x2, vs, acc, rest, g1, g2, g3, g4, g5⟩ => ?_⟩
    have rl2 : Rl K cl (Dl :: M) q os ev σ H2 := (rl.ex x1).hide x2 hD (by rw [g1]; simp)
    have xv : Ex (hid (vw v os M) H1) (hid (vw v os (Dl :: M)) H2) := ex_sub (fun a o h _ => x2 a o h) fun a ha => by
      rcases List.mem_cons.1 ((vw_cons a).2 ha) with rfl | ha
      · exact .inr hD
      · exact .inl ha
    obtain ⟨wk1, wk2⟩ := wk _ H2 xv (rl2.tk v)
    by_cases hlt : i < ds.length
    · refine .inr ⟨(wk1 i ds[i] (by simp [hlt])).1, fun H' => Ex H1 H' ∧ ∃ vs acc rest, H' Dl = some (.lst vs) ∧ Reps K cl (hid (Dl :: vw w os M) H') vs acc ∧ acc.length ≤ i + 1 ∧ lcGo (wipeE ev (own.map (·.2))) t mt me (ds.drop (i + 1)) = some rest ∧ d = acc ++ rest,
        fun H' ⟨y1, y2⟩ => ⟨ds.length - (i + 1), by omega, rfl, hlt, y1, y2⟩, fun x H3 hy => ?_⟩
      obtain ⟨x3, r3⟩ := (wk1 i ds[i] (by simp [hlt])).2 x H3 hy
      have rl3 : Rl K cl (Dl :: M) q os (wipeE ev (own.map (·.2))) (L2.wipe σ (own.map (·.2))) H3 := (rl2.ex x3).wipe hc.2.1
      rw [List.drop_eq_getElem_cons hlt] at g4
      unfold lcGo at g4
      obtain ⟨ev', e1, g4⟩ := bind_some' g4
      obtain ⟨b, e2, g4⟩ := bind_some' g4
      have r4 : Rep K cl (hid (os ++ Dl :: M) H3) x ds[i] := by
        rcases hv with rfl | rfl
        · exact r3
        · exact r3.flat (List.all_eq_true.1 (hc.2.2 rfl) _ (List.getElem_mem hlt))
      refine tg_ok e1 rl3 r4 fun σ' rl4 hw => ?_
      refine ⟨by rw [hw _ hsub, wipe_wipe _ _ fun _ h => h], Dl :: M, q, os, ev', b, e2, rl4, fun H4 x4 => ?_⟩
      have keep : ∀ H5, Ex H3 H5 → H5 Dl = some (.lst vs) ∧ Reps K cl (hid (Dl :: vw w os M) H5) vs acc := fun H5 x5 => ⟨x5 _ _ (x3 _ _ g1), g2.mono (ex_hid (x3.trans x5))⟩
      cases b with
      | true =>
        rw [if_pos rfl] at g4
        obtain ⟨y, e3, g4⟩ := bind_some' g4
        obtain ⟨ys, e4, g4⟩ := bind_some' g4
        have g4' := Option.some.inj g4
        subst g4'
        refine iteT ⟨Dl :: M, q, os, ev', y, e3, rl4.ex x4, fun u H5 x5 r5 => ?_⟩
        obtain ⟨k1, k2⟩ := keep H5 (x4.trans x5)
        refine ⟨vs, k1, by rw [k2.length, sizeLine_eq]; omega, Evl.Ex.mut (x2.trans (x3.trans (x4.trans x5))) hD, vs ++ [u], acc ++ [y], ys, upd_same, ?_, by rw [List.length_append]; simp; omega, e4, by rw [g5, List.append_assoc]; rfl⟩
        rw [hid_upd List.mem_cons_self]
        exact k2.append (Reps.cons (r5.mono (ex_le fun a ha => vw_cons a |>.1 ha)) Reps.nil)
      | false =>
        rw [if_neg Bool.false_ne_true] at g4
        obtain ⟨k1, k2⟩ := keep H4 x4
        exact iteF ⟨x2.trans (x3.trans x4), vs, acc, rest, k1, k2, by omega, g4, g5⟩
    · have e : i = ds.length := by omega
      subst e
      rw [List.drop_length] at g4
      cases g4
      rw [List.append_nil] at g5
      subst g5
      exact .inl ⟨wk2, k Dl H2 vs (Evl.fresh_back x1 hD) (x1.trans x2) g1 g2⟩
  · cases hm
theorem eo_lc {v fl : Bool} (hv : v = true ∨ fl = true) (hc : X.calm = true) (hN : X.N.Nodup) (hi : EI v X cl tg iter mi) (ok : BlkOk X.N X.env.scope scope own) (hsub : ∀ i ∈ t.slots, i ∈ own.map (·.2))
    (hg : ∀ (s : Shared) (H : Hp) (C : Addr) (c : List (Str × Addr)) (fp : List Addr), PGT (X.blk s H scope (compEnvC scope c C X.env) fp) tg t) (ht : ∀ (s : Shared) (H : Hp) (C : Addr) (c : List (Str × Addr)) (fp : List Addr), ETs (X.blk s H scope (compEnvC scope c C X.env) fp) cl ifs mt)
    (he : ∀ (s : Shared) (H : Hp) (C : Addr) (c : List (Str × Addr)) (fp : List Addr), EV w (X.blk s H scope (compEnvC scope c C X.env) fp) cl elt me) (hs : ∀ x, foldedSetIterable iter X.env x = pure x := by intro _; rfl) :
    EO w X cl (.ListComp elt [⟨tg, iter, ifs, 0⟩] scope pos) (lcM fl t (own.map (·.2)) mi mt me) := by
  obtain ⟨wi, hp, h⟩ := hi
  exact ⟨_, pe_lc hc hN hp ok hg ht (fun s H C c fp => (he s H C c fp).pe) hs, lc_read hv h hsub⟩
end
/-! ### calls of own defs -/
/-- a def: what it answers, as a function of data -/
def spP (K : Fg) (cl : Str → Addr) (m : List D → Option D) : Sp := fun vs H Q _ => ∃ M ds d, m ds = some d ∧ Tk M H ∧ Reps K cl (hid M H) vs ds ∧ ∀ v H', Ex H H' → Rep K cl (hid M H') v d → Q v H'
def spO (K : Fg) (cl : Str → Addr) (m : List D → Option (List D)) : Sp := fun vs H Q _ => ∃ M ds d, m ds = some d ∧ Tk M H ∧ Reps K cl (hid M H) vs ds ∧ ∀ p H' us, H p = none → Ex H H' → H' p = some (.lst us) → Reps K cl (hid (p :: M) H') us d → Q (.ref p) H'
/-- .. that changes the list that it is handed first -/
def spF (K : Fg) (cl : Str → Addr) (m : List D → List D → Option (D × List D)) : Sp := fun vs H Q _ => ∃ M q g gv ds us d g', vs = .ref q :: us ∧ m g ds = some (d, g') ∧ q ∈ M ∧ Tk M H ∧ H q = some (.lst gv) ∧ Reps K cl (hid M H) gv g ∧ Reps K cl (hid M H) us ds ∧
  ∀ v H' gv', (∀ a o, H a = some o → a ≠ q → H' a = some o) → H' q = some (.lst gv') → Reps K cl (hid M H') gv' g' → Rep K cl (hid M H') v d → Q v H'
structure FnG (gb : Bool) (P : Program) (w : World) (K : Fg) (mg : Str → Option Value) (base : Heap) (x : Str) (k : Nat) (ps : List Str) (sp : Sp) : Prop where
  ok : ∃ f fd, FnB gb P w K mg base CX0 k f fd ps sp ∧ mg x = some (.ref f) ∧ PySem.W.keepIn K (.ref f) = true ∧ Binds K fd ps []
section
variable {w : Bool} {X : Cx} {cl : Str → Addr} {e : Expr} {es : List Expr} {x : Str} {p pos : Pos} {k : Nat} {ps : List Str} {ma : Env' → Option (List D)}
theorem ev_call {m : List D → Option D} {gb : Bool} (F : FnG gb X.prog X.w X.K X.mg X.base x k ps (spP X.K cl m)) (gd : gb = true → X.A.guards = some []) (hr : Room k X.A) (hg : Gl X x) (ha : EA w X cl (e :: es) ma) (hdb : (x == ("__debug__" : Str)) = false)
    (he : starEach (e :: es) X.env = (false, eval e X.env) :: starEach es X.env := by rfl) (hpl : (backTo pos (starEach es X.env)).any (·.1) = false := by rfl) : EV w X cl (.Call (.Name x p) (e :: es) [] pos) (mL m ma) := by
  obtain ⟨f, fd, F, hm, hk, hb⟩ := F.ok
  obtain ⟨ta, pa, ha⟩ := ha
  refine ⟨_, pe_callGB F gd hr hg hm hk hb .nil pass0 pa hdb he hpl, fun M q os ev σ H d hm rl Q k => ?_⟩
  obtain ⟨ds, h1, hm⟩ := bind_some' hm
  refine ha M q os ev σ H ds h1 rl _ fun vs H1 x1 r1 => ?_
  rw [List.append_nil]
  exact ⟨_, ds, d, hm, (rl.ex x1).tk w, r1, fun v H2 x2 r2 => k v H2 (x1.trans x2) r2⟩
theorem eo_call {m : List D → Option (List D)} {gb : Bool} (F : FnG gb X.prog X.w X.K X.mg X.base x k ps (spO X.K cl m)) (gd : gb = true → X.A.guards = some []) (hr : Room k X.A) (hg : Gl X x) (ha : EA w X cl (e :: es) ma) (hdb : (x == ("__debug__" : Str)) = false)
    (he : starEach (e :: es) X.env = (false, eval e X.env) :: starEach es X.env := by rfl) (hpl : (backTo pos (starEach es X.env)).any (·.1) = false := by rfl) : EO w X cl (.Call (.Name x p) (e :: es) [] pos) (mLo m ma) := by
  obtain ⟨f, fd, F, hm, hk, hb⟩ := F.ok
  obtain ⟨ta, pa, ha⟩ := ha
  refine ⟨_, pe_callGB F gd hr hg hm hk hb .nil pass0 pa hdb he hpl, fun M q os ev σ H d hm rl Q k => ?_⟩
  obtain ⟨ds, h1, hm⟩ := bind_some' hm
  refine ha M q os ev σ H ds h1 rl _ fun vs H1 x1 r1 => ?_
  rw [List.append_nil]
  exact ⟨_, ds, d, hm, (rl.ex x1).tk w, r1, fun p H2 us hn x2 h2 r2 => k p H2 us (Evl.fresh_back x1 hn) (x1.trans x2) h2 r2⟩
/-- .. handed a list that is made for it -/
def mF (m : List D → List D → Option (D × List D)) (mg : Env' → Option (List D)) (ma : Env' → Option (List D)) : Env' → Option D := fun ev => do
  let g ← mg ev
  let ds ← ma ev
  let r ← m g ds
  some r.1
theorem ev_callNew {m : List D → List D → Option (D × List D)} {mg : Env' → Option (List D)} {gb : Bool} (F : FnG gb X.prog X.w X.K X.mg X.base x k ps (spF X.K cl m)) (gd : gb = true → X.A.guards = some []) (hr : Room k X.A) (hg : Gl X x) (h0 : EO w X cl e mg) (ha : EA w X cl es ma) (hdb : (x == ("__debug__" : Str)) = false)
    (he : starEach (e :: es) X.env = (false, eval e X.env) :: starEach es X.env := by rfl) (hpl : (backTo pos (starEach es X.env)).any (·.1) = false := by rfl) : EV w X cl (.Call (.Name x p) (e :: es) [] pos) (mF m mg ma) := by
  obtain ⟨f, fd, F, hm, hk, hb⟩ := F.ok
  obtain ⟨t0, p0, h0⟩ := h0
  obtain ⟨ta, pa, ha⟩ := ha
  refine ⟨_, pe_callGB F gd hr hg hm hk hb .nil pass0 (pa_cons p0 pa he) hdb he hpl, fun M q os ev σ H d hm rl Q k => ?_⟩
  obtain ⟨g, h1, hm⟩ := bind_some' hm
  obtain ⟨ds, h2, hm⟩ := bind_some' hm
  obtain ⟨⟨d', g'⟩, h3, hm⟩ := bind_some' hm
  have hq := Option.some.inj hm
  subst hq
  refine h0 M q os ev σ H g h1 rl _ fun y H1 gv hn x1 g1 g2 => ?_
  have rl1 : Rl X.K cl (y :: M) q os ev σ H1 := rl.hide x1 hn (by rw [g1]; simp)
  refine ha (y :: M) q os ev σ H1 ds h2 rl1 _ fun us H2 x2 r2 => ?_
  show spF X.K cl m ((V.ref y :: us) ++ []) H2 Q E0
  rw [List.append_nil]
  refine ⟨vw w os (y :: M), y, g, gv, ds, us, d', g', rfl, h3, vw_sub' w y List.mem_cons_self, (rl1.ex x2).tk w, x2 _ _ g1, (g2.mono (ex_le fun a ha => vw_cons a |>.2 ha)).mono (ex_hid x2), r2, fun v H3 gv' k1 k2 k3 k4 => ?_⟩
  refine k v H3 (fun a o ho => k1 a o (x2 _ _ (x1 _ _ ho)) fun z => by rw [z, hn] at ho; cases ho) (k4.mono (ex_le fun a ha => vw_cons a |>.1 (List.mem_cons_of_mem _ ha)))
/-! methods of objects that stand still -/
structure MethG (P : Program) (w : World) (K : Fg) (mg : Str → Option Value) (base : Heap) (C : Addr) (x : Str) (k : Nat) (ps : List Str) (sp : Sp) : Prop where
  cls : Cls K C
  ok : ∃ f fd, FnOk P w K mg base CX0 k f fd ps sp ∧ Meth K C x f ∧ Binds K fd ps []
def D.isObj (c x : Str) : D → Bool
  | .obj c' ns _ => decide (c' = c) && !(ns.contains x)
  | _ => false
theorem zip_lookup_none {α : Type} {x : Str} : ∀ {ns : List Str} {vs : List α}, ns.contains x = false → (ns.zip vs).lookup x = none
  | [], _, _ => rfl
  | _ :: _, [], _ => rfl
  | n :: ns, v :: vs, h => by
    rw [List.contains_cons, Bool.or_eq_false_iff] at h
    rw [List.zip_cons_cons, List.lookup_cons, h.1]
    exact zip_lookup_none h.2
def mM (c x : Str) (m : List D → Option D) (mo : Env' → Option D) (ma : Env' → Option (List D)) : Env' → Option D := fun ev => do
  let o ← mo ev
  if o.isObj c x = true then do
    let ds ← ma ev
    m (o :: ds)
  else none
def mMo (c x : Str) (m : List D → Option (List D)) (mo : Env' → Option D) (ma : Env' → Option (List D)) : Env' → Option (List D) := fun ev => do
  let o ← mo ev
  if o.isObj c x = true then do
    let ds ← ma ev
    m (o :: ds)
  else none
theorem isObj_rep {K : Fg} {H : Hp} {M : List Addr} {c : Str} {v : L2.V} {o : D} (h : o.isObj c x = true) (r : Rep K cl (hid M H) v o) : ∃ a dx fs, v = .ref a ∧ H a = some (.ins (cl c) dx fs) ∧ fs.lookup x = none := by
  cases o with
  | obj c' ns ds =>
    unfold D.isObj at h
    rw [Bool.and_eq_true] at h
    have hc : c' = c := of_decide_eq_true h.1
    subst hc
    unfold Rep at r
    obtain ⟨a, dx, vs, rfl, ha, hl, _⟩ := r
    exact ⟨a, dx, _, rfl, (hid_some ha).2, zip_lookup_none (by simpa using h.2)⟩
  | _ => cases h
theorem ev_meth0 {o : Expr} {apos : Pos} {pl : Sem Bool} {c : Str} {m : List D → Option D} {mo : Env' → Option D} (F : MethG X.prog X.w X.K X.mg X.base (cl c) x k ps (spP X.K cl m)) (hr : Room k X.A) (ho : EV w X cl o mo)
    (ht : eval (.Call (.Attribute o x apos) [] [] pos) X.env = (do
      let ov ← eval o X.env
      standAt apos.atName
      let (f, first) ← holding [ov] (getMethod ov x pl)
      callWith pos f first (backTo pos (starEach [] X.env)) (backToKw pos (keywordEach [] X.env))) := by rfl) : EV w X cl (.Call (.Attribute o x apos) [] [] pos) (mM c x m mo fun _ => some []) := by
  obtain ⟨hc, f, fd, F, hm, hb⟩ := F
  obtain ⟨t0, p0, h0⟩ := ho
  refine ⟨_, pe_meth0 p0 hc hm F hr hb .nil pass0 ht, fun M q os ev σ H d hm rl Q k => ?_⟩
  obtain ⟨ob, h1, hm⟩ := bind_some' hm
  split at hm
  · next hi =>
    refine h0 M q os ev σ H ob h1 rl _ fun v H1 x1 r1 => ?_
    obtain ⟨a, dx, fs, rfl, e1, e2⟩ := isObj_rep hi r1
    refine ⟨a, dx, fs, rfl, e1, e2, ?_⟩
    exact ⟨_, [ob], d, hm, (rl.ex x1).tk w, Reps.cons r1 Reps.nil, fun v H2 x2 r2 => k v H2 (x1.trans x2) r2⟩
  · cases hm
theorem eo_meth0 {o : Expr} {apos : Pos} {pl : Sem Bool} {c : Str} {m : List D → Option (List D)} {mo : Env' → Option D} (F : MethG X.prog X.w X.K X.mg X.base (cl c) x k ps (spO X.K cl m)) (hr : Room k X.A) (ho : EV w X cl o mo)
    (ht : eval (.Call (.Attribute o x apos) [] [] pos) X.env = (do
      let ov ← eval o X.env
      standAt apos.atName
      let (f, first) ← holding [ov] (getMethod ov x pl)
      callWith pos f first (backTo pos (starEach [] X.env)) (backToKw pos (keywordEach [] X.env))) := by rfl) : EO w X cl (.Call (.Attribute o x apos) [] [] pos) (mMo c x m mo fun _ => some []) := by
  obtain ⟨hc, f, fd, F, hm, hb⟩ := F
  obtain ⟨t0, p0, h0⟩ := ho
  refine ⟨_, pe_meth0 p0 hc hm F hr hb .nil pass0 ht, fun M q os ev σ H d hm rl Q k => ?_⟩
  obtain ⟨ob, h1, hm⟩ := bind_some' hm
  split at hm
  · next hi =>
    refine h0 M q os ev σ H ob h1 rl _ fun v H1 x1 r1 => ?_
    obtain ⟨a, dx, fs, rfl, e1, e2⟩ := isObj_rep hi r1
    refine ⟨a, dx, fs, rfl, e1, e2, ?_⟩
    exact ⟨_, [ob], d, hm, (rl.ex x1).tk w, Reps.cons r1 Reps.nil, fun p H2 us hn x2 h2 r2 => k p H2 us (Evl.fresh_back x1 hn) (x1.trans x2) h2 r2⟩
  · cases hm
/-- o.f of an object that stands still -/
def D.fld (c f : Str) : D → Option D
  | .obj c' ns ds => if c' = c ∧ ns.length = ds.length then (ns.zip ds).lookup f else none
  | _ => none
theorem zip_lookup {K : Fg} {H : Hp} {f : Str} {d : D} : ∀ {ns : List Str} {vs : List L2.V} {ds : List D}, Reps K cl H vs ds → (ns.zip ds).lookup f = some d → ∃ v, (ns.zip vs).lookup f = some v ∧ Rep K cl H v d
  | [], _, _, _, h => by simp at h
  | n :: ns, vs, [], r, h => by simp at h
  | n :: ns, vs, e :: ds, r, h => by
    obtain ⟨v, us, rfl, h1, h2⟩ := Reps.cons_iff.1 r
    rw [List.zip_cons_cons, List.lookup_cons] at h ⊢
    cases hb : f == n with
    | true =>
      rw [hb] at h
      cases h
      exact ⟨v, rfl, h1⟩
    | false =>
      rw [hb] at h
      exact zip_lookup h2 h
theorem ev_fld {o : Expr} {c f : Str} {mo : Env' → Option D} (hc : Cls X.K (cl c)) (hn : NoAttr X.K (cl c) f) (ho : EV w X cl o mo) (hb : attributeBase o f X.env (eval o X.env) = eval o X.env := by rfl) : EV w X cl (.Attribute o f pos) (m1 (D.fld c f) mo) := by
  obtain ⟨t0, p0, h0⟩ := ho
  refine ⟨_, pe_fld p0 hb, fun M q os ev σ H d hm rl Q k => ?_⟩
  obtain ⟨ob, h1, hm⟩ := bind_some' hm
  refine h0 M q os ev σ H ob h1 rl _ fun v H1 x1 r1 => ?_
  unfold D.fld at hm
  split at hm
  · next c' ns ds =>
    split at hm
    · next hc' =>
      unfold Rep at r1
      obtain ⟨a, dx, vs, rfl, ha, hl, r⟩ := r1
      obtain ⟨v, e1, e2⟩ := zip_lookup r hm
      rw [hc'.1] at ha
      exact ⟨a, cl c, dx, _, v, rfl, (hid_some ha).2, hc, hn, e1, k v H1 x1 e2⟩
    · cases hm
  · cases hm
end
end Lay

namespace Lay
open PySem PySem.Spec PyProof.Rows L2
open Evl (Ex)
/-! ### what may have changed -/
structure Tr (q : Option Addr) (os : List Addr) (H : Hp) (os' : List Addr) (H' : Hp) : Prop where
  kp : ∀ a o, H a = some o → a ∉ os → q ≠ some a → H' a = some o
  ow : ∀ p ∈ os', p ∈ os ∨ H p = none
  th : ∀ a o, H a = some o → H' a ≠ none
section
variable {K : Fg} {cl : Str → Addr} {q : Option Addr} {os os' os1 os2 M : List Addr} {H H' H1 H2 : Hp} {σ : L2.St} {ev ev' : Env'}
theorem Tr.of_ex (x : Ex H H') : Tr q os H os H' := ⟨fun a o h _ _ => x a o h, fun p hp => .inl hp, fun a o h => by rw [x a o h]; simp⟩
theorem Tr.refl : Tr q os H os H := Tr.of_ex Ex0
theorem Tr.trans (a : Tr q os H os1 H1) (b : Tr q os1 H1 os2 H2) : Tr q os H os2 H2 := by
  refine ⟨fun x o h n1 n2 => ?_, fun p hp => ?_, fun x o h => ?_⟩
  · refine b.kp x o (a.kp x o h n1 n2) (fun z => ?_) n2
    rcases a.ow x z with y | y
    · exact n1 y
    · rw [h] at y; cases y
  · rcases b.ow p hp with y | y
    · exact a.ow p y
    · refine .inr ?_
      cases h : H p with
      | none => rfl
      | some o => exact absurd y (a.th p o h)
  · cases h1 : H1 x with
    | none => exact absurd h1 (a.th x o h)
    | some o' => exact b.th x o' h1
/-- the strict view goes on -/
theorem Tr.view (t : Tr q os H os' H') (r : Rl K cl M q os ev σ H) : Ex (hid (os ++ M) H) (hid (os' ++ M) H') := fun a o h => by
  obtain ⟨h1, h2⟩ := hid_some h
  have n1 : a ∉ os := fun z => h1 (List.mem_append_left _ z)
  have n2 : a ∉ M := fun z => h1 (List.mem_append_right _ z)
  have n3 : a ∉ os' ++ M := fun z => by
    rcases List.mem_append.1 z with z | z
    · rcases t.ow a z with y | y
      · exact n1 y
      · rw [h2] at y; cases y
    · exact n2 z
  rw [hid_not n3]
  exact t.kp a o h2 n1 fun z => n2 (r.qm a z)
end

/-! ### expressions that may change what is owned -/
section
variable (X : Cx) (cl : Str → Addr)
def EF (e : Expr) (m : Env' → Option (D × Env')) : Prop :=
  ∃ te, PE X e te ∧ ∀ M q os ev σ H d ev', m ev = some (d, ev') → Rl X.K cl M q os ev σ H → ∀ Q : VK, (∀ v H', Tr q os H os H' → Rl X.K cl M q os ev' σ H' → Rep X.K cl (hid (os ++ M) H') v d → Q v H') → te σ H Q
def EFA (es : List Expr) (m : Env' → Option (List D × Env')) : Prop :=
  ∃ te, PA X es te ∧ ∀ M q os ev σ H d ev', m ev = some (d, ev') → Rl X.K cl M q os ev σ H → ∀ Q : List L2.V → Hp → Prop, (∀ v H', Tr q os H os H' → Rl X.K cl M q os ev' σ H' → Reps X.K cl (hid (os ++ M) H') v d → Q v H') → te σ H Q
def EFT (e : Expr) (m : Env' → Option (Bool × Env')) : Prop :=
  ∃ te, PT X e te ∧ ∀ M q os ev σ H d ev', m ev = some (d, ev') → Rl X.K cl M q os ev σ H → ∀ Q : Bool → Hp → Prop, (∀ H', Tr q os H os H' → Rl X.K cl M q os ev' σ H' → Q d H') → te σ H Q
def EFI (tg it : Expr) (m : Env' → Option (List D × Env')) : Prop :=
  ∃ wi, PI X tg it wi ∧ ∀ M q os ev σ H ds ev', m ev = some (ds, ev') → Rl X.K cl M q os ev σ H → ∀ R : It → Hp → Prop, (∀ J H', Tr q os H os H' → Rl X.K cl M q os ev' σ H' → WalkD X.K cl (os ++ M) J ds H' → R J H') → wi σ H R
end
def lift {α : Type} (m : Env' → Option α) : Env' → Option (α × Env') := fun ev => (m ev).map fun d => (d, ev)
theorem lift_some {α : Type} {m : Env' → Option α} {ev ev' : Env'} {d : α} (h : lift m ev = some (d, ev')) : m ev = some d ∧ ev' = ev := by
  unfold lift at h
  obtain ⟨x, h1, h2⟩ := Option.map_eq_some_iff.1 h
  cases h2
  exact ⟨h1, rfl⟩
section
variable {X : Cx} {cl : Str → Addr} {e a b c : Expr} {es : List Expr} {pos : Pos}
theorem ef_ev {m : Env' → Option D} (h : EV true X cl e m) : EF X cl e (lift m) := by
  obtain ⟨te, hp, h⟩ := h
  refine ⟨te, hp, fun M q os ev σ H d ev' hm rl Q k => ?_⟩
  obtain ⟨h1, rfl⟩ := lift_some hm
  exact h M q os ev' σ H d h1 rl Q fun v H' x r => k v H' (.of_ex x) (rl.ex x) r
theorem eft_et {m : Env' → Option Bool} (h : ET X cl e m) : EFT X cl e (lift m) := by
  obtain ⟨te, hp, h⟩ := h
  refine ⟨te, hp, fun M q os ev σ H d ev' hm rl Q k => ?_⟩
  obtain ⟨h1, rfl⟩ := lift_some hm
  exact h M q os ev' σ H d h1 rl Q fun H' x => k H' (.of_ex x) (rl.ex x)
theorem efi_ei {tg : Expr} {m : Env' → Option (List D)} (h : EI true X cl tg e m) : EFI X cl tg e (lift m) := by
  obtain ⟨te, hp, h⟩ := h
  refine ⟨te, hp, fun M q os ev σ H d ev' hm rl Q k => ?_⟩
  obtain ⟨h1, rfl⟩ := lift_some hm
  exact h M q os ev' σ H d h1 rl Q fun J H' x wk => k J H' (.of_ex x) (rl.ex x) wk
theorem efa_ea {m : Env' → Option (List D)} (h : EA true X cl es m) : EFA X cl es (lift m) := by
  obtain ⟨te, hp, h⟩ := h
  refine ⟨te, hp, fun M q os ev σ H d ev' hm rl Q k => ?_⟩
  obtain ⟨h1, rfl⟩ := lift_some hm
  exact h M q os ev' σ H d h1 rl Q fun v H' x r => k v H' (.of_ex x) (rl.ex x) r
def facons (m : Env' → Option (D × Env')) (n : Env' → Option (List D × Env')) : Env' → Option (List D × Env') := fun ev => do
  let r ← m ev
  let s ← n r.2
  some (r.1 :: s.1, s.2)
theorem efa_cons {m : Env' → Option (D × Env')} {n : Env' → Option (List D × Env')} (h : EF X cl e m) (t : EFA X cl es n) (hs : starEach (e :: es) X.env = (false, eval e X.env) :: starEach es X.env := by rfl) : EFA X cl (e :: es) (facons m n) := by
  obtain ⟨te, hp, h⟩ := h
  obtain ⟨tr, hr, t⟩ := t
  refine ⟨_, pa_cons hp hr hs, fun M q os ev σ H d ev' hm rl Q k => ?_⟩
  obtain ⟨⟨d1, ev1⟩, h1, hm⟩ := bind_some' hm
  obtain ⟨⟨d2, ev2⟩, h2, hm⟩ := bind_some' hm
  cases hm
  exact h M q os ev σ H d1 ev1 h1 rl _ fun v H1 t1 rl1 r1 => t M q os ev1 σ H1 d2 _ h2 rl1 _ fun vs H2 t2 rl2 r2 => k _ _ (t1.trans t2) rl2 (Reps.cons (r1.mono (t2.view rl1)) r2)
theorem efa_nil : EFA X cl [] (lift fun _ => some []) := efa_ea ea_nil
/-- behind the evaluation of operands a rule by values -/
def fL1 (f : List D → Option D) (m : Env' → Option (List D × Env')) : Env' → Option (D × Env') := fun ev => do
  let r ← m ev
  let d ← f r.1
  some (d, r.2)
def f2 (f : D → D → Option D) (m n : Env' → Option (D × Env')) : Env' → Option (D × Env') := fun ev => do
  let r ← m ev
  let s ← n r.2
  let d ← f r.1 s.1
  some (d, s.2)
theorem fop_ok {r : R2} {f : D → D → Option D} {ma mb : Env' → Option (D × Env')} {ta tb : TE} (hr : RD2 X.K cl r f)
    (ha : ∀ M q os ev σ H d ev', ma ev = some (d, ev') → Rl X.K cl M q os ev σ H → ∀ Q : VK, (∀ v H', Tr q os H os H' → Rl X.K cl M q os ev' σ H' → Rep X.K cl (hid (os ++ M) H') v d → Q v H') → ta σ H Q)
    (hb : ∀ M q os ev σ H d ev', mb ev = some (d, ev') → Rl X.K cl M q os ev σ H → ∀ Q : VK, (∀ v H', Tr q os H os H' → Rl X.K cl M q os ev' σ H' → Rep X.K cl (hid (os ++ M) H') v d → Q v H') → tb σ H Q) :
    ∀ M q os ev σ H d ev', f2 f ma mb ev = some (d, ev') → Rl X.K cl M q os ev σ H → ∀ Q : VK, (∀ v H', Tr q os H os H' → Rl X.K cl M q os ev' σ H' → Rep X.K cl (hid (os ++ M) H') v d → Q v H') → tOp r ta tb σ H Q := by
  intro M q os ev σ H d ev' hm rl Q k
  obtain ⟨⟨d1, ev1⟩, h1, hm⟩ := bind_some' hm
  obtain ⟨⟨d2, ev2⟩, h2, hm⟩ := bind_some' hm
  obtain ⟨d3, h3, hm⟩ := bind_some' hm
  cases hm
  exact ha M q os ev σ H d1 ev1 h1 rl _ fun v H1 t1 rl1 r1 => hb M q os ev1 σ H1 d2 _ h2 rl1 _ fun u H2 t2 rl2 r2 => hr _ _ _ _ _ _ _ h3 (rl2.tk true) (r1.mono (t2.view rl1)) r2 _ fun z H3 x3 r3 => k z H3 ((t1.trans t2).trans (.of_ex x3)) (rl2.ex x3) r3
theorem ef_bin {op : Operator} {r : R2} {f : D → D → Option D} {ma mb : Env' → Option (D × Env')} (ho : OpR X (binaryOp op) r) (hr : RD2 X.K cl r f) (ha : EF X cl a ma) (hb : EF X cl b mb) : EF X cl (.BinOp a op b pos) (f2 f ma mb) := by
  obtain ⟨ta, pa, ha⟩ := ha
  obtain ⟨tb, pb, hb⟩ := hb
  exact ⟨_, pe_op ho pa pb, fop_ok hr ha hb⟩
theorem ef_ix {ma mb : Env' → Option (D × Env')} (ha : EF X cl a ma) (hb : EF X cl b mb) (hs : PlainIx b) : EF X cl (.Subscript a b pos) (f2 D.ix ma mb) := by
  obtain ⟨ta, pa, ha⟩ := ha
  obtain ⟨tb, pb, hb⟩ := hb
  exact ⟨_, pe_ix ix_seq pa pb hs, fop_ok rd_ix ha hb⟩
def fc2 (f : D → D → Option Bool) (m n : Env' → Option (D × Env')) : Env' → Option (Bool × Env') := fun ev => do
  let r ← m ev
  let s ← n r.2
  let d ← f r.1 s.1
  some (d, s.2)
theorem fcmp_ok {r : R2} {f : D → D → Option Bool} {ma mb : Env' → Option (D × Env')} {ta tb : TE} (hr : RC2 X.K cl r f)
    (ha : ∀ M q os ev σ H d ev', ma ev = some (d, ev') → Rl X.K cl M q os ev σ H → ∀ Q : VK, (∀ v H', Tr q os H os H' → Rl X.K cl M q os ev' σ H' → Rep X.K cl (hid (os ++ M) H') v d → Q v H') → ta σ H Q)
    (hb : ∀ M q os ev σ H d ev', mb ev = some (d, ev') → Rl X.K cl M q os ev σ H → ∀ Q : VK, (∀ v H', Tr q os H os H' → Rl X.K cl M q os ev' σ H' → Rep X.K cl (hid (os ++ M) H') v d → Q v H') → tb σ H Q) :
    ∀ M q os ev σ H d ev', fc2 f ma mb ev = some (d, ev') → Rl X.K cl M q os ev σ H → ∀ Q : VK, (∀ H', Tr q os H os H' → Rl X.K cl M q os ev' σ H' → Q (.bl d) H') → tOp r ta tb σ H Q := by
  intro M q os ev σ H d ev' hm rl Q k
  obtain ⟨⟨d1, ev1⟩, h1, hm⟩ := bind_some' hm
  obtain ⟨⟨d2, ev2⟩, h2, hm⟩ := bind_some' hm
  obtain ⟨d3, h3, hm⟩ := bind_some' hm
  cases hm
  exact ha M q os ev σ H d1 ev1 h1 rl _ fun v H1 t1 rl1 r1 => hb M q os ev1 σ H1 d2 _ h2 rl1 _ fun u H2 t2 rl2 r2 => hr _ _ _ _ _ _ _ h3 (rl2.tk true) (r1.mono (t2.view rl1)) r2 _ fun H3 x3 => k H3 ((t1.trans t2).trans (.of_ex x3)) (rl2.ex x3)
theorem eft_cmp {op : CmpOp} {r : R2} {f : D → D → Option Bool} {ma mb : Env' → Option (D × Env')} (ho : OpR X (compareOp op) r) (hr : RC2 X.K cl r f) (ha : EF X cl a ma) (hb : EF X cl b mb) (hmk : behindInMarks op b = false) : EFT X cl (.Compare a [op] [b] pos) (fc2 f ma mb) := by
  obtain ⟨ta, pa, ha⟩ := ha
  obtain ⟨tb, pb, hb⟩ := hb
  exact ⟨_, pt_cmpR ho pa pb hmk, fun M q os ev σ H d ev' hm rl Q k => fcmp_ok hr ha hb M q os ev σ H d ev' hm rl _ fun H' t r => ⟨d, rfl, k H' t r⟩⟩
def fB (m : Env' → Option (Bool × Env')) : Env' → Option (D × Env') := fun ev => (m ev).map fun r => (.bl r.1, r.2)
theorem ef_cmp {op : CmpOp} {r : R2} {f : D → D → Option Bool} {ma mb : Env' → Option (D × Env')} (ho : OpR X (compareOp op) r) (hr : RC2 X.K cl r f) (ha : EF X cl a ma) (hb : EF X cl b mb) (hmk : behindInMarks op b = false) : EF X cl (.Compare a [op] [b] pos) (fB (fc2 f ma mb)) := by
  obtain ⟨ta, pa, ha⟩ := ha
  obtain ⟨tb, pb, hb⟩ := hb
  refine ⟨_, pe_cmpR ho pa pb hmk, fun M q os ev σ H d ev' hm rl Q k => ?_⟩
  obtain ⟨⟨x, ev1⟩, h1, h2⟩ := Option.map_eq_some_iff.1 hm
  cases h2
  exact fcmp_ok hr ha hb M q os ev σ H x _ h1 rl _ fun H' t r => k _ H' t r (rep_bl.2 rfl)
/-- a value that is a truth value, as a test -/
def fT (m : Env' → Option (D × Env')) : Env' → Option (Bool × Env') := fun ev => match m ev with
  | some (.bl b, ev') => some (b, ev')
  | _ => none
theorem eft_val {m : Env' → Option (D × Env')} (h : EF X cl e m) (he : ∀ whole, isTrue e X.env whole = (do let v ← whole; standAt e.pos; holding [v] (truthy v)) := by intro _; rfl) : EFT X cl e (fT m) := by
  obtain ⟨te, hp, h⟩ := h
  refine ⟨_, pt_val hp he, fun M q os ev σ H d ev' hm rl Q k => ?_⟩
  unfold fT at hm
  split at hm
  · next b ev1 hb =>
    cases hm
    exact h M q os ev σ H _ _ hb rl _ fun v H' t r r' => ⟨_, rep_bl.1 r', k H' t r⟩
  · cases hm
def fnB (m : Env' → Option (Bool × Env')) : Env' → Option (Bool × Env') := fun ev => (m ev).map fun r => (!r.1, r.2)
theorem eft_not {t : Env' → Option (Bool × Env')} (h : EFT X cl a t) : EFT X cl (.UnaryOp .Not a pos) (fnB t) := by
  obtain ⟨te, hp, h⟩ := h
  refine ⟨_, pt_not hp, fun M q os ev σ H d ev' hm rl Q k => ?_⟩
  obtain ⟨⟨x, ev1⟩, h1, h2⟩ := Option.map_eq_some_iff.1 hm
  cases h2
  exact h M q os ev σ H x _ h1 rl _ k
def fif (t : Env' → Option (Bool × Env')) (m n : Env' → Option (D × Env')) : Env' → Option (D × Env') := fun ev => do
  let r ← t ev
  if r.1 = true then m r.2 else n r.2
theorem ef_if {t : Env' → Option (Bool × Env')} {ma mb : Env' → Option (D × Env')} (hc : EFT X cl c t) (ha : EF X cl a ma) (hb : EF X cl b mb) : EF X cl (.IfExp c a b pos) (fif t ma mb) := by
  obtain ⟨te, hp, h⟩ := hc
  obtain ⟨ta, pa, ha⟩ := ha
  obtain ⟨tb, pb, hb⟩ := hb
  refine ⟨_, pe_ifExp hp pa pb, fun M q os ev σ H d ev' hm rl Q k => ?_⟩
  obtain ⟨⟨x, ev1⟩, h1, hm⟩ := bind_some' hm
  refine h M q os ev σ H x ev1 h1 rl _ fun H1 t1 rl1 => ?_
  cases x with
  | true => exact iteT (ha M q os ev1 σ H1 d ev' hm rl1 _ fun v H2 t2 rl2 r2 => k v H2 (t1.trans t2) rl2 r2)
  | false => exact iteF (hb M q os ev1 σ H1 d ev' hm rl1 _ fun v H2 t2 rl2 r2 => k v H2 (t1.trans t2) rl2 r2)
def ftup (ma : Env' → Option (List D × Env')) : Env' → Option (D × Env') := fun ev => do let r ← ma ev; if r.1.length ≤ 1000000 then some (.tup r.1, r.2) else none
def flst (ma : Env' → Option (List D × Env')) : Env' → Option (D × Env') := fun ev => do let r ← ma ev; if r.1.length ≤ 1000000 then some (.lst r.1, r.2) else none
theorem ef_tup {ma : Env' → Option (List D × Env')} {x1} (h : EFA X cl es ma) : EF X cl (.Tuple es x1 pos) (ftup ma) := by
  obtain ⟨te, hp, h⟩ := h
  refine ⟨_, pe_tup hp, fun M q os ev σ H d ev' hm rl Q k => ?_⟩
  obtain ⟨⟨ds, ev1⟩, h1, hm⟩ := bind_some' hm
  split at hm
  · next hc =>
    cases hm
    refine h M q os ev σ H ds _ h1 rl _ fun vs H1 t1 rl1 r1 => ⟨?_, fun p hn => ?_⟩
    · simp only at hc
      rw [r1.length, sizeLine_eq]; omega
    · obtain ⟨x1, x2⟩ := new_tup hn (rl1.tk true) r1
      exact k _ _ (t1.trans (.of_ex x1)) (rl1.ex x1) x2
  · cases hm
theorem ef_lst {ma : Env' → Option (List D × Env')} (h : EFA X cl es ma) : EF X cl (.List es pos) (flst ma) := by
  obtain ⟨te, hp, h⟩ := h
  refine ⟨_, pe_lst hp, fun M q os ev σ H d ev' hm rl Q k => ?_⟩
  obtain ⟨⟨ds, ev1⟩, h1, hm⟩ := bind_some' hm
  split at hm
  · next hc =>
    cases hm
    refine h M q os ev σ H ds _ h1 rl _ fun vs H1 t1 rl1 r1 => ⟨?_, fun p hn => ?_⟩
    · simp only at hc
      rw [r1.length, sizeLine_eq]; omega
    · obtain ⟨x1, x2, x3⟩ := new_lst hn (rl1.tk true) r1
      exact k _ _ (t1.trans (.of_ex x1)) (rl1.ex x1) (rep_lst x2 ((rl1.tk true).new hn) x3)
  · cases hm
theorem ef_B {id : String} {x : Str} {p : Pos} {r : List L2.V → Hp → VK → Prop} {f : List D → Option D} {ma : Env' → Option (List D × Env')} (hc : CallR X (.builtin id) r) (hr : RDL X.K cl r f) (hg : Gl X x) (hm : X.mg x = none) (hv : bootBuiltins x = some (.builtin id)) (ha : EFA X cl (e :: es) ma)
    (hn : x ≠ "__name__") (hdb : (x == ("__debug__" : Str)) = false) (he : starEach (e :: es) X.env = (false, eval e X.env) :: starEach es X.env := by rfl) (hpl : (backTo pos (starEach es X.env)).any (·.1) = false := by rfl) :
    EF X cl (.Call (.Name x p) (e :: es) [] pos) (fL1 f ma) := by
  obtain ⟨ta, pa, ha⟩ := ha
  refine ⟨_, pe_callB hc hg hm hv pa hn hdb he hpl, fun M q os ev σ H d ev' hm rl Q k => ?_⟩
  obtain ⟨⟨ds, ev1⟩, h1, hm⟩ := bind_some' hm
  obtain ⟨d', h2, hm⟩ := bind_some' hm
  cases hm
  exact ha M q os ev σ H ds _ h1 rl _ fun vs H1 t1 rl1 r1 => hr _ _ _ _ _ h2 (rl1.tk true) r1 _ fun v H2 x2 r2 => k v H2 (t1.trans (.of_ex x2)) (rl1.ex x2) r2
theorem ef_Ty {T : String} {x : Str} {p : Pos} {r : List L2.V → Hp → VK → Prop} {f : List D → Option D} {ma : Env' → Option (List D × Env')} (hc : CallR X (.type T) r) (hr : RDL X.K cl r f) (hg : Gl X x) (hm : X.mg x = none) (hv : bootBuiltins x = some (.type T)) (ha : EFA X cl (e :: es) ma)
    (hn : x ≠ "__name__") (hdb : (x == ("__debug__" : Str)) = false) (he : starEach (e :: es) X.env = (false, eval e X.env) :: starEach es X.env := by rfl) (hpl : (backTo pos (starEach es X.env)).any (·.1) = false := by rfl) :
    EF X cl (.Call (.Name x p) (e :: es) [] pos) (fL1 f ma) := by
  obtain ⟨ta, pa, ha⟩ := ha
  refine ⟨_, pe_callTy hc hg hm hv pa hn hdb he hpl, fun M q os ev σ H d ev' hm rl Q k => ?_⟩
  obtain ⟨⟨ds, ev1⟩, h1, hm⟩ := bind_some' hm
  obtain ⟨d', h2, hm⟩ := bind_some' hm
  cases hm
  exact ha M q os ev σ H ds _ h1 rl _ fun vs H1 t1 rl1 r1 => hr _ _ _ _ _ h2 (rl1.tk true) r1 _ fun v H2 x2 r2 => k v H2 (t1.trans (.of_ex x2)) (rl1.ex x2) r2
theorem ef_call {x : Str} {p : Pos} {k : Nat} {ps : List Str} {m : List D → Option D} {ma : Env' → Option (List D × Env')} {gb : Bool} (F : FnG gb X.prog X.w X.K X.mg X.base x k ps (spP X.K cl m)) (gd : gb = true → X.A.guards = some []) (hr : Room k X.A) (hg : Gl X x) (ha : EFA X cl (e :: es) ma) (hdb : (x == ("__debug__" : Str)) = false)
    (he : starEach (e :: es) X.env = (false, eval e X.env) :: starEach es X.env := by rfl) (hpl : (backTo pos (starEach es X.env)).any (·.1) = false := by rfl) : EF X cl (.Call (.Name x p) (e :: es) [] pos) (fL1 m ma) := by
  obtain ⟨f, fd, F, hm, hk, hb⟩ := F.ok
  obtain ⟨ta, pa, ha⟩ := ha
  refine ⟨_, pe_callGB F gd hr hg hm hk hb .nil pass0 pa hdb he hpl, fun M q os ev σ H d ev' hm rl Q k => ?_⟩
  obtain ⟨⟨ds, ev1⟩, h1, hm⟩ := bind_some' hm
  obtain ⟨d', h2, hm⟩ := bind_some' hm
  cases hm
  refine ha M q os ev σ H ds _ h1 rl _ fun vs H1 t1 rl1 r1 => ?_
  rw [List.append_nil]
  exact ⟨_, ds, d, h2, rl1.tk true, r1, fun v H2 x2 r2 => k v H2 (t1.trans (.of_ex x2)) (rl1.ex x2) r2⟩
/-- what an owned slot holds is changed -/
def setOwn (ev : Env') (j : Nat) (g : List D) : Env' := match ev[j]? with
  | some (.own _) => ev.set j (.own g)
  | some (.par _) => ev.set j (.par g)
  | _ => ev
def ownAt (ev : Env') (j : Nat) : Option (List D) := match ev[j]? with
  | some (.own g) => some g
  | some (.par g) => some g
  | _ => none
theorem setOwn_cons {s : Slot} {ev : Env'} {j : Nat} {g : List D} : setOwn (s :: ev) (j + 1) g = s :: setOwn ev j g := by
  unfold setOwn
  simp only [List.getElem?_cons_succ, List.set_cons_succ]
  cases ev[j]? with
  | none => rfl
  | some x => cases x <;> rfl
def isPar : Slot → Bool
  | .par _ => true
  | _ => false
def noPar (ev : Env') : Bool := ev.all fun s => !isPar s
section
variable {K : Fg} {V H H' : Hp} {q : Option Addr} {σ : L2.St} {os M : List Addr} {ev : Env'}
theorem SR.mono_np (h : SR K cl V H q ev σ os) (k : ∀ a o, a ∈ os → H a = some o → H' a = some o) (np : noPar ev = true) : SR K cl V H' q ev σ os := by
  induction h with
  | nil => exact .nil
  | emp _ ih => exact .emp (ih k (by simpa [noPar] using (show _ ∧ _ by simpa [noPar] using np).2))
  | val r _ ih => exact .val r (ih k (by simpa [noPar] using (show _ ∧ _ by simpa [noPar] using np).2))
  | own h1 h2 _ ih => exact .own (k _ _ (by simp) h1) h2 (ih (fun a o ha => k a o (by simp [ha])) (by simpa [noPar] using (show _ ∧ _ by simpa [noPar] using np).2))
  | par hq h1 h2 _ ih => simp [noPar, isPar] at np
theorem SR.own_set {g : List D} (h : SR K cl V H q ev σ os) : ∀ {j : Nat}, ownAt ev j = some g → noPar (ev.set j .emp) = true ∨ (∃ xs, ev[j]? = some (.own xs)) → os.Nodup → (∀ a, q = some a → a ∉ os) → ∃ p vs, σ[j]? = some (some (.ref p)) ∧ (p ∈ os ∨ q = some p) ∧ H p = some (.lst vs) ∧ Reps K cl V vs g ∧
    ∀ H' vs' g', (∀ a o, (a ∈ os ∨ q = some a) → a ≠ p → H a = some o → H' a = some o) → H' p = some (.lst vs') → Reps K cl V vs' g' → SR K cl V H' q (setOwn ev j g') σ os := by
  induction h with
  | nil => intro j h; simp [ownAt] at h
  | @emp x e σ os h ih =>
    intro j hj hp nd hq
    cases j with
    | zero => simp [ownAt] at hj
    | succ j =>
      obtain ⟨p, vs, a1, a2, a3, a4, a5⟩ := ih (j := j) (by simpa [ownAt] using hj) (by simpa [noPar, isPar] using hp) nd hq
      refine ⟨p, vs, by simpa using a1, a2, a3, a4, fun H' vs' g' k k2 k3 => ?_⟩
      have := SR.emp (x := x) (a5 H' vs' g' k k2 k3)
      rw [setOwn_cons]
      exact this
  | @val v d e σ os r h ih =>
    intro j hj hp nd hq
    cases j with
    | zero => simp [ownAt] at hj
    | succ j =>
      obtain ⟨p, vs, a1, a2, a3, a4, a5⟩ := ih (j := j) (by simpa [ownAt] using hj) (by simpa [noPar, isPar] using hp) nd hq
      refine ⟨p, vs, by simpa using a1, a2, a3, a4, fun H' vs' g' k k2 k3 => ?_⟩
      have := SR.val r (a5 H' vs' g' k k2 k3)
      rw [setOwn_cons]
      exact this
  | @own p0 vs0 xs0 e σ os h1 h2 h ih =>
    intro j hj hp nd hq
    obtain ⟨nd1, nd2⟩ := List.nodup_cons.1 nd
    cases j with
    | zero =>
      simp [ownAt] at hj
      subst hj
      refine ⟨p0, vs0, rfl, .inl (by simp), h1, h2, fun H' vs' g' k k2 k3 => ?_⟩
      unfold setOwn
      refine .own k2 k3 (h.mono Ex0 fun a o ha => k a o (ha.imp (fun z => by simp [z]) id) fun z => ?_)
      subst z
      rcases ha with ha | ha
      · exact nd1 ha
      · exact hq _ ha (by simp)
    | succ j =>
      obtain ⟨p, vs, a1, a2, a3, a4, a5⟩ := ih (j := j) (by simpa [ownAt] using hj) (by simpa [noPar, isPar] using hp) nd2 (fun a ha z => hq a ha (by simp [z]))
      have hne : p0 ≠ p := fun z => by
        subst z
        rcases a2 with z | z
        · exact nd1 z
        · exact hq _ z (by simp)
      refine ⟨p, vs, by simpa using a1, a2.imp (fun z => by simp [z]) id, a3, a4, fun H' vs' g' k k2 k3 => ?_⟩
      have := SR.own (K := K) (cl := cl) (k p0 _ (.inl (by simp)) hne h1) h2 (a5 H' vs' g' (fun a o ha => k a o (ha.imp (fun z => by simp [z]) id)) k2 k3)
      rw [setOwn_cons]
      exact this
  | @par p0 vs0 xs0 e σ os hq0 h1 h2 h ih =>
    intro j hj hp nd hq
    cases j with
    | zero =>
      simp [ownAt] at hj
      subst hj
      refine ⟨p0, vs0, rfl, .inr hq0, h1, h2, fun H' vs' g' k k2 k3 => ?_⟩
      unfold setOwn
      have np : noPar e = true := by
        rcases hp with hp | ⟨xs, hp⟩
        · simpa [noPar, isPar] using hp
        · simp at hp
      exact .par hq0 k2 k3 (h.mono_np (fun a o ha => k a o (.inl ha) fun z => hq p0 hq0 (z ▸ ha)) np)
    | succ j =>
      obtain ⟨p, vs, a1, a2, a3, a4, a5⟩ := ih (j := j) (by simpa [ownAt] using hj) (by
        rcases hp with hp | hp
        · simp [noPar, isPar] at hp
        · exact .inr (by simpa using hp)) nd hq
      have hne : p0 ≠ p := fun z => by
        subst z
        rcases hp with hp | ⟨xs, hp⟩
        · simp [noPar, isPar] at hp
        · obtain ⟨p', vs', b1, b2, _⟩ := h.get_own (i := j) (by simpa using hp)
          rw [a1] at b1
          cases b1
          exact hq _ hq0 b2
      refine ⟨p, vs, by simpa using a1, a2, a3, a4, fun H' vs' g' k k2 k3 => ?_⟩
      have := SR.par (K := K) (cl := cl) hq0 (k p0 _ (.inr hq0) hne h1) h2 (a5 H' vs' g' k k2 k3)
      rw [setOwn_cons]
      exact this
end
/-- the slot may be changed -/
def mayOwn (ev : Env') (j : Nat) : Bool := match ev[j]? with
  | some (.own _) => true
  | some (.par _) => noPar (ev.set j .emp)
  | _ => false
theorem Rl.own_set {K : Fg} {H : Hp} {q : Option Addr} {σ : L2.St} {os M : List Addr} {ev : Env'} {g : List D} {j : Nat} (r : Rl K cl M q os ev σ H) (h : ownAt ev j = some g) (hm : mayOwn ev j = true) : ∃ p vs, σ[j]? = some (some (.ref p)) ∧ (p ∈ os ∨ q = some p) ∧ H p = some (.lst vs) ∧ Reps K cl (hid (os ++ M) H) vs g ∧
    ∀ H' vs' g', (∀ a o, a ≠ p → H a = some o → H' a = some o) → H' p = some (.lst vs') → Reps K cl (hid (os ++ M) H') vs' g' → Rl K cl M q os (setOwn ev j g') σ H' := by
  have hq : ∀ a, q = some a → a ∉ os := fun a ha z => r.dj a z (r.qm a ha)
  obtain ⟨p, vs, a1, a2, a3, a4, a5⟩ := r.sr.own_set h (by
    unfold mayOwn at hm
    split at hm
    · next xs hx => exact .inr ⟨xs, hx⟩
    · exact .inl hm
    · cases hm) r.nd hq
  have pin : p ∈ os ++ M := by
    rcases a2 with z | z
    · exact List.mem_append_left _ z
    · exact List.mem_append_right _ (r.qm p z)
  refine ⟨p, vs, a1, a2, a3, a4, fun H' vs' g' k k2 k3 => ?_⟩
  have ve : Ex (hid (os ++ M) H) (hid (os ++ M) H') := fun a o h => by
    obtain ⟨h1, h2⟩ := hid_some h
    rw [hid_not h1]
    exact k a o (fun z => h1 (z ▸ pin)) h2
  have rm : SR K cl (hid (os ++ M) H') H q ev σ os := r.sr.mono ve fun _ _ _ h => h
  obtain ⟨p', vs2, b1, b2, b3, b4, b5⟩ := rm.own_set h (by
    unfold mayOwn at hm
    split at hm
    · next xs hx => exact .inr ⟨xs, hx⟩
    · exact .inl hm
    · cases hm) r.nd hq
  rw [a1] at b1
  cases b1
  refine ⟨b5 H' vs' g' (fun a o _ ha => k a o ha) k2 k3, r.nd, r.dj, fun a ha => ?_, r.qm⟩
  by_cases hap : a = p
  · rw [hap, k2]; simp
  · cases h : H a with
    | none => exact absurd h (r.tr a ha)
    | some o => rw [k a o hap h]; simp
/-- a def that changes the list it is handed: an owned slot's -/
def fF (j : Nat) (m : List D → List D → Option (D × List D)) (ma : Env' → Option (List D × Env')) : Env' → Option (D × Env') := fun ev => do
  let _ ← ownAt ev j
  let r ← ma ev
  if mayOwn r.2 j = true then do
    let g ← ownAt r.2 j
    let s ← m g r.1
    some (s.1, setOwn r.2 j s.2)
  else none
theorem slot_ref {K : Fg} {V H : Hp} {q : Option Addr} {σ : L2.St} {os : List Addr} {ev : Env'} {j : Nat} {g : List D} (h : SR K cl V H q ev σ os) (hj : ownAt ev j = some g) : ∃ p, σ[j]? = some (some (.ref p)) := by
  unfold ownAt at hj
  split at hj
  · next x hx =>
    obtain ⟨p, vs, h1, _⟩ := h.get_own hx
    exact ⟨p, h1⟩
  · next x hx =>
    obtain ⟨p, vs, h1, _⟩ := h.get_par hx
    exact ⟨p, h1⟩
  · cases hj
theorem ef_callF {x y : Str} {p p2 : Pos} {j k : Nat} {ps : List Str} {m : List D → List D → Option (D × List D)} {ma : Env' → Option (List D × Env')} {gb : Bool} (F : FnG gb X.prog X.w X.K X.mg X.base x k ps (spF X.K cl m)) (gd : gb = true → X.A.guards = some []) (hr : Room k X.A) (hg : Gl X x) (hj : VarAt X j y) (ha : EFA X cl es ma) (hdb : (x == ("__debug__" : Str)) = false)
    (he : starEach (.Name y p2 :: es) X.env = (false, eval (.Name y p2) X.env) :: starEach es X.env := by rfl) (hpl : (backTo pos (starEach es X.env)).any (·.1) = false := by rfl) : EF X cl (.Call (.Name x p) (.Name y p2 :: es) [] pos) (fF j m ma) := by
  obtain ⟨f, fd, F, hm, hk, hb⟩ := F.ok
  obtain ⟨ta, pa, ha⟩ := ha
  refine ⟨_, pe_callGB F gd hr hg hm hk hb .nil pass0 (pa_cons (pe_var hj.ix hj.vis hj.nd hj.nc) pa he) hdb he hpl, fun M q os ev σ H d ev' hm rl Q k => ?_⟩
  obtain ⟨g0, h0, hm⟩ := bind_some' hm
  obtain ⟨⟨ds, ev1⟩, h1, hm⟩ := bind_some' hm
  split at hm
  · next hmay =>
    obtain ⟨g, h2, hm⟩ := bind_some' hm
    obtain ⟨⟨d', g'⟩, h3, hm⟩ := bind_some' hm
    cases hm
    obtain ⟨p, hp⟩ := slot_ref rl.sr h0
    refine ⟨_, hp, ?_⟩
    refine ha M q os ev σ H ds ev1 h1 rl _ fun us H1 t1 rl1 r1 => ?_
    show spF X.K cl m ((V.ref p :: us) ++ []) H1 Q E0
    rw [List.append_nil]
    obtain ⟨p', vs, a1, a2, a3, a4, a5⟩ := rl1.own_set h2 hmay
    rw [hp] at a1
    cases a1
    have pin : p ∈ os ++ M := by
      rcases a2 with z | z
      · exact List.mem_append_left _ z
      · exact List.mem_append_right _ (rl1.qm p z)
    refine ⟨os ++ M, p, g, vs, ds, us, _, g', rfl, h3, pin, rl1.tr, a3, a4, r1, fun v H2 gv' k1 k2 k3 k4 => ?_⟩
    refine k v H2 (t1.trans ⟨fun a o h n1 n2 => k1 a o h fun z => ?_, fun y hy => .inl hy, fun a o h => ?_⟩) (a5 H2 gv' g' (fun a o n h => k1 a o h n) k2 k3) k4
    · subst z
      rcases a2 with z | z
      · exact n1 z
      · exact n2 z
    · by_cases hap : a = p
      · rw [hap, k2]; simp
      · rw [k1 a o h hap]; simp
  · cases hm
end
/-! ### comprehensions whose elements may change what is owned -/
def cf (K : Fg) (cl : Str → Addr) (m : Env' → Option (D × Env')) : TE := fun σ H Q => ∃ M q os ev d ev', m ev = some (d, ev') ∧ Rl K cl M q os ev σ H ∧ ∀ v H', Tr q os H os H' → Rl K cl M q os ev' σ H' → Rep K cl (hid (os ++ M) H') v d → Q v H'
theorem EF.pe {X : Cx} {cl : Str → Addr} {e : Expr} {m : Env' → Option (D × Env')} (h : EF X cl e m) : PE X e (cf X.K cl m) := by
  obtain ⟨te, hp, h⟩ := h
  exact ⟨fun pins s σ H Q I ⟨M, q, os, ev, d, ev', h1, h2, h3⟩ => hp.run pins s σ H Q I (h M q os ev σ H d ev' h1 h2 Q h3)⟩
def flcGo (t : Tgt) (own : List Nat) (me : Env' → Option (D × Env')) : List D → Env' → Option (List D × Env')
  | [], ev => some ([], ev)
  | d :: r, ev => do
    let ev1 ← t.put d ev
    let y ← me ev1
    if plainAll y.2 own = true then do
      let ys ← flcGo t own me r (wipeE y.2 own)
      some (y.1 :: ys.1, ys.2)
    else none
def flcM (t : Tgt) (own : List Nat) (mi : Env' → Option (List D × Env')) (me : Env' → Option (D × Env')) : Env' → Option (D × Env') := fun ev => do
  let r ← mi ev
  if r.1.length ≤ 1000000 ∧ plainAll r.2 own = true then do
    let s ← flcGo t own me r.1 (wipeE r.2 own)
    some (.lst s.1, s.2)
  else none
section
variable {K : Fg} {cl : Str → Addr} {q : Option Addr} {os M : List Addr} {V H H' : Hp} {σ : L2.St} {e : List Slot}
def empAll (e : List Slot) (is : List Nat) : Prop := ∀ i ∈ is, e[i]? = some .emp
theorem empAll_wipeE {e : List Slot} {is : List Nat} (h : plainAll e is = true) : empAll (wipeE e is) is := by
  have len : ∀ is : List Nat, (wipeE e is).length = e.length := fun is => by
    induction is with
    | nil => rfl
    | cons i is ih => show ((wipeE e is).set i .emp).length = _; rw [List.length_set, ih]
  intro i hi
  have hp : plainAt e i = true := List.all_eq_true.1 h i hi
  have hl : i < e.length := by
    unfold plainAt at hp
    cases he : e[i]? with
    | none => rw [he] at hp; cases hp
    | some x => exact (List.getElem?_eq_some_iff.1 he).1
  clear h hp
  induction is with
  | nil => simp at hi
  | cons j is ih =>
    show ((wipeE e is).set j .emp)[i]? = _
    by_cases hij : j = i
    · subst hij
      rw [List.getElem?_set_self (by rw [len]; exact hl)]
    · rw [List.getElem?_set_ne hij]
      rcases List.mem_cons.1 hi with z | z
      · exact absurd z.symm hij
      · exact ih z
theorem SR.any_emp {x : Option L2.V} (h : SR K cl V H q e σ os) {i : Nat} (hi : e[i]? = some .emp) : SR K cl V H q e (σ.set i x) os := by
  have h1 := h.emp_plain (x := x) (i := i) (by unfold plainAt; rw [hi])
  have h2 : e.set i .emp = e := by
    obtain ⟨hl, he⟩ := List.getElem?_eq_some_iff.1 hi
    rw [← he]
    exact List.set_getElem_self hl
  rw [h2] at h1
  exact h1
theorem SR.unwipe : ∀ {is : List Nat}, SR K cl V H q e (L2.wipe σ is) os → empAll e is → SR K cl V H q e σ os
  | [], h, _ => h
  | i :: is, h, he => by
    have h0 : SR K cl V H q e ((L2.wipe σ is).set i none) os := h
    have hi := he i (by simp)
    refine SR.unwipe (is := is) ?_ fun j hj => he j (by simp [hj])
    by_cases hl : i < (L2.wipe σ is).length
    · have h1 := h0.any_emp (x := (L2.wipe σ is)[i]) hi
      rw [List.set_set, List.set_getElem_self] at h1
      exact h1
    · rw [List.set_eq_of_length_le (l := L2.wipe σ is) (by omega)] at h0
      exact h0
/-- outside of the block the block's names are as they were -/
theorem Rl.unwipe {σ' : L2.St} {is : List Nat} (r : Rl K cl M q os e σ' H) (hp : plainAll e is = true) (hw : L2.wipe σ' is = L2.wipe σ is) : Rl K cl M q os (wipeE e is) σ H := by
  have h := r.wipe hp
  rw [hw] at h
  exact ⟨h.sr.unwipe (empAll_wipeE hp), h.nd, h.dj, h.tr, h.qm⟩
theorem Rl.towipe {is : List Nat} (r : Rl K cl M q os e σ H) (he : empAll e is) : Rl K cl M q os e (L2.wipe σ is) H := by
  refine ⟨?_, r.nd, r.dj, r.tr, r.qm⟩
  have h := r.sr
  revert he
  induction is with
  | nil => intro _; exact h
  | cons i is ih => intro he; exact (ih fun j hj => he j (by simp [hj])).any_emp (he i (by simp))
end
section
variable {X : Cx} {cl : Str → Addr} {elt tg iter : Expr} {scope : Scope} {pos : Pos} {mi : Env' → Option (List D × Env')} {me : Env' → Option (D × Env')} {t : Tgt} {own : List (Str × Nat)}
theorem ef_lc (hc : X.calm = true) (hN : X.N.Nodup) (hi : EFI X cl tg iter mi) (ok : BlkOk X.N X.env.scope scope own) (hsub : ∀ i ∈ t.slots, i ∈ own.map (·.2))
    (hg : ∀ (s : Shared) (H : Hp) (C : Addr) (c : List (Str × Addr)) (fp : List Addr), PGT (X.blk s H scope (compEnvC scope c C X.env) fp) tg t)
    (he : ∀ (s : Shared) (H : Hp) (C : Addr) (c : List (Str × Addr)) (fp : List Addr), EF (X.blk s H scope (compEnvC scope c C X.env) fp) cl elt me) (hs : ∀ x, foldedSetIterable iter X.env x = pure x := by intro _; rfl) :
    EF X cl (.ListComp elt [⟨tg, iter, [], 0⟩] scope pos) (flcM t (own.map (·.2)) mi me) := by
  obtain ⟨wi, hp, h⟩ := hi
  refine ⟨_, pe_lc (g := tgR X.K t) (te := cf X.K cl me) hc hN hp ok hg (fun s H C c fp => pts_nil) (fun s H C c fp => (he s H C c fp).pe) hs, fun M q os ev σ H d ev' hm rl Q k => ?_⟩
  obtain ⟨⟨ds, ev1⟩, h1, hm⟩ := bind_some' hm
  split at hm
  · next hcond =>
    obtain ⟨⟨ys, ev2⟩, h2, hm⟩ := bind_some' hm
    cases hm
    simp only at hcond h2
    refine h M q os ev σ H ds ev1 h1 rl _ fun J H1 t1 rl1 wk Dl hD => ?_
    have pinD : Dl ∉ os ++ M := fun z => rl1.tr _ z hD
    refine ⟨fun i m H' => m = ds.length - i ∧ i ≤ ds.length ∧ Tr q os H1 os H' ∧ ∃ vs acc rest evk, H' Dl = some (.lst vs) ∧ Reps X.K cl (hid (os ++ Dl :: M) H') vs acc ∧ acc.length ≤ i ∧ empAll evk (own.map (·.2)) ∧ Rl X.K cl (Dl :: M) q os evk σ H' ∧ flcGo t (own.map (·.2)) me (ds.drop i) evk = some (rest, ev2) ∧ ys = acc ++ rest,
      ⟨ds.length, by simp, Nat.zero_le _, .of_ex (Evl.Ex.new hD), [], [], ys, wipeE ev1 (own.map (·.2)), upd_same, Reps.nil, Nat.le_refl _, empAll_wipeE hcond.2, (rl1.hide (Evl.Ex.new hD) hD (by rw [upd_same]; simp)).unwipe hcond.2 rfl, by simpa using h2, rfl⟩, fun i m H2 ⟨em, hi, t2, vs, acc, rest, evk, g1, g2, g3, g4, g5, g6, g7⟩ => ?_⟩
    have xv : Ex (hid (os ++ M) H1) (hid (os ++ Dl :: M) H2) := fun a o ha => by
      obtain ⟨n1, n2⟩ := hid_some ha
      have : a ∉ os ++ Dl :: M := fun z => by
        rcases List.mem_append.1 z with z | z
        · exact n1 (List.mem_append_left _ z)
        · rcases List.mem_cons.1 z with rfl | z
          · rw [hD] at n2; cases n2
          · exact n1 (List.mem_append_right _ z)
      rw [hid_not this]
      exact t2.kp a o n2 (fun z => n1 (List.mem_append_left _ z)) fun z => n1 (List.mem_append_right _ (rl1.qm a z))
    obtain ⟨wk1, wk2⟩ := wk _ H2 xv g5.tr
    by_cases hlt : i < ds.length
    · refine .inr ⟨(wk1 i ds[i] (by simp [hlt])).1, fun H' => Tr q os H1 os H' ∧ ∃ vs acc rest evk, H' Dl = some (.lst vs) ∧ Reps X.K cl (hid (os ++ Dl :: M) H') vs acc ∧ acc.length ≤ i + 1 ∧ empAll evk (own.map (·.2)) ∧ Rl X.K cl (Dl :: M) q os evk σ H' ∧ flcGo t (own.map (·.2)) me (ds.drop (i + 1)) evk = some (rest, ev2) ∧ ys = acc ++ rest,
        fun H' ⟨y1, y2⟩ => ⟨ds.length - (i + 1), by omega, rfl, hlt, y1, y2⟩, fun x H3 hy => ?_⟩
      obtain ⟨x3, r3⟩ := (wk1 i ds[i] (by simp [hlt])).2 x H3 hy
      rw [List.drop_eq_getElem_cons hlt] at g6
      unfold flcGo at g6
      obtain ⟨eva, e1, g6⟩ := bind_some' g6
      obtain ⟨⟨y, evb⟩, e2, g6⟩ := bind_some' g6
      split at g6
      · next hpl =>
        obtain ⟨⟨zs, evz⟩, e3, g6⟩ := bind_some' g6
        cases g6
        have rl3 : Rl X.K cl (Dl :: M) q os evk (L2.wipe σ (own.map (·.2))) H3 := (g5.ex x3).towipe g4
        refine tg_ok e1 rl3 r3 fun σ' rl4 hw => ?_
        refine ⟨by rw [hw _ hsub, wipe_wipe _ _ fun _ h => h], ?_⟩
        simp only [tYes, if_true]
        refine ⟨Dl :: M, q, os, eva, y, evb, e2, rl4, fun u H4 t4 rl5 r5 => ?_⟩
        have hDos : Dl ∉ os := fun z => pinD (List.mem_append_left _ z)
        have hDq : q ≠ some Dl := fun z => pinD (List.mem_append_right _ (rl1.qm _ z))
        have k1 : H4 Dl = some (.lst vs) := t4.kp _ _ (x3 _ _ g1) hDos hDq
        have k2 : Reps X.K cl (hid (os ++ Dl :: M) H4) vs acc := (g2.mono (ex_hid x3)).mono (t4.view rl4)
        refine ⟨vs, k1, by rw [k2.length, sizeLine_eq]; have := hcond.1; omega, ?_, vs ++ [u], acc ++ [y], zs, wipeE evb (own.map (·.2)), upd_same, ?_, by rw [List.length_append]; simp; omega, empAll_wipeE hpl, ?_, e3, by rw [g7, List.append_assoc]; rfl⟩
        · have t5 : Tr q os H1 os H4 := (t2.trans (.of_ex x3)).trans t4
          refine ⟨fun a o ha n1 n2 => ?_, fun p hp => .inl hp, fun a o ha => ?_⟩
          · rw [upd_ne (ne_of_none ha hD)]
            exact t5.kp a o ha n1 n2
          · rw [upd_ne (ne_of_none ha hD)]
            exact t5.th a o ha
        · rw [hid_upd (by simp)]
          exact k2.append (Reps.cons r5 Reps.nil)
        · have rl6 : Rl X.K cl (Dl :: M) q os (wipeE evb (own.map (·.2))) σ H4 := rl5.unwipe hpl (by rw [hw _ hsub, wipe_wipe _ _ fun _ h => h])
          refine ⟨?_, rl6.nd, rl6.dj, fun a ha => ?_, rl6.qm⟩
          · rw [hid_upd (by simp)]
            refine rl6.sr.mono Ex0 fun a o ha hb => ?_
            rw [upd_ne fun z => by
              rcases ha with ha | ha
              · exact hDos (z ▸ ha)
              · exact hDq (z ▸ ha)]
            exact hb
          · by_cases hz : a = Dl
            · rw [hz, upd_same]; simp
            · rw [upd_ne hz]; exact rl6.tr a ha
      · cases g6
    · have e : i = ds.length := by omega
      subst e
      rw [List.drop_length] at g6
      cases g6
      rw [List.append_nil] at g7
      subst g7
      refine .inl ⟨wk2, k (.ref Dl) H2 (t1.trans t2) ?_ ?_⟩
      · refine ⟨g5.sr.mono (ex_le fun a ha => ?_) fun _ _ _ h => h, g5.nd, fun p hp z => g5.dj p hp (by simp [z]), fun a ha => g5.tr a ?_, rl1.qm⟩
        · rcases List.mem_append.1 ha with z | z
          · exact List.mem_append_left _ z
          · exact List.mem_append_right _ (by simp [z])
        · rcases List.mem_append.1 ha with z | z
          · exact List.mem_append_left _ z
          · exact List.mem_append_right _ (by simp [z])
      · refine rep_lst g1 pinD (g2.mono (ex_le fun a ha => ?_))
        rcases List.mem_cons.1 ha with rfl | z
        · simp
        · rcases List.mem_append.1 z with z | z
          · exact List.mem_append_left _ z
          · exact List.mem_append_right _ (by simp [z])
  · cases hm
end
/-! iterables that change what is owned: a value that is a list or tuple, a range up to such a number -/
section
variable {X : Cx} {cl : Str → Addr} {tg e a : Expr} {pos : Pos}
def fseq (m : Env' → Option (D × Env')) : Env' → Option (List D × Env') := fun ev => do
  let r ← m ev
  let ds ← iSeqD r.1
  some (ds, r.2)
theorem efi_seq {m : Env' → Option (D × Env')} (ha : EF X cl e m) : EFI X cl tg e (fseq m) := by
  obtain ⟨te, hp, h⟩ := ha
  refine ⟨_, pi_seq hp, fun M q os ev σ H ds ev' hm rl R k => ?_⟩
  obtain ⟨⟨d, ev1⟩, h1, hm⟩ := bind_some' hm
  obtain ⟨ds', h2, hm⟩ := bind_some' hm
  cases hm
  refine h M q os ev σ H d _ h1 rl _ fun v H1 t1 rl1 r1 => ?_
  simp only at h2
  unfold iSeqD at h2
  split at h2
  · cases h2
    obtain ⟨a, vs, rfl, g1, g2⟩ := rep_list.1 r1
    refine .inl ⟨a, rfl, ⟨vs, .of (hid_some g1).2⟩, k _ H1 t1 rl1 fun W' H2 x2 t2 => ?_⟩
    have h2 : SqL X.K H2 a vs := .of (hid_some (x2 _ _ g1)).2
    refine ⟨fun i d hd => ?_, ⟨vs, h2, Nat.le_of_eq g2.length⟩⟩
    obtain ⟨v, e1, e2⟩ := g2.get hd
    refine ⟨⟨vs, v, h2, e1⟩, fun x H3 ⟨y1, y2⟩ => ?_⟩
    subst y1
    have := (y2 vs h2).symm.trans e1
    cases this
    exact ⟨Ex0, e2.mono x2⟩
  · cases h2
    obtain ⟨a, vs, rfl, g1, g2⟩ := rep_tup.1 r1
    refine .inr ⟨a, rfl, ⟨vs, .of (hid_some g1).2⟩, k _ H1 t1 rl1 fun W' H2 x2 t2 => ?_⟩
    have h2 : SqT X.K H2 a vs := .of (hid_some (x2 _ _ g1)).2
    refine ⟨fun i d hd => ?_, ⟨vs, h2, Nat.le_of_eq g2.length⟩⟩
    obtain ⟨v, e1, e2⟩ := g2.get hd
    refine ⟨⟨vs, v, h2, e1⟩, fun x H3 ⟨y1, y2⟩ => ?_⟩
    subst y1
    have := (y2 vs h2).symm.trans e1
    cases this
    exact ⟨Ex0, e2.mono x2⟩
  · cases h2
def frg1 (m : Env' → Option (D × Env')) : Env' → Option (List D × Env') := fun ev => match m ev with
  | some (.int b, ev') => if rgB 0 b = true then some ((rgI 0 b).map D.int, ev') else none
  | _ => none
theorem efi_rg1 {p : Pos} {m : Env' → Option (D × Env')} (hg : Gl X "range") (hm : X.mg "range" = none) (ha : EF X cl a m) (hs : starEach [a] X.env = [(false, eval a X.env)] := by rfl) : EFI X cl tg (.Call (.Name "range" p) [a] [] pos) (frg1 m) := by
  obtain ⟨te, hp, h⟩ := ha
  refine ⟨_, pi_range1 hg hm (pa_cons hp pa_nil hs) hs, fun M q os ev σ H ds ev' hm rl R k => ?_⟩
  unfold frg1 at hm
  split at hm
  · next b ev1 h1 =>
    split at hm
    · next hc =>
      cases hm
      refine h M q os ev σ H _ _ h1 rl _ fun v H1 t1 rl1 r1 => ?_
      rw [rep_int.1 r1]
      refine ⟨b, rfl, (rgB_ok hc).2.2.1, (rgB_ok hc).2.2.2, k _ H1 t1 rl1 ?_⟩
      have := walk_rg (cl := cl) (K := X.K) (W := os ++ M) (H := H1) 0 b
      rw [Int.sub_zero] at this
      exact this
    · cases hm
  · cases hm
end
end Lay

namespace Lay
open PySem PySem.Spec PyProof.Rows L2
open Evl (Ex)
/-! ### statements -/
inductive Rt where
  | val (d : D) | own (xs : List D)
inductive Fl where
  | nx | bk | ct | ret (r : Rt)
abbrev SM := Env' → Option (Fl × Env')
def Post (K : Fg) (cl : Str → Addr) (M : List Addr) (q : Option Addr) (os : List Addr) (H : Hp) (f : Fl) (ev' : Env') (E : Ends) : Prop := match f with
  | .nx => ∀ os' σ' H', Tr q os H os' H' → Rl K cl M q os' ev' σ' H' → E.nx σ' H'
  | .bk => ∀ os' σ' H', Tr q os H os' H' → Rl K cl M q os' ev' σ' H' → E.bk σ' H'
  | .ct => ∀ os' σ' H', Tr q os H os' H' → Rl K cl M q os' ev' σ' H' → E.ct σ' H'
  | .ret (.val d) => ∀ os' σ' H' v, Tr q os H os' H' → Rl K cl M q os' ev' σ' H' → Rep K cl (hid M H') v d → E.rt v H'
  | .ret (.own xs) => ∀ os' σ' H' p vs, Tr q os H os' H' → Rl K cl M q os' ev' σ' H' → (p ∈ os ∨ H p = none) → p ∉ M → H' p = some (.lst vs) → Reps K cl (hid (p :: M) H') vs xs → E.rt (.ref p) H'
theorem Post.from {K : Fg} {cl : Str → Addr} {M : List Addr} {q : Option Addr} {os os1 : List Addr} {H H1 : Hp} {f : Fl} {ev' : Env'} {E : Ends} (t : Tr q os H os1 H1) (h : Post K cl M q os H f ev' E) : Post K cl M q os1 H1 f ev' E := by
  cases f with
  | nx => exact fun os' σ' H' t' r => h os' σ' H' (t.trans t') r
  | bk => exact fun os' σ' H' t' r => h os' σ' H' (t.trans t') r
  | ct => exact fun os' σ' H' t' r => h os' σ' H' (t.trans t') r
  | ret r =>
    cases r with
    | val d => exact fun os' σ' H' v t' r r' => h os' σ' H' v (t.trans t') r r'
    | own xs =>
      refine fun os' σ' H' p vs t' r hp hm h1 h2 => h os' σ' H' p vs (t.trans t') r ?_ hm h1 h2
      rcases hp with z | z
      · exact t.ow p z
      · refine .inr ?_
        cases e : H p with
        | none => rfl
        | some o => exact absurd z (t.th p o e)
section
variable (X : Cx) (cl : Str → Addr)
def S1 (st : Stmt) (m : SM) : Prop :=
  ∃ ts, PS X st ts ∧ ∀ M q os ev σ H f ev', m ev = some (f, ev') → Rl X.K cl M q os ev σ H → ∀ E : Ends, Post X.K cl M q os H f ev' E → ts E σ H
def SS (sts : List Stmt) (m : SM) : Prop :=
  ∃ ts, PSs X sts ts ∧ ∀ M q os ev σ H f ev', m ev = some (f, ev') → Rl X.K cl M q os ev σ H → ∀ E : Ends, Post X.K cl M q os H f ev' E → ts E σ H
end
def sseq (m n : SM) : SM := fun ev => match m ev with
  | some (.nx, ev1) => n ev1
  | some (.ret r, ev1) => some (.ret r, ev1)
  | some (.bk, ev1) => some (.bk, ev1)
  | some (.ct, ev1) => some (.ct, ev1)
  | none => none
def snx : SM := fun ev => some (.nx, ev)
section
variable {X : Cx} {cl : Str → Addr} {e c : Expr} {pos : Pos} {st : Stmt} {rest : List Stmt} {m n : SM}
theorem ss_nil : SS X cl [] snx := ⟨_, pss_nil, fun M q os ev σ H f ev' hm rl E k => by
  cases hm
  exact k os σ H .refl rl⟩
theorem ss_cons (h : S1 X cl st m) (t : SS X cl rest n) : SS X cl (st :: rest) (sseq m n) := by
  obtain ⟨ts, hp, h⟩ := h
  obtain ⟨tt, tp, t⟩ := t
  refine ⟨_, pss_cons hp tp, fun M q os ev σ H f ev' hm rl E k => ?_⟩
  unfold sseq at hm
  show ts { E with nx := tt E } σ H
  split at hm
  · next ev1 h1 => exact h M q os ev σ H _ _ h1 rl _ fun os1 σ1 H1 t1 rl1 => t M q os1 ev1 σ1 H1 f ev' hm rl1 E (k.from t1)
  · next r ev1 h1 =>
    cases hm
    refine h M q os ev σ H _ _ h1 rl _ ?_
    cases r with
    | val d => exact k
    | own xs => exact k
  · next ev1 h1 =>
    cases hm
    exact h M q os ev σ H _ _ h1 rl _ k
  · next ev1 h1 =>
    cases hm
    exact h M q os ev σ H _ _ h1 rl _ k
  · cases hm
theorem ss_one (h : S1 X cl st m) : SS X cl [st] m := by
  obtain ⟨ts, hp, h⟩ := h
  exact ⟨_, pss_one hp, h⟩
/-- what a slot owns is told as a value from here on -/
def frz (i : Nat) (ev : Env') : Env' := match ev[i]? with
  | some (.own xs) => ev.set i (.val (.lst xs))
  | _ => ev
section
variable {K : Fg} {q : Option Addr} {os M : List Addr} {V H H' : Hp} {σ : L2.St} {ev : Env'}
theorem Rl.frz {i : Nat} (r : Rl K cl M q os ev σ H) : ∃ os', Tr q os H os' H ∧ Rl K cl M q os' (Lay.frz i ev) σ H := by
  unfold Lay.frz
  split
  · next xs hx =>
    obtain ⟨p, vs, h1, h2, h3, h4⟩ := r.sr.get_own hx
    -- the view in which p is seen
    let V' := hid ((os.erase p) ++ M) H
    have sub : ∀ a, a ∈ os.erase p → a ∈ os := fun a ha => List.mem_of_mem_erase ha
    have np : p ∉ os.erase p := fun z => (List.Nodup.mem_erase_iff r.nd).1 z |>.1 rfl
    have ve : Ex (hid (os ++ M) H) V' := ex_le fun a ha => by
      rcases List.mem_append.1 ha with z | z
      · exact List.mem_append_left _ (sub a z)
      · exact List.mem_append_right _ z
    have hr : Rep K cl V' (.ref p) (.lst xs) := rep_list.2 ⟨p, vs, rfl, by
      show hid _ _ _ = _
      rw [hid_not]
      · exact h3
      · intro z
        rcases List.mem_append.1 z with z | z
        · exact np z
        · exact r.dj p h2 z, h4.mono ve⟩
    have key : ∀ {V : Hp} {e : Env'} {σ : L2.St} {os : List Addr}, SR K cl V H q e σ os → ∀ {i : Nat}, e[i]? = some (.own xs) → σ[i]? = some (some (.ref p)) → os.Nodup → Rep K cl V (.ref p) (.lst xs) → SR K cl V H q (e.set i (.val (.lst xs))) σ (os.erase p) := by
      intro V e σ os h
      induction h with
      | nil => intro i h; simp at h
      | emp h ih => intro i h1 h2 nd rr; cases i with
        | zero => simp at h1
        | succ i => exact .emp (ih (by simpa using h1) (by simpa using h2) nd rr)
      | val r h ih => intro i h1 h2 nd rr; cases i with
        | zero => simp at h1
        | succ i => exact .val r (ih (by simpa using h1) (by simpa using h2) nd rr)
      | @own p' vs' xs' e σ os g1 g2 h ih => intro i h1 h2 nd rr; cases i with
        | zero =>
          simp at h1 h2
          subst h1; subst h2
          rw [List.erase_cons_head]
          exact .val rr h
        | succ i =>
          obtain ⟨n1, n2⟩ := List.nodup_cons.1 nd
          have hp : p ∈ os := by
            obtain ⟨y, _, b1, b2, _⟩ := h.get_own (i := i) (by simpa using h1)
            have : σ[i]? = some (some (.ref p)) := by simpa using h2
            rw [this] at b1; cases b1; exact b2
          have hne : ¬ (p' == p) = true := fun z => n1 (by rw [eq_of_beq z]; exact hp)
          rw [List.erase_cons_tail hne]
          exact .own g1 g2 (ih (by simpa using h1) (by simpa using h2) n2 rr)
      | par hq g1 g2 h ih => intro i h1 h2 nd rr; cases i with
        | zero => simp at h1
        | succ i => exact .par hq g1 g2 (ih (by simpa using h1) (by simpa using h2) nd rr)
    refine ⟨os.erase p, ⟨fun a o h _ _ => h, fun a ha => .inl (sub a ha), fun a o h => by rw [h]; simp⟩, key (r.sr.mono ve fun _ _ _ h => h) hx h1 r.nd hr, r.nd.erase p, fun a ha => r.dj a (sub a ha), fun a ha => r.tr a ?_, r.qm⟩
    rcases List.mem_append.1 ha with z | z
    · exact List.mem_append_left _ (sub a z)
    · exact List.mem_append_right _ z
  · exact ⟨os, .refl, r⟩
end
theorem ss_frz {i : Nat} {sts : List Stmt} (h : SS X cl sts m) : SS X cl sts (fun ev => m (frz i ev)) := by
  obtain ⟨ts, hp, h⟩ := h
  refine ⟨_, hp, fun M q os ev σ H f ev' hm rl E k => ?_⟩
  obtain ⟨os', t, rl'⟩ := rl.frz (i := i)
  exact h M q os' _ σ H f ev' hm rl' E (k.from t)

/-! assignments -/
/-- the view that is left when less is owned -/
theorem Rl.of_sr {K : Fg} {q : Option Addr} {os' W M : List Addr} {H : Hp} {σ : L2.St} {ev : Env'} (h : SR K cl (hid W H) H q ev σ os') (nd : os'.Nodup) (sub : ∀ a ∈ os' ++ M, a ∈ W) (dj : ∀ p ∈ os', p ∉ M) (tr : ∀ a ∈ W, H a ≠ none) (qm : ∀ a, q = some a → a ∈ M) : Rl K cl M q os' ev σ H :=
  ⟨h.mono (ex_le sub) fun _ _ _ h => h, nd, dj, fun a ha => tr a (sub a ha), qm⟩
theorem Rl.put_val {K : Fg} {q : Option Addr} {os M : List Addr} {H : Hp} {σ : L2.St} {ev : Env'} {v : L2.V} {d : D} (i : Nat) (r : Rl K cl M q os ev σ H) (h : Rep K cl (hid (os ++ M) H) v d) : ∃ os', Tr q os H os' H ∧ Rl K cl M q os' (ev.set i (.val d)) (σ.set i (some v)) H := by
  obtain ⟨os', a, b, c⟩ := r.sr.set_val h i
  refine ⟨os', ⟨fun a o h _ _ => h, fun p hp => .inl (a p hp), fun a o h => by rw [h]; simp⟩, Rl.of_sr c (b r.nd) (fun x hx => ?_) (fun p hp => r.dj p (a p hp)) r.tr r.qm⟩
  rcases List.mem_append.1 hx with z | z
  · exact List.mem_append_left _ (a x z)
  · exact List.mem_append_right _ z
theorem Rl.put_own {K : Fg} {q : Option Addr} {os M : List Addr} {H H' : Hp} {σ : L2.St} {ev : Env'} {p : Addr} {vs : List L2.V} {xs : List D} {i : Nat} (hi : i < ev.length) (r : Rl K cl M q os ev σ H) (hn : H p = none) (x : Ex H H') (hp : H' p = some (.lst vs)) (h : Reps K cl (hid (p :: (os ++ M)) H') vs xs) :
    ∃ os', Tr q os H os' H' ∧ Rl K cl M q os' (ev.set i (.own xs)) (σ.set i (some (.ref p))) H' := by
  have pn : p ∉ os ++ M := fun z => r.tr p z hn
  have s1 : SR K cl (hid (p :: (os ++ M)) H') H' q ev σ os := r.sr.mono (ex_sub (fun a o h _ => x a o h) fun a ha => by
    rcases List.mem_cons.1 ha with rfl | z
    · exact .inr hn
    · exact .inl z) fun a o _ h => x a o h
  obtain ⟨os', a, b, c, s2⟩ := s1.set_own hp h i hi
  have t : Tr q os H os' H' := ⟨fun a o h _ _ => x a o h, fun y hy => (a y hy).elim (fun z => .inr (z ▸ hn)) .inl, fun a o h => by rw [x a o h]; simp⟩
  refine ⟨os', t, Rl.of_sr s2 (c (fun z => pn (List.mem_append_left _ z)) r.nd) (fun y hy => ?_) (fun y hy z => ?_) (fun y hy => ?_) r.qm⟩
  · rcases List.mem_append.1 hy with z | z
    · rcases a y z with z | z
      · simp [z]
      · simp [z]
    · simp [z]
  · rcases a y hy with w | w
    · exact pn (List.mem_append_right _ (w ▸ z))
    · exact r.dj y w z
  · rcases List.mem_cons.1 hy with rfl | z
    · rw [hp]; simp
    · exact (r.ex x).tr y z
def sasg (i : Nat) (m : Env' → Option (D × Env')) : SM := fun ev => do
  let r ← m ev
  some (.nx, r.2.set i (.val r.1))
theorem s_set {i : Nat} {x : Str} {pos' : Pos} {me : Env' → Option (D × Env')} (h : LocAt X i x) (he : EF X cl e me) (hs : swapsWith e (some (.Name x pos')) pos.line X.env = pure false := by rfl) : S1 X cl (.Assign [.Name x pos'] e pos) (sasg i me) := by
  obtain ⟨te, hp, he⟩ := he
  refine ⟨_, ps_set h.nd h.ix h.loc hp hs h.fn, fun M q os ev σ H f ev' hm rl E k => ?_⟩
  obtain ⟨⟨d, ev1⟩, h1, hm⟩ := bind_some' hm
  cases hm
  refine he M q os ev σ H d ev1 h1 rl _ fun v H1 t1 rl1 r1 => ?_
  obtain ⟨os', t2, rl2⟩ := rl1.put_val i r1
  exact k os' _ H1 (t1.trans t2) rl2
def sasgO (i : Nat) (m : Env' → Option (List D)) : SM := fun ev => do
  let r ← m ev
  if i < ev.length then some (.nx, ev.set i (.own r)) else none
theorem s_setO {i : Nat} {x : Str} {pos' : Pos} {me : Env' → Option (List D)} (h : LocAt X i x) (he : EO true X cl e me) (hs : swapsWith e (some (.Name x pos')) pos.line X.env = pure false := by rfl) : S1 X cl (.Assign [.Name x pos'] e pos) (sasgO i me) := by
  obtain ⟨te, hp, he⟩ := he
  refine ⟨_, ps_set h.nd h.ix h.loc hp hs h.fn, fun M q os ev σ H f ev' hm rl E k => ?_⟩
  obtain ⟨d, h1, hm⟩ := bind_some' hm
  split at hm
  · next hi =>
    cases hm
    refine he M q os ev σ H d h1 rl _ fun p H1 vs hn x1 g1 g2 => ?_
    obtain ⟨os', t2, rl2⟩ := rl.put_own hi hn x1 g1 g2
    exact k os' _ H1 t2 rl2
  · cases hm
/-- name = [.. for ..] on one line -/
theorem s_setLc {v fl : Bool} {i : Nat} {x : Str} {py : Pos} {elt tg iter : Expr} {ifs : List Expr} {scope : Scope} {own : List (Str × Nat)} {pos' : Pos} {mi : Env' → Option (List D)} {mt : Env' → Option Bool} {me : Env' → Option D} {t : Tgt}
    (h : LocAt X i x) (hyl : X.env.scope.names.lookup x = some .local) (hsw : swapsWith (.ListComp elt [⟨tg, iter, ifs, 0⟩] scope pos) (some (.Name x py)) pos'.line X.env = pure true)
    (hv : v = true ∨ fl = true) (hc : X.calm = true) (hi : EI v X cl tg iter mi) (ok : BlkOk X.N X.env.scope scope own) (hsub : ∀ i ∈ t.slots, i ∈ own.map (·.2))
    (hg : ∀ (s : Shared) (H : Hp) (C : Addr) (c : List (Str × Addr)) (fp : List Addr), PGT (X.blk s H scope (compEnvC scope c C X.env) fp) tg t) (ht : ∀ (s : Shared) (H : Hp) (C : Addr) (c : List (Str × Addr)) (fp : List Addr), ETs (X.blk s H scope (compEnvC scope c C X.env) fp) cl ifs mt)
    (he : ∀ (s : Shared) (H : Hp) (C : Addr) (c : List (Str × Addr)) (fp : List Addr), EV true (X.blk s H scope (compEnvC scope c C X.env) fp) cl elt me) (hs : ∀ x, foldedSetIterable iter X.env x = pure x := by intro _; rfl) :
    S1 X cl (.Assign [.Name x py] (.ListComp elt [⟨tg, iter, ifs, 0⟩] scope pos) pos') (sasgO i (lcM fl t (own.map (·.2)) mi mt me)) := by
  obtain ⟨wi, hp, hi⟩ := hi
  refine ⟨_, ps_setLc (g := tgR X.K t) (tt := ct X.K cl mt) (te := cv true X.K cl me) hc h.nd h.ix hyl hsw hp ok hg (fun s H C c fp => ht s H C c fp) (fun s H C c fp => (he s H C c fp).pe) hs, fun M q os ev σ H f ev' hm rl E k => ?_⟩
  obtain ⟨d, h1, hm⟩ := bind_some' hm
  split at hm
  · next hi' =>
    cases hm
    refine lc_read (w := true) hv hi hsub M q os ev σ H d h1 rl _ fun p H1 vs hn x1 g1 g2 => ?_
    obtain ⟨os', t2, rl2⟩ := rl.put_own hi' hn x1 g1 g2
    exact k os' _ H1 t2 rl2
  · cases hm
/-- several names at once: values, new lists -/
inductive MR where
  | val (d : D) | own (xs : List D)
inductive MRs (K : Fg) (cl : Str → Addr) (V H : Hp) : List MR → List L2.V → List Addr → Prop
  | nil : MRs K cl V H [] [] []
  | val {d v rs vs ps} : Rep K cl V v d → MRs K cl V H rs vs ps → MRs K cl V H (.val d :: rs) (v :: vs) ps
  | own {xs p us rs vs ps} : H p = some (.lst us) → Reps K cl V us xs → MRs K cl V H rs vs ps → MRs K cl V H (.own xs :: rs) (.ref p :: vs) (p :: ps)
def EM (X : Cx) (cl : Str → Addr) (es : List Expr) (m : Env' → Option (List MR × Env')) : Prop :=
  ∃ ta, PA X es ta ∧ ∀ M q os ev σ H rs ev', m ev = some (rs, ev') → Rl X.K cl M q os ev σ H → ∀ Q : List L2.V → Hp → Prop,
    (∀ vs H' ps, Tr q os H os H' → (∀ p ∈ ps, H p = none ∧ p ∉ M) → ps.Nodup → Rl X.K cl (ps ++ M) q os ev' σ H' → MRs X.K cl (hid (os ++ (ps ++ M)) H') H' rs vs ps → Q vs H') → ta σ H Q
theorem MRs.mono {K : Fg} {V V' H H' : Hp} {rs : List MR} {vs : List L2.V} {ps : List Addr} (h : MRs K cl V H rs vs ps) (v : Ex V V') (k : ∀ p o, p ∈ ps → H p = some o → H' p = some o) : MRs K cl V' H' rs vs ps := by
  induction h with
  | nil => exact .nil
  | val r _ ih => exact .val (r.mono v) (ih k)
  | own h1 h2 _ ih => exact .own (k _ _ (by simp) h1) (h2.mono v) (ih fun p o hp => k p o (by simp [hp]))
theorem em_nil : EM X cl [] (fun ev => some ([], ev)) := by
  refine ⟨_, pa_nil, fun M q os ev σ H rs ev' hm rl Q k => ?_⟩
  cases hm
  exact k [] H [] .refl (by simp) (by simp) rl .nil
def emV (m : Env' → Option (D × Env')) (n : Env' → Option (List MR × Env')) : Env' → Option (List MR × Env') := fun ev => do
  let r ← m ev
  let s ← n r.2
  some (.val r.1 :: s.1, s.2)
def emO (m : Env' → Option (List D)) (n : Env' → Option (List MR × Env')) : Env' → Option (List MR × Env') := fun ev => do
  let r ← m ev
  let s ← n ev
  some (.own r :: s.1, s.2)
theorem em_val {es : List Expr} {me : Env' → Option (D × Env')} {mr : Env' → Option (List MR × Env')} (h : EF X cl e me) (t : EM X cl es mr) (hs : starEach (e :: es) X.env = (false, eval e X.env) :: starEach es X.env := by rfl) : EM X cl (e :: es) (emV me mr) := by
  obtain ⟨te, hp, h⟩ := h
  obtain ⟨tr, hr, t⟩ := t
  refine ⟨_, pa_cons hp hr hs, fun M q os ev σ H rs ev' hm rl Q k => ?_⟩
  obtain ⟨⟨d1, ev1⟩, h1, hm⟩ := bind_some' hm
  obtain ⟨⟨d2, ev2⟩, h2, hm⟩ := bind_some' hm
  cases hm
  refine h M q os ev σ H d1 ev1 h1 rl _ fun v H1 t1 rl1 r1 => t M q os ev1 σ H1 d2 _ h2 rl1 _ fun vs H2 ps t2 g1 g2 rl2 r2 => ?_
  refine k (v :: vs) H2 ps (t1.trans t2) (fun p hp => ⟨?_, (g1 p hp).2⟩) g2 rl2 (.val (r1.mono fun a o ha => ?_) r2)
  · cases e : H p with
    | none => rfl
    | some o => exact absurd (g1 p hp).1 (t1.th p o e)
  · obtain ⟨n1, n2⟩ := hid_some ha
    have n3 : a ∉ os ++ (ps ++ M) := fun z => by
      rcases List.mem_append.1 z with z | z
      · exact n1 (List.mem_append_left _ z)
      · rcases List.mem_append.1 z with z | z
        · rw [(g1 a z).1] at n2; cases n2
        · exact n1 (List.mem_append_right _ z)
    rw [hid_not n3]
    exact t2.kp a o n2 (fun z => n1 (List.mem_append_left _ z)) fun z => n1 (List.mem_append_right _ (rl1.qm a z))
theorem em_own {es : List Expr} {me : Env' → Option (List D)} {mr : Env' → Option (List MR × Env')} (h : EO true X cl e me) (t : EM X cl es mr) (hs : starEach (e :: es) X.env = (false, eval e X.env) :: starEach es X.env := by rfl) : EM X cl (e :: es) (emO me mr) := by
  obtain ⟨te, hp, h⟩ := h
  obtain ⟨tr, hr, t⟩ := t
  refine ⟨_, pa_cons hp hr hs, fun M q os ev σ H rs ev' hm rl Q k => ?_⟩
  obtain ⟨d1, h1, hm⟩ := bind_some' hm
  obtain ⟨⟨d2, ev2⟩, h2, hm⟩ := bind_some' hm
  cases hm
  refine h M q os ev σ H d1 h1 rl _ fun p H1 us hn x1 g1 g2 => ?_
  have rl1 : Rl X.K cl (p :: M) q os ev σ H1 := rl.hide x1 hn (by rw [g1]; simp)
  have pos' : p ∉ os := fun z => rl.tr p (List.mem_append_left _ z) hn
  have pM : p ∉ M := fun z => rl.tr p (List.mem_append_right _ z) hn
  have pq : q ≠ some p := fun z => pM (rl.qm p z)
  refine t (p :: M) q os ev σ H1 d2 _ h2 rl1 _ fun vs H2 ps t2 k1 k2 rl2 r2 => ?_
  have hset : ∀ a, a ∈ os ++ ((p :: ps) ++ M) ↔ a ∈ os ++ (ps ++ p :: M) := fun a => by simp only [List.mem_append, List.mem_cons]; grind
  refine k (.ref p :: vs) H2 (p :: ps) ((Tr.of_ex x1).trans t2) (fun y hy => ?_) (List.nodup_cons.2 ⟨fun z => (k1 p z).2 (by simp), k2⟩) ⟨rl2.sr.mono (ex_le fun a ha => (hset a).1 ha) fun _ _ _ h => h, rl2.nd, fun y hy z => rl2.dj y hy (by simp only [List.mem_append, List.mem_cons] at z ⊢; grind), fun a ha => rl2.tr a ((hset a).1 ha), fun a ha => List.mem_append_right _ (rl.qm a ha)⟩ (.own (t2.kp p _ g1 pos' pq) (g2.mono ?_) (r2.mono (ex_le fun a ha => (hset a).1 ha) fun _ _ _ h => h))
  · rcases List.mem_cons.1 hy with rfl | z
    · exact ⟨hn, pM⟩
    · refine ⟨?_, fun w => (k1 y z).2 (by simp [w])⟩
      cases e : H y with
      | none => rfl
      | some o =>
        have := (k1 y z).1
        rw [x1 y o e] at this
        cases this
  · intro a o ha
    obtain ⟨n1, n2⟩ := hid_some ha
    have n1' : a ≠ p ∧ a ∉ os ∧ a ∉ M := by
      refine ⟨fun z => n1 (by simp [z]), fun z => n1 ?_, fun z => n1 ?_⟩
      · exact List.mem_cons_of_mem _ (List.mem_append_left _ z)
      · exact List.mem_cons_of_mem _ (List.mem_append_right _ z)
    have n3 : a ∉ os ++ ((p :: ps) ++ M) := fun z => by
      rcases List.mem_append.1 z with z | z
      · exact n1'.2.1 z
      · rcases List.mem_append.1 z with z | z
        · rcases List.mem_cons.1 z with z | z
          · exact n1'.1 z
          · rw [(k1 a z).1] at n2; cases n2
        · exact n1'.2.2 z
    rw [hid_not n3]
    exact t2.kp a o n2 n1'.2.1 fun z => n1'.2.2 (rl.qm a z)
def putMR (ev : Env') : List Nat → List MR → Env'
  | i :: is, .val d :: rs => putMR (ev.set i (.val d)) is rs
  | i :: is, .own xs :: rs => putMR (ev.set i (.own xs)) is rs
  | _, _ => ev
theorem Rl.putMR {K : Fg} {q : Option Addr} {W : List Addr} {H : Hp} : ∀ {is : List Nat} {rs : List MR} {vs : List L2.V} {ps : List Addr} {ev : Env'} {σ : L2.St} {os : List Addr}, SR K cl (hid W H) H q ev σ os → os.Nodup → (∀ i ∈ is, i < ev.length) → MRs K cl (hid W H) H rs vs ps → ps.Nodup → (∀ p ∈ ps, p ∉ os) →
    ∃ os', (∀ p ∈ os', p ∈ os ∨ p ∈ ps) ∧ os'.Nodup ∧ SR K cl (hid W H) H q (Lay.putMR ev is rs) (Lay.putV σ is vs) os'
  | [], rs, vs, ps, ev, σ, os, h, nd, hi, hr, np, dj => ⟨os, fun _ z => .inl z, nd, by cases rs <;> cases vs <;> exact h⟩
  | i :: is, [], vs, ps, ev, σ, os, h, nd, hi, hr, np, dj => by
    cases hr
    exact ⟨os, fun _ z => .inl z, nd, h⟩
  | i :: is, .val d :: rs, vs, ps, ev, σ, os, h, nd, hi, hr, np, dj => by
    cases hr with
    | val r hr =>
      obtain ⟨os1, a, b, c⟩ := h.set_val r i
      obtain ⟨os2, a2, b2, c2⟩ := Rl.putMR (is := is) (rs := rs) c (b nd) (fun j hj => by rw [List.length_set]; exact hi j (by simp [hj])) hr np fun p hp z => dj p hp (a p z)
      exact ⟨os2, fun p hp => (a2 p hp).imp (a p) id, b2, c2⟩
  | i :: is, .own xs :: rs, vs, ps, ev, σ, os, h, nd, hi, hr, np, dj => by
    cases hr with
    | @own _ p us _ vs ps h1 h2 hr =>
      obtain ⟨n1, n2⟩ := List.nodup_cons.1 np
      obtain ⟨os1, a, a', b, c⟩ := h.set_own h1 h2 i (hi i (by simp))
      have nd1 := b (dj p (by simp)) nd
      obtain ⟨os2, a2, b2, c2⟩ := Rl.putMR (is := is) (rs := rs) c nd1 (fun j hj => by rw [List.length_set]; exact hi j (by simp [hj])) hr n2 fun y hy z => by
        rcases a y z with w | w
        · exact n1 (w ▸ hy)
        · exact dj y (by simp [hy]) w
      refine ⟨os2, fun y hy => ?_, b2, c2⟩
      rcases a2 y hy with z | z
      · rcases a y z with w | w
        · exact .inr (by simp [w])
        · exact .inl w
      · exact .inr (by simp [z])
theorem Rl.multi {K : Fg} {q : Option Addr} {M os ps : List Addr} {H H' : Hp} {is : List Nat} {rs : List MR} {vs : List L2.V} {ev : Env'} {σ : L2.St} (t : Tr q os H os H') (g : ∀ p ∈ ps, H p = none ∧ p ∉ M) (np : ps.Nodup) (rl : Rl K cl (ps ++ M) q os ev σ H') (h0 : ∀ a ∈ os, H a ≠ none) (qm : ∀ a, q = some a → a ∈ M) (r : MRs K cl (hid (os ++ (ps ++ M)) H') H' rs vs ps) (hi : ∀ i ∈ is, i < ev.length) :
    ∃ os', Tr q os H os' H' ∧ Rl K cl M q os' (Lay.putMR ev is rs) (Lay.putV σ is vs) H' := by
  obtain ⟨os', a, b, c⟩ := Rl.putMR (is := is) rl.sr rl.nd hi r np fun p hp z => h0 p z (g p hp).1
  refine ⟨os', ⟨t.kp, fun p hp => (a p hp).imp id fun z => (g p z).1, t.th⟩, Rl.of_sr c b (fun x hx => ?_) (fun p hp z => ?_) rl.tr qm⟩
  · rcases List.mem_append.1 hx with z | z
    · rcases a x z with w | w
      · exact List.mem_append_left _ w
      · exact List.mem_append_right _ (List.mem_append_left _ w)
    · exact List.mem_append_right _ (List.mem_append_right _ z)
  · rcases a p hp with w | w
    · exact rl.dj p w (List.mem_append_right _ z)
    · exact (g p w).2 z
def smul (is : List Nat) (m : Env' → Option (List MR × Env')) : SM := fun ev => do
  let r ← m ev
  if r.1.length = is.length ∧ is.all (fun i => decide (i < r.2.length)) = true then some (.nx, putMR r.2 is r.1) else none
theorem MRs.len {K : Fg} {V H : Hp} {rs : List MR} {vs : List L2.V} {ps : List Addr} (h : MRs K cl V H rs vs ps) : vs.length = rs.length := by
  induction h with
  | nil => rfl
  | val _ _ ih => simp [ih]
  | own _ _ _ ih => simp [ih]
theorem s_par {i j : Nat} {x y : Str} {a b : Expr} {px py pt : Pos} {kt k2 pt2} {me : Env' → Option (List MR × Env')} (hc : X.calm = true) (hx' : LocAt X i x) (hy' : LocAt X j y) (hij : i ≠ j)
    (hx : X.env.scope.names.lookup x = some .local) (hy : X.env.scope.names.lookup y = some .local) (ha : EM X cl [a, b] me)
    (hw : swappedStores [.Tuple [.Name x px, .Name y py] kt pt] (.Tuple [a, b] k2 pt2) X.env = pure (some [x, y]) := by rfl)
    (hs : swapsWithSole [.Tuple [.Name x px, .Name y py] kt pt] (.Tuple [a, b] k2 pt2) pos.line X.env = pure false := by rfl) :
    S1 X cl (.Assign [.Tuple [.Name x px, .Name y py] kt pt] (.Tuple [a, b] k2 pt2) pos) (smul [i, j] me) := by
  obtain ⟨ta, pa, ha⟩ := ha
  refine ⟨_, ps_par hc hx'.nd hx'.ix hy'.ix hij hx hy pa hw hs, fun M q os ev σ H f ev' hm rl E k => ?_⟩
  obtain ⟨⟨rs, ev1⟩, h1, hm⟩ := bind_some' hm
  split at hm
  · next hcd =>
    cases hm
    simp only at hcd
    refine ha M q os ev σ H rs ev1 h1 rl _ fun vs H1 ps t1 g1 g2 rl1 r1 => ?_
    have hl := r1.len
    rw [hcd.1] at hl
    match vs, hl with
    | [v, w], _ =>
      refine ⟨v, w, rfl, ?_⟩
      obtain ⟨os', t2, rl2⟩ := Rl.multi (is := [i, j]) t1 g1 g2 rl1 (fun a ha => rl.tr a (List.mem_append_left _ ha)) rl.qm r1 fun z hz => of_decide_eq_true (List.all_eq_true.1 hcd.2 z hz)
      exact k os' _ H1 t2 rl2
  · cases hm
theorem s_par3 {i j l : Nat} {x y z : Str} {a b c : Expr} {px py pz pt : Pos} {kt k2 pt2} {me : Env' → Option (List MR × Env')} (hc : X.calm = true) (hx' : LocAt X i x) (hy' : LocAt X j y) (hz' : LocAt X l z) (hij : i ≠ j) (hil : i ≠ l) (hjl : j ≠ l)
    (hx : X.env.scope.names.lookup x = some .local) (hy : X.env.scope.names.lookup y = some .local) (hz : X.env.scope.names.lookup z = some .local) (ha : EM X cl [a, b, c] me)
    (hw : swappedStores [.Tuple [.Name x px, .Name y py, .Name z pz] kt pt] (.Tuple [a, b, c] k2 pt2) X.env = pure (some [x, y, z]) := by rfl)
    (hs : swapsWithSole [.Tuple [.Name x px, .Name y py, .Name z pz] kt pt] (.Tuple [a, b, c] k2 pt2) pos.line X.env = pure false := by rfl) :
    S1 X cl (.Assign [.Tuple [.Name x px, .Name y py, .Name z pz] kt pt] (.Tuple [a, b, c] k2 pt2) pos) (smul [i, j, l] me) := by
  obtain ⟨ta, pa, ha⟩ := ha
  refine ⟨_, ps_par3 hc hx'.nd hx'.ix hy'.ix hz'.ix hij hil hjl hx hy hz pa hw hs, fun M q os ev σ H f ev' hm rl E k => ?_⟩
  obtain ⟨⟨rs, ev1⟩, h1, hm⟩ := bind_some' hm
  split at hm
  · next hcd =>
    cases hm
    simp only at hcd
    refine ha M q os ev σ H rs ev1 h1 rl _ fun vs H1 ps t1 g1 g2 rl1 r1 => ?_
    have hl := r1.len
    rw [hcd.1] at hl
    match vs, hl with
    | [u, v, w], _ =>
      refine ⟨u, v, w, rfl, ?_⟩
      obtain ⟨os', t2, rl2⟩ := Rl.multi (is := [i, j, l]) t1 g1 g2 rl1 (fun a ha => rl.tr a (List.mem_append_left _ ha)) rl.qm r1 fun z hz => of_decide_eq_true (List.all_eq_true.1 hcd.2 z hz)
      exact k os' _ H1 t2 rl2
  · cases hm
end
end Lay

namespace Lay
open PySem PySem.Spec PyProof.Rows L2
open Evl (Ex)
/-! ### targets of assignments -/
def ST (X : Cx) (cl : Str → Addr) (tg : Expr) (f : D → Env' → Option Env') : Prop :=
  ∃ g, PG X tg g ∧ ∀ M q os ev σ H v d ev', f d ev = some ev' → Rl X.K cl M q os ev σ H → Rep X.K cl (hid (os ++ M) H) v d → ∀ Q : L2.St → Hp → Prop, (∀ os' σ' H', Tr q os H os' H' → Rl X.K cl M q os' ev' σ' H' → Q σ' H') → g v σ H Q
def STs (X : Cx) (cl : Str → Addr) (tgs : List Expr) (f : List D → Env' → Option Env') : Prop :=
  ∃ g, PGs X tgs g ∧ ∀ M q os ev σ H vs ds ev', f ds ev = some ev' → Rl X.K cl M q os ev σ H → Reps X.K cl (hid (os ++ M) H) vs ds → ∀ Q : L2.St → Hp → Prop, (∀ os' σ' H', Tr q os H os' H' → Rl X.K cl M q os' ev' σ' H' → Q σ' H') → g vs σ H Q
section
variable {X : Cx} {cl : Str → Addr} {e c o : Expr} {pos : Pos} {st : Stmt} {rest : List Stmt} {m n : SM}
def gN (i : Nat) : D → Env' → Option Env' := fun d ev => some (ev.set i (.val d))
theorem st_name {i : Nat} {x : Str} (h : LocAt X i x) : ST X cl (.Name x pos) (gN i) := by
  refine ⟨_, pg_name h.nd h.ix h.loc h.fn, fun M q os ev σ H v d ev' hf rl hv Q k => ?_⟩
  cases hf
  obtain ⟨os', t, rl'⟩ := rl.put_val i hv
  exact k os' _ H t rl'
/-- x[j] = .., x an owned slot -/
def gS (i : Nat) (mj : Env' → Option D) : D → Env' → Option Env' := fun d ev => match ownAt ev i, mj ev with
  | some g, some (.int k) => (match ixN g.length k with
    | some j => if mayOwn ev i = true then some (setOwn ev i (g.set j d)) else none
    | none => none)
  | _, _ => none
theorem st_sub {i : Nat} {x : Str} {p2 : Pos} {mj : Env' → Option D} (h : VarAt X i x) (hj : EV true X cl e mj)
    (ha : ∀ v, assign (.Subscript (.Name x p2) e pos) X.env v = (do
      let ov ← holding [v] (eval (.Name x p2) X.env)
      let iv ← holding [v, ov] (eval e X.env)
      standAt pos
      holding [v, ov, iv] (setItem ov iv v)
      release [v, ov, iv] []) := by intro _; rfl) : ST X cl (.Subscript (.Name x p2) e pos) (gS i mj) := by
  obtain ⟨te, hp, hj⟩ := hj
  refine ⟨_, pg_sub (pe_var h.ix h.vis h.nd h.nc) hp set_list ha, fun M q os ev σ H v d ev' hf rl hv Q k => ?_⟩
  unfold gS at hf
  split at hf
  · next g kk h1 h2 =>
    split at hf
    · next j hjx =>
      split at hf
      · next hmay =>
        cases hf
        obtain ⟨p, hp'⟩ := slot_ref rl.sr h1
        refine ⟨_, hp', hj M q os ev σ H _ h2 rl _ fun u H1 x1 r1 => ?_⟩
        obtain ⟨p', vs, a1, a2, a3, a4, a5⟩ := (rl.ex x1).own_set h1 hmay
        rw [hp'] at a1
        cases a1
        refine ⟨p, vs, kk, j, rfl, rep_int.1 r1, a3, by rw [a4.length]; exact hjx, ?_⟩
        have pin : p ∈ os ++ M := by
          rcases a2 with z | z
          · exact List.mem_append_left _ z
          · exact List.mem_append_right _ (rl.qm p z)
        refine k os σ _ ⟨fun a o ha n1 n2 => ?_, fun y hy => .inl hy, fun a o ha => ?_⟩ (a5 _ _ _ (fun a o n ha => by rw [upd_ne n]; exact ha) upd_same ?_)
        · rw [upd_ne fun z => by
            subst z
            rcases a2 with w | w
            · exact n1 w
            · exact n2 w]
          exact x1 a o ha
        · by_cases hz : a = p
          · rw [hz, upd_same]; simp
          · rw [upd_ne hz, x1 a o ha]; simp
        · rw [hid_upd pin]
          exact a4.set j (hv.mono (ex_hid x1))
      · cases hf
    · cases hf
  · cases hf
def gs0 : List D → Env' → Option Env' := fun ds ev => match ds with
  | [] => some ev
  | _ => none
def gs1 (f : D → Env' → Option Env') (g : List D → Env' → Option Env') : List D → Env' → Option Env' := fun ds ev => match ds with
  | d :: r => (f d ev).bind (g r)
  | [] => none
theorem sts_nil : STs X cl [] gs0 := by
  refine ⟨_, pgs_nil, fun M q os ev σ H vs ds ev' hf rl hv Q k => ?_⟩
  unfold gs0 at hf
  split at hf
  · cases hf
    exact ⟨Reps.nil_iff.1 hv, k os σ H .refl rl⟩
  · cases hf
theorem sts_cons {t : Expr} {ts : List Expr} {f : D → Env' → Option Env'} {g : List D → Env' → Option Env'} (h : ST X cl t f) (hs : STs X cl ts g) (ha : (assignEach (t :: ts) X.env).map (·.2) = assign t X.env :: (assignEach ts X.env).map (·.2) := by rfl) : STs X cl (t :: ts) (gs1 f g) := by
  obtain ⟨t1, p1, h⟩ := h
  obtain ⟨t2, p2, hs⟩ := hs
  refine ⟨_, pgs_cons p1 p2 ha, fun M q os ev σ H vs ds ev' hf rl hv Q k => ?_⟩
  unfold gs1 at hf
  split at hf
  · next d r =>
    obtain ⟨ev1, h1, h2⟩ := Option.bind_eq_some_iff.1 hf
    obtain ⟨v, us, rfl, r1, r2⟩ := Reps.cons_iff.1 hv
    refine ⟨v, us, rfl, h M q os ev σ H v d ev1 h1 rl r1 _ fun os1 σ1 H1 t1 rl1 => ?_⟩
    exact hs M q os1 ev1 σ1 H1 us r ev' h2 rl1 (r2.mono (t1.view rl)) _ fun os2 σ2 H2 t2 rl2 => k os2 σ2 H2 (t1.trans t2) rl2
  · cases hf
def gT (g : List D → Env' → Option Env') : D → Env' → Option Env' := fun d ev => match d with
  | .tup ds => g ds ev
  | _ => none
def gLs (n : Nat) (g : List D → Env' → Option Env') : D → Env' → Option Env' := fun d ev => match d with
  | .lst ds => if ds.length = n then g ds ev else none
  | _ => none
def gTn (n : Nat) (g : List D → Env' → Option Env') : D → Env' → Option Env' := fun d ev => match d with
  | .tup ds => if ds.length = n then g ds ev else none
  | _ => none
theorem st_tup {es : List Expr} {kk n : Nat} {g : List D → Env' → Option Env'} (hc : X.calm = true) (h : STs X cl es g) (hn : (assignEach es X.env).length = n := by rfl) (hst : (assignEach es X.env).findIdx? (·.1) = none := by rfl) : ST X cl (.Tuple es kk pos) (gTn n g) := by
  obtain ⟨t1, p1, h⟩ := h
  refine ⟨_, pg_tup hc p1 hn hst, fun M q os ev σ H v d ev' hf rl hv Q k => ?_⟩
  unfold gTn at hf
  split at hf
  · next ds =>
    split at hf
    · next hl =>
      obtain ⟨a, vs, rfl, g1, g2⟩ := rep_tup.1 hv
      exact ⟨a, vs, rfl, .of (hid_some g1).2, by rw [g2.length, hl], h M q os ev σ H vs ds ev' hf rl g2 Q k⟩
    · cases hf
  · cases hf
theorem st_lst {es : List Expr} {kk n : Nat} {g : List D → Env' → Option Env'} (hc : X.calm = true) (h : STs X cl es g) (hn : (assignEach es X.env).length = n := by rfl) (hst : (assignEach es X.env).findIdx? (·.1) = none := by rfl) : ST X cl (.Tuple es kk pos) (gLs n g) := by
  obtain ⟨t1, p1, h⟩ := h
  refine ⟨_, pg_unl hc p1 hn hst, fun M q os ev σ H v d ev' hf rl hv Q k => ?_⟩
  unfold gLs at hf
  split at hf
  · next ds =>
    split at hf
    · next hl =>
      obtain ⟨a, vs, rfl, g1, g2⟩ := rep_list.1 hv
      exact ⟨a, vs, rfl, .of (hid_some g1).2, by rw [g2.length, hl], h M q os ev σ H vs ds ev' hf rl g2 Q k⟩
    · cases hf
  · cases hf
def sput (f : D → Env' → Option Env') (me : Env' → Option (D × Env')) : SM := fun ev => do
  let r ← me ev
  let ev' ← f r.1 r.2
  some (.nx, ev')
theorem s_asg {tg : Expr} {f : D → Env' → Option Env'} {me : Env' → Option (D × Env')} (he : EF X cl e me) (hg : ST X cl tg f) (hs : swapsWithSole [tg] e pos.line X.env = pure false := by rfl) (hw : swappedStores [tg] e X.env = pure none := by rfl)
    (h1 : (assignEach [tg] X.env).map (·.2) = [assign tg X.env] := by rfl) : S1 X cl (.Assign [tg] e pos) (sput f me) := by
  obtain ⟨te, hp, he⟩ := he
  obtain ⟨g, gp, hg⟩ := hg
  refine ⟨_, ps_asg hp gp hs hw h1, fun M q os ev σ H fl ev' hm rl E k => ?_⟩
  obtain ⟨⟨d, ev1⟩, g1, hm⟩ := bind_some' hm
  obtain ⟨ev2, g2, hm⟩ := bind_some' hm
  cases hm
  exact he M q os ev σ H d ev1 g1 rl _ fun v H1 t1 rl1 r1 => hg M q os ev1 σ H1 v d _ g2 rl1 r1 _ fun os2 σ2 H2 t2 rl2 => k os2 σ2 H2 (t1.trans t2) rl2

/-! other statements -/
def sdrop (me : Env' → Option (D × Env')) : SM := fun ev => do
  let r ← me ev
  some (.nx, r.2)
theorem s_expr {me : Env' → Option (D × Env')} (he : EF X cl e me) (hs : swapsWith e none pos.line X.env = pure false := by rfl) : S1 X cl (.Expr e pos) (sdrop me) := by
  obtain ⟨te, hp, he⟩ := he
  refine ⟨_, ps_expr hp hs, fun M q os ev σ H fl ev' hm rl E k => ?_⟩
  obtain ⟨⟨d, ev1⟩, g1, hm⟩ := bind_some' hm
  cases hm
  exact he M q os ev σ H d _ g1 rl _ fun v H1 t1 rl1 r1 => k os σ H1 t1 rl1
/-- x.append(e) -/
def sapp (i : Nat) (me : Env' → Option D) : SM := fun ev => match ownAt ev i, me ev with
  | some g, some d => if g.length ≤ 1000000 ∧ mayOwn ev i = true then some (.nx, setOwn ev i (g ++ [d])) else none
  | _, _ => none
theorem rl_upd {K : Fg} {M : List Addr} {q : Option Addr} {os : List Addr} {ev : Env'} {σ : L2.St} {H H1 : Hp} {i : Nat} {g g' : List D} {p : Addr} {vs' : List L2.V} (rl : Rl K cl M q os ev σ H) (x1 : Ex H H1) (h1 : ownAt ev i = some g) (hmay : mayOwn ev i = true) (hp : σ[i]? = some (some (.ref p)))
    (hr : Reps K cl (hid (os ++ M) H1) vs' g') : Tr q os H os (upd H1 p (.lst vs')) ∧ Rl K cl M q os (setOwn ev i g') σ (upd H1 p (.lst vs')) := by
  obtain ⟨p', vs, a1, a2, a3, a4, a5⟩ := (rl.ex x1).own_set h1 hmay
  rw [hp] at a1
  cases a1
  have pin : p ∈ os ++ M := by
    rcases a2 with z | z
    · exact List.mem_append_left _ z
    · exact List.mem_append_right _ (rl.qm p z)
  refine ⟨⟨fun a o ha n1 n2 => ?_, fun y hy => .inl hy, fun a o ha => ?_⟩, a5 _ _ _ (fun a o n ha => by rw [upd_ne n]; exact ha) upd_same ?_⟩
  · rw [upd_ne fun z => by
      subst z
      rcases a2 with w | w
      · exact n1 w
      · exact n2 w]
    exact x1 a o ha
  · by_cases hz : a = p
    · rw [hz, upd_same]; simp
    · rw [upd_ne hz, x1 a o ha]; simp
  · rw [hid_upd pin]
    exact hr
theorem own_at {K : Fg} {M : List Addr} {q : Option Addr} {os : List Addr} {ev : Env'} {σ : L2.St} {H : Hp} {i : Nat} {g : List D} {p : Addr} (rl : Rl K cl M q os ev σ H) (h1 : ownAt ev i = some g) (hmay : mayOwn ev i = true) (hp : σ[i]? = some (some (.ref p))) : ∃ vs, H p = some (.lst vs) ∧ Reps K cl (hid (os ++ M) H) vs g := by
  obtain ⟨p', vs, a1, a2, a3, a4, a5⟩ := rl.own_set h1 hmay
  rw [hp] at a1
  cases a1
  exact ⟨vs, a3, a4⟩
theorem s_append {i : Nat} {x : Str} {p2 apos pos' : Pos} {me : Env' → Option D} {t0 : TE} (h : VarAt X i x) (he : EV true X cl e me)
    (hpe : ∀ te, PE X e te → PE X (.Call (.Attribute (.Name x p2) "append" apos) [e] [] pos) (tBM X.K "list" rAppend (tVar i) (tCons te tNil)))
    (hs : swapsWith (.Call (.Attribute (.Name x p2) "append" apos) [e] [] pos) none pos'.line X.env = pure false := by rfl) : S1 X cl (.Expr (.Call (.Attribute (.Name x p2) "append" apos) [e] [] pos) pos') (sapp i me) := by
  obtain ⟨te, hp, he⟩ := he
  refine ⟨_, ps_expr (hpe te hp) hs, fun M q os ev σ H fl ev' hm rl E k => ?_⟩
  unfold sapp at hm
  split at hm
  · next g d h1 h2 =>
    split at hm
    · next hc =>
      cases hm
      obtain ⟨p, hp'⟩ := slot_ref rl.sr h1
      obtain ⟨vs, a3, a4⟩ := own_at rl h1 hc.2 hp'
      refine ⟨_, hp', .inl ⟨rfl, _, .of a3⟩, he M q os ev σ H _ h2 rl _ fun u H1 x1 r1 => ?_⟩
      obtain ⟨t, rl'⟩ := rl_upd (g' := g ++ [d]) (vs' := vs ++ [u]) rl x1 h1 hc.2 hp' ((a4.mono (ex_hid x1)).append (Reps.cons r1 Reps.nil))
      exact ⟨p, vs, u, rfl, rfl, x1 _ _ a3, by rw [a4.length, sizeLine_eq]; omega, k os σ _ t rl'⟩
    · cases hm
  · cases hm
/-- x.pop() -/
def xpop (i : Nat) : Env' → Option (D × Env') := fun ev => match ownAt ev i with
  | some g => (match g[g.length - 1]? with
    | some d => if mayOwn ev i = true then some (d, setOwn ev i g.dropLast) else none
    | none => none)
  | none => none
theorem ef_pop {i : Nat} {x : Str} {p2 apos : Pos} (h : VarAt X i x) (hpe : PE X (.Call (.Attribute (.Name x p2) "pop" apos) [] [] pos) (tBM0 X.K "list" rPop (tVar i))) : EF X cl (.Call (.Attribute (.Name x p2) "pop" apos) [] [] pos) (xpop i) := by
  refine ⟨_, hpe, fun M q os ev σ H d ev' hm rl Q k => ?_⟩
  unfold xpop at hm
  split at hm
  · next g h1 =>
    split at hm
    · next y hy =>
      split at hm
      · next hc =>
        cases hm
        obtain ⟨p, hp'⟩ := slot_ref rl.sr h1
        obtain ⟨vs, a3, a4⟩ := own_at rl h1 hc hp'
        obtain ⟨u, e1, e2⟩ := a4.get hy
        obtain ⟨t, rl'⟩ := rl_upd (g' := g.dropLast) (vs' := vs.dropLast) rl Ex0 h1 hc hp' a4.dropLast
        refine ⟨_, hp', .inl ⟨rfl, _, .of a3⟩, p, vs, u, rfl, rfl, a3, by rw [a4.length]; exact e1, k u _ t rl' ?_⟩
        exact e2.mono (t.view rl)
      · cases hm
    · cases hm
  · cases hm
def sif (t : Env' → Option (Bool × Env')) (m n : SM) : SM := fun ev => do
  let r ← t ev
  if r.1 = true then m r.2 else n r.2
theorem s_if {t : Env' → Option (Bool × Env')} {a b : List Stmt} (hc : EFT X cl c t) (ha : SS X cl a m) (hb : SS X cl b n) : S1 X cl (.If c a b pos) (sif t m n) := by
  obtain ⟨te, hp, h⟩ := hc
  obtain ⟨ta, pa, ha⟩ := ha
  obtain ⟨tb, pb, hb⟩ := hb
  refine ⟨_, ps_if hp pa pb, fun M q os ev σ H f ev' hm rl E k => ?_⟩
  obtain ⟨⟨x, ev1⟩, h1, hm⟩ := bind_some' hm
  refine h M q os ev σ H x ev1 h1 rl _ fun H1 t1 rl1 => ?_
  cases x with
  | true => exact iteT (ha M q os ev1 σ H1 f ev' hm rl1 E (k.from t1))
  | false => exact iteF (hb M q os ev1 σ H1 f ev' hm rl1 E (k.from t1))
def sret (m : Env' → Option D) : SM := fun ev => do
  let d ← m ev
  some (.ret (.val d), ev)
theorem s_ret {me : Env' → Option D} (he : EV false X cl e me) : S1 X cl (.Return (some e) pos) (sret me) := by
  obtain ⟨te, hp, he⟩ := he
  refine ⟨_, ps_ret hp, fun M q os ev σ H f ev' hm rl E k => ?_⟩
  obtain ⟨d, h1, hm⟩ := bind_some' hm
  cases hm
  exact he M q os _ σ H d h1 rl _ fun v H1 x1 r1 => k os σ H1 v (.of_ex x1) (rl.ex x1) r1
def sretF (m : Env' → Option (D × Env')) : SM := fun ev => do
  let r ← m ev
  some (.ret (.val r.1), r.2)
theorem s_retF {me : Env' → Option (D × Env')} (he : EF X cl e me) : S1 X cl (.Return (some e) pos) (sretF me) := by
  obtain ⟨te, hp, he⟩ := he
  refine ⟨_, ps_ret hp, fun M q os ev σ H f ev' hm rl E k => ?_⟩
  obtain ⟨⟨d, ev1⟩, h1, hm⟩ := bind_some' hm
  cases hm
  exact he M q os _ σ H d _ h1 rl _ fun v H1 t1 rl1 r1 => k os σ H1 v t1 rl1 (r1.mono (ex_le fun a ha => List.mem_append_right _ ha))
def sretO (m : Env' → Option (List D)) : SM := fun ev => do
  let d ← m ev
  some (.ret (.own d), ev)
theorem s_retO {me : Env' → Option (List D)} (he : EO false X cl e me) : S1 X cl (.Return (some e) pos) (sretO me) := by
  obtain ⟨te, hp, he⟩ := he
  refine ⟨_, ps_ret hp, fun M q os ev σ H f ev' hm rl E k => ?_⟩
  obtain ⟨d, h1, hm⟩ := bind_some' hm
  cases hm
  exact he M q os _ σ H d h1 rl _ fun p H1 vs hn x1 g1 g2 => k os σ H1 p vs (.of_ex x1) (rl.ex x1) (.inr hn) (fun z => rl.tr p (List.mem_append_right _ z) hn) g1 g2
/-- return x, x an owned slot -/
def sretV (i : Nat) : SM := fun ev => match ev[i]? with
  | some (.own xs) => some (.ret (.own xs), ev)
  | _ => none
theorem s_retV {i : Nat} {x : Str} {p2 : Pos} (h : VarAt X i x) : S1 X cl (.Return (some (.Name x p2)) pos) (sretV i) := by
  refine ⟨_, ps_ret (pe_var h.ix h.vis h.nd h.nc), fun M q os ev σ H f ev' hm rl E k => ?_⟩
  unfold sretV at hm
  split at hm
  · next xs hx =>
    cases hm
    obtain ⟨p, vs, a1, a2, a3, a4⟩ := rl.sr.get_own hx
    refine ⟨_, a1, k os σ H p vs .refl rl (.inl a2) (rl.dj p a2) a3 (a4.mono (ex_le fun a ha => ?_))⟩
    rcases List.mem_cons.1 ha with rfl | z
    · exact List.mem_append_left _ a2
    · exact List.mem_append_right _ z
  · cases hm
theorem s_retN : S1 X cl (.Return none pos) (sret fun _ => some .non) := ⟨_, ps_retN, fun M q os ev σ H f ev' hm rl E k => by
  cases hm
  exact k os σ H .non .refl rl (rep_non.2 rfl)⟩
def snever : SM := fun _ => none
theorem s_never : S1 X cl st snever := ⟨_, ps_never, fun _ _ _ _ _ _ _ _ hm => by cases hm⟩
theorem s_break : S1 X cl (.Break pos) (fun ev => some (.bk, ev)) := ⟨_, ps_break, fun M q os ev σ H f ev' hm rl E k => by
  cases hm
  exact k os σ H .refl rl⟩
theorem s_continue : S1 X cl (.Continue pos) (fun ev => some (.ct, ev)) := ⟨_, ps_continue, fun M q os ev σ H f ev' hm rl E k => by
  cases hm
  exact k os σ H .refl rl⟩
theorem s_pass : S1 X cl (.Pass pos) snx := ⟨_, ps_pass, fun M q os ev σ H f ev' hm rl E k => by
  cases hm
  exact k os σ H .refl rl⟩
/-! loops -/
def whileGo (c : Env' → Option Bool) (b : SM) : Nat → SM
  | 0, _ => none
  | n + 1, ev => match c ev with
    | some true => (match b ev with
      | some (.nx, ev1) => whileGo c b n ev1
      | some (.ct, ev1) => whileGo c b n ev1
      | some (.bk, ev1) => some (.nx, ev1)
      | some (.ret r, ev1) => some (.ret r, ev1)
      | none => none)
    | some false => some (.nx, ev)
    | none => none
theorem whileGo_mono {c : Env' → Option Bool} {b : SM} : ∀ {n m : Nat} {ev : Env'} {r : Fl × Env'}, n ≤ m → whileGo c b n ev = some r → whileGo c b m ev = some r
  | 0, _, _, _, _, h => by cases h
  | n + 1, 0, _, _, hl, _ => by omega
  | n + 1, m + 1, ev, r, hl, h => by
    unfold whileGo at h ⊢
    cases hc : c ev with
    | none => rw [hc] at h; cases h
    | some t =>
      rw [hc] at h
      cases t with
      | false => exact h
      | true =>
        simp only at h ⊢
        cases hb : b ev with
        | none => rw [hb] at h; cases h
        | some s =>
          obtain ⟨f, ev1⟩ := s
          rw [hb] at h
          cases f with
          | nx => exact whileGo_mono (by omega) h
          | ct => exact whileGo_mono (by omega) h
          | bk => exact h
          | ret r => exact h
/-- turns enough -/
def FUEL : Nat := 1000000000
def swhile (c : Env' → Option Bool) (b : SM) : SM := whileGo c b FUEL
theorem swhile_of {c : Env' → Option Bool} {b : SM} {n : Nat} {ev : Env'} {r : Fl × Env'} (hn : n ≤ 1000000000) (h : whileGo c b n ev = some r) : swhile c b ev = some r := whileGo_mono hn h
theorem s_while {t : Env' → Option Bool} {body : List Stmt} (hx : X.xe = fun _ _ => False) (hc : ET X cl c t) (hb : SS X cl body m) : S1 X cl (.While c body [] pos) (swhile t m) := by
  obtain ⟨te, hp, h⟩ := hc
  obtain ⟨tb, pb, hb⟩ := hb
  refine ⟨_, ps_while (by rw [hx]; exact PassesOwn.never) hp pb, fun M q os ev σ H f ev' hm rl E k => ?_⟩
  refine ⟨fun n σ' H' => ∃ os' ev1, Tr q os H os' H' ∧ Rl X.K cl M q os' ev1 σ' H' ∧ whileGo t m n ev1 = some (f, ev'), ⟨FUEL, os, ev, .refl, rl, hm⟩, fun n σ1 H1 ⟨os1, ev1, t1, rl1, hw⟩ => ?_⟩
  cases n with
  | zero => cases hw
  | succ n =>
    unfold whileGo at hw
    split at hw
    · next hc1 =>
      refine h M q os1 ev1 σ1 H1 true hc1 rl1 _ fun H2 x2 => iteT ?_
      refine ⟨fun σ' H' => ∃ os' ev1, Tr q os H os' H' ∧ Rl X.K cl M q os' ev1 σ' H' ∧ whileGo t m n ev1 = some (f, ev'), fun σ' H' hN => ⟨n, Nat.lt_succ_self n, hN⟩, ?_⟩
      have t2 : Tr q os H os1 H2 := t1.trans (.of_ex x2)
      split at hw
      · next ev2 h2 => exact hb M q os1 ev1 σ1 H2 _ _ h2 (rl1.ex x2) _ fun os3 σ3 H3 t3 rl3 => ⟨os3, ev2, t2.trans t3, rl3, hw⟩
      · next ev2 h2 => exact hb M q os1 ev1 σ1 H2 _ _ h2 (rl1.ex x2) _ fun os3 σ3 H3 t3 rl3 => ⟨os3, ev2, t2.trans t3, rl3, hw⟩
      · next ev2 h2 =>
        cases hw
        exact hb M q os1 ev1 σ1 H2 _ _ h2 (rl1.ex x2) _ fun os3 σ3 H3 t3 rl3 => k os3 σ3 H3 (t2.trans t3) rl3
      · next r ev2 h2 =>
        cases hw
        refine hb M q os1 ev1 σ1 H2 _ _ h2 (rl1.ex x2) _ ?_
        have k2 := k.from t2
        cases r with
        | val d => exact k2
        | own xs => exact k2
      · cases hw
    · next hc1 =>
      cases hw
      exact h M q os1 _ σ1 H1 false hc1 rl1 _ fun H2 x2 => iteF (k os1 σ1 H2 (t1.trans (.of_ex x2)) (rl1.ex x2))
    · cases hw
def forGo (f : D → Env' → Option Env') (b : SM) : List D → SM
  | [], ev => some (.nx, ev)
  | d :: r, ev => match f d ev with
    | none => none
    | some ev0 => (match b ev0 with
      | some (.nx, ev1) => forGo f b r ev1
      | some (.ct, ev1) => forGo f b r ev1
      | some (.bk, ev1) => some (.nx, ev1)
      | some (.ret r, ev1) => some (.ret r, ev1)
      | none => none)
def sfor (mi : Env' → Option (List D × Env')) (f : D → Env' → Option Env') (b : SM) : SM := fun ev => do
  let r ← mi ev
  forGo f b r.1 r.2
theorem s_for {mi : Env' → Option (List D × Env')} {fp : D → Env' → Option Env'} {tg iter : Expr} {body : List Stmt} (hx : X.xe = fun _ _ => False) (hc : X.calm = true) (hi : EFI X cl tg iter mi) (hg : ST X cl tg fp) (hb : SS X cl body m) (hs : ∀ x, foldedSetIterable iter X.env x = pure x := by intro _; rfl) :
    S1 X cl (.For tg iter body [] pos) (sfor mi fp m) := by
  obtain ⟨wi, wp, hi⟩ := hi
  obtain ⟨g, gp, hg⟩ := hg
  obtain ⟨tb, pb, hb⟩ := hb
  refine ⟨_, ps_for (by rw [hx]; exact PassesOwn.never) hc wp gp pb hs, fun M q os ev σ H f ev' hm rl E k => ?_⟩
  obtain ⟨⟨ds, ev1⟩, h1, hm⟩ := bind_some' hm
  simp only at hm
  refine hi M q os ev σ H ds ev1 h1 rl _ fun J H1 t1 rl1 wk => ?_
  refine ⟨fun i n σ' H' => n = ds.length - i ∧ i ≤ ds.length ∧ ∃ os' ev2, Tr q os H1 os' H' ∧ Rl X.K cl M q os' ev2 σ' H' ∧ forGo fp m (ds.drop i) ev2 = some (f, ev'), ⟨ds.length, by simp, Nat.zero_le _, os, ev1, .refl, rl1, by simpa using hm⟩, fun i n σ2 H2 ⟨en, hi2, os2, ev2, t2, rl2, hw⟩ => ?_⟩
  obtain ⟨wk1, wk2⟩ := wk _ H2 (t2.view rl1) rl2.tr
  by_cases hlt : i < ds.length
  · rw [List.drop_eq_getElem_cons hlt] at hw
    unfold forGo at hw
    refine .inr ⟨(wk1 i ds[i] (by simp [hlt])).1, fun σ' H' => ∃ os' ev2, Tr q os H1 os' H' ∧ Rl X.K cl M q os' ev2 σ' H' ∧ forGo fp m (ds.drop (i + 1)) ev2 = some (f, ev'), fun σ' H' hN => ⟨ds.length - (i + 1), by omega, rfl, hlt, hN⟩, fun x H3 hy => ?_⟩
    obtain ⟨x3, r3⟩ := (wk1 i ds[i] (by simp [hlt])).2 x H3 hy
    split at hw
    · cases hw
    · next ev0 h0 =>
      refine hg M q os2 ev2 σ2 H3 x ds[i] ev0 h0 (rl2.ex x3) r3 _ fun os4 σ4 H4 t4 rl4 => ?_
      have t5 : Tr q os H1 os4 H4 := (t2.trans (.of_ex x3)).trans t4
      split at hw
      · next ev5 h5 => exact hb M q os4 ev0 σ4 H4 _ _ h5 rl4 _ fun os6 σ6 H6 t6 rl6 => ⟨os6, ev5, t5.trans t6, rl6, hw⟩
      · next ev5 h5 => exact hb M q os4 ev0 σ4 H4 _ _ h5 rl4 _ fun os6 σ6 H6 t6 rl6 => ⟨os6, ev5, t5.trans t6, rl6, hw⟩
      · next ev5 h5 =>
        cases hw
        exact hb M q os4 ev0 σ4 H4 _ _ h5 rl4 _ fun os6 σ6 H6 t6 rl6 => k os6 σ6 H6 ((t1.trans t5).trans t6) rl6
      · next r ev5 h5 =>
        cases hw
        refine hb M q os4 ev0 σ4 H4 _ _ h5 rl4 _ ?_
        have k2 := k.from (t1.trans t5)
        cases r with
        | val d => exact k2
        | own xs => exact k2
      · cases hw
  · have e : i = ds.length := by omega
    subst e
    rw [List.drop_length] at hw
    cases hw
    exact .inl ⟨wk2, k os2 σ2 H2 (t1.trans t2) rl2⟩
end
end Lay

namespace Lay
open PySem PySem.Spec PyProof.Rows L2
open Evl (Ex)
/-! ### where code stands: a def's body, a comprehension's block -/
structure ScR (raw : Scope) (X : Cx) : Prop where
  kind : X.env.scope.kind = .function
  keep : ∀ x k, raw.names.lookup x = some k → k ≠ .free → X.env.scope.names.lookup x = some k
  free : ∀ x, raw.names.lookup x = some .free → X.env.scope.names.lookup x = some .free ∨ X.env.scope.names.lookup x = some .cell
structure CXo (gb : Bool) (X : Cx) (N : List Str) (raw : Scope) (k : Nat) : Prop where
  gd : gb = true → X.A.guards = some []
  n : X.N = N
  sc : ScR raw X
  calm : X.calm = true
  xe : X.xe = fun _ _ => False
  room : Room k X.A
  nd : X.N.Nodup
  fn : ∀ x, raw.names.lookup x = some .cell → X.fn x = true
theorem lk_free (c : Str → NameKind → Bool) : ∀ (names : List (Str × NameKind)) (x : Str), names.lookup x = some .free → (names.map fun p => if c p.1 p.2 = true then (p.1, NameKind.cell) else p).lookup x = some .free ∨ (names.map fun p => if c p.1 p.2 = true then (p.1, NameKind.cell) else p).lookup x = some .cell
  | [], x, h => by simp at h
  | (n, k) :: r, x, h => by
    rw [List.map_cons]
    have ih := lk_free c r x
    cases hx : x == n with
    | true =>
      simp only [List.lookup_cons, hx] at h
      cases h
      by_cases hc : c n .free = true
      · simp only [hc, if_true, List.lookup_cons, hx]
        exact .inr trivial
      · simp only [hc, Bool.false_eq_true, if_false, List.lookup_cons, hx]
        exact .inl trivial
    | false =>
      simp only [List.lookup_cons, hx] at h
      by_cases hc : c n k = true
      · simp only [hc, if_true, List.lookup_cons, hx]
        exact ih h
      · simp only [hc, Bool.false_eq_true, if_false, List.lookup_cons, hx]
        exact ih h
section
variable {X : Cx} {N : List Str} {raw scope : Scope} {k : Nat}
theorem CXo.blk {gb : Bool} (h : CXo gb X N raw k) (hk : scope.kind = .function) (s : Shared) (H : Hp) (C : Addr) (c : List (Str × Addr)) (fp : List Addr) : CXo gb (X.blk s H scope (compEnvC scope c C X.env) fp) N scope k := by
  have hs : (X.blk s H scope (compEnvC scope c C X.env) fp).env.scope = relS scope X.env.scope := rfl
  refine ⟨h.gd, h.n, ⟨?_, fun x kk e n => ?_, fun x e => ?_⟩, h.calm, rfl, h.room, h.nd, fun x e => ?_⟩
  · rw [hs]; exact hk
  · rw [hs]; exact lookup_relS_keep n e
  · rw [hs]
    exact lk_free (fun n k => k == NameKind.free && X.env.scope.kind == .function && X.env.scope.names.lookup n == some .cell) scope.names x e
  · show (scope.names.lookup x == some .cell) = true
    rw [e]
    rfl
/-! names, looked up by the kernel -/
def visB (sc : Scope) (x : Str) : Bool := match sc.names.lookup x with
  | some .local => true
  | some .cell => true
  | some .free => true
  | _ => false
def locB (sc : Scope) (x : Str) : Bool := match sc.names.lookup x with
  | some .local => true
  | some .cell => true
  | _ => false
def ordB (x : Str) : Bool := !(x == ("__debug__" : Str)) && !(x == ("__classdict__" : Str))
def varB (N : List Str) (sc : Scope) (i : Nat) : Bool := match N[i]? with
  | some x => visB sc x && ordB x
  | none => false
def lcB (N : List Str) (sc : Scope) (i : Nat) : Bool := match N[i]? with
  | some x => locB sc x
  | none => false
def plB (N : List Str) (sc : Scope) (i : Nat) : Bool := match N[i]? with
  | some x => (match sc.names.lookup x with
    | some .local => true
    | _ => false)
  | none => false
def glB (sc : Scope) (x : Str) : Bool := match sc.names.lookup x with
  | some .globalImplicit => !(x == ("__debug__" : Str))
  | _ => false
/-- the names of a body: places that are read, that are stored, that are stored plainly; globals -/
structure Nms where
  vs : List Nat
  ls : List Nat
  ps : List Nat
  gs : List Str
def Nms.ok (n : Nms) (N : List Str) (sc : Scope) : Bool := n.vs.all (varB N sc) && (n.ls.all (lcB N sc) && (n.ps.all (plB N sc) && n.gs.all (glB sc)))
variable {n : Nms}
theorem CXo.var {gb : Bool} (h : CXo gb X N raw k) (b : n.ok N raw = true) {i : Nat} {x : Str} (hi : n.vs.contains i = true) (hx : N[i]? = some x) : VarAt X i x := by
  unfold Nms.ok at b
  simp only [Bool.and_eq_true] at b
  have h1 : varB N raw i = true := List.all_eq_true.1 b.1 i (by simpa using hi)
  unfold varB at h1
  rw [hx] at h1
  simp only [Bool.and_eq_true] at h1
  obtain ⟨h2, h3⟩ := h1
  unfold ordB at h3
  simp only [Bool.and_eq_true, Bool.not_eq_true'] at h3
  refine ⟨by rw [h.n]; exact hx, ?_, h3.1, h3.2⟩
  unfold visB at h2
  split at h2
  · next e => exact .inl (h.sc.keep x _ e (by intro z; cases z))
  · next e => exact .inr (.inl (h.sc.keep x _ e (by intro z; cases z)))
  · next e => exact (h.sc.free x e).elim (fun z => .inr (.inr z)) fun z => .inr (.inl z)
  · cases h2
theorem CXo.loc {gb : Bool} (h : CXo gb X N raw k) (b : n.ok N raw = true) {i : Nat} {x : Str} (hi : n.ls.contains i = true) (hx : N[i]? = some x) : LocAt X i x := by
  unfold Nms.ok at b
  simp only [Bool.and_eq_true] at b
  have h1 : lcB N raw i = true := List.all_eq_true.1 b.2.1 i (by simpa using hi)
  unfold lcB at h1
  rw [hx] at h1
  simp only at h1
  unfold locB at h1
  split at h1
  · next e =>
    have := h.sc.keep x _ e (by intro z; cases z)
    exact ⟨h.nd, by rw [h.n]; exact hx, .inl this, .inr this⟩
  · next e => exact ⟨h.nd, by rw [h.n]; exact hx, .inr (h.sc.keep x _ e (by intro z; cases z)), .inl (h.fn x e)⟩
  · cases h1
theorem CXo.pl {gb : Bool} (h : CXo gb X N raw k) (b : n.ok N raw = true) {i : Nat} {x : Str} (hi : n.ps.contains i = true) (hx : N[i]? = some x) : X.env.scope.names.lookup x = some .local := by
  unfold Nms.ok at b
  simp only [Bool.and_eq_true] at b
  have h1 : plB N raw i = true := List.all_eq_true.1 b.2.2.1 i (by simpa using hi)
  unfold plB at h1
  rw [hx] at h1
  simp only at h1
  split at h1
  · next e => exact h.sc.keep x _ e (by intro z; cases z)
  · cases h1
theorem CXo.gl {gb : Bool} (h : CXo gb X N raw k) (b : n.ok N raw = true) {j : Nat} {x : Str} (hx : n.gs[j]? = some x) : Gl X x ∧ (x == ("__debug__" : Str)) = false := by
  unfold Nms.ok at b
  simp only [Bool.and_eq_true] at b
  have h1 : glB raw x = true := List.all_eq_true.1 b.2.2.2 x (List.mem_of_getElem? hx)
  unfold glB at h1
  split at h1
  · next e => exact ⟨h.sc.keep x _ e (by intro z; cases z), by simpa using h1⟩
  · cases h1
theorem CXo.blkOk {own : List (Str × Nat)} {gb : Bool} (h : CXo gb X N raw k) (b : blkC N raw scope own = true) : BlkOk X.N X.env.scope scope own := by
  have q := blkOk_by b
  refine ⟨q.kind, q.uniq, by rw [h.n]; exact q.ix, fun y hy e => ?_, by rw [h.n]; exact q.own⟩
  rcases q.free y hy e with z | z
  · exact .inl (h.sc.keep _ _ z (by intro w; cases w))
  · exact (h.sc.free _ z).symm
end
/-! ### how assignments of pairs store -/
def notStar : Expr → Bool
  | .Starred .. => false
  | _ => true
section
variable {X : Cx}
theorem swapped2 {x y : Str} {px py pt : Pos} {kt k2 : Nat} {pt2 : Pos} {a b : Expr} (hk : X.env.scope.kind = .function) (hx : X.env.scope.names.lookup x = some .local) (hy : X.env.scope.names.lookup y = some .local) (hne : (x == y) = false) (hl : (py.line == px.line) = true)
    (h1 : notStar a = true ∧ notStar b = true) (h2 : [a, b].all (foldedForSure 8) = false) (h3 : [a, b].all (constantsAlone 8) = false) :
    swappedStores [.Tuple [.Name x px, .Name y py] kt pt] (.Tuple [a, b] k2 pt2) X.env = pure (some [x, y]) := by
  have hb : X.env.blockKind = .function := by unfold Env.blockKind; rw [hk]; rfl
  have kx : X.env.kindOf x = some .local := hx
  have ky : X.env.kindOf y = some .local := hy
  have hl' : px.line = py.line := (eq_of_beq hl).symm
  have hne' : (y == x) = false := by
    rw [Bool.eq_false_iff] at hne ⊢
    intro z
    exact hne (by rw [eq_of_beq z]; simp)
  unfold swappedStores
  simp [hb, kx, ky, hl', Expr.pos, h2, h3, List.eraseDups_cons, List.filter, hne, hne']
  intro h
  rcases h with h | h
  · cases a <;> first | (exact absurd h Bool.false_ne_true) | (exact absurd h1.1 Bool.false_ne_true)
  · cases b <;> first | (exact absurd h Bool.false_ne_true) | (exact absurd h1.2 Bool.false_ne_true)
theorem swapped3 {x y z : Str} {px py pz pt : Pos} {kt k2 : Nat} {pt2 : Pos} {a b c : Expr} (hk : X.env.scope.kind = .function) (hx : X.env.scope.names.lookup x = some .local) (hy : X.env.scope.names.lookup y = some .local) (hz : X.env.scope.names.lookup z = some .local) (hne : (x == y) = false) (hne2 : (x == z) = false) (hne3 : (y == z) = false) (hl : (py.line == px.line) = true) (hl2 : (pz.line == px.line) = true)
    (h1 : notStar a = true ∧ notStar b = true ∧ notStar c = true) (h2 : [a, b, c].all (foldedForSure 8) = false) (h3 : [a, b, c].all (constantsAlone 8) = false) :
    swappedStores [.Tuple [.Name x px, .Name y py, .Name z pz] kt pt] (.Tuple [a, b, c] k2 pt2) X.env = pure (some [x, y, z]) := by
  have hb : X.env.blockKind = .function := by unfold Env.blockKind; rw [hk]; rfl
  have kx : X.env.kindOf x = some .local := hx
  have ky : X.env.kindOf y = some .local := hy
  have kz : X.env.kindOf z = some .local := hz
  have hl' : py.line = px.line := eq_of_beq hl
  have hl2' : pz.line = px.line := eq_of_beq hl2
  have sw : ∀ {u v : Str}, (u == v) = false → (v == u) = false := fun {u v} h => by
    rw [Bool.eq_false_iff] at h ⊢
    intro z
    exact h (by rw [eq_of_beq z]; simp)
  unfold swappedStores
  simp [hb, kx, ky, kz, hl', hl2', Expr.pos, h2, h3, List.eraseDups_cons, List.filter, hne, hne2, hne3, sw hne, sw hne2, sw hne3]
  intro h
  rcases h with h | h | h
  · cases a <;> first | (exact absurd h Bool.false_ne_true) | (exact absurd h1.1 Bool.false_ne_true)
  · cases b <;> first | (exact absurd h Bool.false_ne_true) | (exact absurd h1.2.1 Bool.false_ne_true)
  · cases c <;> first | (exact absurd h Bool.false_ne_true) | (exact absurd h1.2.2 Bool.false_ne_true)
/-- a name that takes a comprehension on its line, the name a cell -/
theorem sw_false {elt : Expr} {gs : List Comprehension} {scope : Scope} {pos py : Pos} {y : Str} {l : Nat} (hy : X.env.scope.names.lookup y = some .cell) : swapsWith (.ListComp elt gs scope pos) (some (.Name y py)) l X.env = pure false := by
  have ky : X.env.kindOf y = some .cell := hy
  unfold swapsWith
  simp [ky, show (NameKind.cell == NameKind.local) = false from rfl]
/-- .. that the block names too -/
theorem sw_own {elt : Expr} {gs : List Comprehension} {scope : Scope} {pos py : Pos} {y : Str} {l : Nat} (ha : (scope.names.any fun (n, k) => n == y && (k == .local || k == .cell)) = true) : swapsWith (.ListComp elt gs scope pos) (some (.Name y py)) l X.env = pure false := by
  unfold swapsWith
  simp [ha]
end
/-! ### defs -/
def start' (np n : Nat) (ds : List D) : Env' := ds.map .val ++ List.replicate (n - np) .emp
def outP (r : Option (Fl × Env')) : Option D := match r with
  | some (.ret (.val d), _) => some d
  | some (.ret (.own xs), _) => some (.lst xs)
  | some (.nx, _) => some .non
  | _ => none
def outO (r : Option (Fl × Env')) : Option (List D) := match r with
  | some (.ret (.own xs), _) => some xs
  | _ => none
def outF (r : Option (Fl × Env')) : Option (D × List D) := match r with
  | some (.ret (.val d), ev) => (match (show Option Slot from ev[0]?) with
    | some (Slot.par g) => some (d, g)
    | _ => none)
  | some (.nx, ev) => (match (show Option Slot from ev[0]?) with
    | some (Slot.par g) => some (.non, g)
    | _ => none)
  | _ => none
/-- np parameters, n names -/
def pdef (np n : Nat) (m : SM) : List D → Option D := fun ds => if ds.length = np then outP (m (start' np n ds)) else none
def odef (np n : Nat) (m : SM) : List D → Option (List D) := fun ds => if ds.length = np then outO (m (start' np n ds)) else none
def fdef (np n : Nat) (m : SM) : List D → List D → Option (D × List D) := fun g ds => if ds.length + 1 = np then outF (m (.par g :: start' (np - 1) (n - 1) ds)) else none
section
variable {K : Fg} {cl : Str → Addr}
theorem sr_emps {V H : Hp} {q : Option Addr} : ∀ (n : Nat), SR K cl V H q (List.replicate n .emp) (List.replicate n none) []
  | 0 => .nil
  | n + 1 => by
    rw [List.replicate_succ, List.replicate_succ]
    exact .emp (sr_emps n)
theorem sr_start {V H : Hp} {q : Option Addr} (n : Nat) : ∀ {ds : List D} {vs : List L2.V}, Reps K cl V vs ds → SR K cl V H q (ds.map .val ++ List.replicate n .emp) (vs.map some ++ List.replicate n none) []
  | [], vs, h => by rw [Reps.nil_iff.1 h]; exact sr_emps n
  | d :: ds, vs, h => by
    obtain ⟨v, r, rfl, h1, h2⟩ := Reps.cons_iff.1 h
    exact .val h1 (sr_start n h2)
variable {P : Program} {w : World} {mg : Str → Option Value} {base : Heap} {x qual : Str} {params : Arguments} {body : List Stmt} {scope : Scope} {f : Addr} {fd : FuncData} {N ps : List Str} {k : Nat} {m : SM}
/-- a body that computes m in each such context -/
def Body (gb : Bool) (P : Program) (w : World) (K : Fg) (cl : Str → Addr) (mg : Str → Option Value) (base : Heap) (N : List Str) (scope : Scope) (k : Nat) (body : List Stmt) (m : SM) : Prop :=
  ∀ X : Cx, X.prog = P → X.w = w → X.K = K → X.mg = mg → X.base = base → CXo gb X N scope k → SS X cl body m
theorem cxo_of {gb : Bool} {cdv : Value} {A : Around} {outer : List Env} {s : Shared} {H : Hp} {E : XK} (S : FnScope N ps scope) (gd : gb = true → A.guards = some []) (hr : Room k (A.deeper (envOfC qual scope s.heap.objs.size f cdv))) : CXo gb (cxOf CX0 P w K mg base N qual scope f cdv A outer s H E).nox N scope k :=
  ⟨gd, rfl, ⟨S.kind, fun _ _ e _ => e, fun _ e => .inl e⟩, rfl, rfl, hr, S.nd, fun _ _ => rfl⟩
theorem start_eq (S : FnScope N ps scope) {vs : List L2.V} (h : vs.length = ps.length)  : L2.start N vs = vs.map some ++ List.replicate (N.length - ps.length) none := by
  unfold L2.start
  rw [h]
theorem tk_rl {M : List Addr} {H : Hp} {ev : Env'} {σ : L2.St} (t : Tk M H) (h : SR K cl (hid M H) H none ev σ []) : Rl K cl M none [] ev σ H := ⟨h, List.nodup_nil, by simp, t, by intro a h; cases h⟩
theorem fn_P (F : FunD K x qual params body scope [] [] f fd) (S : FnScope N ps scope) {gb : Bool} (h : Body gb P w K cl mg base N scope k body m) : FnB gb P w K mg base CX0 (k + 1) f fd ps (spP K cl (pdef ps.length N.length m)) := by
  refine fn_ofB F S (fun vs H Q E hs => ?_) (fun cdv A outer s H vs Q E gd hr hs => ?_)
  · obtain ⟨M, ds, d, h1, _, h2, _⟩ := hs
    unfold pdef at h1
    split at h1
    · next hl => rw [h2.length, hl]
    · cases h1
  · obtain ⟨M, ds, d, h1, h2, h3, h4⟩ := hs
    obtain ⟨t, p, ht⟩ := h _ rfl rfl rfl rfl rfl (cxo_of (E := E) (outer := outer) (H := H) (P := P) (w := w) (K := K) (mg := mg) (base := base) S gd hr)
    refine ⟨t, PSs.nox p, ?_⟩
    unfold pdef at h1
    split at h1
    · next hl =>
      have hv : vs.length = ps.length := by rw [h3.length, hl]
      rw [start_eq S hv]
      have rl : Rl K cl M none [] (start' ps.length N.length ds) (vs.map some ++ List.replicate (N.length - ps.length) none) H := tk_rl h2 (sr_start _ h3)
      unfold outP at h1
      split at h1
      · next d' ev' he =>
        cases h1
        exact ht M none [] _ _ H _ _ he rl _ fun os' σ' H' v t rl' r => h4 v H' (fun a o e => t.kp a o e (by simp) (by intro z; cases z)) r
      · next xs ev' he =>
        cases h1
        refine ht M none [] _ _ H _ _ he rl _ fun os' σ' H' p us t rl' hp hm g1 g2 => h4 _ H' (fun a o e => t.kp a o e (by simp) (by intro z; cases z)) (rep_lst g1 hm g2)
      · next ev' he =>
        cases h1
        exact ht M none [] _ _ H _ _ he rl _ fun os' σ' H' t rl' => h4 _ H' (fun a o e => t.kp a o e (by simp) (by intro z; cases z)) (rep_non.2 rfl)
      · cases h1
    · cases h1
theorem fn_O (F : FunD K x qual params body scope [] [] f fd) (S : FnScope N ps scope) {gb : Bool} (h : Body gb P w K cl mg base N scope k body m) : FnB gb P w K mg base CX0 (k + 1) f fd ps (spO K cl (odef ps.length N.length m)) := by
  refine fn_ofB F S (fun vs H Q E hs => ?_) (fun cdv A outer s H vs Q E gd hr hs => ?_)
  · obtain ⟨M, ds, d, h1, _, h2, _⟩ := hs
    unfold odef at h1
    split at h1
    · next hl => rw [h2.length, hl]
    · cases h1
  · obtain ⟨M, ds, d, h1, h2, h3, h4⟩ := hs
    obtain ⟨t, p, ht⟩ := h _ rfl rfl rfl rfl rfl (cxo_of (E := E) (outer := outer) (H := H) (P := P) (w := w) (K := K) (mg := mg) (base := base) S gd hr)
    refine ⟨t, PSs.nox p, ?_⟩
    unfold odef at h1
    split at h1
    · next hl =>
      have hv : vs.length = ps.length := by rw [h3.length, hl]
      rw [start_eq S hv]
      have rl : Rl K cl M none [] (start' ps.length N.length ds) (vs.map some ++ List.replicate (N.length - ps.length) none) H := tk_rl h2 (sr_start _ h3)
      unfold outO at h1
      split at h1
      · next xs ev' he =>
        cases h1
        exact ht M none [] _ _ H _ _ he rl _ fun os' σ' H' p us t rl' hp hm g1 g2 => h4 p H' us (hp.elim (fun z => by simp at z) id) (fun a o e => t.kp a o e (by simp) (by intro z; cases z)) g1 g2
      · cases h1
    · cases h1
theorem fn_F (F : FunD K x qual params body scope [] [] f fd) (S : FnScope N ps scope) (hps : 0 < ps.length) (hN : ps.length ≤ N.length) {gb : Bool} (h : Body gb P w K cl mg base N scope k body m) : FnB gb P w K mg base CX0 (k + 1) f fd ps (spF K cl (fdef ps.length N.length m)) := by
  refine fn_ofB F S (fun vs H Q E hs => ?_) (fun cdv A outer s H vs Q E gd hr hs => ?_)
  · obtain ⟨M, q, g, gv, ds, us, d, g', rfl, h1, _, _, _, _, h2, _⟩ := hs
    unfold fdef at h1
    split at h1
    · next hl => rw [List.length_cons, h2.length, hl]
    · cases h1
  · obtain ⟨M, q, g, gv, ds, us, d, g', rfl, h1, h2, h3, h4, h5, h6, h7⟩ := hs
    obtain ⟨t, p, ht⟩ := h _ rfl rfl rfl rfl rfl (cxo_of (E := E) (outer := outer) (H := H) (P := P) (w := w) (K := K) (mg := mg) (base := base) S gd hr)
    refine ⟨t, PSs.nox p, ?_⟩
    unfold fdef at h1
    split at h1
    · next hl =>
      have hv : (V.ref q :: us).length = ps.length := by rw [List.length_cons, h6.length, hl]
      rw [start_eq S hv]
      have e1 : (N.length - 1) - (ps.length - 1) = N.length - ps.length := by omega
      have rl : Rl K cl M (some q) [] (.par g :: start' (ps.length - 1) (N.length - 1) ds) ((V.ref q :: us).map some ++ List.replicate (N.length - ps.length) none) H := by
        refine ⟨?_, List.nodup_nil, by simp, h3, fun a ha => by cases ha; exact h2⟩
        unfold start'
        rw [e1]
        exact .par rfl h4 h5 (sr_start _ h6)
      have fin : ∀ {os' : List Addr} {σ' : L2.St} {H' : Hp} {ev' : Env'} {v : L2.V}, Tr (some q) [] H os' H' → Rl K cl M (some q) os' ev' σ' H' → ev'[0]? = some (.par g') → Rep K cl (hid M H') v d → Q v H' := by
        intro os' σ' H' ev' v t rl' h0 r
        obtain ⟨y, vs', a1, a2, a3, a4⟩ := rl'.sr.get_par h0
        cases a2
        exact h7 v H' vs' (fun a o e n => t.kp a o e (by simp) fun z => n (Option.some.inj z).symm) a3 (a4.mono (ex_le fun a ha => List.mem_append_right _ ha)) r
      unfold outF at h1
      split at h1
      · next d' ev' he =>
        split at h1
        · next g2 h0 =>
          cases h1
          exact ht M (some q) [] _ _ H _ _ he rl _ fun os' σ' H' v t rl' r => fin t rl' h0 r
        · cases h1
      · next ev' he =>
        split at h1
        · next g2 h0 =>
          cases h1
          exact ht M (some q) [] _ _ H _ _ he rl _ fun os' σ' H' t rl' => fin t rl' h0 (rep_non.2 rfl)
        · cases h1
      · cases h1
    · cases h1
end
end Lay

namespace Lay
open PySem PySem.Spec PyProof.Rows L2
open Evl (Ex)
/-! ### one name at a time -/
section
variable {X : Cx} {N : List Str} {raw scope : Scope} {k : Nat}
theorem CXo.v {gb : Bool} (h : CXo gb X N raw k) {i : Nat} {x : Str} (b : varB N raw i = true) (hx : N[i]? = some x) : VarAt X i x := by
  refine h.var (n := ⟨[i], [], [], []⟩) ?_ ?_ hx
  · simp [Nms.ok, b]
  · simp
theorem CXo.l {gb : Bool} (h : CXo gb X N raw k) {i : Nat} {x : Str} (b : lcB N raw i = true) (hx : N[i]? = some x) : LocAt X i x := by
  refine h.loc (n := ⟨[], [i], [], []⟩) ?_ ?_ hx
  · simp [Nms.ok, b]
  · simp
theorem CXo.p {gb : Bool} (h : CXo gb X N raw k) {i : Nat} {x : Str} (b : plB N raw i = true) (hx : N[i]? = some x) : X.env.scope.names.lookup x = some .local := by
  refine h.pl (n := ⟨[], [], [i], []⟩) ?_ (i := i) ?_ hx
  · simp [Nms.ok, b]
  · simp
theorem CXo.g {gb : Bool} (h : CXo gb X N raw k) {x : Str} (b : glB raw x = true) : Gl X x :=
  (h.gl (n := ⟨[], [], [], [x]⟩) (j := 0) (by simp [Nms.ok, b]) rfl).1
def clB (sc : Scope) (x : Str) : Bool := match sc.names.lookup x with
  | some .cell => true
  | _ => false
theorem CXo.c {gb : Bool} (h : CXo gb X N raw k) {x : Str} (b : clB raw x = true) : X.env.scope.names.lookup x = some .cell := by
  unfold clB at b
  split at b
  · next e => exact h.sc.keep x _ e (by intro z; cases z)
  · cases b
theorem CXo.rm {gb : Bool} (h : CXo gb X N raw k) {j : Nat} (hj : j ≤ k := by decide) : Room j X.A := h.room.mono hj
end
/-! ### chains of comparisons -/
def ch2 (f g : D → D → Option Bool) (ma mb mc : Env' → Option D) : Env' → Option Bool := fun ev => do
  let a ← ma ev
  let b ← mb ev
  let r ← f a b
  if r = true then do
    let c ← mc ev
    g b c
  else some false
section
variable {w : Bool} {X : Cx} {cl : Str → Addr} {a b c : Expr} {pos : Pos} {ma mb mc : Env' → Option D}
theorem chain_ok {r r' : R2} {f g : D → D → Option Bool} {ta tb tc : TE} (hr : RC2 X.K cl r f) (hr' : RC2 X.K cl r' g)
    (ha : ∀ M q os ev σ H d, ma ev = some d → Rl X.K cl M q os ev σ H → ∀ Q : VK, (∀ v H', Ex H H' → Rep X.K cl (hid (vw false os M) H') v d → Q v H') → ta σ H Q)
    (hb : ∀ M q os ev σ H d, mb ev = some d → Rl X.K cl M q os ev σ H → ∀ Q : VK, (∀ v H', Ex H H' → Rep X.K cl (hid (vw false os M) H') v d → Q v H') → tb σ H Q)
    (hc : ∀ M q os ev σ H d, mc ev = some d → Rl X.K cl M q os ev σ H → ∀ Q : VK, (∀ v H', Ex H H' → Rep X.K cl (hid (vw false os M) H') v d → Q v H') → tc σ H Q) :
    ∀ M q os ev σ H d, ch2 f g ma mb mc ev = some d → Rl X.K cl M q os ev σ H → ∀ Q : VK, (∀ H', Ex H H' → Q (.bl d) H') → tChain r r' ta tb tc σ H Q := by
  intro M q os ev σ H d hm rl Q k
  obtain ⟨x, h1, hm⟩ := bind_some' hm
  obtain ⟨y, h2, hm⟩ := bind_some' hm
  obtain ⟨z, h3, hm⟩ := bind_some' hm
  refine ha M q os ev σ H x h1 rl _ fun v H1 x1 r1 => hb M q os ev σ H1 y h2 (rl.ex x1) _ fun u H2 x2 r2 => hr _ _ _ _ _ _ _ h3 ((rl.ex (x1.trans x2)).tk false) (r1.mono (ex_hid x2)) r2 _ fun H3 x3 => ⟨z, rfl, ?_⟩
  have x13 := (x1.trans x2).trans x3
  cases z with
  | true =>
    rw [if_pos rfl] at hm
    obtain ⟨t, h4, hm⟩ := bind_some' hm
    exact iteT (hc M q os ev σ H3 t h4 (rl.ex x13) _ fun w' H4 x4 r4 => hr' _ _ _ _ _ _ _ hm ((rl.ex (x13.trans x4)).tk false) (r2.mono (ex_hid (x3.trans x4))) r4 _ fun H5 x5 => k H5 ((x13.trans x4).trans x5))
  | false =>
    rw [if_neg Bool.false_ne_true] at hm
    cases hm
    exact iteF (k H3 x13)
theorem ev_chain {op op' : CmpOp} {r r' : R2} {f g : D → D → Option Bool} (ho : OpR X (compareOp op) r) (hr : RC2 X.K cl r f) (ho' : OpR X (compareOp op') r') (hr' : RC2 X.K cl r' g) (ha : EV false X cl a ma) (hb : EV false X cl b mb) (hc : EV false X cl c mc)
    (hm : lastMarks [op, op'] [b, c] = false := by with_unfolding_all rfl) : EV w X cl (.Compare a [op, op'] [b, c] pos) (vB (ch2 f g ma mb mc)) := by
  obtain ⟨ta, pa, ha⟩ := ha
  obtain ⟨tb, pb, hb⟩ := hb
  obtain ⟨tc, pc, hc⟩ := hc
  refine ⟨_, pe_chain ho ho' pa pb pc hm, fun M q os ev σ H d hm rl Q k => ?_⟩
  obtain ⟨x, h1, rfl⟩ := Option.map_eq_some_iff.1 hm
  exact chain_ok hr hr' ha hb hc M q os ev σ H x h1 rl _ fun H' x' => k _ H' x' (rep_bl.2 rfl)
theorem et_chain {op op' : CmpOp} {r r' : R2} {f g : D → D → Option Bool} (ho : OpR X (compareOp op) r) (hr : RC2 X.K cl r f) (ho' : OpR X (compareOp op') r') (hr' : RC2 X.K cl r' g) (ha : EV false X cl a ma) (hb : EV false X cl b mb) (hc : EV false X cl c mc)
    (hm : lastMarks [op, op'] [b, c] = false := by with_unfolding_all rfl) : ET X cl (.Compare a [op, op'] [b, c] pos) (ch2 f g ma mb mc) := by
  obtain ⟨ta, pa, ha⟩ := ha
  obtain ⟨tb, pb, hb⟩ := hb
  obtain ⟨tc, pc, hc⟩ := hc
  refine ⟨_, pt_chain ho ho' pa pb pc hm, fun M q os ev σ H d hm rl Q k => ?_⟩
  exact chain_ok hr hr' ha hb hc M q os ev σ H d hm rl _ fun H' x' => ⟨d, rfl, k H' x'⟩
/-! ### list.index -/
def idxD (e : D) : List D → Option Nat
  | [] => none
  | y :: ys => if D.eqF y e = true then some 0 else (idxD e ys).map (· + 1)
def D.index : D → D → Option D
  | .lst xs, e => if e.flat = true ∧ xs.all D.flat = true then (idxD e xs).map (fun (i : Nat) => D.int (i : Int)) else none
  | _, _ => none
theorem idxD_get {e : D} : ∀ {ds : List D} {j : Nat}, idxD e ds = some j → (∃ z, ds[j]? = some z ∧ D.eqF z e = true) ∧ ∀ m z, m < j → ds[m]? = some z → D.eqF z e = false
  | [], j, h => by simp [idxD] at h
  | y :: ys, j, h => by
    unfold idxD at h
    split at h
    · next he =>
      cases h
      exact ⟨⟨y, rfl, he⟩, fun m z hm => by omega⟩
    · next he =>
      obtain ⟨i, h1, rfl⟩ := Option.map_eq_some_iff.1 h
      obtain ⟨⟨z, h2, h3⟩, h4⟩ := idxD_get h1
      refine ⟨⟨z, by simpa using h2, h3⟩, fun m z' hm hz => ?_⟩
      cases m with
      | zero => simp at hz; subst hz; simpa using he
      | succ m => exact h4 m z' (by omega) (by simpa using hz)
theorem ev_index {apos : Pos} (ha : EV false X cl a ma) (hb : EV false X cl b mb)
    (hpe : ∀ ta te, PE X a ta → PE X b te → PE X (.Call (.Attribute a "index" apos) [b] [] pos) (tBM X.K "list" (rIndex X.K) ta (tCons te tNil))) : EV w X cl (.Call (.Attribute a "index" apos) [b] [] pos) (m2 D.index ma mb) := by
  obtain ⟨ta, pa, ha⟩ := ha
  obtain ⟨tb, pb, hb⟩ := hb
  refine ⟨_, hpe _ _ pa pb, fun M q os ev σ H d hm rl Q k => ?_⟩
  obtain ⟨x, h1, hm⟩ := bind_some' hm
  obtain ⟨y, h2, hm⟩ := bind_some' hm
  refine ha M q os ev σ H x h1 rl _ fun v H1 x1 r1 => ?_
  unfold D.index at hm
  split at hm
  · split at hm
    · next hf =>
      obtain ⟨j, h3, rfl⟩ := Option.map_eq_some_iff.1 hm
      obtain ⟨⟨z, g1, g2⟩, g3⟩ := idxD_get h3
      obtain ⟨p, vs, rfl, ha1, ra⟩ := rep_list.1 r1
      have hp1 := (hid_some ha1).2
      refine ⟨.inl ⟨rfl, _, .of hp1⟩, hb M q os ev σ H1 y h2 (rl.ex x1) _ fun u H2 x2 r2 => ?_⟩
      have ra2 := ra.mono (ex_hid (M := vw false os M) x2)
      obtain ⟨zv, e1, e2⟩ := ra2.get g1
      have fz := List.all_eq_true.1 hf.2
      refine ⟨p, vs, u, j, zv, rfl, rfl, .of (x2 _ _ hp1), flat_V r2 hf.1, flat_Vs ra2 hf.2, e1, ?_, fun m z' hm hz => ?_, k _ H2 (x1.trans x2) (rep_int.2 rfl)⟩
      · rw [eqF_V e2 r2 (fz _ (List.mem_of_getElem? g1)) hf.1]; exact g2
      · obtain ⟨d', e3, e4⟩ := ra2.getV hz
        rw [eqF_V e4 r2 (fz _ (List.mem_of_getElem? e3)) hf.1]
        exact g3 m d' hm e3
    · cases hm
  · cases hm
end
end Lay

namespace Lay
open PySem PySem.Spec PyProof.Rows L2
open Evl (Ex)
/-! ### what the printed walks use -/
def anil : Env' → Option (List D) := fun _ => some []
def xl (m : Env' → Option (List D)) : Env' → Option D := fun ev => (m ev).map D.lst
def sfz (i : Nat) (m : SM) : SM := fun ev => m (frz i ev)
def emN : Env' → Option (List MR × Env') := fun ev => some ([], ev)
def sbk : SM := fun ev => some (.bk, ev)
def sct : SM := fun ev => some (.ct, ev)
def fL1o (f : List D → Option (List D)) (m : Env' → Option (List D × Env')) : Env' → Option (D × Env') := fun ev => do
  let r ← m ev
  let d ← f r.1
  some (.lst d, r.2)
theorem fl_int : fL bInt := by
  intro ds d h
  unfold bInt at h
  split at h
  · cases h; rfl
  · cases h; rfl
  · cases h
theorem fl_abs : fL bAbs := by
  intro ds d h
  unfold bAbs at h
  split at h
  · cases h; rfl
  · cases h
theorem fl_max : fL bMax := by
  intro ds d h
  unfold bMax at h
  split at h
  · cases h; rfl
  · cases h
theorem fl_min : fL bMin := by
  intro ds d h
  unfold bMin at h
  split at h
  · cases h; rfl
  · cases h
theorem fl_sum : fL bSum := by
  intro ds d h
  unfold bSum at h
  split at h
  · obtain ⟨x, h1, h2⟩ := Option.map_eq_some_iff.1 h
    cases h2; rfl
  · cases h
/-- built-in names are free -/
structure Bs (mg : Str → Option Value) : Prop where
  len_ : mg "len" = none
  int_ : mg "int" = none
  abs_ : mg "abs" = none
  max_ : mg "max" = none
  min_ : mg "min" = none
  sum_ : mg "sum" = none
  sorted_ : mg "sorted" = none
  list_ : mg "list" = none
  tuple_ : mg "tuple" = none
  range_ : mg "range" = none
  enumerate_ : mg "enumerate" = none
  zip_ : mg "zip" = none
  reversed_ : mg "reversed" = none
  isinstance_ : mg "isinstance" = none
  repr_ : mg "repr" = none
  bool_ : mg "bool" = none
  str_ : mg "str" = none
section
variable {X : Cx} {N : List Str} {raw scope : Scope} {k : Nat} {cl : Str → Addr} {e : Expr} {es : List Expr} {pos : Pos}
theorem CXo.un {gb : Bool} (h : CXo gb X N raw k) : X.A.units + 64 < cLine := by have := h.room.un; omega
theorem ef_callO {x : Str} {p : Pos} {k : Nat} {ps : List Str} {m : List D → Option (List D)} {ma : Env' → Option (List D × Env')} {gb : Bool} (F : FnG gb X.prog X.w X.K X.mg X.base x k ps (spO X.K cl m)) (gd : gb = true → X.A.guards = some []) (hr : Room k X.A) (hg : Gl X x) (ha : EFA X cl (e :: es) ma) (hdb : (x == ("__debug__" : Str)) = false)
    (he : starEach (e :: es) X.env = (false, eval e X.env) :: starEach es X.env := by rfl) (hpl : (backTo pos (starEach es X.env)).any (·.1) = false := by rfl) : EF X cl (.Call (.Name x p) (e :: es) [] pos) (fL1o m ma) := by
  obtain ⟨f, fd, F, hm, hk, hb⟩ := F.ok
  obtain ⟨ta, pa, ha⟩ := ha
  refine ⟨_, pe_callGB F gd hr hg hm hk hb .nil pass0 pa hdb he hpl, fun M q os ev σ H d ev' hm rl Q k => ?_⟩
  obtain ⟨⟨ds, ev1⟩, h1, hm⟩ := bind_some' hm
  obtain ⟨d', h2, hm⟩ := bind_some' hm
  cases hm
  refine ha M q os ev σ H ds _ h1 rl _ fun vs H1 t1 rl1 r1 => ?_
  rw [List.append_nil]
  refine ⟨_, ds, d', h2, rl1.tk true, r1, fun p H2 us hn x2 g1 g2 => k _ H2 (t1.trans (.of_ex x2)) (rl1.ex x2) (rep_lst g1 ((rl1.tk true).new hn) g2)⟩
end
end Lay

namespace Lay
open PySem PySem.Spec PyProof.Rows L2
open Evl (Ex)
/-! ### the one class of the program -/
def tyNames : List String := ["NoneType", "bool", "int", "str", "list", "tuple"]
structure ClsG (K : Fg) (C : Addr) : Prop where
  cls : Cls K C
  ha : PySem.W.findIn K (.ref C) "__class__" = some (some (.builtin "object.__class__"))
  hn : PySem.W.specialIn K (.builtin "object.__class__") "__get__" = some (some (.builtin "getset_descriptor.__get__"))
  htk : PySem.W.takesIn K (.builtin "object.__class__") = some true
  hm : PySem.W.mroIn K C (.type "object") = some true
  me : PySem.W.kitOne K (.ref C) (.ref C) = some true
  no : ∀ t ∈ tyNames, PySem.W.kitOne K (.type t) (.ref C) = some false
  nf : ∀ t ∈ tyNames, PySem.W.subIn K (.type t) (.ref C) = some false
def D.tn : D → Option String
  | .non => some "NoneType"
  | .bl _ => some "bool"
  | .int _ => some "int"
  | .str _ => some "str"
  | .lst _ => some "list"
  | .tup _ => some "tuple"
  | _ => none
theorem tn_mem {d : D} {t : String} (h : d.tn = some t) : t ∈ tyNames := by
  cases d <;> first | (cases h; decide) | cases h
theorem tyx {K : Fg} {cl : Str → Addr} {M : List Addr} {H : Hp} {d : D} {v : L2.V} {t : String} (h : Rep K cl (hid M H) v d) (e : d.tn = some t) : TyX K H v (.type t) := by
  cases d with
  | non => cases e; rw [rep_non.1 h]; exact .base .non
  | bl b => cases e; rw [rep_bl.1 h]; exact .base (.bl b)
  | int b => cases e; rw [rep_int.1 h]; exact .base (.int b)
  | str b => cases e; rw [rep_str.1 h]; exact .base (.str b)
  | lst xs =>
    cases e
    obtain ⟨a, vs, rfl, h1, _⟩ := rep_list.1 h
    exact .base (.lst (hid_some h1).2)
  | tup xs =>
    cases e
    obtain ⟨a, vs, rfl, h1, _⟩ := rep_tup.1 h
    exact .base (.tup (hid_some h1).2)
  | scr _ => cases e
  | obj _ _ _ => cases e
/-- isinstance(d, T) -/
def D.isT (T : String) (d : D) : Option D := d.tn.bind fun t => (kitB t T).map D.bl
def D.isC (c : Str) : D → Option D
  | .obj c' _ _ => if c' = c then some (.bl true) else none
  | d => d.tn.map fun _ => .bl false
section
variable {w : Bool} {X : Cx} {cl : Str → Addr} {a : Expr} {p p2 pos : Pos} {ma : Env' → Option D}
theorem ev_isT {x : Str} {T : String} (hg : Gl X "isinstance") (hm : X.mg "isinstance" = none) (hg2 : Gl X x) (hm2 : X.mg x = none) (hv : bootBuiltins x = some (.type T)) (ha : EV false X cl a ma) (hn : x ≠ "__name__") (hd : (x == ("__debug__" : Str)) = false)
    (he : starEach [a, .Name x p2] X.env = (false, eval a X.env) :: starEach [.Name x p2] X.env := by rfl) (hpl : (backTo pos (starEach [.Name x p2] X.env)).any (·.1) = false := by rfl) (he2 : starEach [.Name x p2] X.env = (false, eval (.Name x p2) X.env) :: starEach [] X.env := by rfl) :
    EV w X cl (.Call (.Name "isinstance" p) [a, .Name x p2] [] pos) (m1 (D.isT T) ma) := by
  obtain ⟨ta, pa, ha⟩ := ha
  refine ⟨_, pe_callB call_isi hg hm (by decide +kernel) (pa_cons pa (pa_cons (pe_bltn hg2 hm2 hv (v := .ty T) rfl hn hd) pa_nil he2) he) (by decide +kernel) (by decide +kernel) he hpl, fun M q os ev σ H d hm rl Q k => ?_⟩
  obtain ⟨x, h1, hm⟩ := bind_some' hm
  refine ha M q os ev σ H x h1 rl _ fun v H1 x1 r1 => ?_
  obtain ⟨t, h2, h3⟩ := Option.bind_eq_some_iff.1 hm
  obtain ⟨b, h4, rfl⟩ := Option.map_eq_some_iff.1 h3
  exact ⟨v, .ty T, _, _, b, rfl, .ty T, tyx r1 h2, kit_ty h4, k _ H1 x1 (rep_bl.2 rfl)⟩
theorem ev_isC {x : Str} (G : ClsG X.K (cl x)) (hg : Gl X "isinstance") (hm : X.mg "isinstance" = none) (hg2 : Gl X x) (hm2 : X.mg x = some (.ref (cl x))) (ha : EV false X cl a ma) (hd : (x == ("__debug__" : Str)) = false)
    (he : starEach [a, .Name x p2] X.env = (false, eval a X.env) :: starEach [.Name x p2] X.env := by rfl) (hpl : (backTo pos (starEach [.Name x p2] X.env)).any (·.1) = false := by rfl) (he2 : starEach [.Name x p2] X.env = (false, eval (.Name x p2) X.env) :: starEach [] X.env := by rfl) :
    EV w X cl (.Call (.Name "isinstance" p) [a, .Name x p2] [] pos) (m1 (D.isC x) ma) := by
  obtain ⟨ta, pa, ha⟩ := ha
  refine ⟨_, pe_callB call_isi hg hm (by decide +kernel) (pa_cons pa (pa_cons (pe_glob hg2 hm2 (v := .ref (cl x)) rfl hd) pa_nil he2) he) (by decide +kernel) (by decide +kernel) he hpl, fun M q os ev σ H d hm rl Q k => ?_⟩
  obtain ⟨y, h1, hm⟩ := bind_some' hm
  refine ha M q os ev σ H y h1 rl _ fun v H1 x1 r1 => ?_
  have no : ∀ {t : String}, y.tn = some t → d = .bl false → rIsi X.K [v, .ref (cl x)] H1 Q := fun {t} ht hd => ⟨v, .ref (cl x), _, _, false, rfl, .own _, tyx r1 ht, G.no t (tn_mem ht), k _ H1 x1 (by rw [hd]; exact rep_bl.2 rfl)⟩
  unfold D.isC at hm
  split at hm
  · next c' ns ds =>
    split at hm
    · next hc =>
      cases hm
      unfold Rep at r1
      obtain ⟨b, dx, vs, rfl, hb, _, _⟩ := r1
      rw [hc] at hb
      exact ⟨_, .ref (cl x), _, _, true, rfl, .own _, .base (.ins (hid_some hb).2 G.cls G.ha G.hn G.htk G.hm), G.me, k _ H1 x1 (rep_bl.2 rfl)⟩
    · cases hm
  · obtain ⟨t, h2, rfl⟩ := Option.map_eq_some_iff.1 hm
    exact no h2 rfl
/-! repr of a number, of None -/
def D.repr : D → Option D
  | .int i => if i.natAbs < 1000000 then some (.str (toString i)) else none
  | .non => some (.str "None")
  | _ => none
def rReprD : List L2.V → Hp → VK → Prop := fun xs H Q => (∃ i, xs = [.int i] ∧ i.natAbs.log2 < 1920 ∧ Q (.str (toString i)) H) ∨ (xs = [.non] ∧ Q (.str "None") H)
theorem call_reprD : CallR X (.builtin "repr") rReprD := SkE.call_repr_int.or (by
  intro pins s σ H xs us Q I r h
  obtain ⟨rfl, q⟩ := h
  obtain ⟨u, rfl, hu⟩ := vals1 r
  cases (show u = Value.none from hu)
  exact PySem.P.repr_of_none ⟨.str _, H, I.tok _, ⟨_, rfl⟩, q⟩)
def bRepr : List D → Option D
  | [d] => d.repr
  | _ => none
theorem rdl_repr {K : Fg} : RDL K cl rReprD bRepr := by
  intro M H x d d' hf t hx Q k
  unfold bRepr at hf
  split at hf
  · obtain ⟨v, rfl, h⟩ := reps1 hx
    unfold D.repr at hf
    split at hf
    · next i =>
      split at hf
      · next hi =>
        cases hf
        rw [rep_int.1 h]
        refine .inl ⟨i, rfl, ?_, k _ H Ex0 (rep_str.2 rfl)⟩
        by_cases h0 : i.natAbs = 0
        · rw [h0]; decide
        · refine (Nat.log2_lt h0).2 (Nat.lt_of_lt_of_le hi ?_)
          exact Nat.le_trans (by decide : 1000000 ≤ 2 ^ 20) (Nat.pow_le_pow_right (by decide) (by decide))
      · cases hf
    · cases hf
      rw [rep_non.1 h]
      exact .inr ⟨rfl, k _ H Ex0 (rep_str.2 rfl)⟩
    · cases hf
  · cases hf
theorem fl_repr : fL bRepr := by
  intro ds d h
  unfold bRepr at h
  split at h
  · unfold D.repr at h
    split at h
    · split at h
      · cases h; rfl
      · cases h
    · cases h; rfl
    · cases h
  · cases h
end
/-! ### keywords -/
def reordL {α : Type} (is : List Nat) (xs : List α) : List α := is.filterMap fun i => xs[i]?
theorem reordL_reps {K : Fg} {cl : Str → Addr} {H : Hp} {vs : List L2.V} {ds : List D} (h : Reps K cl H vs ds) : ∀ is : List Nat, Reps K cl H (reordL is vs) (reordL is ds)
  | [] => Reps.nil
  | i :: is => by
    unfold reordL
    have ih := reordL_reps h is
    cases hd : ds[i]? with
    | none =>
      have hv : vs[i]? = none := by
        rw [List.getElem?_eq_none_iff] at hd ⊢
        rw [h.length]; exact hd
      rw [List.filterMap_cons_none hv, List.filterMap_cons_none hd]
      exact ih
    | some d =>
      obtain ⟨v, h1, h2⟩ := h.get hd
      rw [List.filterMap_cons_some h1, List.filterMap_cons_some hd]
      exact Reps.cons h2 ih
theorem vals_get {vs : List L2.V} {us : List Value} (h : Vals vs us) : ∀ i : Nat, (vs[i]? = none ∧ us[i]? = none) ∨ ∃ v u, vs[i]? = some v ∧ us[i]? = some u ∧ RelV v u := by
  induction h with
  | nil => intro i; exact .inl ⟨rfl, rfl⟩
  | cons r t ih =>
    intro i
    cases i with
    | zero => exact .inr ⟨_, _, rfl, rfl, r⟩
    | succ i => simpa using ih i
theorem reordL_vals {vs : List L2.V} {us : List Value} (h : Vals vs us) : ∀ is : List Nat, Vals (reordL is vs) (reordL is us)
  | [] => .nil
  | i :: is => by
    unfold reordL
    have ih := reordL_vals h is
    rcases vals_get h i with ⟨a, b⟩ | ⟨v, u, a, b, r⟩
    · rw [List.filterMap_cons_none a, List.filterMap_cons_none b]
      exact ih
    · rw [List.filterMap_cons_some a, List.filterMap_cons_some b]
      exact .cons r ih
section
variable {K : Fg} {x qual : Str} {params : Arguments} {body : List Stmt} {scope : Scope} {f : Addr} {fd : FuncData} {ps ks : List Str}
theorem kb_of (F : FunD K x qual params body scope [] [] f fd) (n : Nat) (is : List Nat)
    (h : ∀ (kV doc pm : Value) (an : Option Addr) (cdv ct : Value) (us ws : List Value), us.length = n → ws.length = ks.length → bindArgs (PySem.W.fnOf x qual params body scope .none kV doc pm an cdv ct) ⟨us, ks.zip ws⟩ = pure (ps.zip (reordL is (us ++ ws)))) :
    KBn K fd ps n ks (fun us ws => reordL is (us ++ ws)) (fun vs zs => reordL is (vs ++ zs)) := by
  obtain ⟨oc, od, dV, kV, doc, pm, an, cdv, ct, osl, rfl, lk, hcd, hD, hK⟩ := F.ex
  rcases hD with ⟨_, rfl⟩ | ⟨e, _⟩
  · exact ⟨fun s us ws _ l1 l2 => .of_eq (h kV doc pm an cdv ct us ws l1 l2), fun r1 r2 => reordL_vals (r1.append r2) is⟩
  · exact absurd rfl e
end
/-- a def that may be called by keywords: n values by position, keywords ks; is: where each parameter's value stands -/
structure FnK (P : Program) (w : World) (K : Fg) (mg : Str → Option Value) (base : Heap) (x : Str) (k : Nat) (ps : List Str) (sp : Sp) (n : Nat) (ks : List Str) (is : List Nat) : Prop where
  ok : ∃ f fd, FnOk P w K mg base CX0 k f fd ps sp ∧ mg x = some (.ref f) ∧ PySem.W.keepIn K (.ref f) = true ∧ KBn K fd ps n ks (fun us ws => reordL is (us ++ ws)) (fun vs zs => reordL is (vs ++ zs))
section
variable (w : Bool) (X : Cx) (cl : Str → Addr)
def EK (kws : List Keyword) (m : Env' → Option (List D)) : Prop :=
  ∃ te, PK X kws te ∧ ∀ M q os ev σ H d, m ev = some d → Rl X.K cl M q os ev σ H → ∀ Q : List L2.V → Hp → Prop, (∀ v H', Ex H H' → Reps X.K cl (hid (vw w os M) H') v d → Q v H') → te σ H Q
end
section
variable {w : Bool} {X : Cx} {cl : Str → Addr} {e : Expr} {es : List Expr} {kws : List Keyword} {p pos kpos : Pos} {nm : Option Str} {m ma : Env' → Option D} {n mk mp : Env' → Option (List D)}
theorem ek_nil : EK w X cl [] anil := by
  refine ⟨_, pk_nil, fun M q os ev σ H d hm r Q k => ?_⟩
  cases hm
  exact k _ _ Ex0 Reps.nil
theorem ek_cons (h : EV w X cl e m) (t : EK w X cl kws n) : EK w X cl (⟨nm, e, kpos⟩ :: kws) (acons m n) := by
  obtain ⟨te, hp, h⟩ := h
  obtain ⟨tr, hr, t⟩ := t
  refine ⟨_, pk_cons hp hr, fun M q os ev σ H d hm r Q k => ?_⟩
  obtain ⟨d, ds, h1, h2, rfl⟩ := acons_some hm
  exact h M q os ev σ H d h1 r _ fun v H1 e1 r1 => t M q os ev σ H1 ds h2 (r.ex e1) _ fun vs H2 e2 r2 => k _ _ (e1.trans e2) (Reps.cons (r1.mono (ex_hid e2)) r2)
/-- f(e, .., k = v, ..) -/
def mK (is : List Nat) (n l : Nat) (f : List D → Option D) (mp mk : Env' → Option (List D)) : Env' → Option D := fun ev => do
  let a ← mp ev
  let b ← mk ev
  if a.length = n ∧ b.length = l then f (reordL is (a ++ b)) else none
theorem pe_callN0 {CX : CXT} {k : Nat} {f : Addr} {fd : FuncData} {ps ks : List Str} {sp : Sp} {E : XK} {x : Str} {tk : TA} {g : List Value → List Value → List Value} {gV : List L2.V → List L2.V → List L2.V}
    (F : FnOk X.prog X.w X.K X.mg X.base CX k f fd ps sp) (hr : Room k X.A) (hg : Gl X x) (hm : X.mg x = some (.ref f)) (hk : PySem.W.keepIn X.K (.ref f) = true) (hb : KBn X.K fd ps 0 ks g gV) (hx : Passes CX X E) (hkw : PK X kws tk)
    (hall : (backToKw pos (keywordEach kws X.env)).all (·.1.isSome) = true := by rfl) (hks : (backToKw pos (keywordEach kws X.env)).filterMap (·.1) = ks := by rfl) (hdb : (x == ("__debug__" : Str)) = false := by decide)
    (hpl : ((backTo pos (starEach [] X.env)).any (·.1) || (backToKw pos (keywordEach kws X.env)).any (·.1.isNone)) = false := by rfl) :
    PE X (.Call (.Name x p) [] kws pos) (tCallN 0 ks.length sp gV E tNil tk) := by
  refine ⟨fun pins s σ H Q I h => ?_⟩
  refine wpAny_Call_Name_kw (ld_glob I hg hm ?_ hdb)
  refine PySem.W.callWith_KW0 (h₀ := X.base) I.ok.mod.kin hk hall ?_ hpl
  refine thn (hkw.run pos pins s σ H _ I h) fun ws s2 ⟨zs, H2, I2, rz, l1, l2, q2⟩ => ⟨I2.kIn, ?_⟩
  rw [hks]
  exact run_fnN (us := []) (vs := []) F hr hb hx I2 .nil rz rfl l2 q2
theorem ev_callK0 {x : Str} {k : Nat} {ps ks : List Str} {is : List Nat} {m : List D → Option D} (F : FnK X.prog X.w X.K X.mg X.base x k ps (spP X.K cl m) 0 ks is) (hr : Room k X.A) (hg : Gl X x) (ha : EK w X cl kws mk) (hdb : (x == ("__debug__" : Str)) = false)
    (hall : (backToKw pos (keywordEach kws X.env)).all (·.1.isSome) = true := by rfl) (hks : (backToKw pos (keywordEach kws X.env)).filterMap (·.1) = ks := by rfl)
    (hpl : ((backTo pos (starEach [] X.env)).any (·.1) || (backToKw pos (keywordEach kws X.env)).any (·.1.isNone)) = false := by rfl) :
    EV w X cl (.Call (.Name x p) [] kws pos) (mK is 0 ks.length m anil mk) := by
  obtain ⟨f, fd, F, hm, hk, hb⟩ := F.ok
  obtain ⟨ta, pa, ha⟩ := ha
  refine ⟨_, pe_callN0 F hr hg hm hk hb pass0 pa hall hks hdb hpl, fun M q os ev σ H d hm rl Q k => ?_⟩
  obtain ⟨a, h0, hm⟩ := bind_some' hm
  obtain ⟨ds, h1, hm⟩ := bind_some' hm
  cases h0
  split at hm
  · next hl =>
    refine ha M q os ev σ H ds h1 rl _ fun vs H1 x1 r1 => ⟨rfl, by rw [r1.length]; exact hl.2, ?_⟩
    exact ⟨_, _, d, hm, (rl.ex x1).tk w, reordL_reps (Reps.nil.append r1) is, fun v H2 x2 r2 => k v H2 (x1.trans x2) r2⟩
  · cases hm
theorem ev_callKN {x : Str} {k j : Nat} {ps ks : List Str} {is : List Nat} {m : List D → Option D} (F : FnK X.prog X.w X.K X.mg X.base x k ps (spP X.K cl m) j ks is) (hr : Room k X.A) (hg : Gl X x) (hp : EA w X cl (e :: es) mp) (ha : EK w X cl kws mk) (hdb : (x == ("__debug__" : Str)) = false)
    (hall : (backToKw pos (keywordEach kws X.env)).all (·.1.isSome) = true := by rfl) (hks : (backToKw pos (keywordEach kws X.env)).filterMap (·.1) = ks := by rfl) (he : starEach (e :: es) X.env = (false, eval e X.env) :: starEach es X.env := by rfl)
    (hpl : ((backTo pos (starEach (e :: es) X.env)).any (·.1) || (backToKw pos (keywordEach kws X.env)).any (·.1.isNone)) = false := by rfl) :
    EV w X cl (.Call (.Name x p) (e :: es) kws pos) (mK is j ks.length m mp mk) := by
  obtain ⟨f, fd, F, hm, hk, hb⟩ := F.ok
  obtain ⟨tp, pp, hp⟩ := hp
  obtain ⟨ta, pa, ha⟩ := ha
  refine ⟨_, pe_callN F hr hg hm hk hb pass0 pp pa hall hks hdb he hpl, fun M q os ev σ H d hm rl Q k => ?_⟩
  obtain ⟨a, h0, hm⟩ := bind_some' hm
  obtain ⟨ds, h1, hm⟩ := bind_some' hm
  split at hm
  · next hl =>
    refine hp M q os ev σ H a h0 rl _ fun us H0 x0 r0 => ha M q os ev σ H0 ds h1 (rl.ex x0) _ fun vs H1 x1 r1 => ⟨by rw [r0.length]; exact hl.1, by rw [r1.length]; exact hl.2, ?_⟩
    exact ⟨_, _, d, hm, (rl.ex (x0.trans x1)).tk w, reordL_reps ((r0.mono (ex_hid x1)).append r1) is, fun v H2 x2 r2 => k v H2 ((x0.trans x1).trans x2) r2⟩
  · cases hm
end
end Lay

namespace Lay
open PySem PySem.Spec PyProof.Rows L2
open Evl (Ex)
/-! ### the table of kinds -/
def bndI (z : Str) : Option (Int × Int) := if z = "plain" then some (1, 7) else if z = "mirror" then some (1, 5) else if z = "ring" then some (2, 5) else none
structure BndG (w : World) (K : Fg) (mg : Str → Option Value) : Prop where
  ok : ∃ d es n, mg "BOUNDS" = some (.ref d) ∧ KDict K w d es n ∧ ∀ z a b, bndI z = some (a, b) → ∃ t, PySem.W.nsIn K d z = some (some (.ref t)) ∧ ∀ H, SqT K H t [.int a, .int b]
def D.bnot : D → Option Bool
  | .str z => if (bndI z).isSome = true then some false else none
  | _ => none
def tbnot (m : Env' → Option D) : Env' → Option Bool := fun ev => do let d ← m ev; d.bnot
def D.bix : D → D → Option D
  | .str z, .int i => (match bndI z with
    | some (a, b) => if i = 0 then some (.int a) else if i = 1 then some (.int b) else none
    | none => none)
  | _, _ => none
section
variable {w : Bool} {X : Cx} {cl : Str → Addr} {a b : Expr} {p p2 p3 pos : Pos} {ma mb : Env' → Option D}
theorem et_bnot (B : BndG X.w X.K X.mg) (hg : Gl X "BOUNDS") (ha : EV false X cl a ma) (hmk : behindInMarks .NotIn (.Name "BOUNDS" p) = false := by rfl) : ET X cl (.Compare a [.NotIn] [.Name "BOUNDS" p] pos) (tbnot ma) := by
  obtain ⟨d, es, n, hm, hd, hv⟩ := B.ok
  obtain ⟨ta, pa, ha⟩ := ha
  refine ⟨_, pt_cmpR (op_notIn_kd hd) pa (pe_glob hg hm (v := .ref d) rfl) hmk, fun M q os ev σ H r hm rl Q k => ?_⟩
  obtain ⟨x, h1, hm⟩ := bind_some' hm
  refine ha M q os ev σ H x h1 rl _ fun v H1 x1 r1 => ?_
  unfold D.bnot at hm
  split at hm
  · next z =>
    split at hm
    · next hz =>
      cases hm
      obtain ⟨⟨a, b⟩, hab⟩ := Option.isSome_iff_exists.1 hz
      obtain ⟨t, h2, _⟩ := hv z a b hab
      exact ⟨z, _, rep_str.1 r1, rfl, h2, false, rfl, k H1 x1⟩
    · cases hm
  · cases hm
theorem ev_bix (B : BndG X.w X.K X.mg) (hg : Gl X "BOUNDS") (ha : EV w X cl a ma) (hb : EV w X cl b mb) (hs : PlainIx a) (hs2 : PlainIx b) : EV w X cl (.Subscript (.Subscript (.Name "BOUNDS" p) a p2) b pos) (m2 D.bix ma mb) := by
  obtain ⟨d, es, n, hm, hd, hv⟩ := B.ok
  obtain ⟨ta, pa, ha⟩ := ha
  obtain ⟨tb, pb, hb⟩ := hb
  refine ⟨_, pe_ix ix_seq (pe_ix ix_kdict (pe_glob hg hm (v := .ref d) rfl) pa hs) pb hs2, fun M q os ev σ H r hm rl Q k => ?_⟩
  obtain ⟨x, h1, hm⟩ := bind_some' hm
  obtain ⟨y, h2, hm⟩ := bind_some' hm
  refine ha M q os ev σ H x h1 rl _ fun v H1 x1 r1 => ?_
  unfold D.bix at hm
  split at hm
  · next z i _ =>
    split at hm
    · next a' b' hab =>
      obtain ⟨t, h3, h4⟩ := hv z a' b' hab
      refine ⟨d, z, .ref t, rfl, rep_str.1 r1, ⟨es, n, _, hd.at_, hd.lit, h3, rfl⟩, ?_⟩
      refine hb M q os ev σ H1 _ h2 (rl.ex x1) _ fun u H2 x2 r2 => ?_
      split at hm
      · next hi =>
        cases hm
        exact .inr (.inl ⟨t, _, i, .int a', rfl, rep_int.1 r2, h4 H2, by rw [hi]; rfl, k _ H2 (x1.trans x2) (rep_int.2 rfl)⟩)
      · split at hm
        · next hi =>
          cases hm
          exact .inr (.inl ⟨t, _, i, .int b', rfl, rep_int.1 r2, h4 H2, by rw [hi]; rfl, k _ H2 (x1.trans x2) (rep_int.2 rfl)⟩)
        · cases hm
    · cases hm
  · cases hm
end
/-! ### new objects -/
/-- what an __init__ promises: the new object is told by its data -/
def spI (K : Fg) (cl : Str → Addr) (m : List D → Option D) : Sp := fun vs H Q _ => ∃ M x dx us ds c ns fs, vs = .ref x :: us ∧ m ds = some (.obj c ns fs) ∧ Tk M H ∧ x ∉ M ∧ H x = some (.ins (cl c) dx []) ∧ Reps K cl (hid (x :: M) H) us ds ∧
  ∀ H', (∀ a o, H a = some o → a ≠ x → H' a = some o) → Rep K cl (hid M H') (.ref x) (.obj c ns fs) → Q .non H'
structure MkG (P : Program) (w : World) (K : Fg) (cl : Str → Addr) (mg : Str → Option Value) (base : Heap) (x : Str) (k : Nat) (ps : List Str) (m : List D → Option D) : Prop where
  ok : ∃ f fd, FnOk P w K mg base CX0 k f fd ps (spI K cl m) ∧ mg x = some (.ref (cl x)) ∧ Mk K (cl x) f ∧ Binds K fd ps []
  cl : ∀ ds c ns fs, m ds = some (.obj c ns fs) → c = x
  ob : ∀ ds d, m ds = some d → ∃ c ns fs, d = .obj c ns fs
structure MkK (P : Program) (w : World) (K : Fg) (cl : Str → Addr) (mg : Str → Option Value) (base : Heap) (x : Str) (k : Nat) (ps : List Str) (m : List D → Option D) (n : Nat) (ks : List Str) (is : List Nat) : Prop where
  ok : ∃ f fd, FnOk P w K mg base CX0 k f fd ps (spI K cl m) ∧ mg x = some (.ref (cl x)) ∧ Mk K (cl x) f ∧ KBn K fd ps (n + 1) ks (fun us ws => reordL is (us ++ ws)) (fun vs zs => reordL is (vs ++ zs))
  cl : ∀ ds c ns fs, m ds = some (.obj c ns fs) → c = x
  ob : ∀ ds d, m ds = some d → ∃ c ns fs, d = .obj c ns fs
theorem spI_of {K : Fg} {cl : Str → Addr} {m : List D → Option D} {M : List Addr} {H1 : Hp} {x dx : Addr} {us : List L2.V} {ds : List D} {c : Str} {ns : List Str} {fs : List D} {Q : VK} {E : XK} (hx : H1 x = none) (hdx : H1 dx = none) (hne : dx ≠ x) (h1 : m ds = some (.obj c ns fs)) (t : Tk M H1) (r : Reps K cl (hid M H1) us ds)
    (k : ∀ H2, Ex H1 H2 → Rep K cl (hid M H2) (.ref x) (.obj c ns fs) → Q (.ref x) H2) : spI K cl m (.ref x :: us) (upd (upd H1 dx (.own x)) x (.ins (cl c) dx [])) (fun v H2 => v = .non ∧ Q (.ref x) H2) E := by
  have x0 : Ex H1 (upd (upd H1 dx (.own x)) x (.ins (cl c) dx [])) := (Evl.Ex.new hdx).trans (Evl.Ex.new (by rw [upd_ne fun z => hne z.symm]; exact hx))
  refine ⟨M, x, dx, us, ds, c, ns, fs, rfl, h1, t.ex x0, t.new hx, upd_same, r.mono (ex_sub (fun a o h _ => x0 a o h) fun a ha => by
    rcases List.mem_cons.1 ha with rfl | z
    · exact .inr hx
    · exact .inl z), fun H' k1 k2 => ⟨rfl, k H' (fun a o ha => k1 a o (x0 a o ha) fun z => ?_) k2⟩⟩
  rw [z, hx] at ha
  cases ha
section
variable {w : Bool} {X : Cx} {cl : Str → Addr} {e : Expr} {es : List Expr} {kws : List Keyword} {p pos : Pos} {ma mk : Env' → Option (List D)}
theorem ev_make {x : Str} {k : Nat} {ps : List Str} {m : List D → Option D} (F : MkG X.prog X.w X.K cl X.mg X.base x k ps m) (hr : Room (k + 1) X.A) (hg : Gl X x) (ha : EA w X cl (e :: es) ma) (hdb : (x == ("__debug__" : Str)) = false)
    (he : starEach (e :: es) X.env = (false, eval e X.env) :: starEach es X.env := by rfl) (hpl : (backTo pos (starEach es X.env)).any (·.1) = false := by rfl) : EV w X cl (.Call (.Name x p) (e :: es) [] pos) (mL m ma) := by
  obtain ⟨f, fd, F1, hmg, hk, hb⟩ := F.ok
  obtain ⟨ta, pa, ha⟩ := ha
  refine ⟨_, pe_make hk F1 hr hg hmg hb .nil pass0 pa hdb he hpl, fun M q os ev σ H d hm rl Q k => ?_⟩
  obtain ⟨ds, h1, hm⟩ := bind_some' hm
  obtain ⟨c, ns, fs, rfl⟩ := F.ob _ _ hm
  obtain rfl := F.cl _ _ _ _ hm
  refine ha M q os ev σ H ds h1 rl _ fun vs H1 x1 r1 y dy hy hdy hne => ?_
  rw [List.append_nil]
  exact spI_of hy hdy hne hm ((rl.ex x1).tk w) r1 fun H2 x2 r2 => k _ H2 (x1.trans x2) r2
theorem ev_makeK0 {x : Str} {k : Nat} {ps ks : List Str} {is : List Nat} {m : List D → Option D} (F : MkK X.prog X.w X.K cl X.mg X.base x k ps m 0 ks (0 :: is.map (· + 1))) (hr : Room (k + 1) X.A) (hg : Gl X x) (ha : EK w X cl kws mk) (hdb : (x == ("__debug__" : Str)) = false)
    (hall : (backToKw pos (keywordEach kws X.env)).all (·.1.isSome) = true := by rfl) (hks : (backToKw pos (keywordEach kws X.env)).filterMap (·.1) = ks := by rfl)
    (hpl : ((backTo pos (starEach [] X.env)).any (·.1) || (backToKw pos (keywordEach kws X.env)).any (·.1.isNone)) = false := by rfl) :
    EV w X cl (.Call (.Name x p) [] kws pos) (mK is 0 ks.length m anil mk) := by
  obtain ⟨f, fd, F1, hmg, hk, hb⟩ := F.ok
  obtain ⟨ta, pa, ha⟩ := ha
  refine ⟨_, pe_makeK0 hk F1 hr hg hmg hb pass0 pa hall hks hdb hpl, fun M q os ev σ H d hm rl Q k => ?_⟩
  obtain ⟨a, h0, hm⟩ := bind_some' hm
  obtain ⟨ds, h1, hm⟩ := bind_some' hm
  cases h0
  split at hm
  · next hl =>
    obtain ⟨c, ns, fs, rfl⟩ := F.ob _ _ hm
    obtain rfl := F.cl _ _ _ _ hm
    refine ha M q os ev σ H ds h1 rl _ fun vs H1 x1 r1 => ⟨rfl, by rw [r1.length]; exact hl.2, fun y dy hy hdy hne => ?_⟩
    have e1 : reordL (0 :: is.map (· + 1)) ([V.ref y] ++ vs) = V.ref y :: reordL is vs := by
      unfold reordL
      rw [List.filterMap_cons_some (by rfl), List.filterMap_map]
      congr 1
    show spI X.K cl m (reordL (0 :: is.map (· + 1)) ([V.ref y] ++ vs)) _ _ _
    rw [e1]
    exact spI_of hy hdy hne hm ((rl.ex x1).tk w) (reordL_reps r1 is) fun H2 x2 r2 => k _ H2 (x1.trans x2) r2
  · cases hm
end
/-- __init__ of two fields -/
def initM (c f1 f2 : Str) (mc : Env' → Option Bool) (me : Env' → Option D) : List D → Option D
  | [d1, d2] => if mc [.emp, .val d1, .val d2] = some false ∧ (me [.emp, .val d1, .val d2]).isSome = true then some (.obj c [f1, f2] [d1, d2]) else none
  | _ => none
theorem initM_cl {c f1 f2 : Str} {mc : Env' → Option Bool} {me : Env' → Option D} : ∀ ds c' ns fs, initM c f1 f2 mc me ds = some (.obj c' ns fs) → c' = c := by
  intro ds c' ns fs h
  unfold initM at h
  split at h
  · split at h
    · cases h; rfl
    · cases h
  · cases h
theorem initM_ob {c f1 f2 : Str} {mc : Env' → Option Bool} {me : Env' → Option D} : ∀ ds d, initM c f1 f2 mc me ds = some d → ∃ c ns fs, d = .obj c ns fs := by
  intro ds d h
  unfold initM at h
  split at h
  · split at h
    · cases h; exact ⟨_, _, _, rfl⟩
    · cases h
  · cases h
section
variable {P : Program} {w : World} {K : Fg} {cl : Str → Addr} {mg : Str → Option Value} {base : Heap} {x qual : Str} {params : Arguments} {scope : Scope} {f : Addr} {fd : FuncData} {k : Nat}
theorem fn_I {c f1 f2 y0 y1 y2 : Str} {ce ee : Expr} {ra : List Stmt} {p1 p2 p3 p4 q1 q2 q3 q4 q5 q6 : Pos} {mc : Env' → Option Bool} {me : Env' → Option D}
    (F : FunD K x qual params [.If ce ra [] p1, .Expr ee p2, .Assign [.Attribute (.Name y0 q1) f1 q2] (.Name y1 q3) p3, .Assign [.Attribute (.Name y0 q4) f2 q5] (.Name y2 q6) p4] scope [] [] f fd) (S : FnScope [y0, y1, y2] [y0, y1, y2] scope)
    (G : Cls K (cl c)) (n1 : NoAttr K (cl c) f1) (n2 : NoAttr K (cl c) f2) (hf : (f2 == f1) = false)
    (v0 : varB [y0, y1, y2] scope 0 = true) (v1 : varB [y0, y1, y2] scope 1 = true) (v2 : varB [y0, y1, y2] scope 2 = true)
    (h : ∀ X : Cx, X.prog = P → X.w = w → X.K = K → X.mg = mg → X.base = base → CXo false X [y0, y1, y2] scope k → ET X cl ce mc ∧ EV true X cl ee me ∧ swapsWith ee none p2.line X.env = pure false ∧ swapsWith (.Name y1 q3) (some (.Attribute (.Name y0 q1) f1 q2)) p3.line X.env = pure false ∧ swapsWith (.Name y2 q6) (some (.Attribute (.Name y0 q4) f2 q5)) p4.line X.env = pure false) :
    FnOk P w K mg base CX0 (k + 1) f fd [y0, y1, y2] (spI K cl (initM c f1 f2 mc me)) := by
  refine F.ok S (fun vs H Q E hs => ?_) (fun cdv A outer s H vs Q E hr hs => ?_)
  · obtain ⟨M, x, dx, us, ds, c', ns, fs, rfl, h1, _, _, _, h2, _⟩ := hs
    unfold initM at h1
    split at h1
    · rw [List.length_cons, h2.length]; rfl
    · cases h1
  · obtain ⟨M, x, dx, us, ds, c', ns, fs, rfl, h1, h2, h3, h4, h5, h6⟩ := hs
    have C := cxo_of (E := E) (outer := outer) (H := H) (P := P) (w := w) (K := K) (mg := mg) (base := base) (qual := qual) (f := f) (cdv := cdv) (s := s) (gb := false) S (fun z => nomatch z) hr
    obtain ⟨⟨tc, pc, hc⟩, ⟨te, pe, he⟩, w1, w2, w3⟩ := h _ rfl rfl rfl rfl rfl C
    have V0 := C.v (i := 0) v0 rfl
    have V1 := C.v (i := 1) v1 rfl
    have V2 := C.v (i := 2) v2 rfl
    refine ⟨_, PSs.nox (pss_cons (ps_if pc pss_never pss_nil) (pss_cons (ps_expr pe w1) (pss_cons (ps_fld (pe_var V0.ix V0.vis V0.nd V0.nc) (pe_var V1.ix V1.vis V1.nd V1.nc) w2) (pss_one (ps_fld (pe_var V0.ix V0.vis V0.nd V0.nc) (pe_var V2.ix V2.vis V2.nd V2.nc) w3))))), ?_⟩
    unfold initM at h1
    split at h1
    · next d1 d2 =>
      split at h1
      · next hcd =>
        cases h1
        obtain ⟨u1, us', rfl, r1, r2⟩ := Reps.cons_iff.1 h5
        obtain ⟨u2, us'', rfl, r3, r4⟩ := Reps.cons_iff.1 r2
        obtain rfl := Reps.nil_iff.1 r4
        obtain ⟨de, hde⟩ := Option.isSome_iff_exists.1 hcd.2
        have t2 : Tk (x :: M) H := fun a ha => by
          rcases List.mem_cons.1 ha with rfl | z
          · rw [h4]; simp
          · exact h2 a z
        have rl : Rl K cl (x :: M) none [] [.emp, .val d1, .val d2] [some (.ref x), some u1, some u2] H := tk_rl t2 (.emp (.val r1 (.val r3 .nil)))
        have e0 : L2.start [y0, y1, y2] [V.ref x, u1, u2] = [some (.ref x), some u1, some u2] := rfl
        rw [e0]
        refine hc (x :: M) none [] _ _ H false hcd.1 rl _ fun H1 x1 => iteF ?_
        refine he (x :: M) none [] _ _ H1 de hde (rl.ex x1) _ fun v H2 x2 r5 => ?_
        have hx2 : H2 x = some (.ins (cl c) dx []) := x2 _ _ (x1 _ _ h4)
        refine ⟨u1, rfl, _, rfl, x, cl c, dx, [], rfl, hx2, G, n1, by decide, ?_⟩
        refine ⟨u2, rfl, _, rfl, x, cl c, dx, _, rfl, upd_same, G, n2, by show (1 : Nat) < 1000; decide, ?_⟩
        have xx := x1.trans x2
        refine h6 _ (fun a o ha hne => by rw [upd_ne hne, upd_ne hne]; exact xx a o ha) ?_
        have vw : ∀ fs : List (Str × L2.V), Ex (hid (x :: M) H) (hid M (upd (upd H2 x (.ins (cl c) dx (putF f1 u1 []))) x (.ins (cl c) dx fs))) := fun fs a o ha => by
          obtain ⟨m1, m2⟩ := hid_some ha
          rw [hid_not fun z => m1 (List.mem_cons_of_mem _ z), upd_ne fun z => m1 (by rw [z]; exact List.mem_cons_self), upd_ne fun z => m1 (by rw [z]; exact List.mem_cons_self)]
          exact xx a o m2
        have hne : ¬ f1 = f2 := fun z => by rw [z] at hf; simp at hf
        have ep : putF f2 u2 (putF f1 u1 []) = [f1, f2].zip [u1, u2] := by simp [putF, hne]
        unfold Rep
        exact ⟨x, dx, [u1, u2], rfl, by rw [hid_not h3, upd_same, ep], rfl, Reps.cons (r1.mono (vw _)) (Reps.cons (r3.mono (vw _)) Reps.nil)⟩
      · cases h1
    · cases h1
end
end Lay

namespace Lay
open PySem PySem.Spec PyProof.Rows L2
open Evl (Ex)
/-! ### == by an own __eq__ -/
structure EqG (P : Program) (w : World) (K : Fg) (mg : Str → Option Value) (base : Heap) (C : Addr) (k : Nat) (ps : List Str) (sp : Sp) : Prop where
  ok : ∃ f fd, FnOk P w K mg base CX0 k f fd ps sp ∧ PySem.W.findIn K (.ref C) "__eq__" = some (some (.ref f)) ∧ PySem.W.isFn K (.ref f) = true ∧ Binds K fd ps []
/-- what may stand on the right -/
def rightOk (c : Str) : D → Bool
  | .obj c' _ _ => decide (c' = c)
  | .lst _ => true
  | .tup _ => true
  | _ => false
def isO (c : Str) : D → Bool
  | .obj c' _ _ => decide (c' = c)
  | _ => false
def D.eqO (c : Str) (m : List D → Option D) (d e : D) : Option Bool := if isO c d = true ∧ rightOk c e = true then (match m [d, e] with
  | some (.bl b) => some b
  | _ => none) else none
section
variable {X : Cx} {cl : Str → Addr} {c : Str} {k : Nat} {ps : List Str} {m : List D → Option D}
def rEqO (K : Fg) (cl : Str → Addr) (c : Str) (m : List D → Option D) : R2 := fun x y H Q => ∃ M d e b, D.eqO c m d e = some b ∧ Tk M H ∧ Rep K cl (hid M H) x d ∧ Rep K cl (hid M H) y e ∧ ∀ H', Ex H H' → Q (.bl b) H'
theorem look_ty {M : Model} {h : Heap} {x : Addr} {o : Obj} {t : Value} (e : h.get? x = some o) (c : o.cls = t) : PySem.W.Looks M h (typeOf (.ref x)) t := c ▸ (PySem.W.Looks.ld e).andThen .now
theorem op_eqO (G : ClsG X.K (cl c)) (F : EqG X.prog X.w X.K X.mg X.base (cl c) k ps (spP X.K cl m)) (hr : Room k X.A) : OpR X (compareOp .Eq) (rEqO X.K cl c m) := by
  intro pins s σ H x y v u Q I rx ry ⟨M, d, e, b, h1, t, r1, r2, q⟩
  unfold D.eqO at h1
  split at h1
  · next hc =>
    have hm : m [d, e] = some (.bl b) := by
      split at h1
      · next b' hb => cases h1; exact hb
      · cases h1
    obtain ⟨f, fd, F1, hs, hf, hb⟩ := F.ok
    show wpAny (model X.prog X.w) X.A (richCompare .Eq v u) (L2.EP X pins σ Q) X.xe s
    cases d with
    | obj c' ns fs =>
      have ec : c' = c := of_decide_eq_true hc.1
      subst ec
      have r1' := r1
      unfold Rep at r1
      obtain ⟨a, dx, vs, rfl, ha, hl, _⟩ := r1
      obtain rfl : v = Value.ref a := rx
      obtain ⟨mA, J, _⟩ := ins_get I.hok (hid_some ha).2
      obtain ⟨od, J, _⟩ := J.look
      obtain ⟨mm, hF⟩ := I.fr
      have right : ∃ tb, PySem.W.Looks (model X.prog X.w) s.heap (typeOf u) tb ∧ PySem.W.notFirst X.K (cl c') tb = true := by
        cases e with
        | obj c2 ns2 fs2 =>
          have ec : c2 = c' := of_decide_eq_true hc.2
          subst ec
          unfold Rep at r2
          obtain ⟨a2, dx2, vs2, rfl, ha2, hl2, _⟩ := r2
          obtain rfl : u = Value.ref a2 := ry
          obtain ⟨mB, J', _⟩ := ins_get I.hok (hid_some ha2).2
          obtain ⟨od', J', _⟩ := J'.look
          exact ⟨_, J'.type, by simp [PySem.W.notFirst]⟩
        | lst xs =>
          obtain ⟨a2, vs2, rfl, ha2, _⟩ := rep_list.1 r2
          obtain rfl : u = Value.ref a2 := ry
          obtain ⟨_, _, n, _, h1⟩ := (show ObjOk X.prog X.w H s.heap a2 (.lst vs2) from I.hok a2 _ (hid_some ha2).2)
          exact ⟨_, look_ty h1 rfl, by unfold PySem.W.notFirst; rw [G.nf "list" (by decide)]; simp⟩
        | tup xs =>
          obtain ⟨a2, vs2, rfl, ha2, _⟩ := rep_tup.1 r2
          obtain rfl : u = Value.ref a2 := ry
          obtain ⟨_, _, _, o, h1, h2, _⟩ := (show ObjOk X.prog X.w H s.heap a2 (.tup vs2) from I.hok a2 _ (hid_some ha2).2)
          exact ⟨_, look_ty h1 h2, by unfold PySem.W.notFirst; rw [G.nf "tuple" (by decide)]; simp⟩
        | non => cases hc.2
        | bl _ => cases hc.2
        | int _ => cases hc.2
        | str _ => cases hc.2
        | scr _ => cases hc.2
      obtain ⟨tb, hlook, hnf⟩ := right
      refine PySem.W.cmp_K (op := .Eq) (tb := tb) hr.units0 hF I.ok.mod.kin J hlook hnf hs hf ?_
      have hsp : spP X.K cl m [.ref a, y] H (fun v H' => v = .bl b ∧ Ex H H') E0 := ⟨M, _, _, hm, t, Reps.cons r1' (Reps.cons r2 Reps.nil), fun v H' x' r' => ⟨rep_bl.1 r', x'⟩⟩
      have hl := F1.len _ _ _ _ hsp
      have r2v : Vals [V.ref a, y] [Value.ref a, u] := .cons rfl (.cons ry .nil)
      refine wpAny_call (codeAny_mono (F1.run X.A X.stack s H ⟨[.ref a, u], []⟩ [.ref a, u] [.ref a, y] _ E0 hr I.env0 (by
        have := hb s [.ref a, u] I.kIn (by simpa using hl)
        simpa using this) r2v hsp) fun r s' hq => ?_)
      cases r with
      | error e => exact pass0 pins σ H s e s' I hq
      | ok fl =>
        cases fl with
        | ret w =>
          obtain ⟨z, H', I', rz, ez, ex⟩ := I.after hq
          subst ez
          cases rz
          exact ⟨.bl b, H', I', rfl, q H' ex⟩
        | next => exact False.elim hq
        | brk => exact False.elim hq
        | cont => exact False.elim hq
    | _ => cases hc.1
  · cases h1
theorem rc_eqO {K : Fg} : RC2 K cl (rEqO K cl c m) (D.eqO c m) := fun M H x y d e b h t r1 r2 Q k => ⟨M, d, e, b, h, t, r1, r2, k⟩
end
/-! ### append to a list that is let go -/
section
variable {X : Cx} {cl : Str → Addr} {o e : Expr} {pos : Pos}
def sappN (mo : Env' → Option (List D)) (me : Env' → Option D) : SM := fun ev => do
  let g ← mo ev
  let _ ← me ev
  if g.length ≤ 1000000 then some (.nx, ev) else none
theorem s_appN {apos pos' : Pos} {mo : Env' → Option (List D)} {me : Env' → Option D} (ho : EO true X cl o mo) (he : EV true X cl e me)
    (hpe : ∀ to te, PE X o to → PE X e te → PE X (.Call (.Attribute o "append" apos) [e] [] pos) (tBM X.K "list" rAppend to (tCons te tNil)))
    (hs : swapsWith (.Call (.Attribute o "append" apos) [e] [] pos) none pos'.line X.env = pure false := by rfl) : S1 X cl (.Expr (.Call (.Attribute o "append" apos) [e] [] pos) pos') (sappN mo me) := by
  obtain ⟨to, po, ho⟩ := ho
  obtain ⟨te, hp, he⟩ := he
  refine ⟨_, ps_expr (hpe to te po hp) hs, fun M q os ev σ H fl ev' hm rl E k => ?_⟩
  obtain ⟨g, h1, hm⟩ := bind_some' hm
  obtain ⟨d, h2, hm⟩ := bind_some' hm
  split at hm
  · next hc =>
    cases hm
    refine ho M q os ev σ H g h1 rl _ fun p H1 vs hn x1 g1 g2 => ⟨.inl ⟨rfl, _, .of g1⟩, ?_⟩
    refine he M q os ev σ H1 d h2 (rl.ex x1) _ fun u H2 x2 r2 => ?_
    refine ⟨p, vs, u, rfl, rfl, x2 _ _ g1, by rw [g2.length, sizeLine_eq]; omega, ?_⟩
    have xx : Ex H (upd H2 p (.lst (vs ++ [u]))) := Evl.Ex.mut (x1.trans x2) hn
    exact k os σ _ (.of_ex xx) (rl.ex xx)
  · cases hm
end
end Lay

namespace Lay
open PySem PySem.Spec PyProof.Rows L2
open Evl (Ex)
/-- what is used of the class Kind and of the table BOUNDS -/
structure KG (w : World) (K : Fg) (cl : Str → Addr) (mg : Str → Option Value) : Prop where
  g : ClsG K (cl "Kind")
  mgK : mg "Kind" = some (.ref (cl "Kind"))
  na1 : NoAttr K (cl "Kind") "_name"
  na2 : NoAttr K (cl "Kind") "_size"
  bnd : BndG w K mg
end Lay

namespace Lay
open PySem
/-! ### plain laws of the data -/
theorem eq_int (a b : Int) : D.eq (.int a) (.int b) = some (a == b) := by
  simp [D.eq, D.toPy, SeqAt.shaped, PyData.canLay0, PyData.depth, PyData.eqv]
theorem eq_str {a b : Str} (ha : PyData.strOk a = true) (hb : PyData.strOk b = true) : D.eq (.str a) (.str b) = some (a == b) := by
  simp [D.eq, D.toPy, SeqAt.shaped, PyData.canLay0, PyData.depth, PyData.eqv, ha, hb]
theorem toPys_ints : ∀ as : List Int, D.toPys (as.map D.int) = some (as.map PyData.int)
  | [] => by simp [D.toPys]
  | a :: as => by simp [D.toPys, D.toPy, toPys_ints as]
theorem lay_ints : ∀ as : List Int, PyData.canLayAll0 (as.map PyData.int) = true
  | [] => by simp [PyData.canLayAll0]
  | a :: as => by simp [PyData.canLayAll0, PyData.canLay0, lay_ints as]
theorem depth_ints : ∀ as : List Int, PyData.depthAll (as.map PyData.int) = 0
  | [] => by simp [PyData.depthAll]
  | a :: as => by simp [PyData.depthAll, PyData.depth, depth_ints as]
theorem eqv_ints : ∀ as bs : List Int, PyData.eqvAll (as.map PyData.int) (bs.map PyData.int) = (as == bs)
  | [], [] => by simp [PyData.eqvAll]
  | [], b :: bs => by simp [PyData.eqvAll]
  | a :: as, [] => by simp [PyData.eqvAll]
  | a :: as, b :: bs => by
    simp only [List.map_cons, PyData.eqvAll, PyData.eqv, eqv_ints as bs]
    rfl
theorem eq_ints (as bs : List Int) : D.eq (.lst (as.map D.int)) (.lst (bs.map D.int)) = some (as == bs) := by
  simp [D.eq, D.toPy, toPys_ints, SeqAt.shaped, PyData.canLay0, PyData.depth, PyData.eqv, lay_ints, depth_ints, eqv_ints]
theorem eq_told {a b : Str} {n m : Int} (ha : PyData.strOk a = true) (hb : PyData.strOk b = true) : D.eq (.tup [.str a, .int n]) (.tup [.str b, .int m]) = some (a == b && n == m) := by
  simp [D.eq, D.toPy, D.toPys, SeqAt.shaped, PyData.canLay0, PyData.canLayAll0, PyData.depth, PyData.depthAll, PyData.eqv, PyData.eqvAll, ha, hb]
theorem atI_map' {α β : Type} (f : α → β) (xs : List α) (i : Int) : L2.atI (xs.map f) i = (L2.atI xs i).map f := atI_map
/-! loops -/
theorem forGo_inv {f : D → Env' → Option Env'} {b : SM} (Inv : Env' → Prop) : ∀ {ds : List D} {ev : Env'}, (∀ d ∈ ds, ∀ ev, Inv ev → ∃ ev0 ev1, f d ev = some ev0 ∧ b ev0 = some (.nx, ev1) ∧ Inv ev1) → Inv ev → ∃ ev', forGo f b ds ev = some (.nx, ev') ∧ Inv ev'
  | [], ev, _, h => ⟨ev, rfl, h⟩
  | d :: ds, ev, hs, h => by
    obtain ⟨ev0, ev1, h1, h2, h3⟩ := hs d (by simp) ev h
    obtain ⟨ev', h4, h5⟩ := forGo_inv Inv (ds := ds) (fun d hd => hs d (by simp [hd])) h3
    refine ⟨ev', ?_, h5⟩
    unfold forGo
    rw [h1]
    simp only [h2]
    exact h4
theorem lcGo_map {ev : Env'} {t : Tgt} {me : Env' → Option D} {g : D → D} : ∀ {ds : List D}, (∀ d ∈ ds, ∃ ev', t.put d ev = some ev' ∧ me ev' = some (g d)) → lcGo ev t tyes me ds = some (ds.map g)
  | [], _ => rfl
  | d :: ds, h => by
    obtain ⟨ev', h1, h2⟩ := h d (by simp)
    unfold lcGo
    rw [h1]
    simp only [tyes, Option.bind_eq_bind, Option.bind_some, if_true, h2, List.map_cons]
    have := lcGo_map (ds := ds) fun d hd => h d (by simp [hd])
    rw [this]
    rfl
end Lay

namespace Lay
open PySem PySem.Spec PyProof.Rows L2
open Evl (Ex)
/-! ### numbers of the module -/
section
variable {w : Bool} {X : Cx} {cl : Str → Addr} {pos : Pos}
theorem ev_gi {x : Str} {i : Int} (hg : Gl X x) (hm : ∃ t, X.mg x = some (.int i t)) (hd : (x == ("__debug__" : Str)) = false) : EV w X cl (.Name x pos) (xc (.int i)) := by
  obtain ⟨t, hm⟩ := hm
  exact ev_globI hg hm hd
end
/-! ### x[:] = ys -/
section
open HT
variable {prog : Program} {w : World} {A : Around} {E : Value → Shared → Prop} {s : Shared}
theorem all_bounds (n : Nat) : sliceBounds none none none n = (0, (n : Int), 1) := by
  simp [sliceBounds]
theorem store_all {l b sl : Addr} {items new : Array Value} {n n2 : Nat} {Q : Unit → Shared → Prop} (e : s.heap.get? l = some { cls := .type "list", data := .seq items n }) (e2 : s.heap.get? b = some { cls := .type "list", data := .seq new n2 })
    (hne : l ≠ b) (hs : s.heap.IsSliceOf sl .none .none .none) (hsz : items.size + new.size ≤ sizeLine) (h : Q () { s with heap := s.heap.update l (Obj.mapSeq fun xs => xs.extract 0 0 ++ new ++ xs.extract items.size xs.size) }) :
    wpAny (model prog w) A (setItem (.ref l) (.ref sl) (.ref b)) Q E s := by
  have ll : s.heap.IsList l items := PySem.IsL.isList e
  have lb : s.heap.IsList b new := PySem.IsL.isList e2
  obtain ⟨os, hos, hcs, hds⟩ := id hs
  have ts : s.TypeIs (.ref sl) "slice" := ⟨os, hos, hcs⟩
  have diff : Builtin.List.listSameRef (.ref l) (.ref b) = false := by
    unfold Builtin.List.listSameRef; exact beq_eq_false_iff_ne.mpr hne
  have top' : (max (0 : Int) (items.size : Int)).toNat = items.size := by omega
  have room : ((fun xs : Array Value => xs.extract 0 0 ++ new ++ xs.extract items.size xs.size) items).size ≤ sizeLine + 1 := by
    simp only [Array.size_append, Array.size_extract]; omega
  unfold setItem
  try with_reducible refine wpAny_holding ?_
  first | refine wpAny_bind (wpAny_pure ?_) | skip
  refine wpAny_bind (wpAny_sequenceKey ll.typeIs (by decide) (wpAny_bind (wpAny_callSpecial?_slot (name := Str.ofString "__setitem__") ll.typeIs PySem.slot_list_setitem (wpAny_call_entry PySem.slot_list_setitem ll.typeIs PySem.entry_list_setitem ?_ (PySem.args_list_setitem _ _ _)))))
  show wpAny _ _ (Builtin.List.listSubscript? (.ref sl) >>= _) _ _ s
  refine wpAny_bind ?_
  unfold Builtin.List.listSubscript?
  refine wpAny_bind (wpAny_specialOf ts slice_no_index ?_)
  simp only [Option.isNone_none, if_true]; refine wpAny_pure ?_
  show wpAny _ _ (typeOf (.ref sl) >>= _) _ _ s
  refine wpAny_bind (wpAny_typeOf ts ?_)
  first | rw [if_neg (by decide)] | refine PySem.W.KFB.if_not (by decide) ?_
  rw [listSliceParts_eq]; refine wpAny_bind (wpAny_bind (wpAny_field hos hds (x := .none) rfl (wpAny_bind (wpAny_listPart .none ?_))))
  rw [if_neg (show ¬ ((rawPart none == rawInt 0) = true) from Bool.false_ne_true)]; refine wpAny_bind (wpAny_field hos hds (x := .none) rfl (wpAny_bind (wpAny_listPart .none (wpAny_bind (wpAny_field hos hds (x := .none) rfl (wpAny_bind (wpAny_listPart .none (wpAny_pure ?_))))))))
  first | simp only [diff, Bool.false_eq_true, if_false] | refine PySem.W.KFB.if_not diff ?_ | (dsimp only; rw [if_neg (by rw [diff]; exact Bool.false_ne_true)])
  refine wpAny_bind (m := Builtin.List.listAllItems (.ref b) "must assign iterable to extended slice") ?_
  unfold Builtin.List.listAllItems; refine wpAny_bind (wpAny_typeOf lb.typeIs ?_)
  first | refine PySem.W.KFB.if_so (by decide) ?_ | rw [if_pos (by decide)] | simp only [beq_self_eq_true, Bool.true_or, if_true]
  unfold Builtin.List.listItems; refine wpAny_bind (wpAny_seqItems e2 rfl (wpAny_pure (wpAny_bind (wpAny_bind (wpAny_seqItems e rfl (wpAny_pure ?_))))))
  refine wpAny_bind (wpAny_of_eq ((sliceIndices_raw none none none items.size (by simp)).trans (congrArg (pure : Int × Int × Int → Sem (Int × Int × Int)) (all_bounds items.size))) ?_)
  show wpAny _ _ (if ((1 : Int) == 1) = true then _ else _) _ _ s
  rw [if_pos (by decide)]; refine wpAny_bind (wpAny_rule ?_)
  first | simp only [notLongL hsz, Bool.false_eq_true, if_false] | refine PySem.W.KFB.if_not (notLongL hsz) ?_
  first | refine wpAny_bind (wpAny_pure ?_) | skip
  show wpAny _ _ (updateSeq l (fun xs => xs.extract 0 (0 : Int).toNat ++ new ++ xs.extract (max (0 : Int) (items.size : Int)).toNat xs.size) >>= _) _ _ s
  rw [top']; refine wpAny_bind (wpAny_updateSeq (hz := Nat.le_trans (Nat.le_add_right _ _) hsz) (_hz' := room) e rfl (wpAny_bind (wpAny_letGo ?_)))
  first | exact wpAny_bind (wpAny_pure (wpAny_pure ⟨.none, rfl, wpAny_pure h⟩)) | exact wpAny_pure ⟨.none, rfl, wpAny_pure h⟩
end
section
variable {X : Cx} {cl : Str → Addr} {pos : Pos}
theorem splice_all (its its2 : List Value) : its.toArray.extract 0 0 ++ its2.toArray ++ its.toArray.extract its.toArray.size its.toArray.size = its2.toArray := by
  apply Array.toList_inj.mp
  simp
theorem put_all {pins : List (Addr × Obj)} {s : Shared} {σ : L2.St} {H : Hp} {l b sl : Addr} {xs ys : List L2.V} {Q : Unit → Shared → Prop} (I : Inv X pins σ H s) (hH : H l = some (.lst xs)) (hB : H b = some (.lst ys)) (hne : l ≠ b) (hs : s.heap.IsSliceOf sl .none .none .none) (hz : xs.length + ys.length ≤ sizeLine)
    (h : ∀ s', Inv X pins σ (upd H l (.lst ys)) s' → Q () s') : wpAny (model X.prog X.w) X.A (setItem (.ref l) (.ref sl) (.ref b)) Q X.xe s := by
  obtain ⟨z, its, n, r, hl, e⟩ := I.lstM hH
  obtain ⟨z2, its2, n2, r2, hl2, e2⟩ := I.lstM hB
  refine store_all e e2 hne hs (by rw [List.size_toArray, List.size_toArray]; omega) (h _ ?_)
  refine I.lset (its' := its2) (t' := s.toks) hH e ?_ r2 (by omega)
  exact splice_all its its2
def gAllT (to : TE) : TG := fun v σ H Q => to σ H fun o H1 => ∃ l b xs ys, o = .ref l ∧ v = .ref b ∧ l ≠ b ∧ H1 l = some (.lst xs) ∧ H1 b = some (.lst ys) ∧ xs.length + ys.length ≤ sizeLine ∧ Q σ (upd H1 l (.lst ys))
theorem pg_all {o : Expr} {p2 : Pos} {to : TE} (ho : PE X o to)
    (ha : ∀ v, assign (.Subscript o (.Slice none none none p2) pos) X.env v = (do
      let ov ← holding [v] (eval o X.env)
      let iv ← holding [v, ov] (eval (.Slice none none none p2) X.env)
      standAt pos
      holding [v, ov, iv] (setItem ov iv v)
      release [iv, v, ov] []) := by intro _; rfl) : PG X (.Subscript o (.Slice none none none p2) pos) (gAllT to) := by
  refine ⟨fun pins s σ H v u Q I r h => ?_⟩
  rw [ha]
  refine wpAny_bind (wpAny_holding (thn (ho.run pins s σ H _ I h) fun ov s1 ⟨x, H1, I1, r1, l, b, xs, ys, ex, ev, hne, g1, g2, hz, q⟩ => ?_))
  subst ex ev
  obtain rfl : ov = Value.ref l := r1
  obtain rfl : u = Value.ref b := r
  refine wpAny_bind (wpAny_holding (wpAny_Slice ?_))
  simp only [evalPart_none]
  refine wpAny_pure (wpAny_pure (wpAny_pure ?_))
  have I4 : Inv X pins σ H1 { s1 with heap := s1.heap.push { cls := .type "slice", data := .fields #[.none, .none, .none] } } := I1.kept (t' := s1.toks) fun b ob q => Heap.get?_push_of_some _ q
  refine wpAny_bind (wpAny_standAt (wpAny_bind (wpAny_holding (put_all I4 g1 g2 hne (Heap.IsSliceOf.new ..) hz fun s3 I3 => ?_))))
  exact wpAny_release ⟨σ, _, I3, q⟩
def gAll (i : Nat) : D → Env' → Option Env' := fun d ev => match d, ownAt ev i with
  | .lst ys, some g => if g.length + ys.length ≤ 1000000 ∧ mayOwn ev i = true then some (setOwn ev i ys) else none
  | _, _ => none
theorem st_all {i : Nat} {x : Str} {p2 p3 : Pos} (h : VarAt X i x) (ha : ∀ v, assign (.Subscript (.Name x p2) (.Slice none none none p3) pos) X.env v = (do
      let ov ← holding [v] (eval (.Name x p2) X.env)
      let iv ← holding [v, ov] (eval (.Slice none none none p3) X.env)
      standAt pos
      holding [v, ov, iv] (setItem ov iv v)
      release [iv, v, ov] []) := by intro _; rfl) : ST X cl (.Subscript (.Name x p2) (.Slice none none none p3) pos) (gAll i) := by
  refine ⟨_, pg_all (pe_var h.ix h.vis h.nd h.nc) ha, fun M q os ev σ H v d ev' hf rl hv Q k => ?_⟩
  unfold gAll at hf
  split at hf
  · next ys g h1 =>
    split at hf
    · next hc =>
      cases hf
      obtain ⟨p, hp'⟩ := slot_ref rl.sr h1
      obtain ⟨vs, a3, a4⟩ := own_at rl h1 hc.2 hp'
      obtain ⟨b, us, rfl, b1, b2⟩ := rep_list.1 hv
      have pin : p ∈ os ++ M := by
        obtain ⟨p', vs', c1, c2, _⟩ := rl.own_set h1 hc.2
        rw [hp'] at c1
        cases c1
        rcases c2 with z | z
        · exact List.mem_append_left _ z
        · exact List.mem_append_right _ (rl.qm p z)
      obtain ⟨t, rl'⟩ := rl_upd (g' := ys) (vs' := us) rl Ex0 h1 hc.2 hp' b2
      refine ⟨_, hp', p, b, vs, us, rfl, rfl, fun z => (hid_some b1).1 (z ▸ pin), a3, (hid_some b1).2, by rw [a4.length, b2.length, sizeLine_eq]; omega, k os σ _ t rl'⟩
    · cases hf
  · cases hf
end
/-! ### a def that gives a new list, called by keywords -/
section
variable {w : Bool} {X : Cx} {cl : Str → Addr} {kws : List Keyword} {p pos : Pos} {mk : Env' → Option (List D)}
def mKo (is : List Nat) (n l : Nat) (f : List D → Option (List D)) (mp mk : Env' → Option (List D)) : Env' → Option (List D) := fun ev => do
  let a ← mp ev
  let b ← mk ev
  if a.length = n ∧ b.length = l then f (reordL is (a ++ b)) else none
theorem eo_callK0 {x : Str} {k : Nat} {ps ks : List Str} {is : List Nat} {m : List D → Option (List D)} (F : FnK X.prog X.w X.K X.mg X.base x k ps (spO X.K cl m) 0 ks is) (hr : Room k X.A) (hg : Gl X x) (ha : EK w X cl kws mk) (hdb : (x == ("__debug__" : Str)) = false)
    (hall : (backToKw pos (keywordEach kws X.env)).all (·.1.isSome) = true := by rfl) (hks : (backToKw pos (keywordEach kws X.env)).filterMap (·.1) = ks := by rfl)
    (hpl : ((backTo pos (starEach [] X.env)).any (·.1) || (backToKw pos (keywordEach kws X.env)).any (·.1.isNone)) = false := by rfl) :
    EO w X cl (.Call (.Name x p) [] kws pos) (mKo is 0 ks.length m anil mk) := by
  obtain ⟨f, fd, F, hm, hk, hb⟩ := F.ok
  obtain ⟨ta, pa, ha⟩ := ha
  refine ⟨_, pe_callN0 F hr hg hm hk hb pass0 pa hall hks hdb hpl, fun M q os ev σ H d hm rl Q k => ?_⟩
  obtain ⟨a, h0, hm⟩ := bind_some' hm
  obtain ⟨ds, h1, hm⟩ := bind_some' hm
  cases h0
  split at hm
  · next hl =>
    refine ha M q os ev σ H ds h1 rl _ fun vs H1 x1 r1 => ⟨rfl, by rw [r1.length]; exact hl.2, ?_⟩
    exact ⟨_, _, d, hm, (rl.ex x1).tk w, reordL_reps (Reps.nil.append r1) is, fun p H2 us hn x2 h2 r2 => k p H2 us (Evl.fresh_back x1 hn) (x1.trans x2) h2 r2⟩
  · cases hm
end
theorem sw_subs {o1 i1 o2 i2 a b : Expr} {p1 p2 : Pos} {kt k2 : Nat} {pt pt2 : Pos} {env : Env} : swappedStores [.Tuple [.Subscript o1 i1 p1, .Subscript o2 i2 p2] kt pt] (.Tuple [a, b] k2 pt2) env = pure none := by
  unfold swappedStores
  simp only
  split
  · rfl
  · split
    · rfl
    · rw [if_pos]
      · rfl
end Lay

/-! repr of lists and tuples, where no repr runs. -/
namespace Lay
open PySem PySem.Spec PyProof.Rows L2
open Evl (Ex)
def D.shownM (d : D) : Option D := d.toPy.bind fun p => if p.showable = true ∧ p.hasDict = false ∧ p.depth ≤ 40 ∧ p.shown.length ≤ 1000000 then some (.str p.shown) else none
def D.reprG : D → Option D
  | .lst xs => D.shownM (.lst xs)
  | .tup xs => D.shownM (.tup xs)
  | d => D.repr d
def bReprG : List D → Option D
  | [d] => d.reprG
  | _ => none
def rReprP (K : Fg) : List L2.V → Hp → VK → Prop := fun xs H Q => ∃ v p, xs = [v] ∧ Dp K H v p ∧ p.showable = true ∧ p.hasDict = false ∧ p.depth ≤ 40 ∧ p.shown.length ≤ sizeLine ∧ (∃ a, v = .ref a) ∧ Q (.str p.shown) H
theorem call_reprP {X : Cx} (gd : X.A.guards = some []) (hu : X.A.units + 64 < cLine) : CallR X (.builtin "repr") (rReprP X.K) := by
  intro pins s σ H xs us Q I r h
  obtain ⟨v, p, rfl, dp, h1, h2, h3, h4, ⟨a, rfl⟩, q⟩ := h
  obtain ⟨u, rfl, hv⟩ := vals1 r
  cases (show u = Value.ref a from hv)
  obtain ⟨as, rd⟩ := dp.reads I p _ _ hv
  exact repr_of_reads' rd h1 (fun z => by rw [h2] at z; cases z) gd (by omega) (fun _ _ e => e) (fun h' u tk hk => ⟨.str p.shown, H, I.kept hk, ⟨_, rfl⟩, q⟩) h4
def rReprG (K : Fg) : List L2.V → Hp → VK → Prop := fun xs H Q => rReprD xs H Q ∨ rReprP K xs H Q
theorem call_reprG {X : Cx} (gd : X.A.guards = some []) (hu : X.A.units + 64 < cLine) : CallR X (.builtin "repr") (rReprG X.K) := call_reprD.or (call_reprP gd hu)
theorem shown_ok {K : Fg} {cl : Str → Addr} {M : List Addr} {H : Hp} {v : L2.V} {d d' : D} (hf : d.shownM = some d') (h : Rep K cl (hid M H) v d) (hv : ∃ a, v = .ref a) {Q : VK} (k : ∀ v H', Ex H H' → Rep K cl (hid M H') v d' → Q v H') : rReprP K [v] H Q := by
  obtain ⟨p, h1, h2⟩ := bind_some' hf
  split at h2
  · next q =>
    cases h2
    obtain ⟨q1, q2, q3, q4⟩ := q
    exact ⟨v, p, rfl, dp_of h h1, q1, q2, q3, by rw [sizeLine_eq]; omega, hv, k _ H Ex0 (rep_str.2 rfl)⟩
  · cases h2
theorem rdl_reprG {K : Fg} {cl : Str → Addr} : RDL K cl (rReprG K) bReprG := by
  intro M H x d d' hf t hx Q k
  unfold bReprG at hf
  split at hf
  · next e =>
    unfold D.reprG at hf
    split at hf
    · obtain ⟨v, rfl, h⟩ := reps1 hx
      obtain ⟨a, vs, e1, _, _⟩ := rep_list.1 h
      exact .inr (shown_ok hf h ⟨a, e1⟩ k)
    · obtain ⟨v, rfl, h⟩ := reps1 hx
      obtain ⟨a, vs, e1, _, _⟩ := rep_tup.1 h
      exact .inr (shown_ok hf h ⟨a, e1⟩ k)
    · exact .inl (rdl_repr M H x _ d' (by unfold bRepr; exact hf) t hx Q k)
  · cases hf
theorem fl_reprG : fL bReprG := by
  intro ds d h
  unfold bReprG at h
  split at h
  · next e =>
    have sh : ∀ {z d : D}, z.shownM = some d → d.flat = true := by
      intro z d hz
      obtain ⟨p, _, h2⟩ := bind_some' hz
      split at h2
      · cases h2; rfl
      · cases h2
    unfold D.reprG at h
    split at h
    · exact sh h
    · exact sh h
    · exact fl_repr [_] d (by unfold bRepr; exact h)
  · cases h
end Lay

/-! Typed counterparts of mirrors: a typed function in Option; where it gives r, the mirror gives the data of r. -/
namespace Ty
open PySem Lay
class Enc (α : Type) where
  e : α → D
abbrev en {α : Type} [Enc α] (a : α) : D := Enc.e a
structure T2 (α β : Type) where
  a : α
  b : β
  deriving DecidableEq
structure T3 (α β γ : Type) where
  a : α
  b : β
  c : γ
  deriving DecidableEq
structure T4 (α β γ δ : Type) where
  a : α
  b : β
  c : γ
  d : δ
  deriving DecidableEq
structure Kd where
  nm : Str
  n : Int
structure Scr where
  ns : List Int
instance : Enc D := ⟨fun d => d⟩
instance : Enc Int := ⟨D.int⟩
instance : Enc Bool := ⟨D.bl⟩
instance : Enc Str := ⟨D.str⟩
instance : Enc Unit := ⟨fun _ => .non⟩
instance {α} [Enc α] : Enc (List α) := ⟨fun xs => .lst (xs.map Enc.e)⟩
instance {α} [Enc α] : Enc (Option α) := ⟨fun x => match x with
  | none => .non
  | some a => Enc.e a⟩
instance {α β} [Enc α] [Enc β] : Enc (T2 α β) := ⟨fun x => .tup [Enc.e x.a, Enc.e x.b]⟩
instance {α β γ} [Enc α] [Enc β] [Enc γ] : Enc (T3 α β γ) := ⟨fun x => .tup [Enc.e x.a, Enc.e x.b, Enc.e x.c]⟩
instance {α β γ δ} [Enc α] [Enc β] [Enc γ] [Enc δ] : Enc (T4 α β γ δ) := ⟨fun x => .tup [Enc.e x.a, Enc.e x.b, Enc.e x.c, Enc.e x.d]⟩
instance : Enc Kd := ⟨fun k => .obj "Kind" ["_name", "_size"] [.str k.nm, .int k.n]⟩
instance : Enc Scr := ⟨fun k => .scr k.ns⟩
class Flat (α : Type) [Enc α] : Prop where
  f : ∀ a : α, (Enc.e a).flat = true
instance : Flat Int := ⟨fun _ => rfl⟩
instance : Flat Bool := ⟨fun _ => rfl⟩
instance : Flat Str := ⟨fun _ => rfl⟩
instance : Flat Unit := ⟨fun _ => rfl⟩
instance {α} [Enc α] [Flat α] : Flat (Option α) := ⟨fun x => match x with
  | none => rfl
  | some a => Flat.f a⟩
/-! ### equality -/
def teq {α β : Type} [Enc α] [Enc β] (a : α) (b : β) : Option Bool := D.eq (Enc.e a) (Enc.e b)
def tne {α β : Type} [Enc α] [Enc β] (a : α) (b : β) : Option Bool := D.ne (Enc.e a) (Enc.e b)
class Pyd (α : Type) [Enc α] [DecidableEq α] where
  py : α → PyData
  ok : α → Bool
  dp : Nat
  to : ∀ a, (Enc.e a).toPy = some (py a)
  lay : ∀ a, ok a = true → (py a).canLay0 = true
  dep : ∀ a, (py a).depth ≤ dp
  eqv : ∀ a b, PyData.eqv (py a) (py b) = decide (a = b)
section
variable {α β γ δ : Type} [Enc α] [DecidableEq α] [Enc β] [DecidableEq β] [Enc γ] [DecidableEq γ] [Enc δ] [DecidableEq δ]
theorem teq_ok [P : Pyd α] {a b : α} (h : P.dp ≤ 64) (ha : P.ok a = true) (hb : P.ok b = true) : teq a b = some (decide (a = b)) := by
  have h1 := P.dep a
  have h2 := P.dep b
  have e1 : SeqAt.shaped (P.py a) = true := by
    unfold SeqAt.shaped
    rw [P.lay a ha]
    simp
    omega
  have e2 : SeqAt.shaped (P.py b) = true := by
    unfold SeqAt.shaped
    rw [P.lay b hb]
    simp
    omega
  unfold teq D.eq
  simp only [P.to, Option.bind_eq_bind, Option.bind_some, e1, e2, and_self, if_true, P.eqv]
theorem tne_ok [P : Pyd α] {a b : α} (h : P.dp ≤ 64) (ha : P.ok a = true) (hb : P.ok b = true) : tne a b = some (!decide (a = b)) := by
  have := teq_ok h ha hb
  unfold teq at this
  unfold tne D.ne
  rw [this]
  rfl
instance : Pyd Int := ⟨.int, fun _ => true, 1, fun _ => by simp [Enc.e, D.toPy], fun _ _ => by simp [PyData.canLay0], fun _ => by simp [PyData.depth], fun a b => by simp only [PyData.eqv]; rw [Bool.eq_iff_iff]; simp⟩
instance : Pyd Bool := ⟨.bool, fun _ => true, 1, fun _ => by simp [Enc.e, D.toPy], fun _ _ => by simp [PyData.canLay0], fun _ => by simp [PyData.depth], fun a b => by simp only [PyData.eqv]; rw [Bool.eq_iff_iff]; simp⟩
instance : Pyd Str := ⟨.str, fun x => PyData.strOk x, 1, fun _ => by simp [Enc.e, D.toPy], fun _ h => by simpa [PyData.canLay0] using h, fun _ => by simp [PyData.depth], fun a b => by simp only [PyData.eqv]; rw [Bool.eq_iff_iff]; simp⟩
theorem toPys_map [P : Pyd α] : ∀ xs : List α, D.toPys (xs.map Enc.e) = some (xs.map P.py)
  | [] => by simp [D.toPys]
  | x :: xs => by simp [D.toPys, P.to, toPys_map xs]
theorem lay_map [P : Pyd α] : ∀ xs : List α, xs.all P.ok = true → PyData.canLayAll0 (xs.map P.py) = true
  | [], _ => by simp [PyData.canLayAll0]
  | x :: xs, h => by
    rw [List.all_cons, Bool.and_eq_true] at h
    simp [PyData.canLayAll0, P.lay x h.1, lay_map xs h.2]
theorem dep_map [P : Pyd α] : ∀ xs : List α, PyData.depthAll (xs.map P.py) ≤ P.dp
  | [] => by simp [PyData.depthAll]
  | x :: xs => by
    have h1 := P.dep x
    have h2 := dep_map (P := P) xs
    simp [PyData.depthAll]
    omega
theorem eqv_map [P : Pyd α] : ∀ xs ys : List α, PyData.eqvAll (xs.map P.py) (ys.map P.py) = decide (xs = ys)
  | [], [] => by simp [PyData.eqvAll]
  | [], y :: ys => by simp [PyData.eqvAll]
  | x :: xs, [] => by simp [PyData.eqvAll]
  | x :: xs, y :: ys => by
    simp only [List.map_cons, PyData.eqvAll, P.eqv, eqv_map xs ys]
    rw [Bool.eq_iff_iff]
    simp
instance [P : Pyd α] : Pyd (List α) := ⟨fun xs => .list (xs.map P.py), fun xs => xs.all P.ok, P.dp + 1, fun xs => by show D.toPy (.lst (xs.map Enc.e)) = _; simp only [D.toPy, toPys_map, Option.map_some], fun xs h => by simpa [PyData.canLay0] using lay_map xs h, fun xs => by
  have := dep_map (P := P) xs
  simp [PyData.depth]
  omega, fun a b => by simp only [PyData.eqv]; exact eqv_map a b⟩
instance [P : Pyd α] [Q : Pyd β] : Pyd (T2 α β) := ⟨fun x => .tuple [P.py x.a, Q.py x.b], fun x => P.ok x.a && Q.ok x.b, P.dp + Q.dp + 1, fun x => by show D.toPy (.tup [Enc.e x.a, Enc.e x.b]) = _; simp only [D.toPy, D.toPys, P.to, Q.to, Option.bind_some, Option.map_some], fun x h => by
  rw [Bool.and_eq_true] at h
  simp [PyData.canLay0, PyData.canLayAll0, P.lay _ h.1, Q.lay _ h.2], fun x => by
  have h1 := P.dep x.a
  have h2 := Q.dep x.b
  simp [PyData.depth, PyData.depthAll]
  omega, fun x y => by
  cases x; cases y
  simp only [PyData.eqv, PyData.eqvAll, P.eqv, Q.eqv, T2.mk.injEq]
  rw [Bool.eq_iff_iff]
  simp⟩
instance [P : Pyd α] [Q : Pyd β] [R : Pyd γ] : Pyd (T3 α β γ) := ⟨fun x => .tuple [P.py x.a, Q.py x.b, R.py x.c], fun x => P.ok x.a && (Q.ok x.b && R.ok x.c), P.dp + Q.dp + R.dp + 1, fun x => by show D.toPy (.tup [Enc.e x.a, Enc.e x.b, Enc.e x.c]) = _; simp only [D.toPy, D.toPys, P.to, Q.to, R.to, Option.bind_some, Option.map_some], fun x h => by
  rw [Bool.and_eq_true, Bool.and_eq_true] at h
  simp [PyData.canLay0, PyData.canLayAll0, P.lay _ h.1, Q.lay _ h.2.1, R.lay _ h.2.2], fun x => by
  have h1 := P.dep x.a
  have h2 := Q.dep x.b
  have h3 := R.dep x.c
  simp [PyData.depth, PyData.depthAll]
  omega, fun x y => by
  cases x; cases y
  simp only [PyData.eqv, PyData.eqvAll, P.eqv, Q.eqv, R.eqv, T3.mk.injEq]
  rw [Bool.eq_iff_iff]
  simp⟩
end
end Ty

namespace Ty
open PySem Lay
/-! ### typed operations -/
def tmul (a b : Int) : Option Int := if mulOk a b = true then some (a * b) else none
def tfdiv (a b : Int) : Option Int := if 0 < b ∧ b.natAbs.log2 < 9000 then some (a / b) else none
def tmod (a b : Int) : Option Int := if 0 < b then some (a % b) else none
def tpow (a n : Int) : Option Int := if 0 ≤ n ∧ (Builtin.Int.intBits a : Int) * n ≤ 2 ^ 27 then some (a ^ n.toNat) else none
def tcat {α : Type} (a b : List α) : Option (List α) := if a.length + b.length ≤ 1000000 then some (a ++ b) else none
def trep {α : Type} (a : List α) (n : Int) : Option (List α) := if n < 1000000 ∧ -1000000 < n ∧ a.length * n.toNat ≤ 1000000 then some (List.replicate n.toNat a).flatten else none
def tix {α : Type} (a : List α) (i : Int) : Option α := L2.atI a i
def tset {α : Type} (a : List α) (i : Int) (x : α) : Option (List α) := (L2.ixN a.length i).map fun j => a.set j x
def tapp {α : Type} (a : List α) (x : α) : Option (List α) := if a.length ≤ 1000000 then some (a ++ [x]) else none
def trg (a b : Int) : Option (List Int) := if rgB a b = true then some (rgI a b) else none
def tlrg (a b : Int) : Option (List Int) := if RgOkB a b = true then some (rgI a b) else none
def tenum {α : Type} : Nat → List α → List (T2 Int α)
  | _, [] => []
  | n, x :: xs => ⟨n, x⟩ :: tenum (n + 1) xs
def tzip {α β : Type} : List α → List β → List (T2 α β)
  | x :: xs, y :: ys => ⟨x, y⟩ :: tzip xs ys
  | _, _ => []
def tin {α : Type} [Enc α] (a : α) (xs : List α) : Option Bool := D.isin (Enc.e a) (Enc.e xs)
def tindex {α : Type} [Enc α] (xs : List α) (a : α) : Option Int := match D.index (Enc.e xs) (Enc.e a) with
  | some (.int i) => some i
  | _ => none
def trepr {α : Type} [Enc α] (a : α) : Option Str := match bReprG [Enc.e a] with
  | some (.str s) => some s
  | _ => none
def tisT {α : Type} [Enc α] (T : String) (a : α) : Option Bool := match D.isT T (Enc.e a) with
  | some (.bl b) => some b
  | _ => none
def tisC {α : Type} [Enc α] (T : Str) (a : α) : Option Bool := match D.isC T (Enc.e a) with
  | some (.bl b) => some b
  | _ => none
def tisN {α β : Type} [Enc α] [Enc β] (a : α) (b : β) : Option Bool := D.isN (Enc.e a) (Enc.e b)
def lcT {α β : Type} (p : α → Option Bool) (f : α → Option β) : List α → Option (List β)
  | [] => some []
  | x :: r => (p x).bind fun b => if b = true then (f x).bind fun y => (lcT p f r).bind fun ys => some (y :: ys) else lcT p f r
def tlc {α β : Type} (p : α → Option Bool) (f : α → Option β) (xs : List α) : Option (List β) := if xs.length ≤ 1000000 then lcT p f xs else none
def mapS {α β γ : Type} (f : α → γ → Option (β × γ)) : List α → γ → Option (List β × γ)
  | [], s => some ([], s)
  | x :: r, s => (f x s).bind fun y => (mapS f r y.2).bind fun ys => some (y.1 :: ys.1, ys.2)
def tlcS {α β γ : Type} (f : α → γ → Option (β × γ)) (xs : List α) (s : γ) : Option (List β × γ) := if xs.length ≤ 1000000 then mapS f xs s else none
/-! ### expressions -/
section
variable {ev : Env'} {α β γ δ σ : Type} [Enc α] [Enc β] [Enc γ] [Enc δ]
def SV (ev : Env') (m : Env' → Option D) (t : Option α) : Prop := ∀ v, t = some v → m ev = some (Enc.e v)
def SL (ev : Env') (m : Env' → Option (List D)) (t : Option (List α)) : Prop := ∀ v, t = some v → m ev = some (v.map Enc.e)
def SB (ev : Env') (m : Env' → Option Bool) (t : Option Bool) : Prop := ∀ v, t = some v → m ev = some v
def SP (ev : Env') (m : Env' → Option (Option Int)) (t : Option (Option Int)) : Prop := ∀ v, t = some v → m ev = some v
/-- in continuations -/
def SC {β : Type} {A : Type} (ev : Env') (m : Env' → Option A) (t : Option β) (P : A → β → Prop) : Prop := ∀ v, t = some v → ∃ d, m ev = some d ∧ P d v
theorem bs {A B : Type} {t : Option A} {k : A → Option B} {v : B} (h : t.bind k = some v) : ∃ a, t = some a ∧ k a = some v := Option.bind_eq_some_iff.1 h
theorem sv_xv {i : Nat} {x : α} (h : ev[i]? = some (.val (Enc.e x))) : SV ev (xv i) (some x) := fun v e => by
  cases e
  unfold xv
  rw [h]
theorem sv_xb {i : Nat} {x : α} (h : ev[i]? = some (.val (Enc.e x))) : SV ev (xb i) (some x) := fun v e => by
  cases e
  unfold xb
  rw [h]
theorem sv_xbo {i : Nat} {x : List α} (h : ev[i]? = some (.own (x.map Enc.e))) : SV ev (xb i) (some x) := fun v e => by
  cases e
  unfold xb
  rw [h]
  rfl
theorem sv_c {d : D} {x : α} (h : Enc.e x = d) : SV ev (xc d) (some x) := fun v e => by
  cases e
  unfold xc
  rw [h]
theorem sv_xl {m : Env' → Option (List D)} {t : Option (List α)} (h : SL ev m t) : SV ev (xl m) t := fun v e => by
  unfold xl
  rw [h v e]
  rfl
theorem sv_m1 {F : D → Option D} {f : α → Option β} {ma : Env' → Option D} {ta : Option α} (h : ∀ a v, f a = some v → F (Enc.e a) = some (Enc.e v)) (ha : SV ev ma ta) : SV ev (m1 F ma) (ta.bind f) := fun v e => by
  obtain ⟨a, h1, h2⟩ := bs e
  unfold m1
  rw [ha a h1]
  exact h a v h2
theorem sv_m2 {F : D → D → Option D} {f : α → β → Option γ} {ma mb : Env' → Option D} {ta : Option α} {tb : Option β} (h : ∀ a b v, f a b = some v → F (Enc.e a) (Enc.e b) = some (Enc.e v)) (ha : SV ev ma ta) (hb : SV ev mb tb) : SV ev (m2 F ma mb) (ta.bind fun a => tb.bind fun b => f a b) := fun v e => by
  obtain ⟨a, h1, h2⟩ := bs e
  obtain ⟨b, h3, h4⟩ := bs h2
  unfold m2
  rw [ha a h1]
  simp only [Option.bind_eq_bind, Option.bind_some]
  rw [hb b h3]
  exact h a b v h4
theorem sl_m2o {F : D → D → Option (List D)} {f : α → β → Option (List γ)} {ma mb : Env' → Option D} {ta : Option α} {tb : Option β} (h : ∀ a b v, f a b = some v → F (Enc.e a) (Enc.e b) = some (v.map Enc.e)) (ha : SV ev ma ta) (hb : SV ev mb tb) : SL ev (m2o F ma mb) (ta.bind fun a => tb.bind fun b => f a b) := fun v e => by
  obtain ⟨a, h1, h2⟩ := bs e
  obtain ⟨b, h3, h4⟩ := bs h2
  unfold m2o
  rw [ha a h1]
  simp only [Option.bind_eq_bind, Option.bind_some]
  rw [hb b h3]
  exact h a b v h4
theorem sb_c2 {F : D → D → Option Bool} {f : α → β → Option Bool} {ma mb : Env' → Option D} {ta : Option α} {tb : Option β} (h : ∀ a b v, f a b = some v → F (Enc.e a) (Enc.e b) = some v) (ha : SV ev ma ta) (hb : SV ev mb tb) : SB ev (c2 F ma mb) (ta.bind fun a => tb.bind fun b => f a b) := fun v e => by
  obtain ⟨a, h1, h2⟩ := bs e
  obtain ⟨b, h3, h4⟩ := bs h2
  unfold c2
  rw [ha a h1]
  simp only [Option.bind_eq_bind, Option.bind_some]
  rw [hb b h3]
  exact h a b v h4
theorem sb_ch2 {F G : D → D → Option Bool} {f : α → β → Option Bool} {g : β → γ → Option Bool} {ma mb mc : Env' → Option D} {ta : Option α} {tb : Option β} {tc : Option γ} (h : ∀ a b v, f a b = some v → F (Enc.e a) (Enc.e b) = some v) (h' : ∀ a b v, g a b = some v → G (Enc.e a) (Enc.e b) = some v) (ha : SV ev ma ta) (hb : SV ev mb tb) (hc : SV ev mc tc) : SB ev (ch2 F G ma mb mc) (ta.bind fun a => tb.bind fun b => (f a b).bind fun z => if z = true then tc.bind fun c => g b c else some false) := fun v e => by
  obtain ⟨a, h1, h2⟩ := bs e
  obtain ⟨b, h3, h4⟩ := bs h2
  obtain ⟨z, h5, h6⟩ := bs h4
  unfold ch2
  rw [ha a h1]
  simp only [Option.bind_eq_bind, Option.bind_some]
  rw [hb b h3]
  simp only [Option.bind_some]
  rw [h _ _ _ h5]
  simp only [Option.bind_some]
  cases z with
  | false => simpa using h6
  | true =>
    simp only [if_true] at h6 ⊢
    obtain ⟨c, h7, h8⟩ := bs h6
    rw [hc c h7]
    exact h' _ _ _ h8
theorem sv_vB {m : Env' → Option Bool} {t : Option Bool} (h : SB ev m t) : SV ev (vB m) t := fun v e => by
  unfold vB
  rw [h v e]
  rfl
theorem sb_tB {m : Env' → Option D} {t : Option Bool} (h : SV ev m t) : SB ev (tB' m) t := fun v e => by
  unfold tB'
  rw [h v e]
  rfl
theorem sb_not {m : Env' → Option Bool} {t : Option Bool} (h : SB ev m t) : SB ev (nB m) (t.bind fun b => some (!b)) := fun v e => by
  obtain ⟨a, h1, h2⟩ := bs e
  cases h2
  unfold nB
  rw [h a h1]
  rfl
theorem sb_and {m n : Env' → Option Bool} {t u : Option Bool} (h : SB ev m t) (g : SB ev n u) : SB ev (andB m n) (t.bind fun b => if b = true then u else some false) := fun v e => by
  obtain ⟨a, h1, h2⟩ := bs e
  unfold andB
  rw [h a h1]
  simp only [Option.bind_eq_bind, Option.bind_some]
  cases a with
  | true => exact g v h2
  | false => exact h2
theorem sb_or {m n : Env' → Option Bool} {t u : Option Bool} (h : SB ev m t) (g : SB ev n u) : SB ev (orB m n) (t.bind fun b => if b = true then some true else u) := fun v e => by
  obtain ⟨a, h1, h2⟩ := bs e
  unfold orB
  rw [h a h1]
  simp only [Option.bind_eq_bind, Option.bind_some]
  cases a with
  | true => exact h2
  | false => exact g v h2
theorem sv_xand {m n : Env' → Option D} {t u : Option Bool} (h : SV ev m t) (g : SV ev n u) : SV ev (Lay.xand m n) (t.bind fun b => if b = true then u else some false) := fun v e => by
  obtain ⟨a, h1, h2⟩ := bs e
  unfold Lay.xand
  rw [h a h1]
  cases a with
  | true => exact g v h2
  | false => cases h2; rfl
theorem sv_xor {m n : Env' → Option D} {t u : Option Bool} (h : SV ev m t) (g : SV ev n u) : SV ev (Lay.xor m n) (t.bind fun b => if b = true then some true else u) := fun v e => by
  obtain ⟨a, h1, h2⟩ := bs e
  unfold Lay.xor
  rw [h a h1]
  cases a with
  | true => cases h2; rfl
  | false => exact g v h2
theorem sv_xnot {m : Env' → Option D} {t : Option Bool} (h : SV ev m t) : SV ev (Lay.xnot m) (t.bind fun b => some (!b)) := fun v e => by
  obtain ⟨a, h1, h2⟩ := bs e
  cases h2
  unfold Lay.xnot
  rw [h a h1]
  rfl
theorem sv_if {c : Env' → Option Bool} {tc : Option Bool} {m n : Env' → Option D} {t u : Option α} (hc : SB ev c tc) (h : SV ev m t) (g : SV ev n u) : SV ev (xif c m n) (tc.bind fun b => if b = true then t else u) := fun v e => by
  obtain ⟨a, h1, h2⟩ := bs e
  unfold xif
  rw [hc a h1]
  cases a with
  | true => exact h v h2
  | false => exact g v h2
theorem sl_if {c : Env' → Option Bool} {tc : Option Bool} {m n : Env' → Option (List D)} {t u : Option (List α)} (hc : SB ev c tc) (h : SL ev m t) (g : SL ev n u) : SL ev (xif c m n) (tc.bind fun b => if b = true then t else u) := fun v e => by
  obtain ⟨a, h1, h2⟩ := bs e
  unfold xif
  rw [hc a h1]
  cases a with
  | true => exact h v h2
  | false => exact g v h2
/-- a value that may be missing -/
theorem sv_some {m : Env' → Option D} {t : Option α} (h : SV ev m t) : SV ev m (t.bind fun x => some (some x)) := fun v e => by
  obtain ⟨a, h1, h2⟩ := bs e
  cases h2
  rw [h a h1]
  rfl
theorem sv_tight [Flat α] {m : Env' → Option D} {t : Option α} (h : SV ev m t) : SV ev (tight m) t := fun v e => by
  unfold tight
  rw [h v e]
  simp only [Option.bind_some, Flat.f v, if_true]
theorem sl_tight [Flat α] {m : Env' → Option (List D)} {t : Option (List α)} (h : SL ev m t) : SL ev (tightO m) t := fun v e => by
  unfold tightO
  rw [h v e]
  have : (v.map Enc.e).all D.flat = true := by
    rw [List.all_eq_true]
    intro x hx
    obtain ⟨a, _, rfl⟩ := List.mem_map.1 hx
    exact Flat.f a
  simp only [Option.bind_some, this, if_true]
/-! lists of arguments -/
theorem sc_nil {A : Type} {t : Option A} {P : List D → A → Prop} (h : ∀ v, t = some v → P [] v) : SC ev anil t P := fun v e => ⟨[], rfl, h v e⟩
theorem sc_cons {A : Type} {ta : Option α} {k : α → Option A} {ma : Env' → Option D} {mn : Env' → Option (List D)} {P : List D → A → Prop} (ha : SV ev ma ta) (h : ∀ a, SC ev mn (k a) fun ds v => P (Enc.e a :: ds) v) : SC ev (acons ma mn) (ta.bind k) P := fun v e => by
  obtain ⟨a, h1, h2⟩ := bs e
  obtain ⟨ds, h3, h4⟩ := h a v h2
  refine ⟨_, ?_, h4⟩
  unfold acons
  rw [ha a h1]
  simp only [Option.bind_eq_bind, Option.bind_some]
  rw [h3]
  rfl
theorem sv_mL {F : List D → Option D} {m : Env' → Option (List D)} {t : Option β} (h : SC ev m t fun ds v => F ds = some (Enc.e v)) : SV ev (mL F m) t := fun v e => by
  obtain ⟨ds, h1, h2⟩ := h v e
  unfold mL
  rw [h1]
  exact h2
theorem sl_mLo {F : List D → Option (List D)} {m : Env' → Option (List D)} {t : Option (List β)} (h : SC ev m t fun ds v => F ds = some (v.map Enc.e)) : SL ev (mLo F m) t := fun v e => by
  obtain ⟨ds, h1, h2⟩ := h v e
  unfold mLo
  rw [h1]
  exact h2
theorem sv_mM {F : List D → Option D} {c x : Str} {mo : Env' → Option D} {m : Env' → Option (List D)} {to : Option Kd} {k : Kd → Option β} (hob : ∀ z : Kd, (Enc.e z).isObj c x = true) (ho : SV ev mo to) (h : ∀ o, SC ev m (k o) fun ds v => F (Enc.e o :: ds) = some (Enc.e v)) : SV ev (mM c x F mo m) (to.bind k) := fun v e => by
  obtain ⟨o, h1, h2⟩ := bs e
  obtain ⟨ds, h3, h4⟩ := h o v h2
  unfold mM
  rw [ho o h1]
  simp only [Option.bind_eq_bind, Option.bind_some, hob, if_true]
  rw [h3]
  exact h4
theorem sl_mMo {F : List D → Option (List D)} {c x : Str} {mo : Env' → Option D} {m : Env' → Option (List D)} {to : Option Kd} {k : Kd → Option (List β)} (hob : ∀ z : Kd, (Enc.e z).isObj c x = true) (ho : SV ev mo to) (h : ∀ o, SC ev m (k o) fun ds v => F (Enc.e o :: ds) = some (v.map Enc.e)) : SL ev (mMo c x F mo m) (to.bind k) := fun v e => by
  obtain ⟨o, h1, h2⟩ := bs e
  obtain ⟨ds, h3, h4⟩ := h o v h2
  unfold mMo
  rw [ho o h1]
  simp only [Option.bind_eq_bind, Option.bind_some, hob, if_true]
  rw [h3]
  exact h4
theorem sv_mK {F : List D → Option D} {is : List Nat} {n l : Nat} {mp mk : Env' → Option (List D)} {t : Option β} (h : SC ev mp t fun as v => ∃ bs, mk ev = some bs ∧ as.length = n ∧ bs.length = l ∧ F (reordL is (as ++ bs)) = some (Enc.e v)) : SV ev (mK is n l F mp mk) t := fun v e => by
  obtain ⟨as, h1, bs, h2, h3, h4, h5⟩ := h v e
  unfold mK
  rw [h1]
  simp only [Option.bind_eq_bind, Option.bind_some]
  rw [h2]
  simp only [Option.bind_some, h3, h4, and_self, if_true]
  exact h5
theorem sl_mKo {F : List D → Option (List D)} {is : List Nat} {n l : Nat} {mp mk : Env' → Option (List D)} {t : Option (List β)} (h : SC ev mp t fun as v => ∃ bs, mk ev = some bs ∧ as.length = n ∧ bs.length = l ∧ F (reordL is (as ++ bs)) = some (v.map Enc.e)) : SL ev (mKo is n l F mp mk) t := fun v e => by
  obtain ⟨as, h1, bs, h2, h3, h4, h5⟩ := h v e
  unfold mKo
  rw [h1]
  simp only [Option.bind_eq_bind, Option.bind_some]
  rw [h2]
  simp only [Option.bind_some, h3, h4, and_self, if_true]
  exact h5
theorem sv_mF {F : List D → List D → Option (D × List D)} {mg m : Env' → Option (List D)} {tg : Option (List α)} {k : List α → Option β} (hg : SL ev mg tg) (h : ∀ g, SC ev m (k g) fun ds v => ∃ g', F (g.map Enc.e) ds = some (Enc.e v, g')) : SV ev (mF F mg m) (tg.bind k) := fun v e => by
  obtain ⟨g, h1, h2⟩ := bs e
  obtain ⟨ds, h3, g', h4⟩ := h g v h2
  unfold mF
  rw [hg g h1]
  simp only [Option.bind_eq_bind, Option.bind_some]
  rw [h3]
  simp only [Option.bind_some, h4]
theorem sv_xtup {m : Env' → Option (List D)} {t : Option β} (h : SC ev m t fun ds v => ds.length ≤ 1000000 ∧ D.tup ds = Enc.e v) : SV ev (xtup m) t := fun v e => by
  obtain ⟨ds, h1, h2, h3⟩ := h v e
  unfold xtup
  rw [h1]
  simp only [Option.bind_eq_bind, Option.bind_some, h2, if_true]
  rw [h3]
theorem sl_xlst {m : Env' → Option (List D)} {t : Option (List β)} (h : SC ev m t fun ds v => ds.length ≤ 1000000 ∧ ds = v.map Enc.e) : SL ev (xlst m) t := fun v e => by
  obtain ⟨ds, h1, h2, h3⟩ := h v e
  unfold xlst
  rw [h1]
  simp only [Option.bind_eq_bind, Option.bind_some, h2, if_true]
  rw [h3]
/-! slices, indices -/
theorem sp_n : SP ev pN (some none) := fun v e => by cases e; rfl
theorem sp_s {m : Env' → Option D} {t : Option Int} (h : SV ev m t) : SP ev (pS m) (t.bind fun i => some (some i)) := fun v e => by
  obtain ⟨a, h1, h2⟩ := bs e
  cases h2
  unfold pS
  rw [h a h1]
  rfl
theorem cutG_map {α β : Type} (f : α → β) (xs : List α) (lo hi : Option Int) : cutG (xs.map f) lo hi = (cutG xs lo hi).map f := by
  unfold cutG
  rw [List.length_map, List.map_take, List.map_drop]
theorem sl_cut {ma : Env' → Option D} {ml mh : Env' → Option (Option Int)} {t : Option (List α)} {tl th : Option (Option Int)} (h : SV ev ma t) (hl : SP ev ml tl) (hh : SP ev mh th) : SL ev (xcut ma ml mh) (t.bind fun xs => tl.bind fun lo => th.bind fun hi => some (cutG xs lo hi)) := fun v e => by
  obtain ⟨xs, h1, h2⟩ := bs e
  obtain ⟨lo, h3, h4⟩ := bs h2
  obtain ⟨hi, h5, h6⟩ := bs h4
  cases h6
  unfold xcut
  rw [h xs h1]
  simp only [Option.bind_eq_bind, Option.bind_some]
  rw [hl lo h3]
  simp only [Option.bind_some]
  rw [hh hi h5]
  show some (cutG (xs.map Enc.e) lo hi) = _
  rw [cutG_map]
theorem sl_cutS {ma : Env' → Option D} {ml mh : Env' → Option (Option Int)} {t : Option Scr} {tl th : Option (Option Int)} (h : SV ev ma t) (hl : SP ev ml tl) (hh : SP ev mh th) : SL ev (xcut ma ml mh) (t.bind fun xs => tl.bind fun lo => th.bind fun hi => some (cutG xs.ns lo hi)) := fun v e => by
  obtain ⟨xs, h1, h2⟩ := bs e
  obtain ⟨lo, h3, h4⟩ := bs h2
  obtain ⟨hi, h5, h6⟩ := bs h4
  cases h6
  unfold xcut
  rw [h xs h1]
  simp only [Option.bind_eq_bind, Option.bind_some]
  rw [hl lo h3]
  simp only [Option.bind_some]
  rw [hh hi h5]
  rfl
theorem sl_rev {ma : Env' → Option D} {t : Option (List α)} (h : SV ev ma t) : SL ev (xrev ma) (t.bind fun xs => some xs.reverse) := fun v e => by
  obtain ⟨xs, h1, h2⟩ := bs e
  cases h2
  unfold xrev
  rw [h xs h1]
  show some (xs.map Enc.e).reverse = _
  rw [List.map_reverse]
theorem op_ix (a : List α) (i : Int) (v : α) (h : tix a i = some v) : D.ix (Enc.e a) (Enc.e i) = some (Enc.e v) := by
  show L2.atI (a.map Enc.e) i = _
  rw [atI_map']
  unfold tix at h
  rw [h]
  rfl
theorem op_ixS (a : Scr) (i : Int) (v : Int) (h : tix a.ns i = some v) : D.ix (Enc.e a) (Enc.e i) = some (Enc.e v) := by
  show (L2.atI a.ns i).map D.int = _
  unfold tix at h
  rw [h]
  rfl
theorem sv_ixo {i : Nat} {x : List α} {mb : Env' → Option D} {tb : Option Int} (h : ev[i]? = some (.own (x.map Enc.e)) ∨ ev[i]? = some (.par (x.map Enc.e))) (hb : SV ev mb tb) : SV ev (xixo i mb) (tb.bind fun j => tix x j) := fun v e => by
  obtain ⟨j, h1, h2⟩ := bs e
  unfold xixo
  rw [hb j h1]
  have k : L2.atI (x.map Enc.e) j = some (Enc.e v) := by
    rw [atI_map']
    unfold tix at h2
    rw [h2]
    rfl
  rcases h with h | h
  · rw [h]; exact k
  · rw [h]; exact k
/-! arithmetic -/
theorem op_add (a b : Int) (v : Int) (h : some (a + b) = some v) : D.add (Enc.e a) (Enc.e b) = some (Enc.e v) := by cases h; rfl
theorem op_sub (a b : Int) (v : Int) (h : some (a - b) = some v) : D.sub (Enc.e a) (Enc.e b) = some (Enc.e v) := by cases h; rfl
theorem op_mul (a b : Int) (v : Int) (h : tmul a b = some v) : D.mul (Enc.e a) (Enc.e b) = some (Enc.e v) := by
  unfold tmul at h
  show (if mulOk a b = true then some (D.int (a * b)) else none) = _
  split at h
  · next q => cases h; rw [if_pos q]; rfl
  · cases h
theorem op_fdiv (a b : Int) (v : Int) (h : tfdiv a b = some v) : D.fdiv (Enc.e a) (Enc.e b) = some (Enc.e v) := by
  unfold tfdiv at h
  show (if 0 < b ∧ b.natAbs.log2 < 9000 then some (D.int (a / b)) else none) = _
  split at h
  · next q => cases h; rw [if_pos q]; rfl
  · cases h
theorem op_mod (a b : Int) (v : Int) (h : tmod a b = some v) : D.mod (Enc.e a) (Enc.e b) = some (Enc.e v) := by
  unfold tmod at h
  show (if 0 < b then some (D.int (a % b)) else none) = _
  split at h
  · next q => cases h; rw [if_pos q]; rfl
  · cases h
theorem op_pow (a b : Int) (v : Int) (h : tpow a b = some v) : D.pow (Enc.e a) (Enc.e b) = some (Enc.e v) := by
  unfold tpow at h
  show (if 0 ≤ b ∧ (Builtin.Int.intBits a : Int) * b ≤ 2 ^ 27 then some (D.int (a ^ b.toNat)) else none) = _
  split at h
  · next q => cases h; rw [if_pos q]; rfl
  · cases h
theorem op_neg (a : Int) (v : Int) (h : some (-a) = some v) : D.neg (Enc.e a) = some (Enc.e v) := by cases h; rfl
theorem op_catV (a b : List α) (v : List α) (h : tcat a b = some v) : D.add (Enc.e a) (Enc.e b) = some (Enc.e v) := by
  unfold tcat at h
  show (if (a.map Enc.e).length + (b.map Enc.e).length ≤ 1000000 then some (D.lst (a.map Enc.e ++ b.map Enc.e)) else none) = _
  rw [List.length_map, List.length_map]
  split at h
  · next q => cases h; rw [if_pos q, ← List.map_append]; rfl
  · cases h
theorem op_cat (a b : List α) (v : List α) (h : tcat a b = some v) : D.cat (Enc.e a) (Enc.e b) = some (v.map Enc.e) := by
  unfold tcat at h
  show (if (a.map Enc.e).length + (b.map Enc.e).length ≤ 1000000 then some (a.map Enc.e ++ b.map Enc.e) else none) = _
  rw [List.length_map, List.length_map]
  split at h
  · next q => cases h; rw [if_pos q, ← List.map_append]
  · cases h
theorem op_rep (a : List α) (n : Int) (v : List α) (h : trep a n = some v) : D.rep (Enc.e a) (Enc.e n) = some (v.map Enc.e) := by
  unfold trep at h
  show (if n < 1000000 ∧ -1000000 < n ∧ (a.map Enc.e).length * n.toNat ≤ 1000000 then some (List.replicate n.toNat (a.map Enc.e)).flatten else none) = _
  rw [List.length_map]
  split at h
  · next q => cases h; rw [if_pos q, List.map_flatten, List.map_replicate]
  · cases h
theorem op_lt (a b : Int) (v : Bool) (h : some (decide (a < b)) = some v) : D.lt (Enc.e a) (Enc.e b) = some v := by cases h; rfl
theorem op_le (a b : Int) (v : Bool) (h : some (decide (a ≤ b)) = some v) : D.le (Enc.e a) (Enc.e b) = some v := by cases h; rfl
theorem op_gt (a b : Int) (v : Bool) (h : some (decide (b < a)) = some v) : D.gt (Enc.e a) (Enc.e b) = some v := by cases h; rfl
theorem op_ge (a b : Int) (v : Bool) (h : some (decide (b ≤ a)) = some v) : D.ge (Enc.e a) (Enc.e b) = some v := by cases h; rfl
theorem op_eq (a : α) (b : β) (v : Bool) (h : teq a b = some v) : D.eq (Enc.e a) (Enc.e b) = some v := h
theorem op_ne (a : α) (b : β) (v : Bool) (h : tne a b = some v) : D.ne (Enc.e a) (Enc.e b) = some v := h
theorem op_in (a : α) (b : List α) (v : Bool) (h : tin a b = some v) : D.isin (Enc.e a) (Enc.e b) = some v := h
theorem op_nin (a : α) (b : List α) (v : Bool) (h : ((tin a b).bind fun b => some (!b)) = some v) : D.notin (Enc.e a) (Enc.e b) = some v := by
  obtain ⟨c, h1, h2⟩ := bs h
  cases h2
  unfold tin at h1
  unfold D.notin
  rw [h1]
  rfl
theorem op_isN (a : α) (b : β) (v : Bool) (h : tisN a b = some v) : D.isN (Enc.e a) (Enc.e b) = some v := h
theorem op_notN (a : α) (b : β) (v : Bool) (h : ((tisN a b).bind fun b => some (!b)) = some v) : D.notN (Enc.e a) (Enc.e b) = some v := by
  obtain ⟨c, h1, h2⟩ := bs h
  cases h2
  unfold tisN at h1
  unfold D.notN
  rw [h1]
  rfl
theorem op_index (a : List α) (b : α) (v : Int) (h : tindex a b = some v) : D.index (Enc.e a) (Enc.e b) = some (Enc.e v) := by
  unfold tindex at h
  split at h
  · next q => cases h; exact q
  · cases h
theorem op_isT (T : String) (a : α) (v : Bool) (h : tisT T a = some v) : D.isT T (Enc.e a) = some (Enc.e v) := by
  unfold tisT at h
  split at h
  · next q => cases h; exact q
  · cases h
theorem op_isC (T : Str) (a : α) (v : Bool) (h : tisC T a = some v) : D.isC T (Enc.e a) = some (Enc.e v) := by
  unfold tisC at h
  split at h
  · next q => cases h; exact q
  · cases h
theorem op_bits (a : Int) (v : Int) (h : some (Builtin.Int.intBits a : Int) = some v) : D.bits (Enc.e a) = some (Enc.e v) := by cases h; rfl
/-! builtins: one argument list -/
theorem bt_len (a : List α) (v : Int) (h : some (a.length : Int) = some v) : bLen [Enc.e a] = some (Enc.e v) := by
  cases h
  show some (D.int ((a.map Enc.e).length : Int)) = _
  rw [List.length_map]
  rfl
theorem bt_lenS (a : Scr) (v : Int) (h : some (a.ns.length : Int) = some v) : bLen [Enc.e a] = some (Enc.e v) := by cases h; rfl
theorem bt_intI (a : Int) (v : Int) (h : some a = some v) : bInt [Enc.e a] = some (Enc.e v) := by cases h; rfl
theorem bt_intB (a : Bool) (v : Int) (h : some (if a = true then (1 : Int) else 0) = some v) : bInt [Enc.e a] = some (Enc.e v) := by cases h; cases a <;> rfl
theorem bt_abs (a : Int) (v : Int) (h : some (a.natAbs : Int) = some v) : bAbs [Enc.e a] = some (Enc.e v) := by
  cases h
  show some (D.int (if a < 0 then -a else a)) = some (D.int _)
  congr 2
  split <;> omega
theorem bt_max (a b : Int) (v : Int) (h : some (if b > a then b else a) = some v) : bMax [Enc.e a, Enc.e b] = some (Enc.e v) := by cases h; rfl
theorem bt_min (a b : Int) (v : Int) (h : some (if b < a then b else a) = some v) : bMin [Enc.e a, Enc.e b] = some (Enc.e v) := by cases h; rfl
theorem ints_map : ∀ xs : List Int, ints? (xs.map Enc.e) = some xs
  | [] => rfl
  | x :: xs => by
    show (ints? (xs.map Enc.e)).map _ = _
    rw [ints_map xs]
    rfl
theorem bt_sum (a : List Int) (v : Int) (h : some a.sum = some v) : bSum [Enc.e a] = some (Enc.e v) := by
  cases h
  show (ints? (a.map Enc.e)).map _ = _
  rw [ints_map]
  rfl
theorem bt_sorted (a : List Int) (v : List Int) (h : some (sortI a) = some v) : bSorted [Enc.e a] = some (v.map Enc.e) := by
  cases h
  show (ints? (a.map Enc.e)).map _ = _
  rw [ints_map]
  rfl
theorem bt_list (a : List α) (v : List α) (h : some a = some v) : bList [Enc.e a] = some (v.map Enc.e) := by cases h; rfl
theorem bt_listS (a : Scr) (v : List Int) (h : some a.ns = some v) : bList [Enc.e a] = some (v.map Enc.e) := by cases h; rfl
theorem bt_repr (a : α) (v : Str) (h : trepr a = some v) : bReprG [Enc.e a] = some (Enc.e v) := by
  unfold trepr at h
  split at h
  · next q => cases h; exact q
  · cases h
theorem sl_lrg1 {ma : Env' → Option D} {t : Option Int} (h : SV ev ma t) : SL ev (xlrg (xrg1 ma)) (t.bind fun n => tlrg 0 n) := fun v e => by
  obtain ⟨n, h1, h2⟩ := bs e
  unfold tlrg at h2
  unfold xlrg xrg1
  rw [h n h1]
  show (if RgOkB 0 n = true then some ((rgI 0 n).map D.int) else none) = _
  split at h2
  · next q => cases h2; rw [if_pos q]; rfl
  · cases h2
theorem sl_lrg2 {ma mb : Env' → Option D} {t u : Option Int} (h : SV ev ma t) (g : SV ev mb u) : SL ev (xlrg (xrg2 ma mb)) (t.bind fun a => u.bind fun b => tlrg a b) := fun v e => by
  obtain ⟨a, h1, h2⟩ := bs e
  obtain ⟨b, h3, h4⟩ := bs h2
  unfold tlrg at h4
  unfold xlrg xrg2
  rw [h a h1, g b h3]
  show (if RgOkB a b = true then some ((rgI a b).map D.int) else none) = _
  split at h4
  · next q => cases h4; rw [if_pos q]; rfl
  · cases h4
/-! what is walked -/
theorem si_seq {ma : Env' → Option D} {t : Option (List α)} (h : SV ev ma t) : SL ev (iseq ma) t := fun v e => by
  unfold iseq
  rw [h v e]
  rfl
theorem si_rg1 {ma : Env' → Option D} {t : Option Int} (h : SV ev ma t) : SL ev (irg1 ma) (t.bind fun n => trg 0 n) := fun v e => by
  obtain ⟨n, h1, h2⟩ := bs e
  unfold trg at h2
  unfold irg1
  rw [h n h1]
  show (if rgB 0 n = true then some ((rgI 0 n).map D.int) else none) = _
  split at h2
  · next q => cases h2; rw [if_pos q]; rfl
  · cases h2
theorem si_rg2 {ma mb : Env' → Option D} {t u : Option Int} (h : SV ev ma t) (g : SV ev mb u) : SL ev (irg2 ma mb) (t.bind fun a => u.bind fun b => trg a b) := fun v e => by
  obtain ⟨a, h1, h2⟩ := bs e
  obtain ⟨b, h3, h4⟩ := bs h2
  unfold trg at h4
  unfold irg2
  rw [h a h1, g b h3]
  show (if rgB a b = true then some ((rgI a b).map D.int) else none) = _
  split at h4
  · next q => cases h4; rw [if_pos q]; rfl
  · cases h4
theorem enum_map : ∀ (n : Nat) (xs : List α), enumD n (xs.map Enc.e) = (tenum n xs).map Enc.e
  | _, [] => rfl
  | n, x :: xs => by
    show _ :: enumD (n + 1) (xs.map Enc.e) = _
    rw [enum_map]
    rfl
theorem si_enum {ma : Env' → Option D} {t : Option (List α)} (h : SV ev ma t) : SL ev (ienum ma) (t.bind fun xs => some (tenum 0 xs)) := fun v e => by
  obtain ⟨xs, h1, h2⟩ := bs e
  cases h2
  unfold ienum
  rw [h xs h1]
  show some (enumD 0 (xs.map Enc.e)) = _
  rw [enum_map]
theorem zip_map : ∀ (xs : List α) (ys : List β), zipD (xs.map Enc.e) (ys.map Enc.e) = (tzip xs ys).map Enc.e
  | [], _ => rfl
  | _ :: _, [] => rfl
  | x :: xs, y :: ys => by
    show _ :: zipD (xs.map Enc.e) (ys.map Enc.e) = _
    rw [zip_map]
    rfl
theorem si_zip {ma mb : Env' → Option D} {t : Option (List α)} {u : Option (List β)} (h : SV ev ma t) (g : SV ev mb u) : SL ev (izip ma mb) (t.bind fun xs => u.bind fun ys => some (tzip xs ys)) := fun v e => by
  obtain ⟨xs, h1, h2⟩ := bs e
  obtain ⟨ys, h3, h4⟩ := bs h2
  cases h4
  unfold izip
  rw [h xs h1, g ys h3]
  show some (zipD (xs.map Enc.e) (ys.map Enc.e)) = _
  rw [zip_map]
theorem si_rev {ma : Env' → Option D} {t : Option (List α)} (h : SV ev ma t) : SL ev (irev ma) (t.bind fun xs => some xs.reverse) := fun v e => by
  obtain ⟨xs, h1, h2⟩ := bs e
  cases h2
  unfold irev
  rw [h xs h1]
  show some (xs.map Enc.e).reverse = _
  rw [List.map_reverse]
/-! comprehensions -/
theorem lc_go {ev0 : Env'} {t : Tgt} {mt : Env' → Option Bool} {me : Env' → Option D} {p : α → Option Bool} {f : α → Option β} {ev1 : α → Env'} (hx : ∀ x : α, t.put (Enc.e x) ev0 = some (ev1 x)) (ht : ∀ x, SB (ev1 x) mt (p x)) (he : ∀ x, SV (ev1 x) me (f x)) : ∀ (xs : List α) (v : List β), lcT p f xs = some v → lcGo ev0 t mt me (xs.map Enc.e) = some (v.map Enc.e)
  | [], v, h => by cases h; rfl
  | x :: xs, v, h => by
    unfold lcT at h
    obtain ⟨b, h1, h2⟩ := bs h
    rw [List.map_cons]
    unfold lcGo
    rw [hx]
    simp only [Option.bind_eq_bind, Option.bind_some]
    rw [ht x b h1]
    simp only [Option.bind_some]
    cases b with
    | true =>
      simp only [if_true] at h2 ⊢
      obtain ⟨y, h3, h4⟩ := bs h2
      obtain ⟨ys, h5, h6⟩ := bs h4
      cases h6
      rw [he x y h3, lc_go hx ht he xs ys h5]
      rfl
    | false =>
      simp only [Bool.false_eq_true, if_false] at h2 ⊢
      exact lc_go hx ht he xs v h2
theorem sb_yes : SB ev tyes (some true) := fun v e => by cases e; rfl
theorem sl_lc {fl : Bool} {tg : Tgt} {own : List Nat} {mi : Env' → Option (List D)} {mt : Env' → Option Bool} {me : Env' → Option D} {ti : Option (List α)} {p : α → Option Bool} {f : α → Option β} (ev0 : Env') (ev1 : α → Env') (hp : plainAll ev own = true) (hw : wipeE ev own = ev0) (hx : ∀ x : α, tg.put (Enc.e x) ev0 = some (ev1 x)) (hf : fl = true → ∀ x : α, (Enc.e x).flat = true) (hi : SL ev mi ti) (ht : ∀ x, SB (ev1 x) mt (p x)) (he : ∀ x, SV (ev1 x) me (f x)) : SL ev (lcM fl tg own mi mt me) (ti.bind fun xs => tlc p f xs) := fun v e => by
  obtain ⟨xs, h1, h2⟩ := bs e
  unfold tlc at h2
  unfold lcM
  rw [hi xs h1]
  simp only [Option.bind_eq_bind, Option.bind_some]
  split at h2
  · next q =>
    rw [if_pos, hw]
    · exact lc_go hx ht he xs v h2
    · refine ⟨by rw [List.length_map]; exact q, hp, fun z => ?_⟩
      rw [List.all_eq_true]
      intro y hy
      obtain ⟨a, _, rfl⟩ := List.mem_map.1 hy
      exact hf z a
  · cases h2
end
end Ty

namespace Ty
open PySem Lay
/-! ### effects, in continuations -/
def SE {A B : Type} (ev : Env') (m : Env' → Option (A × Env')) (t : Option B) (P : A → Env' → B → Prop) : Prop := ∀ v, t = some v → ∃ d ev', m ev = some (d, ev') ∧ P d ev' v
section
variable {ev : Env'} {α β γ δ σ ρ : Type} [Enc α] [Enc β] [Enc γ] [Enc δ] {A B : Type}
theorem se_lift {m : Env' → Option D} {t : Option α} {k : α → Option B} {P : D → Env' → B → Prop} (h : SV ev m t) (hk : ∀ a v, k a = some v → P (Enc.e a) ev v) : SE ev (lift m) (t.bind k) P := fun v e => by
  obtain ⟨a, h1, h2⟩ := bs e
  refine ⟨_, _, ?_, hk a v h2⟩
  unfold lift
  rw [h a h1]
  rfl
theorem se_liftL {m : Env' → Option (List D)} {t : Option (List α)} {k : List α → Option B} {P : List D → Env' → B → Prop} (h : SL ev m t) (hk : ∀ a v, k a = some v → P (a.map Enc.e) ev v) : SE ev (lift m) (t.bind k) P := fun v e => by
  obtain ⟨a, h1, h2⟩ := bs e
  refine ⟨_, _, ?_, hk a v h2⟩
  unfold lift
  rw [h a h1]
  rfl
theorem se_liftB {m : Env' → Option Bool} {t : Option Bool} {k : Bool → Option B} {P : Bool → Env' → B → Prop} (h : SB ev m t) (hk : ∀ a v, k a = some v → P a ev v) : SE ev (lift m) (t.bind k) P := fun v e => by
  obtain ⟨a, h1, h2⟩ := bs e
  refine ⟨_, _, ?_, hk a v h2⟩
  unfold lift
  rw [h a h1]
  rfl
/-- arguments without effects -/
theorem se_liftC {m : Env' → Option (List D)} {t : Option B} {P : List D → Env' → B → Prop} (h : SC ev m t fun ds v => P ds ev v) : SE ev (lift m) t P := fun v e => by
  obtain ⟨ds, h1, h2⟩ := h v e
  refine ⟨_, _, ?_, h2⟩
  unfold lift
  rw [h1]
  rfl
theorem se_cons {m : Env' → Option (D × Env')} {n : Env' → Option (List D × Env')} {t : Option B} {P : List D → Env' → B → Prop} (h : SE ev m t fun d ev1 v => ∃ ds ev2, n ev1 = some (ds, ev2) ∧ P (d :: ds) ev2 v) : SE ev (facons m n) t P := fun v e => by
  obtain ⟨d, ev1, h1, ds, ev2, h2, h3⟩ := h v e
  refine ⟨_, _, ?_, h3⟩
  unfold facons
  rw [h1]
  simp only [Option.bind_eq_bind, Option.bind_some]
  rw [h2]
  rfl
theorem se_L1 {F : List D → Option D} {m : Env' → Option (List D × Env')} {t : Option B} {P : D → Env' → B → Prop} (h : SE ev m t fun ds ev1 v => ∃ d, F ds = some d ∧ P d ev1 v) : SE ev (fL1 F m) t P := fun v e => by
  obtain ⟨ds, ev1, h1, d, h2, h3⟩ := h v e
  refine ⟨_, _, ?_, h3⟩
  unfold fL1
  rw [h1]
  simp only [Option.bind_eq_bind, Option.bind_some]
  rw [h2]
  rfl
theorem se_L1o {F : List D → Option (List D)} {m : Env' → Option (List D × Env')} {t : Option B} {P : D → Env' → B → Prop} (h : SE ev m t fun ds ev1 v => ∃ d, F ds = some d ∧ P (.lst d) ev1 v) : SE ev (fL1o F m) t P := fun v e => by
  obtain ⟨ds, ev1, h1, d, h2, h3⟩ := h v e
  refine ⟨_, _, ?_, h3⟩
  unfold fL1o
  rw [h1]
  simp only [Option.bind_eq_bind, Option.bind_some]
  rw [h2]
  rfl
theorem se_f2 {F : D → D → Option D} {m n : Env' → Option (D × Env')} {t : Option B} {P : D → Env' → B → Prop} (h : SE ev m t fun d ev1 v => ∃ e ev2, n ev1 = some (e, ev2) ∧ ∃ c, F d e = some c ∧ P c ev2 v) : SE ev (f2 F m n) t P := fun v e => by
  obtain ⟨d, ev1, h1, x, ev2, h2, c, h3, h4⟩ := h v e
  refine ⟨_, _, ?_, h4⟩
  unfold f2
  rw [h1]
  simp only [Option.bind_eq_bind, Option.bind_some]
  rw [h2]
  simp only [Option.bind_some]
  rw [h3]
  rfl
theorem se_fc2 {F : D → D → Option Bool} {m n : Env' → Option (D × Env')} {t : Option B} {P : Bool → Env' → B → Prop} (h : SE ev m t fun d ev1 v => ∃ e ev2, n ev1 = some (e, ev2) ∧ ∃ c, F d e = some c ∧ P c ev2 v) : SE ev (fc2 F m n) t P := fun v e => by
  obtain ⟨d, ev1, h1, x, ev2, h2, c, h3, h4⟩ := h v e
  refine ⟨_, _, ?_, h4⟩
  unfold fc2
  rw [h1]
  simp only [Option.bind_eq_bind, Option.bind_some]
  rw [h2]
  simp only [Option.bind_some]
  rw [h3]
  rfl
/-- what an operator gives -/
theorem k2 {F : D → D → Option D} {f : α → β → Option γ} {a : α} {b : β} {k : γ → Option B} {P : D → B → Prop} (h : ∀ a b v, f a b = some v → F (Enc.e a) (Enc.e b) = some (Enc.e v)) (hk : ∀ c v, k c = some v → P (Enc.e c) v) : ∀ v, (f a b).bind k = some v → ∃ c, F (Enc.e a) (Enc.e b) = some c ∧ P c v := fun v e => by
  obtain ⟨c, h1, h2⟩ := bs e
  exact ⟨_, h a b c h1, hk c v h2⟩
theorem kc2 {F : D → D → Option Bool} {f : α → β → Option Bool} {a : α} {b : β} {k : Bool → Option B} {P : Bool → B → Prop} (h : ∀ a b v, f a b = some v → F (Enc.e a) (Enc.e b) = some v) (hk : ∀ c v, k c = some v → P c v) : ∀ v, (f a b).bind k = some v → ∃ c, F (Enc.e a) (Enc.e b) = some c ∧ P c v := fun v e => by
  obtain ⟨c, h1, h2⟩ := bs e
  exact ⟨_, h a b c h1, hk c v h2⟩
theorem kL {F : List D → Option D} {ds : List D} {t : Option α} {k : α → Option B} {P : D → B → Prop} (h : ∀ v, t = some v → F ds = some (Enc.e v)) (hk : ∀ c v, k c = some v → P (Enc.e c) v) : ∀ v, t.bind k = some v → ∃ d, F ds = some d ∧ P d v := fun v e => by
  obtain ⟨c, h1, h2⟩ := bs e
  exact ⟨_, h c h1, hk c v h2⟩
theorem kLo {F : List D → Option (List D)} {ds : List D} {t : Option (List α)} {k : List α → Option B} {P : List D → B → Prop} (h : ∀ v, t = some v → F ds = some (v.map Enc.e)) (hk : ∀ c v, k c = some v → P (c.map Enc.e) v) : ∀ v, t.bind k = some v → ∃ d, F ds = some d ∧ P d v := fun v e => by
  obtain ⟨c, h1, h2⟩ := bs e
  exact ⟨_, h c h1, hk c v h2⟩
theorem se_fB {m : Env' → Option (Bool × Env')} {t : Option B} {P : D → Env' → B → Prop} (h : SE ev m t fun b ev1 v => P (.bl b) ev1 v) : SE ev (fB m) t P := fun v e => by
  obtain ⟨b, ev1, h1, h2⟩ := h v e
  refine ⟨_, _, ?_, h2⟩
  unfold fB
  rw [h1]
  rfl
theorem se_fT {m : Env' → Option (D × Env')} {t : Option B} {P : Bool → Env' → B → Prop} (h : SE ev m t fun d ev1 v => ∃ b, d = .bl b ∧ P b ev1 v) : SE ev (fT m) t P := fun v e => by
  obtain ⟨d, ev1, h1, b, rfl, h2⟩ := h v e
  refine ⟨_, _, ?_, h2⟩
  unfold fT
  rw [h1]
theorem se_fnB {m : Env' → Option (Bool × Env')} {t : Option B} {P : Bool → Env' → B → Prop} (h : SE ev m t fun b ev1 v => P (!b) ev1 v) : SE ev (fnB m) t P := fun v e => by
  obtain ⟨b, ev1, h1, h2⟩ := h v e
  refine ⟨_, _, ?_, h2⟩
  unfold fnB
  rw [h1]
  rfl
theorem se_ftup {m : Env' → Option (List D × Env')} {t : Option B} {P : D → Env' → B → Prop} (h : SE ev m t fun ds ev1 v => ds.length ≤ 1000000 ∧ P (.tup ds) ev1 v) : SE ev (ftup m) t P := fun v e => by
  obtain ⟨ds, ev1, h1, h2, h3⟩ := h v e
  refine ⟨_, _, ?_, h3⟩
  unfold ftup
  rw [h1]
  simp only [Option.bind_eq_bind, Option.bind_some, h2, if_true]
theorem se_flst {m : Env' → Option (List D × Env')} {t : Option B} {P : D → Env' → B → Prop} (h : SE ev m t fun ds ev1 v => ds.length ≤ 1000000 ∧ P (.lst ds) ev1 v) : SE ev (flst m) t P := fun v e => by
  obtain ⟨ds, ev1, h1, h2, h3⟩ := h v e
  refine ⟨_, _, ?_, h3⟩
  unfold flst
  rw [h1]
  simp only [Option.bind_eq_bind, Option.bind_some, h2, if_true]
/-- a choice: both ways come together -/
theorem se_fif {c : Env' → Option (Bool × Env')} {m n : Env' → Option (A × Env')} {t : Option B} {P : A → Env' → B → Prop} (h : SE ev c t fun b ev1 v => ∃ d ev', (if b = true then m ev1 else n ev1) = some (d, ev') ∧ P d ev' v) : SE ev (fun ev => (c ev).bind fun r => if r.1 = true then m r.2 else n r.2) t P := fun v e => by
  obtain ⟨b, ev1, h1, d, ev', h2, h3⟩ := h v e
  refine ⟨_, _, ?_, h3⟩
  simp only [h1, Option.bind_some]
  exact h2
theorem se_ite {m n : Env' → Option (D × Env')} {b : Bool} {t u : Option (α × σ)} {k : α × σ → Option B} {E : σ → Env'} {P : D → Env' → B → Prop} (h1 : SE ev m t fun d ev' r => d = Enc.e r.1 ∧ ev' = E r.2) (h2 : SE ev n u fun d ev' r => d = Enc.e r.1 ∧ ev' = E r.2) (hk : ∀ r v, k r = some v → P (Enc.e r.1) (E r.2) v) : ∀ v, (if b = true then t else u).bind k = some v → ∃ d ev', (if b = true then m ev else n ev) = some (d, ev') ∧ P d ev' v := fun v e => by
  obtain ⟨⟨x, s⟩, h3, h4⟩ := bs e
  cases b with
  | true =>
    obtain ⟨d, ev', h5, h6, h7⟩ := h1 _ h3
    subst h6 h7
    exact ⟨_, _, h5, hk (x, s) v h4⟩
  | false =>
    obtain ⟨d, ev', h5, h6, h7⟩ := h2 _ h3
    subst h6 h7
    exact ⟨_, _, h5, hk (x, s) v h4⟩
/-- a call that changes a list -/
theorem se_fF {j : Nat} {F : List D → List D → Option (D × List D)} {m : Env' → Option (List D × Env')} {t : Option B} {P : D → Env' → B → Prop} (ho : ∃ g, ownAt ev j = some g) (h : SE ev m t fun ds ev1 v => mayOwn ev1 j = true ∧ ∃ g, ownAt ev1 j = some g ∧ ∃ d g', F g ds = some (d, g') ∧ P d (setOwn ev1 j g') v) : SE ev (fF j F m) t P := fun v e => by
  obtain ⟨ds, ev1, h1, h2, g, h3, d, g', h4, h5⟩ := h v e
  obtain ⟨g0, h0⟩ := ho
  refine ⟨_, _, ?_, h5⟩
  unfold fF
  rw [h0]
  simp only [Option.bind_eq_bind, Option.bind_some]
  rw [h1]
  simp only [Option.bind_some, h2, if_true]
  rw [h3]
  simp only [Option.bind_some]
  rw [h4]
  rfl
theorem kF {F : List D → List D → Option (D × List D)} {g : List γ} {ds : List D} {t : Option (α × List γ)} {k : α × List γ → Option B} {P : D → List D → B → Prop} (h : ∀ r, t = some r → F (g.map Enc.e) ds = some (Enc.e r.1, r.2.map Enc.e)) (hk : ∀ r v, k r = some v → P (Enc.e r.1) (r.2.map Enc.e) v) : ∀ v, t.bind k = some v → ∃ d g', F (g.map Enc.e) ds = some (d, g') ∧ P d g' v := fun v e => by
  obtain ⟨r, h1, h2⟩ := bs e
  exact ⟨_, _, h r h1, hk r v h2⟩
theorem kFm {ev : Env'} {j : Nat} {F : List D → List D → Option (D × List D)} {g : List γ} {ds : List D} {t : Option (α × List γ)} {k : α × List γ → Option B} {P : D → List D → B → Prop} (hm : mayOwn ev j = true) (ho : ownAt ev j = some (g.map Enc.e)) (h : ∀ r, t = some r → F (g.map Enc.e) ds = some (Enc.e r.1, r.2.map Enc.e)) (hk : ∀ r v, k r = some v → P (Enc.e r.1) (r.2.map Enc.e) v) : ∀ v, t.bind k = some v → mayOwn ev j = true ∧ ∃ g, ownAt ev j = some g ∧ ∃ d g', F g ds = some (d, g') ∧ P d g' v := fun v e => ⟨hm, _, ho, kF h hk v e⟩
theorem andI {t : Option B} {X : Prop} {P : B → Prop} (hx : X) (h : ∀ v, t = some v → P v) : ∀ v, t = some v → X ∧ P v := fun v e => ⟨hx, h v e⟩
theorem exI {t : Option B} {X : Option A} {y : A} {P : A → B → Prop} (hx : X = some y) (h : ∀ v, t = some v → P y v) : ∀ v, t = some v → ∃ z, X = some z ∧ P z v := fun v e => ⟨y, hx, h v e⟩
theorem exBl {t : Option B} {x : Bool} {P : Bool → B → Prop} (h : ∀ v, t = some v → P x v) : ∀ v, t = some v → ∃ b, (Enc.e x : D) = .bl b ∧ P b v := fun v e => ⟨x, rfl, h v e⟩
theorem exLs {t : Option B} {x : List α} {P : List D → B → Prop} (h : ∀ v, t = some v → P (x.map Enc.e) v) : ∀ v, t = some v → ∃ ds, (Enc.e x : D) = .lst ds ∧ P ds v := fun v e => ⟨_, rfl, h v e⟩
theorem se_tupK (τ : Type) [Enc τ] {m : Env' → Option (List D × Env')} {t : Option B} {P : D → Env' → B → Prop} (h : SE ev m t fun ds ev1 v => ∃ x : τ, ds.length ≤ 1000000 ∧ D.tup ds = Enc.e x ∧ P (Enc.e x) ev1 v) : SE ev (ftup m) t P := se_ftup fun v e => by
  obtain ⟨ds, ev1, h1, x, h2, h3, h4⟩ := h v e
  exact ⟨ds, ev1, h1, h2, by rw [h3]; exact h4⟩
theorem se_lstK (τ : Type) [Enc τ] {m : Env' → Option (List D × Env')} {t : Option B} {P : D → Env' → B → Prop} (h : SE ev m t fun ds ev1 v => ∃ x : τ, ds.length ≤ 1000000 ∧ D.lst ds = Enc.e x ∧ P (Enc.e x) ev1 v) : SE ev (flst m) t P := se_flst fun v e => by
  obtain ⟨ds, ev1, h1, x, h2, h3, h4⟩ := h v e
  exact ⟨ds, ev1, h1, h2, by rw [h3]; exact h4⟩
theorem kTup {τ : Type} [Enc τ] {a : τ} {k : τ → Option B} {n : Nat} {d : D} {Q : τ → B → Prop} (h1 : n ≤ 1000000) (h2 : d = Enc.e a) (hk : ∀ x v, k x = some v → Q x v) : ∀ v, (some a).bind k = some v → ∃ x : τ, n ≤ 1000000 ∧ d = Enc.e x ∧ Q x v := fun v e => ⟨a, h1, h2, hk a v e⟩
/-- comprehensions with effects -/
theorem flc_go {tg : Tgt} {own : List Nat} {me : Env' → Option (D × Env')} {f : α → σ → Option (β × σ)} {E : σ → Env'} {E1 : α → σ → Env'} (hx : ∀ x s, tg.put (Enc.e x) (E s) = some (E1 x s)) (he : ∀ x s, SE (E1 x s) me (f x s) fun d ev' r => d = Enc.e r.1 ∧ plainAll ev' own = true ∧ wipeE ev' own = E r.2) : ∀ (xs : List α) (s : σ) (r : List β × σ), mapS f xs s = some r → flcGo tg own me (xs.map Enc.e) (E s) = some (r.1.map Enc.e, E r.2)
  | [], s, r, h => by cases h; rfl
  | x :: xs, s, r, h => by
    unfold mapS at h
    obtain ⟨y, h1, h2⟩ := bs h
    obtain ⟨ys, h3, h4⟩ := bs h2
    cases h4
    obtain ⟨d, ev', h5, h6, h7, h8⟩ := he x s y h1
    subst h6
    rw [List.map_cons]
    unfold flcGo
    rw [hx]
    simp only [Option.bind_eq_bind, Option.bind_some]
    rw [h5]
    simp only [Option.bind_some, h7, if_true]
    rw [h8, flc_go hx he xs y.2 ys h3]
    rfl
theorem se_flc {tg : Tgt} {own : List Nat} {mi : Env' → Option (List D × Env')} {me : Env' → Option (D × Env')} {t : Option B} {P : D → Env' → B → Prop} (h : SE ev mi t fun ds ev1 v => ds.length ≤ 1000000 ∧ plainAll ev1 own = true ∧ ∃ ys ev2, flcGo tg own me ds (wipeE ev1 own) = some (ys, ev2) ∧ P (.lst ys) ev2 v) : SE ev (flcM tg own mi me) t P := fun v e => by
  obtain ⟨ds, ev1, h1, h2, h3, ys, ev2, h4, h5⟩ := h v e
  refine ⟨_, _, ?_, h5⟩
  unfold flcM
  rw [h1]
  simp only [Option.bind_eq_bind, Option.bind_some, h2, h3, and_self, if_true]
  rw [h4]
  rfl
theorem kflc {tg : Tgt} {own : List Nat} {me : Env' → Option (D × Env')} {f : α → σ → Option (β × σ)} {k : List β × σ → Option B} {ev1 : Env'} {s : σ} {xs : List α} {P : List D → Env' → B → Prop} (E : σ → Env') (E1 : α → σ → Env') (hp : plainAll ev1 own = true) (hw : wipeE ev1 own = E s) (hx : ∀ x s, tg.put (Enc.e x) (E s) = some (E1 x s)) (he : ∀ x s, SE (E1 x s) me (f x s) fun d ev' r => d = Enc.e r.1 ∧ plainAll ev' own = true ∧ wipeE ev' own = E r.2) (hk : ∀ r v, k r = some v → P (r.1.map Enc.e) (E r.2) v) : ∀ v, (tlcS f xs s).bind k = some v → (xs.map Enc.e).length ≤ 1000000 ∧ plainAll ev1 own = true ∧ ∃ ys ev2, flcGo tg own me (xs.map Enc.e) (wipeE ev1 own) = some (ys, ev2) ∧ P ys ev2 v := fun v e => by
  obtain ⟨r, h1, h2⟩ := bs e
  unfold tlcS at h1
  split at h1
  · next q =>
    refine ⟨by rw [List.length_map]; exact q, hp, r.1.map Enc.e, E r.2, ?_, hk r v h2⟩
    rw [hw]
    exact flc_go hx he xs s r h1
  · cases h1
theorem se_fseq {m : Env' → Option (D × Env')} {t : Option B} {P : List D → Env' → B → Prop} (h : SE ev m t fun d ev1 v => ∃ ds, d = .lst ds ∧ P ds ev1 v) : SE ev (fseq m) t P := fun v e => by
  obtain ⟨d, ev1, h1, ds, rfl, h2⟩ := h v e
  refine ⟨_, _, ?_, h2⟩
  unfold fseq
  rw [h1]
  rfl
theorem se_frg1 {m : Env' → Option (D × Env')} {t : Option B} {P : List D → Env' → B → Prop} (h : SE ev m t fun d ev1 v => ∃ b, d = .int b ∧ rgB 0 b = true ∧ P ((rgI 0 b).map D.int) ev1 v) : SE ev (frg1 m) t P := fun v e => by
  obtain ⟨d, ev1, h1, b, rfl, h2, h3⟩ := h v e
  refine ⟨_, _, ?_, h3⟩
  unfold frg1
  rw [h1]
  simp only [h2, if_true]
theorem se_frgK {m : Env' → Option (D × Env')} {t : Option B} {P : List D → Env' → B → Prop} (h : SE ev m t fun d ev1 v => ∃ xs : List Int, (∃ b, d = .int b ∧ rgB 0 b = true ∧ xs = rgI 0 b) ∧ P (xs.map Enc.e) ev1 v) : SE ev (frg1 m) t P := se_frg1 fun v e => by
  obtain ⟨d, ev1, h1, xs, ⟨b, h2, h3, h4⟩, h5⟩ := h v e
  subst h4
  exact ⟨d, ev1, h1, b, h2, h3, h5⟩
theorem krg {b : Int} {k : List Int → Option B} {Q : List Int → B → Prop} (hk : ∀ xs v, k xs = some v → Q xs v) : ∀ v, (trg 0 b).bind k = some v → ∃ xs : List Int, (∃ c, (Enc.e b : D) = .int c ∧ rgB 0 c = true ∧ xs = rgI 0 c) ∧ Q xs v := fun v e => by
  obtain ⟨xs, h1, h2⟩ := bs e
  unfold trg at h1
  split at h1
  · next q => cases h1; exact ⟨_, ⟨b, rfl, q, rfl⟩, hk _ v h2⟩
  · cases h1
end
end Ty

namespace Ty
open PySem Lay
/-! ### statements -/
inductive Ctl (ρ σ : Type) where
  | nx (s : σ) | bk (s : σ) | ret (r : ρ)
def Ctl.cont {ρ σ B : Type} (kr : ρ → Option B) (k : σ → Option B) : Ctl ρ σ → Option B
  | .nx s => k s
  | .bk s => k s
  | .ret r => kr r
def forT {α σ : Type} (f : α → σ → Option σ) : List α → σ → Option σ
  | [], s => some s
  | x :: r, s => (f x s).bind fun s' => forT f r s'
def forC {α σ ρ : Type} (f : α → σ → Option (Ctl ρ σ)) : List α → σ → Option (Ctl ρ σ)
  | [], s => some (.nx s)
  | x :: r, s => (f x s).bind fun c => match c with
    | .nx s' => forC f r s'
    | .bk s' => some (.nx s')
    | .ret r => some (.ret r)
def whT {σ : Type} (c : σ → Option Bool) (f : σ → Option σ) : Nat → σ → Option σ
  | 0, _ => none
  | n + 1, s => (c s).bind fun b => if b = true then (f s).bind fun s' => whT c f n s' else some s
def whC {σ ρ : Type} (c : σ → Option Bool) (f : σ → Option (Ctl ρ σ)) : Nat → σ → Option (Ctl ρ σ)
  | 0, _ => none
  | n + 1, s => (c s).bind fun b => if b = true then (f s).bind fun z => match z with
    | .nx s' => whC c f n s'
    | .bk s' => some (.nx s')
    | .ret r => some (.ret r) else some (.nx s)
def tpop {α : Type} (xs : List α) : Option (α × List α) := (xs[xs.length - 1]?).map fun x => (x, xs.dropLast)
def tall {α : Type} (xs ys : List α) : Option (List α) := if xs.length + ys.length ≤ 1000000 then some ys else none
/-- slots of which nothing is known but that they are no parameter; plain or not -/
inductive PJ where
  | e | v (d : D)
inductive OJ where
  | e | v (d : D) | o (xs : List D)
def PJ.s : PJ → Slot
  | .e => .emp
  | .v d => .val d
def OJ.s : OJ → Slot
  | .e => .emp
  | .v d => .val d
  | .o xs => .own xs
@[simp] theorem PJ.np (j : PJ) : isPar j.s = false := by cases j <;> rfl
@[simp] theorem OJ.np (j : OJ) : isPar j.s = false := by cases j <;> rfl
theorem PJ.pl (j : PJ) : (match j.s with
  | .emp => true
  | .val _ => true
  | _ => false) = true := by cases j <;> rfl
section
variable {ev : Env'} {α β γ δ σ ρ : Type} [Enc α] [Enc β] [Enc γ] [Enc δ] {A B : Type} {Φ : B → Fl → Env' → Prop}
def ST (ev : Env') (m : SM) (t : Option B) (Φ : B → Fl → Env' → Prop) : Prop := ∀ r, t = some r → ∃ fl ev', m ev = some (fl, ev') ∧ Φ r fl ev'
theorem st_asg {i : Nat} {me : Env' → Option (D × Env')} {n : SM} {t : Option B} (h : SE ev me t fun d ev1 v => ∃ fl ev2, n (ev1.set i (.val d)) = some (fl, ev2) ∧ Φ v fl ev2) : ST ev (sseq (sasg i me) n) t Φ := fun v e => by
  obtain ⟨d, ev1, h1, fl, ev2, h2, h3⟩ := h v e
  refine ⟨fl, ev2, ?_, h3⟩
  unfold sseq sasg
  rw [h1]
  exact h2
theorem st_asgO {i : Nat} {me : Env' → Option (List D)} {n : SM} {t : Option (List α)} {k : List α → Option B} (h : SL ev me t) (hi : i < ev.length) (hk : ∀ a, ST (ev.set i (.own (a.map Enc.e))) n (k a) Φ) : ST ev (sseq (sasgO i me) n) (t.bind k) Φ := fun v e => by
  obtain ⟨a, h1, h2⟩ := bs e
  obtain ⟨fl, ev2, h3, h4⟩ := hk a v h2
  refine ⟨fl, ev2, ?_, h4⟩
  unfold sseq sasgO
  rw [h a h1]
  simp only [Option.bind_eq_bind, Option.bind_some, hi, if_true]
  exact h3
theorem st_frz {i : Nat} {n : SM} {t : Option B} {ev1 : Env'} (h : frz i ev = ev1) (hk : ST ev1 n t Φ) : ST ev (sfz i n) t Φ := fun v e => by
  obtain ⟨fl, ev2, h1, h2⟩ := hk v e
  refine ⟨fl, ev2, ?_, h2⟩
  unfold sfz
  rw [h]
  exact h1
theorem st_put {f : D → Env' → Option Env'} {me : Env' → Option (D × Env')} {n : SM} {t : Option B} (h : SE ev me t fun d ev1 v => ∃ ev2, f d ev1 = some ev2 ∧ ∃ fl ev3, n ev2 = some (fl, ev3) ∧ Φ v fl ev3) : ST ev (sseq (sput f me) n) t Φ := fun v e => by
  obtain ⟨d, ev1, h1, ev2, h2, fl, ev3, h3, h4⟩ := h v e
  refine ⟨fl, ev3, ?_, h4⟩
  unfold sseq sput
  rw [h1]
  simp only [Option.bind_eq_bind, Option.bind_some]
  rw [h2]
  exact h3
theorem kgs1 {f : D → Env' → Option Env'} {g : List D → Env' → Option Env'} {d : D} {ds : List D} {P : Env' → Prop} (h : ∃ ev1, f d ev = some ev1 ∧ ∃ ev2, g ds ev1 = some ev2 ∧ P ev2) : ∃ ev2, gs1 f g (d :: ds) ev = some ev2 ∧ P ev2 := by
  obtain ⟨ev1, h1, ev2, h2, h3⟩ := h
  refine ⟨ev2, ?_, h3⟩
  show (f d ev).bind (g ds) = _
  rw [h1]
  exact h2
theorem kgT {n : Nat} {g : List D → Env' → Option Env'} {ds : List D} {P : Env' → Prop} (hn : ds.length = n) (h : ∃ ev2, g ds ev = some ev2 ∧ P ev2) : ∃ ev2, gTn n g (.tup ds) ev = some ev2 ∧ P ev2 := by
  obtain ⟨ev2, h1, h2⟩ := h
  refine ⟨ev2, ?_, h2⟩
  unfold gTn
  simp only [hn, if_true]
  exact h1
theorem kgs1A {f : D → Env' → Option Env'} {g : List D → Env' → Option Env'} {d : D} {ds : List D} {t : Option B} {P : Env' → B → Prop} (h : ∀ v, t = some v → ∃ ev1, f d ev = some ev1 ∧ ∃ ev2, g ds ev1 = some ev2 ∧ P ev2 v) : ∀ v, t = some v → ∃ ev2, gs1 f g (d :: ds) ev = some ev2 ∧ P ev2 v := fun v e => kgs1 (h v e)
theorem kgTA {n : Nat} {g : List D → Env' → Option Env'} {ds : List D} {t : Option B} {P : Env' → B → Prop} (hn : ds.length = n) (h : ∀ v, t = some v → ∃ ev2, g ds ev = some ev2 ∧ P ev2 v) : ∀ v, t = some v → ∃ ev2, gTn n g (.tup ds) ev = some ev2 ∧ P ev2 v := fun v e => kgT hn (h v e)
theorem kS {i : Nat} {mj : Env' → Option D} {tj : Option Int} {xs : List α} {x : α} {k : List α → Option B} {P : Env' → B → Prop} (ho : ownAt ev i = some (xs.map Enc.e)) (hm : mayOwn ev i = true) (hj : SV ev mj tj) (hk : ∀ ys v, k ys = some v → P (setOwn ev i (ys.map Enc.e)) v) : ∀ v, (tj.bind fun j => (tset xs j x).bind k) = some v → ∃ ev2, gS i mj (Enc.e x) ev = some ev2 ∧ P ev2 v := fun v e => by
  obtain ⟨j, h1, h2⟩ := bs e
  obtain ⟨ys, h3, h4⟩ := bs h2
  unfold tset at h3
  obtain ⟨a, h5, rfl⟩ := Option.map_eq_some_iff.1 h3
  refine ⟨_, ?_, hk _ v h4⟩
  unfold gS
  rw [ho, hj j h1]
  show (match L2.ixN (xs.map Enc.e).length j with
    | some a => if mayOwn ev i = true then some (setOwn ev i ((xs.map Enc.e).set a (Enc.e x))) else none
    | none => none) = _
  rw [List.length_map, h5]
  simp only [hm, if_true]
  rw [List.map_set]
theorem kAll {i : Nat} {xs ys : List α} {k : List α → Option B} {P : Env' → B → Prop} (ho : ownAt ev i = some (xs.map Enc.e)) (hm : mayOwn ev i = true) (hk : ∀ ys v, k ys = some v → P (setOwn ev i (ys.map Enc.e)) v) : ∀ v, (tall xs ys).bind k = some v → ∃ ev2, gAll i (Enc.e ys) ev = some ev2 ∧ P ev2 v := fun v e => by
  obtain ⟨zs, h1, h2⟩ := bs e
  unfold tall at h1
  split at h1
  · next q =>
    cases h1
    refine ⟨_, ?_, hk _ v h2⟩
    show (match D.lst (ys.map Enc.e), ownAt ev i with
      | .lst ys, some g => if g.length + ys.length ≤ 1000000 ∧ mayOwn ev i = true then some (setOwn ev i ys) else none
      | _, _ => none) = _
    rw [ho]
    simp only [List.length_map, hm, and_true, q, if_true]
  · cases h1
def tun2 {α B : Type} (xs : List α) (k : α → α → Option B) : Option B := match xs with
  | [a, b] => k a b
  | _ => none
def tun3 {α B : Type} (xs : List α) (k : α → α → α → Option B) : Option B := match xs with
  | [a, b, c] => k a b c
  | _ => none
theorem kun2 {xs : List α} {g : List D → Env' → Option Env'} {k : α → α → Option B} {P : Env' → B → Prop} (h : ∀ a b v, k a b = some v → ∃ ev2, g [Enc.e a, Enc.e b] ev = some ev2 ∧ P ev2 v) : ∀ v, tun2 xs k = some v → ∃ ev2, gLs 2 g (Enc.e xs) ev = some ev2 ∧ P ev2 v := fun v e => by
  unfold tun2 at e
  split at e
  · exact h _ _ v e
  · cases e
theorem kun3 {xs : List α} {g : List D → Env' → Option Env'} {k : α → α → α → Option B} {P : Env' → B → Prop} (h : ∀ a b c v, k a b c = some v → ∃ ev2, g [Enc.e a, Enc.e b, Enc.e c] ev = some ev2 ∧ P ev2 v) : ∀ v, tun3 xs k = some v → ∃ ev2, gLs 3 g (Enc.e xs) ev = some ev2 ∧ P ev2 v := fun v e => by
  unfold tun3 at e
  split at e
  · exact h _ _ _ v e
  · cases e
/-! several targets -/
theorem se_emN {t : Option B} {P : List MR → Env' → B → Prop} (h : ∀ v, t = some v → P [] ev v) : SE ev emN t P := fun v e => ⟨_, _, rfl, h v e⟩
theorem se_emV {m : Env' → Option (D × Env')} {n : Env' → Option (List MR × Env')} {t : Option B} {P : List MR → Env' → B → Prop} (h : SE ev m t fun d ev1 v => ∃ rs ev2, n ev1 = some (rs, ev2) ∧ P (.val d :: rs) ev2 v) : SE ev (emV m n) t P := fun v e => by
  obtain ⟨d, ev1, h1, rs, ev2, h2, h3⟩ := h v e
  refine ⟨_, _, ?_, h3⟩
  unfold emV
  rw [h1]
  simp only [Option.bind_eq_bind, Option.bind_some]
  rw [h2]
  rfl
theorem se_emO {m : Env' → Option (List D)} {n : Env' → Option (List MR × Env')} {t : Option (List α)} {k : List α → Option B} {P : List MR → Env' → B → Prop} (h : SL ev m t) (hk : ∀ a, SE ev n (k a) fun rs ev2 v => P (.own (a.map Enc.e) :: rs) ev2 v) : SE ev (emO m n) (t.bind k) P := fun v e => by
  obtain ⟨a, h1, h2⟩ := bs e
  obtain ⟨rs, ev2, h3, h4⟩ := hk a v h2
  refine ⟨_, _, ?_, h4⟩
  unfold emO
  rw [h a h1]
  simp only [Option.bind_eq_bind, Option.bind_some]
  rw [h3]
  rfl
theorem st_mul {is : List Nat} {me : Env' → Option (List MR × Env')} {n : SM} {t : Option B} (h : SE ev me t fun rs ev1 v => (rs.length = is.length ∧ is.all (fun i => decide (i < ev1.length)) = true) ∧ ∃ fl ev2, n (putMR ev1 is rs) = some (fl, ev2) ∧ Φ v fl ev2) : ST ev (sseq (smul is me) n) t Φ := fun v e => by
  obtain ⟨rs, ev1, h1, ⟨h2, h3⟩, fl, ev2, h4, h5⟩ := h v e
  refine ⟨fl, ev2, ?_, h5⟩
  unfold sseq smul
  rw [h1]
  simp only [Option.bind_eq_bind, Option.bind_some, h2, h3, and_self, if_true]
  exact h4
/-! choices -/
theorem st_if {c : Env' → Option (Bool × Env')} {m n : SM} {t : Option B} (h : SE ev c t fun b ev1 v => ∃ fl ev2, (if b = true then m ev1 else n ev1) = some (fl, ev2) ∧ Φ v fl ev2) : ST ev (sif c m n) t Φ := fun v e => by
  obtain ⟨b, ev1, h1, fl, ev2, h2, h3⟩ := h v e
  refine ⟨fl, ev2, ?_, h3⟩
  unfold sif
  rw [h1]
  exact h2
theorem kif {m n : SM} {b : Bool} {t u : Option B} (h : ST ev m t Φ) (g : ST ev n u Φ) : ∀ v, (if b = true then t else u) = some v → ∃ fl ev2, (if b = true then m ev else n ev) = some (fl, ev2) ∧ Φ v fl ev2 := fun v e => by
  cases b with
  | true => exact h v e
  | false => exact g v e
/-- the first way leaves -/
theorem st_ifr {c : Env' → Option (Bool × Env')} {m n r : SM} {t : Option B} (h : SE ev c t fun b ev1 v => if b = true then (∃ fl ev2, m ev1 = some (fl, ev2) ∧ fl ≠ .nx ∧ Φ v fl ev2) else ∃ fl ev2, sseq n r ev1 = some (fl, ev2) ∧ Φ v fl ev2) : ST ev (sseq (sif c m n) r) t Φ := fun v e => by
  obtain ⟨b, ev1, h1, h2⟩ := h v e
  cases b with
  | true =>
    obtain ⟨fl, ev2, h3, h4, h5⟩ := h2
    refine ⟨fl, ev2, ?_, h5⟩
    unfold sseq sif
    rw [h1]
    simp only [Option.bind_eq_bind, Option.bind_some, if_true]
    rw [h3]
    cases fl with
    | nx => exact absurd rfl h4
    | bk => rfl
    | ct => rfl
    | ret _ => rfl
  | false =>
    obtain ⟨fl, ev2, h3, h4⟩ := h2
    refine ⟨fl, ev2, ?_, h4⟩
    rw [← h3]
    unfold sseq sif
    rw [h1]
    rfl
theorem kifr {m n r : SM} {b : Bool} {t u : Option B} (h : ST ev m t fun v fl ev2 => fl ≠ .nx ∧ Φ v fl ev2) (g : ST ev (sseq n r) u Φ) : ∀ v, (if b = true then t else u) = some v → (if b = true then (∃ fl ev2, m ev = some (fl, ev2) ∧ fl ≠ .nx ∧ Φ v fl ev2) else ∃ fl ev2, sseq n r ev = some (fl, ev2) ∧ Φ v fl ev2) := fun v e => by
  cases b with
  | true => exact h v e
  | false => exact g v e
theorem st_snx {n : SM} {t : Option B} (h : ST ev n t Φ) : ST ev (sseq snx n) t Φ := h
theorem st_last {m : SM} {t : Option B} (h : ST ev (sseq m snx) t Φ) : ST ev m t Φ := fun v e => by
  obtain ⟨fl, ev2, h1, h2⟩ := h v e
  refine ⟨fl, ev2, ?_, h2⟩
  unfold sseq at h1
  split at h1
  · next q => rw [q]; exact h1
  · next q => rw [q]; exact h1
  · next q => rw [q]; exact h1
  · next q => rw [q]; exact h1
  · cases h1
theorem st_end {b : B} (h : Φ b .nx ev) : ST ev snx (some b) Φ := fun v e => by cases e; exact ⟨_, _, rfl, h⟩
theorem st_bk {b : B} (h : Φ b .bk ev) : ST ev sbk (some b) Φ := fun v e => by cases e; exact ⟨_, _, rfl, h⟩
theorem st_ct {b : B} (h : Φ b .ct ev) : ST ev sct (some b) Φ := fun v e => by cases e; exact ⟨_, _, rfl, h⟩
theorem st_never : ST ev snever (none : Option B) Φ := fun v e => by cases e
theorem st_bind {m n : SM} {t : Option A} {k : A → Option B} (Inv : A → Env' → Prop) (h : ST ev m t fun s fl ev' => fl = .nx ∧ Inv s ev') (hk : ∀ s ev', Inv s ev' → ST ev' n (k s) Φ) : ST ev (sseq m n) (t.bind k) Φ := fun v e => by
  obtain ⟨s, h1, h2⟩ := bs e
  obtain ⟨fl, ev', h3, h4, h5⟩ := h s h1
  subst h4
  obtain ⟨fl, ev2, h6, h7⟩ := hk s ev' h5 v h2
  refine ⟨fl, ev2, ?_, h7⟩
  unfold sseq
  rw [h3]
  exact h6
/-- with control -/
def PC (Inv : σ → Env' → Prop) (R : ρ → Fl → Env' → Prop) (c : Ctl ρ σ) (fl : Fl) (ev : Env') : Prop := match c with
  | .nx s => (fl = .nx ∨ fl = .ct) ∧ Inv s ev
  | .bk s => fl = .bk ∧ Inv s ev
  | .ret r => (∃ x, fl = .ret x) ∧ R r fl ev
def PN (Inv : σ → Env' → Prop) (R : ρ → Fl → Env' → Prop) (c : Ctl ρ σ) (fl : Fl) (ev : Env') : Prop := match c with
  | .nx s => fl = .nx ∧ Inv s ev
  | .bk _ => False
  | .ret r => (∃ x, fl = .ret x) ∧ R r fl ev
theorem st_bindC {m n : SM} {t : Option (Ctl ρ σ)} {k : σ → Option B} {kr : ρ → Option B} (Inv : σ → Env' → Prop) (R : ρ → Fl → Env' → Prop) (h : ST ev m t (PN Inv R)) (hk : ∀ s ev', Inv s ev' → ST ev' n (k s) Φ) (hr : ∀ r fl ev' v, R r fl ev' → (∃ x, fl = .ret x) → kr r = some v → Φ v fl ev') : ST ev (sseq m n) (t.bind (Ctl.cont kr k)) Φ := fun v e => by
  obtain ⟨c, h1, h2⟩ := bs e
  obtain ⟨fl, ev', h3, h4⟩ := h c h1
  cases c with
  | nx s =>
    obtain ⟨h5, h6⟩ := h4
    subst h5
    obtain ⟨fl, ev2, h6, h7⟩ := hk s ev' h6 v h2
    refine ⟨fl, ev2, ?_, h7⟩
    unfold sseq
    rw [h3]
    exact h6
  | bk s => exact h4.elim
  | ret r =>
    obtain ⟨⟨x, h5⟩, h6⟩ := h4
    subst h5
    refine ⟨_, ev', ?_, hr r _ ev' v h6 ⟨x, rfl⟩ h2⟩
    unfold sseq
    rw [h3]
/-! returns -/
theorem st_ret {me : Env' → Option D} {t : Option α} {k : α → Option B} (h : SV ev me t) (hΦ : ∀ a v, k a = some v → Φ v (.ret (.val (Enc.e a))) ev) : ST ev (sret me) (t.bind k) Φ := fun v e => by
  obtain ⟨a, h1, h2⟩ := bs e
  refine ⟨_, _, ?_, hΦ a v h2⟩
  unfold sret
  rw [h a h1]
  rfl
theorem st_retO {me : Env' → Option (List D)} {t : Option (List α)} {k : List α → Option B} (h : SL ev me t) (hΦ : ∀ a v, k a = some v → Φ v (.ret (.own (a.map Enc.e))) ev) : ST ev (sretO me) (t.bind k) Φ := fun v e => by
  obtain ⟨a, h1, h2⟩ := bs e
  refine ⟨_, _, ?_, hΦ a v h2⟩
  unfold sretO
  rw [h a h1]
  rfl
theorem st_retV {i : Nat} {xs : List D} {t : Option B} (h : ev[i]? = some (.own xs)) (hΦ : ∀ v, t = some v → Φ v (.ret (.own xs)) ev) : ST ev (sretV i) t Φ := fun v e => by
  refine ⟨_, _, ?_, hΦ v e⟩
  unfold sretV
  rw [h]
theorem st_retF {me : Env' → Option (D × Env')} {t : Option B} (h : SE ev me t fun d ev1 v => Φ v (.ret (.val d)) ev1) : ST ev (sretF me) t Φ := fun v e => by
  obtain ⟨d, ev1, h1, h2⟩ := h v e
  refine ⟨_, _, ?_, h2⟩
  unfold sretF
  rw [h1]
  rfl
/-! lists that grow -/
theorem st_app {i : Nat} {me : Env' → Option D} {n : SM} {xs : List α} {t : Option α} {k : List α → Option B} (ho : ownAt ev i = some (xs.map Enc.e)) (hm : mayOwn ev i = true) (h : SV ev me t) (hk : ∀ ys, ST (setOwn ev i (ys.map Enc.e)) n (k ys) Φ) : ST ev (sseq (sapp i me) n) (t.bind fun x => (tapp xs x).bind k) Φ := fun v e => by
  obtain ⟨x, h1, h2⟩ := bs e
  obtain ⟨ys, h3, h4⟩ := bs h2
  unfold tapp at h3
  split at h3
  · next q =>
    cases h3
    obtain ⟨fl, ev2, h5, h6⟩ := hk _ v h4
    refine ⟨fl, ev2, ?_, h6⟩
    unfold sseq sapp
    rw [ho, h x h1]
    simp only [List.length_map, q, hm, and_self, if_true]
    rw [List.map_append] at h5
    exact h5
  · cases h3
theorem st_appN {mo : Env' → Option (List D)} {me : Env' → Option D} {n : SM} {to : Option (List α)} {t : Option β} {b : Option B} (ho : SL ev mo to) (h : SV ev me t) (hk : ST ev n b Φ) : ST ev (sseq (sappN mo me) n) (to.bind fun xs => t.bind fun _ => if xs.length ≤ 1000000 then b else none) Φ := fun v e => by
  obtain ⟨xs, h1, h2⟩ := bs e
  obtain ⟨y, h3, h4⟩ := bs h2
  split at h4
  · next q =>
    obtain ⟨fl, ev2, h5, h6⟩ := hk v h4
    refine ⟨fl, ev2, ?_, h6⟩
    unfold sseq sappN
    rw [ho xs h1]
    simp only [Option.bind_eq_bind, Option.bind_some]
    rw [h y h3]
    simp only [Option.bind_some, List.length_map, q, if_true]
    exact h5
  · cases h4
theorem st_drop {me : Env' → Option (D × Env')} {n : SM} {t : Option B} (h : SE ev me t fun _ ev1 v => ∃ fl ev2, n ev1 = some (fl, ev2) ∧ Φ v fl ev2) : ST ev (sseq (sdrop me) n) t Φ := fun v e => by
  obtain ⟨d, ev1, h1, fl, ev2, h2, h3⟩ := h v e
  refine ⟨fl, ev2, ?_, h3⟩
  unfold sseq sdrop
  rw [h1]
  exact h2
theorem se_pop {i : Nat} {xs : List α} {k : α × List α → Option B} {P : D → Env' → B → Prop} (ho : ownAt ev i = some (xs.map Enc.e)) (hm : mayOwn ev i = true) (hk : ∀ r v, k r = some v → P (Enc.e r.1) (setOwn ev i (r.2.map Enc.e)) v) : SE ev (xpop i) ((tpop xs).bind k) P := fun v e => by
  obtain ⟨r, h1, h2⟩ := bs e
  unfold tpop at h1
  obtain ⟨x, h3, rfl⟩ := Option.map_eq_some_iff.1 h1
  refine ⟨_, _, ?_, hk _ v h2⟩
  unfold xpop
  rw [ho]
  simp only [List.length_map, List.getElem?_map, h3, Option.map_some, hm, if_true, List.map_dropLast]
/-! loops -/
theorem k_for {g : D → Env' → Option Env'} {b : SM} {f : α → σ → Option σ} (Inv : σ → Env' → Prop) (hb : ∀ x s ev, Inv s ev → ∃ ev0, g (Enc.e x) ev = some ev0 ∧ ST ev0 b (f x s) fun s' fl ev' => fl = .nx ∧ Inv s' ev') : ∀ (xs : List α) (s : σ) (ev : Env') (s' : σ), Inv s ev → forT f xs s = some s' → ∃ fl ev', forGo g b (xs.map Enc.e) ev = some (fl, ev') ∧ fl = .nx ∧ Inv s' ev'
  | [], s, ev, s', hi, h => by cases h; exact ⟨_, _, rfl, rfl, hi⟩
  | x :: xs, s, ev, s', hi, h => by
    unfold forT at h
    obtain ⟨s1, h1, h2⟩ := bs h
    obtain ⟨ev0, h3, h4⟩ := hb x s ev hi
    obtain ⟨fl, ev1, h5, h6, h7⟩ := h4 s1 h1
    subst h6
    obtain ⟨fl, ev', h8, h9⟩ := k_for Inv hb xs s1 ev1 s' h7 h2
    refine ⟨fl, ev', ?_, h9⟩
    rw [List.map_cons]
    unfold forGo
    rw [h3]
    simp only [h5]
    exact h8
theorem k_forC {g : D → Env' → Option Env'} {b : SM} {f : α → σ → Option (Ctl ρ σ)} (Inv : σ → Env' → Prop) (R : ρ → Fl → Env' → Prop) (hb : ∀ x s ev, Inv s ev → ∃ ev0, g (Enc.e x) ev = some ev0 ∧ ST ev0 b (f x s) (PC Inv R)) : ∀ (xs : List α) (s : σ) (ev : Env') (c : Ctl ρ σ), Inv s ev → forC f xs s = some c → ∃ fl ev', forGo g b (xs.map Enc.e) ev = some (fl, ev') ∧ PN Inv R c fl ev'
  | [], s, ev, c, hi, h => by cases h; exact ⟨_, _, rfl, rfl, hi⟩
  | x :: xs, s, ev, c, hi, h => by
    unfold forC at h
    obtain ⟨c1, h1, h2⟩ := bs h
    obtain ⟨ev0, h3, h4⟩ := hb x s ev hi
    obtain ⟨fl, ev1, h5, h6⟩ := h4 c1 h1
    rw [List.map_cons]
    unfold forGo
    rw [h3]
    simp only [h5]
    cases c1 with
    | nx s1 =>
      obtain ⟨h7, h8⟩ := h6
      obtain ⟨fl', ev', h9, h10⟩ := k_forC Inv R hb xs s1 ev1 c h8 h2
      refine ⟨fl', ev', ?_, h10⟩
      rcases h7 with rfl | rfl
      · exact h9
      · exact h9
    | bk s1 =>
      obtain ⟨h7, h8⟩ := h6
      subst h7
      cases h2
      exact ⟨_, _, rfl, rfl, h8⟩
    | ret r =>
      obtain ⟨⟨x, h7⟩, h8⟩ := h6
      subst h7
      cases h2
      exact ⟨_, _, rfl, ⟨x, rfl⟩, h8⟩
theorem k_forA {g : D → Env' → Option Env'} {b : SM} {f : α → σ → Option σ} (Inv : σ → Env' → Prop) (hb : ∀ x s ev, Inv s ev → ∃ ev0, g (Enc.e x) ev = some ev0 ∧ ST ev0 b (f x s) fun s' fl ev' => fl = .nx ∧ Inv s' ev') {xs : List α} {s : σ} (hi : Inv s ev) : ∀ v, forT f xs s = some v → ∃ fl ev', forGo g b (xs.map Enc.e) ev = some (fl, ev') ∧ fl = .nx ∧ Inv v ev' := fun v e => k_for Inv hb xs s ev v hi e
theorem k_forCA {g : D → Env' → Option Env'} {b : SM} {f : α → σ → Option (Ctl ρ σ)} (Inv : σ → Env' → Prop) (R : ρ → Fl → Env' → Prop) (hb : ∀ x s ev, Inv s ev → ∃ ev0, g (Enc.e x) ev = some ev0 ∧ ST ev0 b (f x s) (PC Inv R)) {xs : List α} {s : σ} (hi : Inv s ev) : ∀ v, forC f xs s = some v → ∃ fl ev', forGo g b (xs.map Enc.e) ev = some (fl, ev') ∧ PN Inv R v fl ev' := fun v e => k_forC Inv R hb xs s ev v hi e
theorem st_for {mi : Env' → Option (List D × Env')} {g : D → Env' → Option Env'} {b : SM} {t : Option B} (h : SE ev mi t fun ds ev1 v => ∃ fl ev2, forGo g b ds ev1 = some (fl, ev2) ∧ Φ v fl ev2) : ST ev (sfor mi g b) t Φ := fun v e => by
  obtain ⟨ds, ev1, h1, fl, ev2, h2, h3⟩ := h v e
  refine ⟨fl, ev2, ?_, h3⟩
  unfold sfor
  rw [h1]
  exact h2
theorem k_wh {mc : Env' → Option Bool} {b : SM} {c : σ → Option Bool} {f : σ → Option σ} (Inv : σ → Env' → Prop) (hc : ∀ s ev, Inv s ev → SB ev mc (c s)) (hb : ∀ s ev, Inv s ev → ST ev b (f s) fun s' fl ev' => fl = .nx ∧ Inv s' ev') : ∀ (n : Nat) (s : σ) (ev : Env') (s' : σ), Inv s ev → whT c f n s = some s' → ∃ fl ev', whileGo mc b n ev = some (fl, ev') ∧ fl = .nx ∧ Inv s' ev'
  | 0, s, ev, s', hi, h => by cases h
  | n + 1, s, ev, s', hi, h => by
    unfold whT at h
    obtain ⟨z, h1, h2⟩ := bs h
    unfold whileGo
    rw [hc s ev hi z h1]
    cases z with
    | true =>
      simp only [if_true] at h2
      obtain ⟨s1, h3, h4⟩ := bs h2
      obtain ⟨fl, ev1, h5, h6, h7⟩ := hb s ev hi s1 h3
      subst h6
      simp only [h5]
      exact k_wh Inv hc hb n s1 ev1 s' h7 h4
    | false =>
      simp only [Bool.false_eq_true, if_false] at h2
      cases h2
      exact ⟨_, _, rfl, rfl, hi⟩
theorem st_wh {mc : Env' → Option Bool} {b : SM} {c : σ → Option Bool} {f : σ → Option σ} (Inv : σ → Env' → Prop) {s : σ} (hi : Inv s ev) (hc : ∀ s ev, Inv s ev → SB ev mc (c s)) (hb : ∀ s ev, Inv s ev → ST ev b (f s) fun s' fl ev' => fl = .nx ∧ Inv s' ev') : ST ev (swhile mc b) (whT c f FUEL s) fun s' fl ev' => fl = .nx ∧ Inv s' ev' := fun v e => by
  unfold swhile
  exact k_wh Inv hc hb FUEL s ev v hi e
theorem k_whC {mc : Env' → Option Bool} {b : SM} {c : σ → Option Bool} {f : σ → Option (Ctl ρ σ)} (Inv : σ → Env' → Prop) (R : ρ → Fl → Env' → Prop) (hc : ∀ s ev, Inv s ev → SB ev mc (c s)) (hb : ∀ s ev, Inv s ev → ST ev b (f s) (PC Inv R)) : ∀ (n : Nat) (s : σ) (ev : Env') (z : Ctl ρ σ), Inv s ev → whC c f n s = some z → ∃ fl ev', whileGo mc b n ev = some (fl, ev') ∧ PN Inv R z fl ev'
  | 0, s, ev, z, hi, h => by cases h
  | n + 1, s, ev, z, hi, h => by
    unfold whC at h
    obtain ⟨y, h1, h2⟩ := bs h
    unfold whileGo
    rw [hc s ev hi y h1]
    cases y with
    | true =>
      simp only [if_true] at h2
      obtain ⟨c1, h3, h4⟩ := bs h2
      obtain ⟨fl, ev1, h5, h6⟩ := hb s ev hi c1 h3
      simp only [h5]
      cases c1 with
      | nx s1 =>
        obtain ⟨h7, h8⟩ := h6
        rcases h7 with rfl | rfl
        · exact k_whC Inv R hc hb n s1 ev1 z h8 h4
        · exact k_whC Inv R hc hb n s1 ev1 z h8 h4
      | bk s1 =>
        obtain ⟨h7, h8⟩ := h6
        subst h7
        cases h4
        exact ⟨_, _, rfl, rfl, h8⟩
      | ret r =>
        obtain ⟨⟨x, h7⟩, h8⟩ := h6
        subst h7
        cases h4
        exact ⟨_, _, rfl, ⟨x, rfl⟩, h8⟩
    | false =>
      simp only [Bool.false_eq_true, if_false] at h2
      cases h2
      exact ⟨_, _, rfl, rfl, hi⟩
theorem st_whC {mc : Env' → Option Bool} {b : SM} {c : σ → Option Bool} {f : σ → Option (Ctl ρ σ)} (Inv : σ → Env' → Prop) (R : ρ → Fl → Env' → Prop) {s : σ} (hi : Inv s ev) (hc : ∀ s ev, Inv s ev → SB ev mc (c s)) (hb : ∀ s ev, Inv s ev → ST ev b (f s) (PC Inv R)) : ST ev (swhile mc b) (whC c f FUEL s) (PN Inv R) := fun v e => by
  unfold swhile
  exact k_whC Inv R hc hb FUEL s ev v hi e
/-! defs -/
def RP (r : α) (fl : Fl) : Prop := match fl with
  | .ret (.val d) => d = Enc.e r
  | .ret (.own xs) => D.lst xs = Enc.e r
  | .nx => D.non = Enc.e r
  | _ => False
theorem p_def {np n : Nat} {mb : SM} {ds : List D} {t : Option α} (hd : ds.length = np) (h : ST (start' np n ds) mb t fun r fl _ => RP r fl) : ∀ v, t = some v → pdef np n mb ds = some (Enc.e v) := fun v e => by
  obtain ⟨fl, ev', h1, h2⟩ := h v e
  unfold pdef
  rw [if_pos hd, h1]
  unfold RP at h2
  split at h2
  · rw [h2]; rfl
  · rw [← h2]; rfl
  · rw [← h2]; rfl
  · exact h2.elim
theorem o_def {np n : Nat} {mb : SM} {ds : List D} {t : Option (List α)} (hd : ds.length = np) (h : ST (start' np n ds) mb t fun r fl _ => fl = .ret (.own (r.map Enc.e))) : ∀ v, t = some v → odef np n mb ds = some (v.map Enc.e) := fun v e => by
  obtain ⟨fl, ev', h1, h2⟩ := h v e
  unfold odef
  rw [if_pos hd, h1]
  subst h2
  rfl
def RF (r : α × List γ) (fl : Fl) (ev : Env') : Prop := (fl = .ret (.val (Enc.e r.1)) ∨ fl = .nx ∧ D.non = Enc.e r.1) ∧ ev[0]? = some (.par (r.2.map Enc.e))
theorem f_def {np n : Nat} {mb : SM} {g : List γ} {ds : List D} {t : Option (α × List γ)} (hd : ds.length + 1 = np) (h : ST (.par (g.map Enc.e) :: start' (np - 1) (n - 1) ds) mb t RF) : ∀ v, t = some v → fdef np n mb (g.map Enc.e) ds = some (Enc.e v.1, v.2.map Enc.e) := fun v e => by
  obtain ⟨fl, ev', h1, h2, h3⟩ := h v e
  unfold fdef
  rw [if_pos hd, h1]
  rcases h2 with rfl | ⟨rfl, h2⟩
  · unfold outF
    simp only []
    rw [h3]
  · unfold outF
    simp only []
    rw [h3, h2]
end
end Ty

namespace Ty
open PySem Lay
section
variable {ev : Env'} {α β γ δ : Type} [Enc α] [Enc β] [Enc γ] [Enc δ] {m : Env' → Option D}
theorem sv_t2a {t : Option (T2 α β)} (h : SV ev m t) : SV ev (m2 D.ix m (xc (.int 0))) (t.bind fun p => some p.a) := fun v e => by
  obtain ⟨a, h1, h2⟩ := bs e
  cases h2
  unfold m2
  rw [h a h1]
  rfl
theorem sv_t2b {t : Option (T2 α β)} (h : SV ev m t) : SV ev (m2 D.ix m (xc (.int 1))) (t.bind fun p => some p.b) := fun v e => by
  obtain ⟨a, h1, h2⟩ := bs e
  cases h2
  unfold m2
  rw [h a h1]
  rfl
theorem sv_t3a {t : Option (T3 α β γ)} (h : SV ev m t) : SV ev (m2 D.ix m (xc (.int 0))) (t.bind fun p => some p.a) := fun v e => by
  obtain ⟨a, h1, h2⟩ := bs e
  cases h2
  unfold m2
  rw [h a h1]
  rfl
theorem sv_t3b {t : Option (T3 α β γ)} (h : SV ev m t) : SV ev (m2 D.ix m (xc (.int 1))) (t.bind fun p => some p.b) := fun v e => by
  obtain ⟨a, h1, h2⟩ := bs e
  cases h2
  unfold m2
  rw [h a h1]
  rfl
theorem sv_t3c {t : Option (T3 α β γ)} (h : SV ev m t) : SV ev (m2 D.ix m (xc (.int 2))) (t.bind fun p => some p.c) := fun v e => by
  obtain ⟨a, h1, h2⟩ := bs e
  cases h2
  unfold m2
  rw [h a h1]
  rfl
theorem sv_t4a {t : Option (T4 α β γ δ)} (h : SV ev m t) : SV ev (m2 D.ix m (xc (.int 0))) (t.bind fun p => some p.a) := fun v e => by
  obtain ⟨a, h1, h2⟩ := bs e
  cases h2
  unfold m2
  rw [h a h1]
  rfl
theorem sv_t4b {t : Option (T4 α β γ δ)} (h : SV ev m t) : SV ev (m2 D.ix m (xc (.int 1))) (t.bind fun p => some p.b) := fun v e => by
  obtain ⟨a, h1, h2⟩ := bs e
  cases h2
  unfold m2
  rw [h a h1]
  rfl
theorem sv_t4c {t : Option (T4 α β γ δ)} (h : SV ev m t) : SV ev (m2 D.ix m (xc (.int 2))) (t.bind fun p => some p.c) := fun v e => by
  obtain ⟨a, h1, h2⟩ := bs e
  cases h2
  unfold m2
  rw [h a h1]
  rfl
theorem sv_t4d {t : Option (T4 α β γ δ)} (h : SV ev m t) : SV ev (m2 D.ix m (xc (.int 3))) (t.bind fun p => some p.d) := fun v e => by
  obtain ⟨a, h1, h2⟩ := bs e
  cases h2
  unfold m2
  rw [h a h1]
  rfl
theorem op_fld1 (k : Kd) (v : Str) (h : some k.nm = some v) : D.fld "Kind" "_name" (Enc.e k) = some (Enc.e v) := by cases h; rfl
theorem op_fld2 (k : Kd) (v : Int) (h : some k.n = some v) : D.fld "Kind" "_size" (Enc.e k) = some (Enc.e v) := by cases h; rfl
def tadds (a b : Str) : Option Str := if a.length + b.length ≤ 1000000 then some (a ++ b) else none
theorem op_adds (a b : Str) (v : Str) (h : tadds a b = some v) : D.add (Enc.e a) (Enc.e b) = some (Enc.e v) := by
  unfold tadds at h
  show (if a.length + b.length ≤ 1000000 then some (D.str (a ++ b)) else none) = _
  split at h
  · next q => cases h; rw [if_pos q]; rfl
  · cases h
theorem op_eqO {m : List D → Option D} {f : Kd → β → Option Bool} (h : ∀ a b v, f a b = some v → m [Enc.e a, Enc.e b] = some (Enc.e v)) (hr : ∀ b : β, rightOk "Kind" (Enc.e b) = true := by intro _; rfl) (a : Kd) (b : β) (v : Bool) (e : f a b = some v) : D.eqO "Kind" m (Enc.e a) (Enc.e b) = some v := by
  unfold D.eqO
  rw [if_pos ⟨rfl, hr b⟩, h a b v e]
  rfl
def tbnd (s : Str) : Option Bool := D.bnot (.str s)
theorem sb_bnot {t : Option Str} (h : SV ev m t) : SB ev (tbnot m) (t.bind fun a => tbnd a) := fun v e => by
  obtain ⟨a, h1, h2⟩ := bs e
  unfold tbnot
  rw [h a h1]
  exact h2
def tbix (s : Str) (i : Int) : Option Int := match D.bix (.str s) (.int i) with
  | some (.int j) => some j
  | _ => none
theorem op_bix (a : Str) (b : Int) (v : Int) (h : tbix a b = some v) : D.bix (Enc.e a) (Enc.e b) = some (Enc.e v) := by
  unfold tbix at h
  split at h
  · next q => cases h; exact q
  · cases h
theorem init_def {name : Str} {size : Int} {mc : Env' → Option Bool} {me : Env' → Option D} {tc : Option Bool} {te : Option α} (hc : SB [.emp, .val (Enc.e name), .val (Enc.e size)] mc tc) (he : SV [.emp, .val (Enc.e name), .val (Enc.e size)] me te) : ∀ v, (tc.bind fun b => if b = true then none else te.bind fun _ => some (Kd.mk name size)) = some v → initM "Kind" "_name" "_size" mc me [Enc.e name, Enc.e size] = some (Enc.e v) := fun v e => by
  obtain ⟨b, h1, h2⟩ := bs e
  cases b with
  | true => cases h2
  | false =>
    simp only [Bool.false_eq_true, if_false] at h2
    obtain ⟨a, h3, h4⟩ := bs h2
    cases h4
    have q1 := hc false h1
    have q2 := he a h3
    unfold initM
    simp only []
    rw [if_pos]
    · rfl
    · exact ⟨q1, by
        show (me [.emp, .val (Enc.e name), .val (Enc.e size)]).isSome = true
        rw [q2]; rfl⟩
theorem map_some (xs : List α) : (xs.map some).map Enc.e = xs.map (Enc.e : α → D) := by
  rw [List.map_map]
  rfl
theorem st_appO {B : Type} {Φ : B → Fl → Env' → Prop} {i : Nat} {n : SM} {xs : List α} {t : Option Unit} {k : List (Option α) → Option B} (ho : ownAt ev i = some (xs.map Enc.e)) (hm : mayOwn ev i = true) (h : SV ev m t) (hk : ∀ ys, ST (setOwn ev i (ys.map Enc.e)) n (k ys) Φ) : ST ev (sseq (sapp i m) n) (t.bind fun _ => (tapp (xs.map some) none).bind k) Φ := fun v e => by
  obtain ⟨x, h1, h2⟩ := bs e
  refine st_app (xs := xs.map some) (t := some none) (by rw [map_some]; exact ho) hm (fun z hz => by cases hz; rw [h x h1]; rfl) hk v h2
end
end Ty

namespace Cx
open PySem Lay
theorem mod1 (x : Int) : (x % 2147483629).natAbs < 18446744073709551616 := by omega
theorem mod2 (x : Int) : (x % 2147483587).natAbs < 18446744073709551616 := by omega
def tHash1 (a b : Int) : Int := (a * 1140671 + 27644437 * b * b + 131 * b + 19) % 2147483629
def tHash2 (a b : Int) : Int := (tHash1 a b * tHash1 a b + 62089 * b + 32416187) % 2147483587
def tHash (a b : Int) : Int := tHash2 a b * 48271 % 2147483647
/-- numbers below a bound are drawn -/
def Gd (N : Int) (g : List D) : Prop := ∃ a b c : Int, g = [.int a, .int b, .int c] ∧ 0 ≤ a ∧ 0 ≤ c ∧ c ≤ N
theorem h30 : Nat.log2 30 < 9000 := by decide
theorem hr1 : List.range 1 = [0] := rfl
theorem p18 : D.pow (.int 10) (.int 18) = some (.int 1000000000000000000) := rfl
theorem p60 : D.pow (.int 10) (.int 60) = some (.int 1000000000000000000000000000000000000000000000000000000000000) := rfl
def big : Int := 10 ^ 600
theorem big_pos : 0 < big := by decide
theorem p600 : D.pow (.int 1000000000000000000000000000000000000000000000000000000000000) (.int 10) = some (.int big) := rfl
/-! kinds -/
def KOk (nm : Str) (n : Int) : Prop := (nm = "plain" ∧ 1 ≤ n ∧ n ≤ 7) ∨ (nm = "mirror" ∧ 1 ≤ n ∧ n ≤ 5) ∨ (nm = "ring" ∧ 2 ≤ n ∧ n ≤ 5)
theorem ix0 : D.index (.lst [.str "plain", .str "mirror", .str "ring"]) (.str "plain") = some (.int 0) := by rfl
theorem ix1 : D.index (.lst [.str "plain", .str "mirror", .str "ring"]) (.str "mirror") = some (.int 1) := by rfl
theorem ix2 : D.index (.lst [.str "plain", .str "mirror", .str "ring"]) (.str "ring") = some (.int 2) := by rfl
theorem q_pp : D.eq (.str "plain") (.str "plain") = some true := by rw [eq_str (by decide +kernel) (by decide +kernel)]; decide +kernel
theorem q_mp : D.eq (.str "mirror") (.str "plain") = some false := by rw [eq_str (by decide +kernel) (by decide +kernel)]; decide +kernel
theorem q_rp : D.eq (.str "ring") (.str "plain") = some false := by rw [eq_str (by decide +kernel) (by decide +kernel)]; decide +kernel
theorem q_pm : D.eq (.str "plain") (.str "mirror") = some false := by rw [eq_str (by decide +kernel) (by decide +kernel)]; decide +kernel
theorem q_mm : D.eq (.str "mirror") (.str "mirror") = some true := by rw [eq_str (by decide +kernel) (by decide +kernel)]; decide +kernel
theorem q_rm : D.eq (.str "ring") (.str "mirror") = some false := by rw [eq_str (by decide +kernel) (by decide +kernel)]; decide +kernel
theorem q_pr : D.eq (.str "plain") (.str "ring") = some false := by rw [eq_str (by decide +kernel) (by decide +kernel)]; decide +kernel
theorem q_mr : D.eq (.str "mirror") (.str "ring") = some false := by rw [eq_str (by decide +kernel) (by decide +kernel)]; decide +kernel
theorem q_rr : D.eq (.str "ring") (.str "ring") = some true := by rw [eq_str (by decide +kernel) (by decide +kernel)]; decide +kernel
def told (nm : Str) (n : Int) : D := .tup [.str nm, .int n]
/-- mirror? -/
def isM (nm : Str) : Bool := nm == "mirror"
theorem isM_p : isM "plain" = false := by decide +kernel
theorem isM_m : isM "mirror" = true := by decide +kernel
theorem isM_r : isM "ring" = false := by decide +kernel
def isP (nm : Str) : Bool := nm == "plain"
theorem isP_p : isP "plain" = true := by decide +kernel
theorem isP_m : isP "mirror" = false := by decide +kernel
theorem isP_r : isP "ring" = false := by decide +kernel
def many (nm : Str) (n : Int) : Int := if isP nm = true then n - 1 else n
def off (nm : Str) : Int := if isM nm = true then 1 else 0
def places (nm : Str) (n : Int) : List Int := rgI (off nm) (n + off nm)
def win (nm : Str) (n : Int) (f : Int → Int) : List Int := (places nm n).map f
/-- what a step does to a place -/
def tT (nm : Str) (n s p : Int) : Int :=
  if isM nm = true then (if s = 0 then (if p.natAbs = 1 then -p else p) else if (p.natAbs : Int) = s ∨ (p.natAbs : Int) = s + 1 then (if 0 < p then 2 * s + 1 - p else -(2 * s + 1 + p)) else p)
  else (if (p - s) % n = 0 then p + 1 else if (p - s) % n = 1 then p - 1 else p)
theorem absI (p : Int) : (if p < 0 then -p else p) = (p.natAbs : Int) := by split <;> omega
/-- orders as functions: odd ones, periodic ones -/
def Good (nm : Str) (n : Int) (f : Int → Int) : Prop := if isM nm = true then ∀ p, f (-p) = -f p else ∀ p, f (p + n) = f p + n
def dom (nm : Str) (n p : Int) : Prop := isM nm = true → p ≠ 0 ∧ (p.natAbs : Int) ≤ n
theorem places_len {nm : Str} {n : Int} (h : 0 ≤ n) : ((places nm n).length : Int) = n := by
  unfold places rgI
  rw [List.length_map, List.length_range]
  omega
theorem places_get {nm : Str} {n : Int} {i : Nat} (h : (i : Int) < n) : (places nm n)[i]? = some (off nm + i) := by
  unfold places rgI
  rw [List.getElem?_map, List.getElem?_range (by omega)]
  rfl
theorem win_at {nm : Str} {n i : Int} {f : Int → Int} (h0 : 0 ≤ i) (h1 : i < n) : L2.atI ((win nm n f).map D.int) i = some (.int (f (off nm + i))) := by
  have hl : ((win nm n f).map D.int).length = n.toNat := by
    have := places_len (nm := nm) (n := n) (by omega)
    unfold win
    rw [List.length_map, List.length_map]
    omega
  unfold L2.atI L2.ixN
  rw [if_pos h0, hl, if_pos (by omega)]
  show ((win nm n f).map D.int)[i.toNat]? = _
  unfold win
  rw [List.getElem?_map, List.getElem?_map, places_get (by omega)]
  show some (D.int (f (off nm + (i.toNat : Int)))) = _
  rw [Int.toNat_of_nonneg h0]
theorem per {n : Int} {f : Int → Int} (h : ∀ p, f (p + n) = f p + n) : ∀ (k p : Int), f (p + k * n) = f p + k * n := by
  have hn : ∀ (k : Nat) (p : Int), f (p + k * n) = f p + k * n := by
    intro k
    induction k with
    | zero => intro p; simp
    | succ k ih =>
      intro p
      have e : p + ((k + 1 : Nat) : Int) * n = (p + k * n) + n := by
        rw [Int.natCast_add, Int.add_mul]; simp; omega
      rw [e, h, ih]
      rw [Int.natCast_add, Int.add_mul]; simp; omega
  intro k p
  rcases Int.le_total 0 k with hk | hk
  · have := hn k.toNat p
    rw [Int.toNat_of_nonneg hk] at this
    exact this
  · have := hn (-k).toNat (p + k * n)
    rw [Int.toNat_of_nonneg (by omega)] at this
    have e : p + k * n + -k * n = p := by rw [Int.neg_mul]; omega
    rw [e] at this
    rw [Int.neg_mul] at this
    omega
theorem per_mod {n : Int} {f : Int → Int} (h : ∀ p, f (p + n) = f p + n) (p : Int) : f (p % n) + p - p % n = f p := by
  have e : p = p % n + (p / n) * n := by rw [Int.mul_comm]; exact (Int.emod_add_mul_ediv p n).symm
  have := per h (p / n) (p % n)
  rw [← e] at this
  rw [this]
  omega
theorem lcGo_ints {ev : Env'} {t : Tgt} {me : Env' → Option D} {g : Int → Int} : ∀ {ps : List Int}, (∀ p ∈ ps, ∃ ev', t.put (.int p) ev = some ev' ∧ me ev' = some (.int (g p))) → lcGo ev t tyes me (ps.map D.int) = some ((ps.map g).map D.int)
  | [], _ => rfl
  | p :: ps, h => by
    obtain ⟨ev', h1, h2⟩ := h p (by simp)
    rw [List.map_cons]
    unfold lcGo
    rw [h1]
    simp only [tyes, Option.bind_eq_bind, Option.bind_some, if_true, h2, List.map_cons]
    rw [lcGo_ints (ps := ps) fun d hd => h d (by simp [hd])]
    rfl
theorem places_mem {nm : Str} {n p : Int} (h : p ∈ places nm n) : off nm ≤ p ∧ p < n + off nm := by
  unfold places rgI at h
  obtain ⟨i, hi, rfl⟩ := List.mem_map.1 h
  rw [List.mem_range] at hi
  omega
theorem places_dom {nm : Str} {n p : Int} (h : p ∈ places nm n) : dom nm n p := by
  intro hm
  have := places_mem h
  unfold off at this
  rw [if_pos hm] at this
  omega
/-- a step of the kind -/
def StepOk (nm : Str) (n s : Int) : Prop := 0 ≤ s ∧ s < many nm n
theorem step_small {nm : Str} {n s : Int} (h : KOk nm n) (hs : StepOk nm n s) : 0 ≤ s ∧ s < 10 ∧ s < n ∧ (isM nm = false → 2 ≤ n) := by
  obtain ⟨h0, h1⟩ := hs
  unfold many at h1
  rcases h with ⟨rfl, h2, h3⟩ | ⟨rfl, h2, h3⟩ | ⟨rfl, h2, h3⟩
  · rw [isP_p] at h1
    simp at h1
    exact ⟨h0, by omega, by omega, fun _ => by omega⟩
  · rw [isP_m] at h1
    simp at h1
    exact ⟨h0, by omega, by omega, fun q => by rw [isM_m] at q; cases q⟩
  · rw [isP_r] at h1
    simp at h1
    exact ⟨h0, by omega, by omega, fun _ => by omega⟩
theorem tT_dom {nm : Str} {n s p : Int} (h : KOk nm n) (hs : StepOk nm n s) (hd : dom nm n p) : dom nm n (tT nm n s p) := by
  intro hm
  obtain ⟨a, b⟩ := hd hm
  obtain ⟨c, _, e, _⟩ := step_small h hs
  unfold tT
  rw [if_pos hm]
  split
  · split <;> constructor <;> omega
  · split
    · split <;> constructor <;> omega
    · exact ⟨a, b⟩
theorem tT_odd {nm : Str} {n s p : Int} (hm : isM nm = true) (hs : 0 ≤ s) : tT nm n s (-p) = -tT nm n s p := by
  unfold tT
  rw [if_pos hm, if_pos hm, Int.natAbs_neg]
  split
  · split <;> omega
  · split
    · split <;> split <;> omega
    · rfl
theorem tT_per {nm : Str} {n s p : Int} (hm : isM nm = false) : tT nm n s (p + n) = tT nm n s p + n := by
  unfold tT
  simp only [hm, Bool.false_eq_true, if_false]
  have e : (p + n - s) % n = (p - s) % n := by
    have : p + n - s = (p - s) + n := by omega
    rw [this, Int.add_emod_right]
  rw [e]
  split
  · omega
  · split <;> omega
/-- twice the same step leads back -/
theorem tT_tT {nm : Str} {n s p : Int} (h : KOk nm n) (hs : StepOk nm n s) : tT nm n s (tT nm n s p) = p := by
  obtain ⟨h0, h1, h2, h3⟩ := step_small h hs
  cases hm : isM nm with
  | true =>
    unfold tT
    rw [if_pos hm, if_pos hm]
    split
    · split
      · rw [Int.natAbs_neg, if_pos (by assumption)]; omega
      · rfl
    · by_cases c : (p.natAbs : Int) = s ∨ (p.natAbs : Int) = s + 1
      · rw [if_pos c]
        by_cases hp : 0 < p
        · rw [if_pos hp, if_pos (by omega), if_pos (by omega)]; omega
        · rw [if_neg hp, if_pos (by omega), if_neg (by omega)]; omega
      · rw [if_neg c, if_neg c]
  | false =>
    have hn := h3 hm
    unfold tT
    rw [hm]
    simp only [Bool.false_eq_true, if_false]
    by_cases c0 : (p - s) % n = 0
    · rw [if_pos c0]
      have e : (p + 1 - s) % n = 1 := by
        have : p + 1 - s = (p - s) + 1 := by omega
        rw [this, Int.add_emod, c0, Int.zero_add, Int.emod_emod_of_dvd _ (Int.dvd_refl n), Int.emod_eq_of_lt (by omega) (by omega)]
      rw [e, if_neg (by decide), if_pos rfl]; omega
    · rw [if_neg c0]
      by_cases c1 : (p - s) % n = 1
      · rw [if_pos c1]
        have e : (p - 1 - s) % n = 0 := by
          have : p - 1 - s = (p - s) - 1 := by omega
          rw [this, Int.sub_emod, c1, Int.emod_eq_of_lt (a := 1) (by omega) (by omega)]
          simp
        rw [e, if_pos rfl]; omega
      · rw [if_neg c1, if_neg c0, if_neg c1]
theorem good_step {nm : Str} {n s : Int} {f : Int → Int} (hs : 0 ≤ s) (g : Good nm n f) : Good nm n (fun p => f (tT nm n s p)) := by
  unfold Good at g ⊢
  cases hm : isM nm with
  | true =>
    rw [hm] at g
    simp only [if_true] at g ⊢
    intro p
    rw [tT_odd hm hs, g]
  | false =>
    rw [hm] at g
    simp only [Bool.false_eq_true, if_false] at g ⊢
    intro p
    rw [tT_per hm, g]
theorem good_id {nm : Str} {n : Int} : Good nm n (fun p => p) := by
  unfold Good
  split <;> intro p <;> rfl
theorem win_id {nm : Str} {n : Int} : win nm n (fun p => p) = places nm n := by
  unfold win
  simp
theorem ne_str {a b : Str} {r : Bool} (h : D.eq (.str a) (.str b) = some r) : D.ne (.str a) (.str b) = some (!r) := by
  unfold D.ne
  rw [h]
  rfl
def lowP (nm : Str) (s : Int) : Int := if isM nm = true then (if 0 < s then s else -1) else s
theorem lowP_dom {nm : Str} {n s : Int} (h : KOk nm n) (hs : StepOk nm n s) : dom nm n (lowP nm s) := by
  obtain ⟨h0, h1, h2, h3⟩ := step_small h hs
  intro hm
  unfold lowP
  rw [if_pos hm]
  split <;> constructor <;> omega
/-- does the order cross the step? -/
def crs (nm : Str) (n s : Int) (f : Int → Int) : Bool := decide (f (tT nm n s (lowP nm s)) < f (lowP nm s))
/-- an order: good, one to one -/
structure Ord (nm : Str) (n : Int) (f : Int → Int) : Prop where
  g : Good nm n f
  i : ∀ p q, f p = f q → p = q
theorem ord_id {nm : Str} {n : Int} : Ord nm n (fun p => p) := ⟨good_id, fun _ _ h => h⟩
theorem ord_step {nm : Str} {n s : Int} {f : Int → Int} (h : KOk nm n) (hs : StepOk nm n s) (o : Ord nm n f) : Ord nm n (fun p => f (tT nm n s p)) :=
  ⟨good_step hs.1 o.g, fun p q e => by
    have := congrArg (tT nm n s) (o.i _ _ e)
    rw [tT_tT h hs, tT_tT h hs] at this
    exact this⟩
theorem Gd.le {N M : Int} {g : List D} (h : Gd N g) (l : N ≤ M) : Gd M g := by
  obtain ⟨a, b, c, h1, h2, h3, h4⟩ := h
  exact ⟨a, b, c, h1, h2, h3, by omega⟩
theorem many_pos {nm : Str} {n : Int} (h : KOk nm n) : 0 ≤ many nm n ∧ many nm n < 10 := by
  unfold many
  rcases h with ⟨rfl, h1, h2⟩ | ⟨rfl, h1, h2⟩ | ⟨rfl, h1, h2⟩
  · rw [isP_p]; simp; omega
  · rw [isP_m]; simp; omega
  · rw [isP_r]; simp; omega
/-- gaining a step -/
def gainF (nm : Str) (n s : Int) (f : Int → Int) : Int → Int := if crs nm n s f = true then f else fun p => f (tT nm n s p)
def kob (nm : Str) (n : Int) : D := .obj "Kind" ["_name", "_size"] [.str nm, .int n]
theorem fld1 {nm : Str} {n : Int} : D.fld "Kind" "_name" (kob nm n) = some (.str nm) := by rfl
theorem fld2 {nm : Str} {n : Int} : D.fld "Kind" "_size" (kob nm n) = some (.int n) := by rfl
theorem ob1 {nm : Str} {n : Int} : (kob nm n).isObj "Kind" "name" = true := by rfl
theorem ob2 {nm : Str} {n : Int} : (kob nm n).isObj "Kind" "size" = true := by rfl
theorem ob3 {nm : Str} {n : Int} : (kob nm n).isObj "Kind" "steps" = true := by rfl
theorem ob4 {nm : Str} {n : Int} : (kob nm n).isObj "Kind" "start" = true := by rfl
theorem iss {z : Str} : D.isT "str" (.str z) = some (.bl true) := by rfl
theorem isi {z : Int} : D.isT "int" (.int z) = some (.bl true) := by rfl
theorem isb {z : Int} : D.isT "bool" (.int z) = some (.bl false) := by rfl
theorem isck {nm : Str} {n : Int} : D.isC "Kind" (kob nm n) = some (.bl true) := by rfl
theorem isct {nm : Str} {n : Int} : D.isC "Kind" (told nm n) = some (.bl false) := by rfl
theorem bnd_p : bndI "plain" = some (1, 7) := by rfl
theorem bnd_m : bndI "mirror" = some (1, 5) := by rfl
theorem bnd_r : bndI "ring" = some (2, 5) := by rfl
theorem nm_ok {nm : Str} {n : Int} (h : KOk nm n) : PyData.strOk nm = true := by
  rcases h with ⟨rfl, _⟩ | ⟨rfl, _⟩ | ⟨rfl, _⟩ <;> decide +kernel
theorem rg_mem {n : Int} {d : D} (h : d ∈ (rgI 0 n).map D.int) : ∃ a : Int, d = .int a ∧ 0 ≤ a ∧ a < n := by
  obtain ⟨a, ha, rfl⟩ := List.mem_map.1 h
  unfold rgI at ha
  obtain ⟨i, hi, rfl⟩ := List.mem_map.1 ha
  rw [List.mem_range] at hi
  exact ⟨_, rfl, by omega, by omega⟩
theorem many_rg {nm : Str} {n : Int} (h : KOk nm n) : rgB 0 (many nm n) = true := by
  have := many_pos h
  simp [rgB]
  omega
theorem ne_ints (as bs : List Int) : D.ne (.lst (as.map D.int)) (.lst (bs.map D.int)) = some (!(as == bs)) := by
  unfold D.ne
  rw [eq_ints]
  rfl
theorem ne_int (a b : Int) : D.ne (.int a) (.int b) = some (!(a == b)) := by
  unfold D.ne
  rw [eq_int]
  rfl
theorem ne_bl (a b : Bool) : D.ne (.bl a) (.bl b) = some (!(a == b)) := by
  unfold D.ne
  simp [D.eq, D.toPy, SeqAt.shaped, PyData.canLay0, PyData.depth, PyData.eqv]
theorem sseq_nx {m n : SM} {ev ev1 : Env'} (h : m ev = some (.nx, ev1)) : sseq m n ev = n ev1 := by
  unfold sseq
  rw [h]
end Cx

namespace Cx
open PySem Lay
/-! ### crossings of windows -/
/-- all pairs, the left one first -/
def pr (c : Int → Int → Int) : List Int → Int
  | [] => 0
  | a :: l => (l.map (c a)).sum + pr c l
theorem pr_append (c : Int → Int → Int) : ∀ l r : List Int, pr c (l ++ r) = pr c l + pr c r + (l.map fun a => (r.map (c a)).sum).sum
  | [], r => by simp [pr]
  | a :: l, r => by
    simp only [List.cons_append, pr, pr_append c l r, List.map_append, List.sum_append, List.map_cons, List.sum_cons]
    omega
theorem pr_swap (c : Int → Int → Int) (l r : List Int) (a b : Int) : pr c (l ++ b :: a :: r) = pr c (l ++ a :: b :: r) - c a b + c b a := by
  rw [pr_append, pr_append]
  have e : (l.map fun x => ((b :: a :: r).map (c x)).sum) = l.map fun x => ((a :: b :: r).map (c x)).sum := by
    apply List.map_congr_left
    intro x _
    simp only [List.map_cons, List.sum_cons]
    omega
  rw [e]
  simp only [pr, List.map_cons, List.sum_cons]
  omega
theorem pr_ends (c : Int → Int → Int) (a z : Int) (l : List Int) : pr c (a :: (l ++ [z])) = (l.map (c a)).sum + c a z + pr c l + (l.map fun x => c x z).sum := by
  simp only [pr, pr_append, List.map_append, List.sum_append, List.map_cons, List.map_nil, List.sum_cons, List.sum_nil]
  simp
  omega
/-- how often two items cross -/
def cB (nm : Str) (n a b : Int) : Int :=
  if isM nm = true then (if b < a then 1 else 0) + (if a + b < 0 then 1 else 0)
  else if isP nm = true then (if b < a then 1 else 0)
  else ((((b - a) / n).natAbs : Nat) : Int)
def neg1 (a : Int) : Int := if a < 0 then 1 else 0
/-- crossings -/
def len (nm : Str) (n : Int) (w : List Int) : Int := pr (cB nm n) w + (if isM nm = true then (w.map neg1).sum else 0)
theorem sum_nonneg : ∀ {l : List Int}, (∀ x ∈ l, 0 ≤ x) → 0 ≤ l.sum
  | [], _ => by simp
  | a :: l, h => by
    rw [List.sum_cons]
    have := h a (by simp)
    have := sum_nonneg (l := l) fun x hx => h x (by simp [hx])
    omega
theorem cB_nonneg {nm : Str} {n a b : Int} : 0 ≤ cB nm n a b := by
  unfold cB
  split
  · split <;> split <;> omega
  · split
    · split <;> omega
    · omega
theorem pr_nonneg {c : Int → Int → Int} (h : ∀ a b, 0 ≤ c a b) : ∀ l : List Int, 0 ≤ pr c l
  | [] => by simp [pr]
  | a :: l => by
    unfold pr
    have := pr_nonneg h l
    have : 0 ≤ (l.map (c a)).sum := sum_nonneg fun x hx => by
      obtain ⟨b, _, rfl⟩ := List.mem_map.1 hx
      exact h a b
    omega
theorem len_nonneg {nm : Str} {n : Int} {w : List Int} : 0 ≤ len nm n w := by
  unfold len
  have h1 := pr_nonneg (fun a b => cB_nonneg (nm := nm) (n := n) (a := a) (b := b)) w
  have h2 : 0 ≤ (w.map neg1).sum := sum_nonneg fun x hx => by
    obtain ⟨b, _, rfl⟩ := List.mem_map.1 hx
    unfold neg1
    split <;> omega
  split <;> omega
/-! ranges cut in two -/
theorem rg_nil {a b : Int} (h : b ≤ a) : rgI a b = [] := by
  unfold rgI
  have : (b - a).toNat = 0 := by omega
  rw [this]
  rfl
theorem rg_cons {a b : Int} (h : a < b) : rgI a b = a :: rgI (a + 1) b := by
  unfold rgI
  have : (b - a).toNat = (b - (a + 1)).toNat + 1 := by omega
  rw [this, List.range_succ_eq_map, List.map_cons, List.map_map]
  simp only [Int.natCast_zero, Int.add_zero]
  congr 1
  apply List.map_congr_left
  intro i _
  simp
  omega
theorem rg_app {a s b : Int} (h1 : a ≤ s) (h2 : s ≤ b) : rgI a b = rgI a s ++ rgI s b := by
  have key : ∀ k : Nat, ∀ a : Int, (s - a).toNat = k → a ≤ s → rgI a b = rgI a s ++ rgI s b := by
    intro k
    induction k with
    | zero =>
      intro a hk ha
      have : a = s := by omega
      subst this
      rw [rg_nil (Int.le_refl a)]
      rfl
    | succ k ih =>
      intro a hk ha
      rw [rg_cons (show a < b by omega), rg_cons (show a < s by omega), ih (a + 1) (by omega) (by omega)]
      rfl
  exact key _ a rfl h1
theorem rg_snoc {a b : Int} (h : a < b) : rgI a b = rgI a (b - 1) ++ [b - 1] := by
  rw [rg_app (a := a) (b := b) (s := b - 1) (by omega) (by omega), rg_cons (a := b - 1) (b := b) (by omega), rg_nil (a := b - 1 + 1) (b := b) (by omega)]
theorem mem_rg {a b p : Int} : p ∈ rgI a b ↔ a ≤ p ∧ p < b := by
  unfold rgI
  rw [List.mem_map]
  constructor
  · rintro ⟨i, hi, rfl⟩
    rw [List.mem_range] at hi
    omega
  · intro h
    exact ⟨(p - a).toNat, by rw [List.mem_range]; omega, by omega⟩
end Cx

namespace Cx
open PySem Lay
/-! ### what a step does to the crossings -/
def b1 (b : Bool) : Int := if b = true then 1 else 0
/-- items that are apart -/
def Apart (nm : Str) (n a b : Int) : Prop := a ≠ b ∧ (isM nm = false → isP nm = false → ¬ (n ∣ (b - a)))
theorem div_neg {n x : Int} (hn : 0 < n) (h : ¬ (n ∣ x)) : (-x) / n = -(x / n) - 1 := by
  have h1 := Int.emod_add_mul_ediv x n
  have h2 := Int.emod_nonneg x (Int.ne_of_gt hn)
  have h3 := Int.emod_lt_of_pos x hn
  have h4 : x % n ≠ 0 := fun z => h (Int.dvd_of_emod_eq_zero z)
  rw [show -x = (n - x % n) + n * (-(x / n) - 1) by rw [Int.mul_sub, Int.mul_neg]; omega]
  rw [Int.add_mul_ediv_left _ _ (Int.ne_of_gt hn), Int.ediv_eq_zero_of_lt (by omega) (by omega)]
  omega
theorem div_neg_iff {n x : Int} (hn : 0 < n) : x / n < 0 ↔ x < 0 := by
  constructor
  · intro h
    rcases Int.lt_or_le x 0 with z | z
    · exact z
    · have := Int.ediv_nonneg z (Int.le_of_lt hn)
      omega
  · intro h
    exact Int.ediv_neg_of_neg_of_pos h hn
theorem cB_swap {nm : Str} {n a b : Int} (hn : 0 < n) (h : Apart nm n a b) : cB nm n b a = cB nm n a b + 1 - 2 * b1 (decide (b < a)) := by
  obtain ⟨h1, h2⟩ := h
  unfold cB b1
  split
  · simp only [decide_eq_true_eq]
    split <;> split <;> split <;> split <;> omega
  · next hm =>
    split
    · simp only [decide_eq_true_eq]
      split <;> split <;> omega
    · next hp =>
      have h3 := h2 (by simpa using hm) (by simpa using hp)
      have e : a - b = -(b - a) := by omega
      rw [e, div_neg hn h3]
      have := div_neg_iff (x := b - a) hn
      simp only [decide_eq_true_eq]
      split <;> omega
theorem len_swap {nm : Str} {n a b : Int} {l r : List Int} (hn : 0 < n) (h : Apart nm n a b) : len nm n (l ++ b :: a :: r) = len nm n (l ++ a :: b :: r) + 1 - 2 * b1 (decide (b < a)) := by
  unfold len
  rw [pr_swap, cB_swap hn h]
  have e : ((l ++ b :: a :: r).map neg1).sum = ((l ++ a :: b :: r).map neg1).sum := by
    simp only [List.map_append, List.map_cons, List.sum_append, List.sum_cons]
    omega
  rw [e]
  omega
/-- the ring's last step -/
theorem cB_shift1 {nm : Str} {n a z : Int} (hn : 0 < n) (hm : isM nm = false) (hp : isP nm = false) (h : ¬ (n ∣ (z - a))) : cB nm n (z - n) a = cB nm n a z := by
  unfold cB
  rw [hm, hp]
  simp only [Bool.false_eq_true, if_false]
  have e : a - (z - n) = -(z - a) + n * 1 := by omega
  rw [e, Int.add_mul_ediv_left _ _ (Int.ne_of_gt hn), div_neg hn h]
  omega
theorem cB_shift2 {nm : Str} {n a z : Int} (hn : 0 < n) (hm : isM nm = false) (hp : isP nm = false) (h : ¬ (n ∣ (z - a))) : cB nm n z (a + n) = cB nm n a z := by
  have e : cB nm n z (a + n) = cB nm n (z - n) a := by
    unfold cB
    rw [hm, hp]
    simp only [Bool.false_eq_true, if_false]
    congr 2
    congr 1
    omega
  rw [e, cB_shift1 hn hm hp h]
theorem cB_shift3 {nm : Str} {n a z : Int} (hn : 0 < n) (hm : isM nm = false) (hp : isP nm = false) (h : ¬ (n ∣ (z - a))) : cB nm n (z - n) (a + n) = cB nm n a z + 1 - 2 * b1 (decide (a + n < z)) := by
  unfold cB b1
  rw [hm, hp]
  simp only [Bool.false_eq_true, if_false]
  have e : a + n - (z - n) = -(z - a) + n * 2 := by omega
  rw [e, Int.add_mul_ediv_left _ _ (Int.ne_of_gt hn), div_neg hn h]
  have k : a + n < z ↔ 1 ≤ (z - a) / n := by
    constructor
    · intro hlt
      exact Int.le_ediv_of_mul_le hn (by omega)
    · intro hle
      have h1 := Int.emod_add_mul_ediv (z - a) n
      have h2 := Int.emod_nonneg (z - a) (Int.ne_of_gt hn)
      have h4 : (z - a) % n ≠ 0 := fun y => h (Int.dvd_of_emod_eq_zero y)
      have h5 : n * 1 ≤ n * ((z - a) / n) := Int.mul_le_mul_of_nonneg_left hle (Int.le_of_lt hn)
      omega
  by_cases hk : a + n < z
  · rw [if_pos (by simpa using hk)]
    have := k.1 hk
    omega
  · rw [if_neg (by simpa using hk)]
    have : ¬ 1 ≤ (z - a) / n := fun q => hk (k.2 q)
    omega
theorem len_wrap {nm : Str} {n a z : Int} {l : List Int} (hn : 0 < n) (hm : isM nm = false) (hp : isP nm = false) (h : ¬ (n ∣ (z - a))) (hl : ∀ x ∈ l, ¬ (n ∣ (z - x)) ∧ ¬ (n ∣ (x - a))) :
    len nm n ((z - n) :: (l ++ [a + n])) = len nm n (a :: (l ++ [z])) + 1 - 2 * b1 (decide (a + n < z)) := by
  unfold len
  rw [hm]
  simp only [Bool.false_eq_true, if_false]
  rw [pr_ends, pr_ends, cB_shift3 hn hm hp h]
  have e1 : l.map (cB nm n (z - n)) = l.map fun x => cB nm n x z := by
    apply List.map_congr_left
    intro x hx
    exact cB_shift1 hn hm hp (hl x hx).1
  have e2 : (l.map fun x => cB nm n x (a + n)) = l.map (cB nm n a) := by
    apply List.map_congr_left
    intro x hx
    exact cB_shift2 hn hm hp (hl x hx).2
  rw [e1, e2]
  omega
/-- the mirror's step 0 -/
theorem len_flip {nm : Str} {n a : Int} {l : List Int} (hm : isM nm = true) (ha : a ≠ 0) : len nm n (-a :: l) = len nm n (a :: l) + 1 - 2 * b1 (decide (a < 0)) := by
  unfold len
  rw [hm]
  simp only [if_true, pr, List.map_cons, List.sum_cons]
  have e : l.map (cB nm n (-a)) = l.map (cB nm n a) := by
    apply List.map_congr_left
    intro x _
    unfold cB
    rw [hm]
    simp only [if_true]
    split <;> split <;> split <;> split <;> omega
  rw [e]
  unfold neg1 b1
  simp only [decide_eq_true_eq]
  split <;> split <;> omega
end Cx

namespace Cx
open PySem Lay
theorem good_per {nm : Str} {n : Int} {f : Int → Int} (g : Good nm n f) (hm : isM nm = false) : ∀ p, f (p + n) = f p + n := by
  unfold Good at g
  rw [hm] at g
  simpa using g
theorem good_odd {nm : Str} {n : Int} {f : Int → Int} (g : Good nm n f) (hm : isM nm = true) : ∀ p, f (-p) = -f p := by
  unfold Good at g
  rw [hm] at g
  simpa using g
theorem kpos {nm : Str} {n : Int} (h : KOk nm n) : 1 ≤ n ∧ n ≤ 7 := by
  rcases h with ⟨_, _, _⟩ | ⟨_, _, _⟩ | ⟨_, _, _⟩ <;> omega
theorem kring {nm : Str} {n : Int} (h : KOk nm n) (hm : isM nm = false) (hp : isP nm = false) : 2 ≤ n ∧ n ≤ 5 := by
  rcases h with ⟨rfl, _, _⟩ | ⟨rfl, _, _⟩ | ⟨rfl, _, _⟩
  · rw [isP_p] at hp; cases hp
  · rw [isM_m] at hm; cases hm
  · exact ⟨by omega, by omega⟩
/-- items of an order at unlike places are apart -/
theorem apart_f {nm : Str} {n p q : Int} {f : Int → Int} (o : Ord nm n f) (h0 : p ≠ q) (h1 : isM nm = false → p < q + n ∧ q < p + n) : Apart nm n (f p) (f q) := by
  refine ⟨fun z => h0 (o.i _ _ z), fun hm hp hd => ?_⟩
  obtain ⟨k, hk⟩ := hd
  have := per (good_per o.g hm) k p
  rw [Int.mul_comm] at hk
  have e : f q = f (p + k * n) := by omega
  have e2 := o.i _ _ e
  obtain ⟨h2, h3⟩ := h1 hm
  have h4 : k = 0 := by
    rcases Int.lt_trichotomy k 0 with z | z | z
    · have : k * n ≤ -1 * n := Int.mul_le_mul_of_nonneg_right (by omega) (by omega)
      omega
    · exact z
    · have : 1 * n ≤ k * n := Int.mul_le_mul_of_nonneg_right (by omega) (by omega)
      omega
  rw [h4] at e2
  omega
theorem tT_in {nm : Str} {n s : Int} (hm : isM nm = false) (h0 : 0 ≤ s) (h1 : s + 1 < n) : tT nm n s s = s + 1 ∧ tT nm n s (s + 1) = s ∧ ∀ p, 0 ≤ p → p < n → p ≠ s → p ≠ s + 1 → tT nm n s p = p := by
  unfold tT
  rw [hm]
  simp only [Bool.false_eq_true, if_false]
  refine ⟨by simp, ?_, fun p p0 p1 ps ps1 => ?_⟩
  · have e : s + 1 - s = 1 := by omega
    rw [e, Int.emod_eq_of_lt (by omega) (by omega), if_neg (by decide), if_pos rfl]
    omega
  · have hlt : (p - s) % n ≠ 0 ∧ (p - s) % n ≠ 1 := by
      rcases Int.lt_or_le p s with z | z
      · have e : p - s = (p - s + n) + n * (-1) := by omega
        rw [e, Int.add_mul_emod_self_left, Int.emod_eq_of_lt (by omega) (by omega)]
        constructor <;> omega
      · rw [Int.emod_eq_of_lt (by omega) (by omega)]
        constructor <;> omega
    rw [if_neg hlt.1, if_neg hlt.2]
theorem tT_wrap {nm : Str} {n : Int} (hm : isM nm = false) (h2 : 2 ≤ n) : tT nm n (n - 1) 0 = 0 - 1 ∧ tT nm n (n - 1) (n - 1) = n ∧ ∀ p, 0 < p → p < n - 1 → tT nm n (n - 1) p = p := by
  unfold tT
  rw [hm]
  simp only [Bool.false_eq_true, if_false]
  refine ⟨?_, ?_, fun p p0 p1 => ?_⟩
  · have e : 0 - (n - 1) = 1 + n * (-1) := by omega
    rw [e, Int.add_mul_emod_self_left, Int.emod_eq_of_lt (by omega) (by omega), if_neg (by decide), if_pos rfl]
  · have e : n - 1 - (n - 1) = 0 := by omega
    rw [e]
    simp
  · have e : p - (n - 1) = (p + 1) + n * (-1) := by omega
    rw [e, Int.add_mul_emod_self_left, Int.emod_eq_of_lt (by omega) (by omega), if_neg (by omega), if_neg (by omega)]
theorem tT_mir {nm : Str} {n s : Int} (hm : isM nm = true) (h0 : 0 < s) : tT nm n s s = s + 1 ∧ tT nm n s (s + 1) = s ∧ ∀ p, 0 < p → p ≠ s → p ≠ s + 1 → tT nm n s p = p := by
  unfold tT
  rw [hm]
  simp only [if_true]
  have s0 : ¬ s = 0 := by omega
  simp only [s0, if_false]
  refine ⟨?_, ?_, fun p p0 ps ps1 => ?_⟩
  · rw [if_pos (by omega), if_pos h0]; omega
  · rw [if_pos (by omega), if_pos (by omega)]; omega
  · rw [if_neg (by omega)]
theorem tT_mir0 {nm : Str} {n : Int} (hm : isM nm = true) : tT nm n 0 1 = -1 ∧ tT nm n 0 (-1) = 1 ∧ ∀ p, 1 < p → tT nm n 0 p = p := by
  unfold tT
  rw [hm]
  simp only [if_true]
  refine ⟨by simp, by simp, fun p hp => by rw [if_neg (by omega)]⟩
/-- one more, one less -/
theorem len_step {nm : Str} {n s : Int} {f : Int → Int} (h : KOk nm n) (hs : StepOk nm n s) (o : Ord nm n f) : len nm n (win nm n fun p => f (tT nm n s p)) = len nm n (win nm n f) + 1 - 2 * b1 (crs nm n s f) := by
  obtain ⟨h0, _, h2, h3⟩ := step_small h hs
  obtain ⟨k1, k7⟩ := kpos h
  cases hm : isM nm with
  | true =>
    have ho : off nm = 1 := by unfold off; rw [hm]; rfl
    by_cases s0 : s = 0
    · subst s0
      obtain ⟨a1, a2, a3⟩ := tT_mir0 (n := n) hm
      have ew : ∀ F : Int → Int, win nm n F = F 1 :: (rgI 2 (n + 1)).map F := fun F => by
        unfold win places
        rw [ho, rg_cons (by omega)]
        rfl
      rw [ew, ew, a1, good_odd o.g hm]
      have em : (rgI 2 (n + 1)).map (fun p => f (tT nm n 0 p)) = (rgI 2 (n + 1)).map f := by
        apply List.map_congr_left
        intro p hp
        rw [a3 p (by have := mem_rg.1 hp; omega)]
      rw [em]
      have f1 : f 1 ≠ 0 := fun z => by
        have e0 : f 0 = 0 := by
          have := good_odd o.g hm 0
          simp at this
          omega
        have := o.i 1 0 (by rw [z, e0])
        omega
      rw [len_flip hm f1]
      have ec : crs nm n 0 f = decide (f 1 < 0) := by
        unfold crs lowP
        rw [hm]
        simp only [if_true]
        rw [if_neg (by omega), a2, good_odd o.g hm]
        congr 1
        apply propext
        constructor <;> intro <;> omega
      rw [ec]
    · have hs0 : 0 < s := by omega
      obtain ⟨a1, a2, a3⟩ := tT_mir (n := n) hm hs0
      have ew : ∀ F : Int → Int, win nm n F = (rgI 1 s).map F ++ F s :: F (s + 1) :: (rgI (s + 2) (n + 1)).map F := fun F => by
        unfold win places
        rw [ho, rg_app (a := 1) (s := s) (b := n + 1) (by omega) (by omega), rg_cons (a := s) (b := n + 1) (by omega), rg_cons (a := s + 1) (b := n + 1) (by omega), show s + 1 + 1 = s + 2 by omega]
        simp
      rw [ew, ew, a1, a2]
      have e1 : (rgI 1 s).map (fun p => f (tT nm n s p)) = (rgI 1 s).map f := by
        apply List.map_congr_left
        intro p hp
        have := mem_rg.1 hp
        rw [a3 p (by omega) (by omega) (by omega)]
      have e2 : (rgI (s + 2) (n + 1)).map (fun p => f (tT nm n s p)) = (rgI (s + 2) (n + 1)).map f := by
        apply List.map_congr_left
        intro p hp
        have := mem_rg.1 hp
        rw [a3 p (by omega) (by omega) (by omega)]
      rw [e1, e2, len_swap (by omega) (apart_f o (by omega) fun z => by rw [hm] at z; cases z)]
      unfold crs lowP
      rw [hm]
      simp only [if_true]
      rw [if_pos hs0, a1]
  | false =>
    have ho : off nm = 0 := by unfold off; rw [hm]; rfl
    have hn2 := h3 hm
    have ec : crs nm n s f = decide (f (tT nm n s s) < f s) := by
      unfold crs lowP
      rw [hm]
      rfl
    by_cases hw : s + 1 < n
    · obtain ⟨a1, a2, a3⟩ := tT_in (n := n) hm h0 hw
      have ew : ∀ F : Int → Int, win nm n F = (rgI 0 s).map F ++ F s :: F (s + 1) :: (rgI (s + 2) n).map F := fun F => by
        unfold win places
        rw [ho, Int.add_zero, rg_app (a := 0) (s := s) (b := n) (by omega) (by omega), rg_cons (a := s) (b := n) (by omega), rg_cons (a := s + 1) (b := n) (by omega), show s + 1 + 1 = s + 2 by omega]
        simp
      rw [ew, ew, a1, a2]
      have e1 : (rgI 0 s).map (fun p => f (tT nm n s p)) = (rgI 0 s).map f := by
        apply List.map_congr_left
        intro p hp
        have := mem_rg.1 hp
        rw [a3 p (by omega) (by omega) (by omega) (by omega)]
      have e2 : (rgI (s + 2) n).map (fun p => f (tT nm n s p)) = (rgI (s + 2) n).map f := by
        apply List.map_congr_left
        intro p hp
        have := mem_rg.1 hp
        rw [a3 p (by omega) (by omega) (by omega) (by omega)]
      rw [e1, e2, len_swap (by omega) (apart_f o (by omega) fun _ => ⟨by omega, by omega⟩), ec, a1]
    · have hsn : s = n - 1 := by omega
      subst hsn
      have hp : isP nm = false := by
        cases hpp : isP nm with
        | false => rfl
        | true =>
          obtain ⟨_, q⟩ := hs
          unfold many at q
          rw [hpp] at q
          simp at q
      obtain ⟨a1, a2, a3⟩ := tT_wrap (n := n) hm hn2
      have ew : ∀ F : Int → Int, win nm n F = F 0 :: ((rgI 1 (n - 1)).map F ++ [F (n - 1)]) := fun F => by
        unfold win places
        rw [ho, Int.add_zero, rg_cons (a := 0) (b := n) (by omega), rg_snoc (a := 0 + 1) (b := n) (by omega)]
        simp
      rw [ew, ew, a1, a2]
      have e1 : (rgI 1 (n - 1)).map (fun p => f (tT nm n (n - 1) p)) = (rgI 1 (n - 1)).map f := by
        apply List.map_congr_left
        intro p hp
        have := mem_rg.1 hp
        rw [a3 p (by omega) (by omega)]
      have g1 : f (0 - 1) = f (n - 1) - n := by
        have := good_per o.g hm (0 - 1)
        rw [show 0 - 1 + n = n - 1 by omega] at this
        omega
      have g2 : f n = f 0 + n := by
        have := good_per o.g hm 0
        rw [Int.zero_add] at this
        exact this
      rw [e1, g1, g2, len_wrap (by omega) hm hp ((apart_f o (p := 0) (q := n - 1) (by omega) fun _ => ⟨by omega, by omega⟩).2 hm hp) (fun x hx => ?_), ec, a2, g2]
      obtain ⟨p, hpp, rfl⟩ := List.mem_map.1 hx
      have := mem_rg.1 hpp
      exact ⟨(apart_f o (p := p) (q := n - 1) (by omega) fun _ => ⟨by omega, by omega⟩).2 hm hp, (apart_f o (p := 0) (q := p) (by omega) fun _ => ⟨by omega, by omega⟩).2 hm hp⟩
end Cx

namespace Cx
open PySem Lay
/-- how a step changes the window -/
inductive WS (nm : Str) (n : Int) : List Int → List Int → Prop
  | swap (l r : List Int) (a b : Int) : WS nm n (l ++ a :: b :: r) (l ++ b :: a :: r)
  | flip (l : List Int) (a : Int) (hm : isM nm = true) : WS nm n (a :: l) (-a :: l)
  | wrap (l : List Int) (a z : Int) (hm : isM nm = false) (hp : isP nm = false) : WS nm n (a :: (l ++ [z])) ((z - n) :: (l ++ [a + n]))
theorem win_step {nm : Str} {n s : Int} {f : Int → Int} (h : KOk nm n) (hs : StepOk nm n s) (g : Good nm n f) : WS nm n (win nm n f) (win nm n fun p => f (tT nm n s p)) := by
  obtain ⟨h0, _, h2, h3⟩ := step_small h hs
  obtain ⟨k1, k7⟩ := kpos h
  cases hm : isM nm with
  | true =>
    have ho : off nm = 1 := by unfold off; rw [hm]; rfl
    by_cases s0 : s = 0
    · subst s0
      obtain ⟨a1, a2, a3⟩ := tT_mir0 (n := n) hm
      have ew : ∀ F : Int → Int, win nm n F = F 1 :: (rgI 2 (n + 1)).map F := fun F => by
        unfold win places
        rw [ho, rg_cons (by omega)]
        rfl
      have em : (rgI 2 (n + 1)).map (fun p => f (tT nm n 0 p)) = (rgI 2 (n + 1)).map f := by
        apply List.map_congr_left
        intro p hp
        rw [a3 p (by have := mem_rg.1 hp; omega)]
      rw [ew, ew, a1, good_odd g hm, em]
      exact .flip _ _ hm
    · have hs0 : 0 < s := by omega
      obtain ⟨a1, a2, a3⟩ := tT_mir (n := n) hm hs0
      have ew : ∀ F : Int → Int, win nm n F = (rgI 1 s).map F ++ F s :: F (s + 1) :: (rgI (s + 2) (n + 1)).map F := fun F => by
        unfold win places
        rw [ho, rg_app (a := 1) (s := s) (b := n + 1) (by omega) (by omega), rg_cons (a := s) (b := n + 1) (by omega), rg_cons (a := s + 1) (b := n + 1) (by omega), show s + 1 + 1 = s + 2 by omega]
        simp
      have e1 : (rgI 1 s).map (fun p => f (tT nm n s p)) = (rgI 1 s).map f := by
        apply List.map_congr_left
        intro p hp
        have := mem_rg.1 hp
        rw [a3 p (by omega) (by omega) (by omega)]
      have e2 : (rgI (s + 2) (n + 1)).map (fun p => f (tT nm n s p)) = (rgI (s + 2) (n + 1)).map f := by
        apply List.map_congr_left
        intro p hp
        have := mem_rg.1 hp
        rw [a3 p (by omega) (by omega) (by omega)]
      rw [ew, ew, a1, a2, e1, e2]
      exact .swap _ _ _ _
  | false =>
    have ho : off nm = 0 := by unfold off; rw [hm]; rfl
    have hn2 := h3 hm
    by_cases hw : s + 1 < n
    · obtain ⟨a1, a2, a3⟩ := tT_in (n := n) hm h0 hw
      have ew : ∀ F : Int → Int, win nm n F = (rgI 0 s).map F ++ F s :: F (s + 1) :: (rgI (s + 2) n).map F := fun F => by
        unfold win places
        rw [ho, Int.add_zero, rg_app (a := 0) (s := s) (b := n) (by omega) (by omega), rg_cons (a := s) (b := n) (by omega), rg_cons (a := s + 1) (b := n) (by omega), show s + 1 + 1 = s + 2 by omega]
        simp
      have e1 : (rgI 0 s).map (fun p => f (tT nm n s p)) = (rgI 0 s).map f := by
        apply List.map_congr_left
        intro p hp
        have := mem_rg.1 hp
        rw [a3 p (by omega) (by omega) (by omega) (by omega)]
      have e2 : (rgI (s + 2) n).map (fun p => f (tT nm n s p)) = (rgI (s + 2) n).map f := by
        apply List.map_congr_left
        intro p hp
        have := mem_rg.1 hp
        rw [a3 p (by omega) (by omega) (by omega) (by omega)]
      rw [ew, ew, a1, a2, e1, e2]
      exact .swap _ _ _ _
    · have hsn : s = n - 1 := by omega
      subst hsn
      have hp : isP nm = false := by
        cases hpp : isP nm with
        | false => rfl
        | true =>
          obtain ⟨_, q⟩ := hs
          unfold many at q
          rw [hpp] at q
          simp at q
      obtain ⟨a1, a2, a3⟩ := tT_wrap (n := n) hm hn2
      have ew : ∀ F : Int → Int, win nm n F = F 0 :: ((rgI 1 (n - 1)).map F ++ [F (n - 1)]) := fun F => by
        unfold win places
        rw [ho, Int.add_zero, rg_cons (a := 0) (b := n) (by omega), rg_snoc (a := 0 + 1) (b := n) (by omega)]
        simp
      have e1 : (rgI 1 (n - 1)).map (fun p => f (tT nm n (n - 1) p)) = (rgI 1 (n - 1)).map f := by
        apply List.map_congr_left
        intro p hp
        have := mem_rg.1 hp
        rw [a3 p (by omega) (by omega)]
      have g1 : f (0 - 1) = f (n - 1) - n := by
        have := good_per g hm (0 - 1)
        rw [show 0 - 1 + n = n - 1 by omega] at this
        omega
      have g2 : f n = f 0 + n := by
        have := good_per g hm 0
        rw [Int.zero_add] at this
        exact this
      rw [ew, ew, a1, a2, e1, g1, g2]
      exact .wrap _ _ _ hm hp
/-- the items as the check of orders looks at them -/
def nrm (nm : Str) (n : Int) (w : List Int) : List Int := if isM nm = true then w.map (fun a => ((a.natAbs : Nat) : Int)) else if isP nm = true then w else w.map (· % n)
structure Inv (nm : Str) (n : Int) (w : List Int) : Prop where
  pm : (nrm nm n w).Perm (places nm n)
  sm : isM nm = false → w.sum = (places nm n).sum
theorem nrm_map {nm : Str} {n : Int} {w : List Int} : nrm nm n w = w.map (fun a => if isM nm = true then ((a.natAbs : Nat) : Int) else if isP nm = true then a else a % n) := by
  unfold nrm
  split
  · rfl
  · split
    · simp
    · rfl
theorem WS.inv {nm : Str} {n : Int} {w w' : List Int} (s : WS nm n w w') (i : Inv nm n w) : Inv nm n w' := by
  cases s with
  | swap l r a b =>
    refine ⟨List.Perm.trans ?_ i.pm, fun hm => ?_⟩
    · rw [nrm_map, nrm_map]
      exact List.Perm.map _ (List.Perm.append_left _ (List.Perm.swap a b r))
    · rw [← i.sm hm]
      simp only [List.sum_append, List.sum_cons]
      omega
  | flip l a hm =>
    refine ⟨List.Perm.trans (List.Perm.of_eq ?_) i.pm, fun h => by rw [hm] at h; cases h⟩
    rw [nrm_map, nrm_map, List.map_cons, List.map_cons, hm]
    simp
  | wrap l a z hm hp =>
    refine ⟨List.Perm.trans ?_ i.pm, fun _ => ?_⟩
    · rw [nrm_map, nrm_map]
      simp only [List.map_cons, List.map_append, List.map_nil, hm, hp, Bool.false_eq_true, if_false]
      rw [Int.sub_emod_right, Int.add_emod_right]
      have e1 : ∀ (x y : Int) (l : List Int), (x :: (l ++ [y])).Perm (y :: (l ++ [x])) := fun x y l => by
        have p1 : (x :: (l ++ [y])).Perm (x :: y :: l) := List.Perm.cons x (List.perm_append_comm)
        have p2 : (y :: (l ++ [x])).Perm (y :: x :: l) := List.Perm.cons y (List.perm_append_comm)
        exact p1.trans ((List.Perm.swap y x l).trans p2.symm)
      exact e1 _ _ _
    · rw [← i.sm hm]
      simp only [List.sum_cons, List.sum_append, List.sum_nil]
      omega
theorem inv_id {nm : Str} {n : Int} (h : KOk nm n) : Inv nm n (places nm n) := by
  refine ⟨List.Perm.of_eq ?_, fun _ => rfl⟩
  rw [nrm_map]
  have key : ∀ p ∈ places nm n, (if isM nm = true then ((p.natAbs : Nat) : Int) else if isP nm = true then p else p % n) = p := by
    intro p hp
    have hb := places_mem hp
    unfold off at hb
    split
    · next hm => rw [if_pos hm] at hb; omega
    · next hm =>
      rw [if_neg hm] at hb
      split
      · rfl
      · exact Int.emod_eq_of_lt (by omega) (by omega)
  rw [List.map_congr_left key]
  simp
end Cx

namespace Cx
open PySem Lay
/-! ### rows of steps -/
def F (nm : Str) (n : Int) : List Int → Int → Int
  | [], p => p
  | s :: ss, p => tT nm n s (F nm n ss p)
def Row (nm : Str) (n : Int) (ss : List Int) : Prop := ∀ s ∈ ss, StepOk nm n s
theorem F_app {nm : Str} {n : Int} : ∀ (ss ts : List Int) (p : Int), F nm n (ss ++ ts) p = F nm n ss (F nm n ts p)
  | [], ts, p => rfl
  | s :: ss, ts, p => by
    show tT nm n s (F nm n (ss ++ ts) p) = tT nm n s (F nm n ss (F nm n ts p))
    rw [F_app ss ts p]
theorem F_rev {nm : Str} {n : Int} (h : KOk nm n) : ∀ (ss : List Int), Row nm n ss → ∀ p, F nm n ss (F nm n ss.reverse p) = p
  | [], _, p => rfl
  | s :: ss, hr, p => by
    rw [List.reverse_cons, F_app]
    show tT nm n s (F nm n ss (F nm n ss.reverse (tT nm n s p))) = p
    rw [F_rev h ss (fun x hx => hr x (by simp [hx])), tT_tT h (hr s (by simp))]
theorem Row.rev {nm : Str} {n : Int} {ss : List Int} (r : Row nm n ss) : Row nm n ss.reverse := fun s hs => r s (by simpa using hs)
theorem F_rev' {nm : Str} {n : Int} (h : KOk nm n) (ss : List Int) (r : Row nm n ss) (p : Int) : F nm n ss.reverse (F nm n ss p) = p := by
  have := F_rev h ss.reverse r.rev p
  rw [List.reverse_reverse] at this
  exact this
/-- orders as they come: good, one to one, their items as they should be, few crossings -/
structure Orx (nm : Str) (n : Int) (f : Int → Int) : Prop where
  o : Ord nm n f
  v : Inv nm n (win nm n f)
theorem orx_id {nm : Str} {n : Int} (h : KOk nm n) : Orx nm n (fun p => p) := ⟨ord_id, by rw [win_id]; exact inv_id h⟩
theorem orx_step {nm : Str} {n s : Int} {f : Int → Int} (h : KOk nm n) (hs : StepOk nm n s) (o : Orx nm n f) : Orx nm n (fun p => f (tT nm n s p)) :=
  ⟨ord_step h hs o.o, (win_step h hs o.o.g).inv o.v⟩
theorem orx_row {nm : Str} {n : Int} (h : KOk nm n) : ∀ (ss : List Int) {f : Int → Int}, Row nm n ss → Orx nm n f → Orx nm n (fun p => f (F nm n ss p))
  | [], _, _, o => o
  | s :: ss, f, r, o => orx_row h ss (f := fun p => f (tT nm n s p)) (fun x hx => r x (by simp [hx])) (orx_step h (r s (by simp)) o)
theorem orx_F {nm : Str} {n : Int} (h : KOk nm n) {ss : List Int} (r : Row nm n ss) : Orx nm n (F nm n ss) := orx_row h ss r (orx_id h)
theorem len_row {nm : Str} {n : Int} (h : KOk nm n) : ∀ (ss : List Int) {f : Int → Int}, Row nm n ss → Ord nm n f → len nm n (win nm n fun p => f (F nm n ss p)) ≤ len nm n (win nm n f) + ss.length
  | [], f, _, _ => by simp [F]
  | s :: ss, f, r, o => by
    have h1 := len_step h (r s (by simp)) o
    have h2 := len_row h ss (f := fun p => f (tT nm n s p)) (fun x hx => r x (by simp [hx])) (ord_step h (r s (by simp)) o)
    have h3 : 0 ≤ b1 (crs nm n s f) := by unfold b1; split <;> omega
    show len nm n (win nm n fun p => f (tT nm n s (F nm n ss p))) ≤ _
    rw [List.length_cons]
    omega
/-! ranges in order -/
theorem rg_sorted (a b : Int) : (rgI a b).Pairwise (· < ·) := by
  unfold rgI
  rw [List.pairwise_map]
  refine List.pairwise_lt_range.imp ?_
  intro i j hij
  omega
theorem sorted_eq {w p : List Int} (h : w.Perm p) (hw : w.Pairwise (· ≤ ·)) (hp : p.Pairwise (· ≤ ·)) : w = p := by
  rw [sortI_the h hw]
  exact (sortI_the (List.Perm.refl p) hp).symm
theorem sort_perm {w p : List Int} (h : w.Perm p) (hp : p.Pairwise (· ≤ ·)) : sortI w = p := (sortI_the h.symm hp).symm
theorem places_le {nm : Str} {n : Int} : (places nm n).Pairwise (· ≤ ·) := (rg_sorted _ _).imp fun h => Int.le_of_lt h
/-- increasing -/
theorem mono {f : Int → Int} {a b : Int} (h : ∀ p, a ≤ p → p + 1 < b → f p < f (p + 1)) : ∀ (k : Nat) (p : Int), a ≤ p → p + k < b → f p + k ≤ f (p + k)
  | 0, p, _, _ => by simp
  | k + 1, p, hp, hb => by
    have h1 := mono h k p hp (by omega)
    have h2 := h (p + k) (by omega) (by omega)
    rw [show p + ((k + 1 : Nat) : Int) = p + k + 1 by omega]
    omega
theorem win_sorted {nm : Str} {n : Int} {f : Int → Int} (h : ∀ p, off nm ≤ p → p + 1 < n + off nm → f p < f (p + 1)) : (win nm n f).Pairwise (· ≤ ·) := by
  unfold win places
  rw [List.pairwise_map]
  refine List.Pairwise.imp_of_mem ?_ (rg_sorted (off nm) (n + off nm))
  intro x y hx hy hxy
  have h1 := mem_rg.1 hx
  have h2 := mem_rg.1 hy
  have := mono h (y - x).toNat x h1.1 (by omega)
  rw [show x + ((y - x).toNat : Int) = y by omega] at this
  omega
theorem sum_shift (c : Int) : ∀ l : List Int, (l.map fun p => c + p).sum = c * l.length + l.sum
  | [] => by simp
  | a :: l => by
    rw [List.map_cons, List.sum_cons, sum_shift c l, List.length_cons, List.sum_cons, Int.natCast_add, Int.mul_add]
    simp
    omega
theorem win_ext {nm : Str} {n : Int} {f g : Int → Int} (h : ∀ p, off nm ≤ p → p < n + off nm → f p = g p) : win nm n f = win nm n g := by
  unfold win
  apply List.map_congr_left
  intro p hp
  have := places_mem hp
  exact h p this.1 this.2
/-- an order without falls is the start -/
theorem no_falls {nm : Str} {n : Int} {f : Int → Int} (h : KOk nm n) (o : Orx nm n f) (hn : ∀ s, StepOk nm n s → crs nm n s f = false) : win nm n f = places nm n := by
  obtain ⟨k1, k7⟩ := kpos h
  have hc : ∀ s, StepOk nm n s → ¬ f (tT nm n s (lowP nm s)) < f (lowP nm s) := fun s hs => by
    have := hn s hs
    unfold crs at this
    simpa using this
  cases hm : isM nm with
  | true =>
    have ho : off nm = 1 := by unfold off; rw [hm]; rfl
    have hp : isP nm = false := by
      rcases h with ⟨rfl, _⟩ | ⟨rfl, _⟩ | ⟨rfl, _⟩
      · rw [isM_p] at hm; cases hm
      · exact isP_m
      · exact isP_r
    have st : ∀ s, 0 ≤ s → s < n → StepOk nm n s := fun s a b => ⟨a, by unfold many; rw [hp]; simpa using b⟩
    have inc : ∀ p, off nm ≤ p → p + 1 < n + off nm → f p < f (p + 1) := by
      intro p hp1 hp2
      rw [ho] at hp1 hp2
      have q := hc p (st p (by omega) (by omega))
      unfold lowP at q
      rw [hm] at q
      simp only [if_true] at q
      rw [if_pos (by omega), (tT_mir hm (by omega)).1] at q
      have : f (p + 1) ≠ f p := fun z => by have := o.o.i _ _ z; omega
      omega
    have f1 : 0 < f 1 := by
      have q := hc 0 (st 0 (by omega) (by omega))
      unfold lowP at q
      rw [hm] at q
      simp only [if_true] at q
      rw [if_neg (by omega), (tT_mir0 hm).2.1, good_odd o.o.g hm] at q
      have : f 1 ≠ 0 := fun z => by
        have e0 : f 0 = 0 := by
          have := good_odd o.o.g hm 0
          simp at this
          omega
        have := o.o.i 1 0 (by rw [z, e0])
        omega
      omega
    have en : nrm nm n (win nm n f) = win nm n f := by
      unfold nrm
      rw [if_pos hm]
      have key : ∀ a ∈ win nm n f, ((a.natAbs : Nat) : Int) = a := by
        intro a ha
        unfold win at ha
        obtain ⟨p, hp, rfl⟩ := List.mem_map.1 ha
        have h1 := places_mem hp
        have h2 := mono inc (p - 1).toNat 1 (by omega) (by omega)
        rw [show 1 + ((p - 1).toNat : Int) = p by omega] at h2
        omega
      rw [List.map_congr_left key]
      simp
    have pm := o.v.pm
    rw [en] at pm
    exact sorted_eq pm (win_sorted inc) places_le
  | false =>
    have ho : off nm = 0 := by unfold off; rw [hm]; rfl
    have lw : ∀ s, lowP nm s = s := fun s => by unfold lowP; rw [hm]; rfl
    have st : ∀ s, 0 ≤ s → s + 1 < n → StepOk nm n s := fun s a b => ⟨a, by unfold many; split <;> omega⟩
    have inc : ∀ p, off nm ≤ p → p + 1 < n + off nm → f p < f (p + 1) := by
      intro p hp1 hp2
      rw [ho] at hp1 hp2
      have q := hc p (st p (by omega) (by omega))
      rw [lw, (tT_in hm (by omega) (by omega)).1] at q
      have : f (p + 1) ≠ f p := fun z => by have := o.o.i _ _ z; omega
      omega
    cases hp : isP nm with
    | true =>
      have pm := o.v.pm
      unfold nrm at pm
      rw [hm, hp] at pm
      simp only [Bool.false_eq_true, if_false, if_true] at pm
      exact sorted_eq pm (win_sorted inc) places_le
    | false =>
      have hn2 := (kring h hm hp).1
      have q := hc (n - 1) ⟨by omega, by unfold many; rw [hp]; simp; omega⟩
      rw [lw, (tT_wrap hm hn2).2.1] at q
      have g2 : f n = f 0 + n := by
        have := good_per o.o.g hm 0
        rw [Int.zero_add] at this
        exact this
      have ne : f n ≠ f (n - 1) := fun z => by have := o.o.i _ _ z; omega
      have val : ∀ p, off nm ≤ p → p < n + off nm → f p = f 0 + p := by
        intro p p0 p1
        rw [ho] at p0 p1
        have h1 := mono inc p.toNat 0 (by omega) (by omega)
        have h2 := mono inc (n - 1 - p).toNat p (by omega) (by omega)
        rw [show 0 + (p.toNat : Int) = p by omega] at h1
        rw [show p + ((n - 1 - p).toNat : Int) = n - 1 by omega] at h2
        omega
      have e1 : win nm n f = win nm n (fun p => f 0 + p) := win_ext val
      have e2 : (win nm n f).sum = f 0 * (places nm n).length + (places nm n).sum := by
        rw [e1]
        exact sum_shift (f 0) (places nm n)
      have e3 := o.v.sm hm
      rw [places_len (by omega)] at e2
      have e4 : f 0 * n = 0 := by omega
      have e5 : f 0 = 0 := by
        rcases Int.mul_eq_zero.1 e4 with z | z
        · exact z
        · omega
      rw [e1, e5]
      have e6 : (fun p : Int => 0 + p) = fun p => p := by funext p; omega
      rw [e6, win_id]
end Cx

namespace Cx
open PySem Lay
/-! ### least rows -/
theorem pr_zero {c : Int → Int → Int} : ∀ {l : List Int}, l.Pairwise (fun a b => c a b = 0) → pr c l = 0
  | [], _ => rfl
  | a :: l, h => by
    obtain ⟨h1, h2⟩ := List.pairwise_cons.1 h
    unfold pr
    rw [pr_zero h2, List.map_congr_left (g := fun _ => (0 : Int)) fun b hb => h1 b hb]
    have : ∀ l : List Int, (l.map fun _ => (0 : Int)).sum = 0 := fun l => by
      induction l with
      | nil => rfl
      | cons a l ih => rw [List.map_cons, List.sum_cons, ih]; rfl
    rw [this]
    rfl
theorem len_places {nm : Str} {n : Int} (h : KOk nm n) : len nm n (places nm n) = 0 := by
  obtain ⟨k1, k7⟩ := kpos h
  unfold len
  have e1 : pr (cB nm n) (places nm n) = 0 := by
    refine pr_zero (List.Pairwise.imp_of_mem ?_ (rg_sorted (off nm) (n + off nm)))
    intro a b ha hb hab
    have h1 := mem_rg.1 ha
    have h2 := mem_rg.1 hb
    unfold cB
    unfold off at h1 h2
    split
    · next hm =>
      rw [if_pos hm] at h1 h2
      rw [if_neg (by omega), if_neg (by omega)]
      rfl
    · next hm =>
      rw [if_neg hm] at h1 h2
      split
      · rw [if_neg (by omega)]
      · rw [Int.ediv_eq_zero_of_lt (by omega) (by omega)]
        rfl
  rw [e1]
  split
  · next hm =>
    have e2 : ∀ a ∈ places nm n, neg1 a = 0 := fun a ha => by
      have := places_mem ha
      unfold off at this
      rw [if_pos hm] at this
      unfold neg1
      rw [if_neg (by omega)]
    rw [List.map_congr_left e2]
    have : ∀ l : List Int, (l.map fun _ => (0 : Int)).sum = 0 := fun l => by
      induction l with
      | nil => rfl
      | cons a l ih => rw [List.map_cons, List.sum_cons, ih]; rfl
    rw [this]
    rfl
  · rfl
/-- the falls, in order -/
def fl (nm : Str) (n : Int) (f : Int → Int) : List Int := (rgI 0 (many nm n)).filter fun s => crs nm n s f
theorem mem_fl {nm : Str} {n s : Int} {f : Int → Int} : s ∈ fl nm n f ↔ StepOk nm n s ∧ crs nm n s f = true := by
  unfold fl StepOk
  rw [List.mem_filter, mem_rg]
/-- the steps that are taken away, the first one first -/
inductive Rm (nm : Str) (n : Int) : (Int → Int) → List Int → Prop
  | nil {f : Int → Int} (h : fl nm n f = []) : Rm nm n f []
  | cons {f : Int → Int} {l : List Int} {s : Int} {xs : List Int} (h : fl nm n f = l ++ [s]) (t : Rm nm n (fun p => f (tT nm n s p)) xs) : Rm nm n f (s :: xs)
theorem last_of {l : List Int} (h : l ≠ []) : ∃ r s, l = r ++ [s] := ⟨l.dropLast, l.getLast h, (List.dropLast_concat_getLast h).symm⟩
theorem rm_exists {nm : Str} {n : Int} (h : KOk nm n) : ∀ (k : Nat) {f : Int → Int}, Orx nm n f → len nm n (win nm n f) = k → ∃ xs, Rm nm n f xs ∧ Row nm n xs ∧ xs.length = k ∧ win nm n (fun p => f (F nm n xs p)) = places nm n := by
  intro k
  induction k with
  | zero =>
    intro f o hk
    have hf : fl nm n f = [] := by
      cases hl : fl nm n f with
      | nil => rfl
      | cons s r =>
        have hs := mem_fl.1 (show s ∈ fl nm n f by rw [hl]; simp)
        have h1 := len_step h hs.1 o.o
        rw [hs.2] at h1
        have h2 := len_nonneg (nm := nm) (n := n) (w := win nm n fun p => f (tT nm n s p))
        unfold b1 at h1
        simp at h1
        omega
    refine ⟨[], .nil hf, fun s hs => by simp at hs, rfl, ?_⟩
    show win nm n f = _
    refine no_falls h o fun s hs => ?_
    cases hc : crs nm n s f with
    | false => rfl
    | true =>
      have := mem_fl.2 ⟨hs, hc⟩
      rw [hf] at this
      simp at this
  | succ k ih =>
    intro f o hk
    have hne : fl nm n f ≠ [] := fun z => by
      have e := no_falls h o fun s hs => by
        cases hc : crs nm n s f with
        | false => rfl
        | true =>
          have := mem_fl.2 ⟨hs, hc⟩
          rw [z] at this
          simp at this
      rw [e, len_places h] at hk
      omega
    obtain ⟨r, s, hl⟩ := last_of hne
    have hs := mem_fl.1 (show s ∈ fl nm n f by rw [hl]; simp)
    have h1 := len_step h hs.1 o.o
    rw [hs.2] at h1
    unfold b1 at h1
    simp at h1
    obtain ⟨xs, a1, a2, a3, a4⟩ := ih (orx_step h hs.1 o) (by omega)
    refine ⟨s :: xs, .cons hl a1, fun x hx => ?_, by simp [a3], a4⟩
    rcases List.mem_cons.1 hx with rfl | hx
    · exact hs.1
    · exact a2 x hx
theorem rm_ex {nm : Str} {n : Int} (h : KOk nm n) {f : Int → Int} (o : Orx nm n f) : ∃ xs, Rm nm n f xs ∧ Row nm n xs ∧ (xs.length : Int) = len nm n (win nm n f) ∧ win nm n (fun p => f (F nm n xs p)) = places nm n := by
  have h0 := len_nonneg (nm := nm) (n := n) (w := win nm n f)
  obtain ⟨xs, a, b, c, d⟩ := rm_exists h (len nm n (win nm n f)).toNat o (by omega)
  exact ⟨xs, a, b, by omega, d⟩
/-! what is alike in the window is alike -/
theorem win_eq {nm : Str} {n : Int} {f g : Int → Int} (e : win nm n f = win nm n g) : ∀ p, off nm ≤ p → p < n + off nm → f p = g p := by
  intro p h1 h2
  unfold win at e
  exact List.map_inj_left.1 e p (mem_rg.2 ⟨h1, h2⟩)
theorem dom_ext {nm : Str} {n : Int} {f g : Int → Int} (h : KOk nm n) (a : Good nm n f) (b : Good nm n g) (e : win nm n f = win nm n g) : ∀ p, dom nm n p → f p = g p := by
  intro p hd
  obtain ⟨k1, _⟩ := kpos h
  have w := win_eq e
  cases hm : isM nm with
  | true =>
    obtain ⟨h1, h2⟩ := hd hm
    have ho : off nm = 1 := by unfold off; rw [hm]; rfl
    rw [ho] at w
    rcases Int.lt_or_le p 0 with z | z
    · have := w (-p) (by omega) (by omega)
      rw [good_odd a hm, good_odd b hm] at this
      omega
    · exact w p (by omega) (by omega)
  | false =>
    have ho : off nm = 0 := by unfold off; rw [hm]; rfl
    rw [ho] at w
    have e1 := per_mod (good_per a hm) p
    have e2 := per_mod (good_per b hm) p
    have := w (p % n) (Int.emod_nonneg _ (by omega)) (by have := Int.emod_lt_of_pos p (show 0 < n by omega); omega)
    omega
theorem F_dom {nm : Str} {n : Int} (h : KOk nm n) : ∀ (ss : List Int) {p : Int}, Row nm n ss → dom nm n p → dom nm n (F nm n ss p)
  | [], _, _, d => d
  | s :: ss, _, r, d => tT_dom h (r s (by simp)) (F_dom h ss (fun x hx => r x (by simp [hx])) d)
/-- g turns f back -/
structure Opp (nm : Str) (n : Int) (f g : Int → Int) : Prop where
  fg : ∀ p, dom nm n p → f (g p) = p
  gf : ∀ p, dom nm n p → g (f p) = p
  fd : ∀ p, dom nm n p → dom nm n (f p)
  gd : ∀ p, dom nm n p → dom nm n (g p)
theorem Opp.sym {nm : Str} {n : Int} {f g : Int → Int} (o : Opp nm n f g) : Opp nm n g f := ⟨o.gf, o.fg, o.gd, o.fd⟩
theorem opp_of {nm : Str} {n : Int} {f : Int → Int} {xs : List Int} (h : KOk nm n) (o : Orx nm n f) (r : Row nm n xs) (e : win nm n (fun p => f (F nm n xs p)) = places nm n) : Opp nm n f (F nm n xs) := by
  have g1 : Good nm n (fun p => f (F nm n xs p)) := (orx_row h xs r o).o.g
  have e' : win nm n (fun p => f (F nm n xs p)) = win nm n (fun p => p) := by rw [win_id]; exact e
  have k := dom_ext h g1 good_id e'
  have k2 : ∀ p, dom nm n p → f p = F nm n xs.reverse p := by
    intro p hp
    have := k (F nm n xs.reverse p) (F_dom h _ r.rev hp)
    rw [F_rev h xs r] at this
    exact this
  refine ⟨k, fun p hp => ?_, fun p hp => ?_, fun p hp => F_dom h _ r hp⟩
  · rw [k2 p hp, F_rev h xs r]
  · rw [k2 p hp]; exact F_dom h _ r.rev hp
/-- the opposite has as many crossings -/
theorem len_opp_le {nm : Str} {n : Int} {f g : Int → Int} (h : KOk nm n) (o : Orx nm n f) (og : Orx nm n g) (p : Opp nm n f g) : len nm n (win nm n g) ≤ len nm n (win nm n f) := by
  obtain ⟨xs, a, b, c, d⟩ := rm_ex h o
  have q := opp_of h o b d
  have e : win nm n g = win nm n (F nm n xs) := win_ext fun x h1 h2 => by
    have hx : dom nm n x := places_dom (mem_rg.2 ⟨h1, h2⟩)
    have := q.gf (g x) (p.gd x hx)
    rw [p.fg x hx] at this
    exact this.symm
  rw [e, ← c]
  have h9 : len nm n (win nm n (F nm n xs)) ≤ len nm n (win nm n fun p => p) + xs.length := len_row h xs b (f := fun p => p) ord_id
  rw [win_id, len_places h] at h9
  omega
theorem len_opp {nm : Str} {n : Int} {f g : Int → Int} (h : KOk nm n) (o : Orx nm n f) (og : Orx nm n g) (p : Opp nm n f g) : len nm n (win nm n g) = len nm n (win nm n f) := by
  have h1 := len_opp_le h o og p
  have h2 := len_opp_le h og o p.sym
  omega
theorem opp_row {nm : Str} {n : Int} (h : KOk nm n) {ss : List Int} (r : Row nm n ss) : Opp nm n (F nm n ss) (F nm n ss.reverse) :=
  ⟨fun p _ => F_rev h ss r p, fun p _ => F_rev' h ss r p, fun _ hp => F_dom h ss r hp, fun _ hp => F_dom h _ r.rev hp⟩
end Cx

namespace Cx
open PySem Lay
/-! ### orders as data -/
def wd (nm : Str) (n : Int) (f : Int → Int) : D := .lst ((win nm n f).map D.int)
theorem lcGo_filter {ev : Env'} {t : Tgt} {mt : Env' → Option Bool} {me : Env' → Option D} {b : Int → Bool} {g : Int → Int} : ∀ {ps : List Int}, (∀ p ∈ ps, ∃ ev', t.put (.int p) ev = some ev' ∧ mt ev' = some (b p) ∧ me ev' = some (.int (g p))) → lcGo ev t mt me (ps.map D.int) = some (((ps.filter b).map g).map D.int)
  | [], _ => rfl
  | p :: ps, h => by
    obtain ⟨ev', h1, h2, h3⟩ := h p (by simp)
    have ih := lcGo_filter (ps := ps) (fun d hd => h d (by simp [hd]))
    rw [List.map_cons]
    unfold lcGo
    rw [h1]
    simp only [Option.bind_eq_bind, Option.bind_some, h2, h3, ih]
    cases hb : b p with
    | true => simp [List.filter_cons, hb]
    | false => simp [List.filter_cons, hb]
theorem win_len {nm : Str} {n : Int} {f : Int → Int} (h : KOk nm n) : ((win nm n f).length : Int) = n := by
  unfold win
  rw [List.length_map]
  exact places_len (by have := kpos h; omega)
theorem ix_last {l : List Int} {s : Int} : D.ix (.lst ((l ++ [s]).map D.int)) (.int (((l ++ [s]).length : Int) - 1)) = some (.int s) := by
  have e : (((l ++ [s]).length : Int) - 1) = (l.length : Int) := by
    rw [List.length_append]
    simp
  rw [e]
  show L2.atI ((l ++ [s]).map D.int) (l.length : Int) = _
  unfold L2.atI L2.ixN
  rw [if_pos (by omega), if_pos (by rw [List.length_map, List.length_append, List.length_cons, List.length_nil]; omega)]
  simp
theorem rgB_ok0 {b : Int} (h0 : 0 ≤ b) (h : b ≤ 1000000000) : rgB 0 b = true := by
  simp [rgB]
  omega
theorem fl_len {nm : Str} {n : Int} {f : Int → Int} (h : KOk nm n) : (fl nm n f).length ≤ 10 := by
  unfold fl
  have h1 := List.length_filter_le (fun s => crs nm n s f) (rgI 0 (many nm n))
  have h2 : (rgI 0 (many nm n)).length = (many nm n - 0).toNat := by
    unfold rgI
    rw [List.length_map, List.length_range]
  have := many_pos h
  omega
theorem rg_len {a b : Int} : (rgI a b).length = (b - a).toNat := by
  unfold rgI
  rw [List.length_map, List.length_range]
end Cx

namespace Cx
open PySem Lay
theorem cut_last (B : List D) (d : D) : D.cut (.lst (B ++ [d])) none (some (-1)) = some B := by
  show some (cutG (B ++ [d]) none (some (-1))) = _
  congr 1
  unfold cutG HT.sIx
  simp only [List.length_append, List.length_cons, List.length_nil]
  rw [if_pos (by decide), show (-1 + ((B.length + (0 + 1) : Nat) : Int)).toNat - 0 = B.length by omega]
  simp
theorem isin_ints (s : Int) (l : List Int) : D.isin (.int s) (.lst (l.map D.int)) = some (decide (s ∈ l)) := by
  have h1 : (l.map D.int).all D.flat = true := by
    rw [List.all_eq_true]
    intro x hx
    obtain ⟨a, _, rfl⟩ := List.mem_map.1 hx
    rfl
  unfold D.isin
  simp only []
  rw [if_pos ⟨rfl, h1⟩]
  congr 1
  induction l with
  | nil => rfl
  | cons a l ih =>
    have h2 : (l.map D.int).all D.flat = true := by
      rw [List.all_eq_true]
      intro x hx
      obtain ⟨a, _, rfl⟩ := List.mem_map.1 hx
      rfl
    rw [List.map_cons, List.any_cons, ih h2]
    have e : (a == s) = decide (s = a) := by
      by_cases h : s = a
      · subst h; simp
      · have h' : ¬ a = s := fun z => h z.symm
        simp [h, h']
    simp [D.eqF, e]
end Cx

namespace Ty
open PySem Lay Cx
/-! ### small facts on typed operations -/
/-- (no proof by rfl: the kernel must not compare whole terms) -/
theorem bsm {α β : Type} (a : α) (f : α → Option β) : (some a).bind f = f a := Eq.trans rfl rfl
@[simp] theorem teq_int (a b : Int) : teq a b = some (decide (a = b)) := teq_ok (P := inferInstance) (by decide) rfl rfl
@[simp] theorem tne_int (a b : Int) : tne a b = some (!decide (a = b)) := tne_ok (P := inferInstance) (by decide) rfl rfl
@[simp] theorem teq_bool (a b : Bool) : teq a b = some (decide (a = b)) := teq_ok (P := inferInstance) (by decide) rfl rfl
@[simp] theorem tne_bool (a b : Bool) : tne a b = some (!decide (a = b)) := tne_ok (P := inferInstance) (by decide) rfl rfl
theorem ok_ints (a : List Int) : (inferInstance : Pyd (List Int)).ok a = true := by
  show a.all (fun _ => true) = true
  simp
theorem ok_lints (a : List (List Int)) : (inferInstance : Pyd (List (List Int))).ok a = true := by
  show a.all (fun x : List Int => x.all fun _ => true) = true
  simp
theorem ok_pairs (a : List (T2 Int Int)) : (inferInstance : Pyd (List (T2 Int Int))).ok a = true := by
  show a.all (fun x : T2 Int Int => true && true) = true
  simp
@[simp] theorem teq_ints (a b : List Int) : teq a b = some (decide (a = b)) := teq_ok (P := inferInstance) (by decide) (ok_ints a) (ok_ints b)
@[simp] theorem tne_ints (a b : List Int) : tne a b = some (!decide (a = b)) := tne_ok (P := inferInstance) (by decide) (ok_ints a) (ok_ints b)
@[simp] theorem teq_lints (a b : List (List Int)) : teq a b = some (decide (a = b)) := teq_ok (P := inferInstance) (by decide) (ok_lints a) (ok_lints b)
@[simp] theorem tne_lints (a b : List (List Int)) : tne a b = some (!decide (a = b)) := tne_ok (P := inferInstance) (by decide) (ok_lints a) (ok_lints b)
@[simp] theorem teq_pair (a b : T2 Int Int) : teq a b = some (decide (a = b)) := teq_ok (P := inferInstance) (by decide) rfl rfl
@[simp] theorem tne_pair (a b : T2 Int Int) : tne a b = some (!decide (a = b)) := tne_ok (P := inferInstance) (by decide) rfl rfl
@[simp] theorem teq_pairs (a b : List (T2 Int Int)) : teq a b = some (decide (a = b)) := teq_ok (P := inferInstance) (by decide) (ok_pairs a) (ok_pairs b)
@[simp] theorem tne_pairs (a b : List (T2 Int Int)) : tne a b = some (!decide (a = b)) := tne_ok (P := inferInstance) (by decide) (ok_pairs a) (ok_pairs b)
theorem teq_str {a b : Str} (ha : PyData.strOk a = true) (hb : PyData.strOk b = true) : teq a b = some (decide (a = b)) := teq_ok (P := inferInstance) (by decide) ha hb
theorem tne_str {a b : Str} (ha : PyData.strOk a = true) (hb : PyData.strOk b = true) : tne a b = some (!decide (a = b)) := tne_ok (P := inferInstance) (by decide) ha hb
/-- Python's number behind a list that may hold None -/
theorem tne_some (a : List Int) (b : List Int) : tne a (b.map some) = some (!decide (a = b)) := by
  have : tne a (b.map some) = tne a b := by
    unfold tne
    show D.ne (Enc.e a) (D.lst ((b.map some).map Enc.e)) = _
    rw [map_some]
    rfl
  rw [this, tne_ints]
theorem teq_some (a : List Int) (b : List Int) : teq a (b.map some) = some (decide (a = b)) := by
  have : teq a (b.map some) = teq a b := by
    unfold teq
    show D.eq (Enc.e a) (D.lst ((b.map some).map Enc.e)) = _
    rw [map_some]
    rfl
  rw [this, teq_ints]
theorem tmul_r {a b : Int} (h : b.natAbs < 18446744073709551616) : tmul a b = some (a * b) := by simp [tmul, mulOk, h]
theorem tmul_l {a b : Int} (h : a.natAbs < 18446744073709551616) : tmul a b = some (a * b) := by simp [tmul, mulOk, h]
theorem tmod_p {a b : Int} (h : 0 < b) : tmod a b = some (a % b) := if_pos h
theorem log_small {b : Int} (h : b.natAbs < 1000000000000) : b.natAbs.log2 < 9000 := by
  by_cases h0 : b.natAbs = 0
  · rw [h0]; decide
  · refine (Nat.log2_lt h0).2 ?_
    exact Nat.lt_of_lt_of_le (show b.natAbs < 2 ^ 40 by omega) (Nat.pow_le_pow_right (by decide) (by decide))
theorem tfdiv_p {a b : Int} (h : 0 < b) (h2 : b < 1000000000000) : tfdiv a b = some (a / b) := if_pos ⟨h, log_small (by omega)⟩
theorem tin_ints (a : Int) (xs : List Int) : tin a xs = some (decide (a ∈ xs)) := isin_ints a xs
theorem trg_ok {a b : Int} (h1 : -1000000000 ≤ a) (h2 : a ≤ 1000000000) (h3 : -1000000000 ≤ b) (h4 : b ≤ 1000000000) : trg a b = some (rgI a b) := by
  unfold trg
  rw [if_pos]
  simp [rgB, h1, h2, h3, h4]
theorem tlrg_ok {a b : Int} (h1 : -1000000 ≤ a) (h2 : a ≤ 1000000) (h3 : -1000000 ≤ b) (h4 : b ≤ 1000000) : tlrg a b = some (rgI a b) := by
  unfold tlrg
  rw [if_pos]
  simp [RgOkB, h1, h2, h3, h4]
theorem bid {α : Type} {x : Option α} : (x.bind fun a => some a) = x := by cases x <;> rfl
/-! comprehensions -/
theorem lcT_map {α β : Type} {f : α → Option β} {g : α → β} : ∀ {xs : List α}, (∀ x ∈ xs, f x = some (g x)) → lcT (fun _ => some true) f xs = some (xs.map g)
  | [], _ => rfl
  | x :: xs, h => by
    unfold lcT
    simp only [bsm, if_true, h x List.mem_cons_self, lcT_map (xs := xs) fun y hy => h y (List.mem_cons_of_mem x hy), List.map_cons]
theorem lcT_filter {α : Type} {p : α → Option Bool} {b : α → Bool} : ∀ {xs : List α}, (∀ x ∈ xs, p x = some (b x)) → lcT p (fun x => some x) xs = some (xs.filter b)
  | [], _ => rfl
  | x :: xs, h => by
    unfold lcT
    simp only [bsm, h x List.mem_cons_self, lcT_filter (xs := xs) fun y hy => h y (List.mem_cons_of_mem x hy)]
    cases hb : b x <;> simp [List.filter_cons, hb]
theorem lcT_fm {α β : Type} {p : α → Option Bool} {b : α → Bool} {f : α → Option β} {g : α → β} : ∀ {xs : List α}, (∀ x ∈ xs, p x = some (b x)) → (∀ x ∈ xs, b x = true → f x = some (g x)) → lcT p f xs = some ((xs.filter b).map g)
  | [], _, _ => rfl
  | x :: xs, h, h2 => by
    unfold lcT
    have ih := lcT_fm (xs := xs) (fun y hy => h y (List.mem_cons_of_mem x hy)) (fun y hy => h2 y (List.mem_cons_of_mem x hy))
    simp only [bsm, h x List.mem_cons_self, ih]
    cases hb : b x
    · simp [List.filter_cons, hb]
    · simp [List.filter_cons, hb, h2 x List.mem_cons_self hb]
theorem tlc_map {α β : Type} {f : α → Option β} (g : α → β) {xs : List α} (hl : xs.length ≤ 1000000) (h : ∀ x ∈ xs, f x = some (g x)) : tlc (fun _ => some true) f xs = some (xs.map g) := by
  unfold tlc
  rw [if_pos hl, lcT_map h]
theorem tlc_filter {α : Type} {p : α → Option Bool} (b : α → Bool) {xs : List α} (hl : xs.length ≤ 1000000) (h : ∀ x ∈ xs, p x = some (b x)) : tlc p (fun x => some x) xs = some (xs.filter b) := by
  unfold tlc
  rw [if_pos hl, lcT_filter h]
theorem tlc_fm {α β : Type} {p : α → Option Bool} (b : α → Bool) {f : α → Option β} (g : α → β) {xs : List α} (hl : xs.length ≤ 1000000) (h : ∀ x ∈ xs, p x = some (b x)) (h2 : ∀ x ∈ xs, b x = true → f x = some (g x)) : tlc p f xs = some ((xs.filter b).map g) := by
  unfold tlc
  rw [if_pos hl, lcT_fm h h2]
/-! loops -/
theorem forT_inv {α σ : Type} {f : α → σ → Option σ} (Inv : σ → Prop) : ∀ {xs : List α} {s : σ}, (∀ x ∈ xs, ∀ s, Inv s → ∃ s', f x s = some s' ∧ Inv s') → Inv s → ∃ s', forT f xs s = some s' ∧ Inv s'
  | [], s, _, h => ⟨s, rfl, h⟩
  | x :: xs, s, hs, h => by
    obtain ⟨s1, h1, h2⟩ := hs x List.mem_cons_self s h
    obtain ⟨s', h3, h4⟩ := forT_inv Inv (xs := xs) (fun y hy => hs y (List.mem_cons_of_mem x hy)) h2
    refine ⟨s', ?_, h4⟩
    unfold forT
    rw [h1]
    exact h3
theorem forT_fold {α σ : Type} {f : α → σ → Option σ} {g : σ → α → σ} : ∀ {xs : List α} {s : σ}, (∀ x ∈ xs, ∀ s, f x s = some (g s x)) → forT f xs s = some (xs.foldl g s)
  | [], s, _ => rfl
  | x :: xs, s, h => by
    unfold forT
    rw [h x List.mem_cons_self]
    exact forT_fold fun y hy => h y (List.mem_cons_of_mem x hy)
theorem forC_inv {α σ ρ : Type} {f : α → σ → Option (Ctl ρ σ)} (Inv : σ → Prop) : ∀ {xs : List α} {s : σ}, (∀ x ∈ xs, ∀ s, Inv s → ∃ s', f x s = some (.nx s') ∧ Inv s') → Inv s → ∃ s', forC f xs s = some (.nx s') ∧ Inv s'
  | [], s, _, h => ⟨s, rfl, h⟩
  | x :: xs, s, hs, h => by
    obtain ⟨s1, h1, h2⟩ := hs x List.mem_cons_self s h
    obtain ⟨s', h3, h4⟩ := forC_inv Inv (xs := xs) (fun y hy => hs y (List.mem_cons_of_mem x hy)) h2
    refine ⟨s', ?_, h4⟩
    unfold forC
    rw [h1]
    exact h3
/-- nothing is carried -/
theorem forC_unit {α ρ : Type} {f : α → Unit → Option (Ctl ρ Unit)} {xs : List α} (h : ∀ x ∈ xs, f x () = some (.nx ())) : forC f xs () = some (.nx ()) := by
  obtain ⟨s, h1, _⟩ := forC_inv (f := f) (fun _ => True) (xs := xs) (s := ()) (fun x hx s _ => ⟨(), h x hx, trivial⟩) trivial
  exact h1
theorem mapS_inv {α β γ : Type} {f : α → γ → Option (β × γ)} (M : Nat) (Inv : Nat → γ → Prop) (P : β → Prop) : ∀ {xs : List α} {s : γ} {n : Nat}, n + xs.length ≤ M → (∀ x ∈ xs, ∀ n s, n < M → Inv n s → ∃ y s', f x s = some (y, s') ∧ P y ∧ Inv (n + 1) s') → Inv n s → ∃ ys s', mapS f xs s = some (ys, s') ∧ (∀ y ∈ ys, P y) ∧ ys.length = xs.length ∧ Inv (n + xs.length) s'
  | [], s, n, _, _, h => ⟨[], s, rfl, by simp, rfl, h⟩
  | x :: xs, s, n, hM, hs, h => by
    rw [List.length_cons] at hM
    obtain ⟨y, s1, h1, h2, h3⟩ := hs x List.mem_cons_self n s (by omega) h
    obtain ⟨ys, s', h4, h5, h6, h7⟩ := mapS_inv M Inv P (xs := xs) (by omega) (fun z hz => hs z (List.mem_cons_of_mem x hz)) h3
    refine ⟨y :: ys, s', ?_, ?_, by simp [h6], ?_⟩
    · unfold mapS
      rw [h1]
      simp only [bsm]
      rw [h4]
      rfl
    · intro z hz
      rcases List.mem_cons.1 hz with rfl | hz
      · exact h2
      · exact h5 z hz
    · rw [List.length_cons, show n + (xs.length + 1) = n + 1 + xs.length by omega]
      exact h7
theorem tlcS_inv {α β γ : Type} {f : α → γ → Option (β × γ)} {xs : List α} (Inv : Nat → γ → Prop) (P : β → Prop) {s : γ} (hl : xs.length ≤ 1000000) (hs : ∀ x ∈ xs, ∀ n s, n < xs.length → Inv n s → ∃ y s', f x s = some (y, s') ∧ P y ∧ Inv (n + 1) s') (h : Inv 0 s) : ∃ ys s', tlcS f xs s = some (ys, s') ∧ (∀ y ∈ ys, P y) ∧ ys.length = xs.length ∧ Inv xs.length s' := by
  unfold tlcS
  rw [if_pos hl]
  have := mapS_inv xs.length Inv P (xs := xs) (s := s) (n := 0) (by omega) hs h
  rwa [Nat.zero_add] at this
/-- a while that comes to an end -/
theorem whT_mono {σ : Type} {c : σ → Option Bool} {f : σ → Option σ} : ∀ {n m : Nat} {s s' : σ}, n ≤ m → whT c f n s = some s' → whT c f m s = some s'
  | 0, _, _, _, _, h => by cases h
  | n + 1, 0, _, _, hl, _ => by omega
  | n + 1, m + 1, s, s', hl, h => by
    unfold whT at h ⊢
    obtain ⟨b, h1, h2⟩ := bs h
    rw [h1]
    simp only [bsm]
    cases b with
    | true =>
      simp only [if_true] at h2 ⊢
      obtain ⟨s1, h3, h4⟩ := bs h2
      rw [h3]
      simp only [bsm]
      exact whT_mono (by omega) h4
    | false => exact h2
theorem whT_fuel {σ : Type} {c : σ → Option Bool} {f : σ → Option σ} {n : Nat} {s s' : σ} (hn : n ≤ 1000000000) (h : whT c f n s = some s') : whT c f FUEL s = some s' := whT_mono hn h
theorem tix_nat {α : Type} {xs : List α} {i : Nat} {x : α} (h : xs[i]? = some x) : tix xs (i : Int) = some x := by
  unfold tix L2.atI L2.ixN
  have hi : i < xs.length := by
    rcases Nat.lt_or_ge i xs.length with z | z
    · exact z
    · rw [List.getElem?_eq_none z] at h; cases h
  rw [if_pos (by omega), if_pos (by omega)]
  simpa using h
theorem tix0 {α : Type} {x : α} {xs : List α} : tix (x :: xs) 0 = some x := tix_nat (i := 0) rfl
theorem tix1 {α : Type} {x y : α} {xs : List α} : tix (x :: y :: xs) 1 = some y := tix_nat (i := 1) rfl
theorem tix2 {α : Type} {x y z : α} {xs : List α} : tix (x :: y :: z :: xs) 2 = some z := tix_nat (i := 2) rfl
theorem tset_nat {α : Type} {xs : List α} {i : Nat} {x : α} (h : i < xs.length) : tset xs (i : Int) x = some (xs.set i x) := by
  unfold tset L2.ixN
  rw [if_pos (by omega), if_pos (by omega)]
  simp
theorem tset0 {α : Type} {x y : α} {xs : List α} : tset (x :: xs) 0 y = some (y :: xs) := tset_nat (i := 0) (by simp)
theorem tset2 {α : Type} {x y z u : α} {xs : List α} : tset (x :: y :: z :: xs) 2 u = some (x :: y :: u :: xs) := tset_nat (i := 2) (by simp)
end Ty

namespace Mi
open PySem Lay
def mb_is_whole : SM := (sret (xand (m1 (D.isT "int") (xv 0)) (xnot (m1 (D.isT "bool") (xv 0)))))
def m_is_whole : List D → Option D := pdef 1 1 mb_is_whole
def mb_is_between : SM := (sret (xand (mL m_is_whole (acons (xv 0) anil)) (xand (vB (c2 D.ge (xv 0) (xv 1))) (xor (vB (c2 D.isN (xv 2) (xc .non))) (vB (c2 D.le (xv 0) (xv 2)))))))
def m_is_between : List D → Option D := pdef 3 3 mb_is_between
def mb_check_number : SM := (sif (lift (nB (tB' (mL m_is_between (acons (xv 0) (acons (xv 1) (acons (xv 2) anil))))))) snever snx)
def m_check_number : List D → Option D := pdef 3 3 mb_check_number
def m_Kind___init__ : List D → Option D := initM "Kind" "_name" "_size" (orB (nB (tB' (m1 (D.isT "str") (xv 1)))) (tbnot (xv 1))) (mL m_check_number (acons (xv 2) (acons (m2 D.bix (xv 1) (xc (.int 0))) (acons (m2 D.bix (xv 1) (xc (.int 1))) anil))))
def mb__law_hash : SM := (sseq (sasg 2 (lift (m2 D.mod (mL bInt (acons (m2 D.add (m2 D.add (m2 D.add (m2 D.mul (xv 0) (xc (.int 1140671))) (m2 D.mul (m2 D.mul (xc (.int 27644437)) (xv 1)) (xv 1))) (m2 D.mul (xc (.int 131)) (xv 1))) (xc (.int 19))) anil)) (xc (.int 2147483629)))))
    (sseq (sasg 2 (lift (m2 D.mod (mL bInt (acons (m2 D.add (m2 D.add (m2 D.mul (xv 2) (xv 2)) (m2 D.mul (xc (.int 62089)) (xv 1))) (xc (.int 32416187))) anil)) (xc (.int 2147483587)))))
    (sret (m2 D.mod (mL bInt (acons (m2 D.mul (xv 2) (xc (.int 48271))) anil)) (xc (.int 2147483647))))))
def m__law_hash : List D → Option D := pdef 2 3 mb__law_hash
def mb__law_random : SM := (sseq (sif (lift (c2 D.gt (xixo 0 (xc (.int 0))) (xc (.int 0)))) (sseq (sasg 2 (lift (m2 D.mod (mL bInt (acons (xixo 0 (xc (.int 0))) anil)) (xv 1))))
    (sseq (sput (gS 0 (xc (.int 0))) (lift (m2 D.fdiv (xixo 0 (xc (.int 0))) (xv 1))))
    (sret (xv 2)))) snx)
    (sseq (sasg 2 (lift (xc (.int 0))))
    (sseq (sfor (lift (irg1 (m2 D.add (xc (.int 1)) (m2 D.fdiv (m1 D.bits (xv 1)) (xc (.int 30)))))) (gN 3) (sseq (sput (gS 0 (xc (.int 2))) (lift (m2 D.add (xixo 0 (xc (.int 2))) (xc (.int 1)))))
    (sasg 2 (lift (m2 D.add (m2 D.mul (xv 2) (xc (.int 2147483587))) (mL m__law_hash (acons (xixo 0 (xc (.int 1))) (acons (xixo 0 (xc (.int 2))) anil))))))))
    (sret (m2 D.mod (mL bInt (acons (xv 2) anil)) (xv 1))))))
def m__law_random : List D → List D → Option (D × List D) := fdef 2 4 mb__law_random
def mb__law_kind : SM := (sseq (sasg 1 (f2 D.ix (lift (xl (xlst (acons (xc (.str "plain")) (acons (xc (.str "mirror")) (acons (xc (.str "ring")) anil)))))) (fF 0 m__law_random (lift (acons (xc (.int 3)) anil)))))
    (sseq (sasg 2 (flst (facons (f2 D.add (lift (xc (.int 1))) (fF 0 m__law_random (lift (acons (xc (.int 5)) anil)))) (facons (f2 D.add (lift (xc (.int 1))) (fF 0 m__law_random (lift (acons (xc (.int 4)) anil)))) (facons (f2 D.add (lift (xc (.int 2))) (fF 0 m__law_random (lift (acons (xc (.int 3)) anil)))) (lift anil))))))
    (sseq (sasg 3 (flst (facons (f2 D.add (lift (xc (.int 6))) (fF 0 m__law_random (lift (acons (xc (.int 2)) anil)))) (lift (acons (xc (.int 5)) (acons (xc (.int 5)) anil))))))
    (sseq (sasg 4 (fif (fc2 D.eq (fF 0 m__law_random (lift (acons (xc (.int 8)) anil))) (lift (xc (.int 0)))) (lift (xv 3)) (lift (xv 2))))
    (sret (xtup (acons (xv 1) (acons (m2 D.ix (xv 4) (m2 D.index (xl (xlst (acons (xc (.str "plain")) (acons (xc (.str "mirror")) (acons (xc (.str "ring")) anil))))) (xv 1))) anil))))))))
def m__law_kind : List D → List D → Option (D × List D) := fdef 1 5 mb__law_kind
def mb__law_start : SM := (sretO (xlrg (xrg2 (mL bInt (acons (vB (c2 D.eq (m2 D.ix (xv 0) (xc (.int 0))) (xc (.str "mirror")))) anil)) (m2 D.add (m2 D.ix (xv 0) (xc (.int 1))) (mL bInt (acons (vB (c2 D.eq (m2 D.ix (xv 0) (xc (.int 0))) (xc (.str "mirror")))) anil))))))
def m__law_start : List D → Option (List D) := odef 1 1 mb__law_start
def mb__law_item : SM := (sseq (sif (lift (c2 D.eq (m2 D.ix (xv 0) (xc (.int 0))) (xc (.str "mirror")))) (sret (m2 D.mul (m2 D.ix (xv 1) (m2 D.sub (mL bAbs (acons (xv 2) anil)) (xc (.int 1)))) (xif (c2 D.gt (xv 2) (xc (.int 0))) (xc (.int 1)) (m1 D.neg (xc (.int 1)))))) snx)
    (sret (m2 D.sub (m2 D.add (m2 D.ix (xv 1) (m2 D.mod (mL bInt (acons (xv 2) anil)) (m2 D.ix (xv 0) (xc (.int 1))))) (xv 2)) (m2 D.mod (mL bInt (acons (xv 2) anil)) (m2 D.ix (xv 0) (xc (.int 1)))))))
def m__law_item : List D → Option D := pdef 3 3 mb__law_item
def mb__law_turned : SM := (sseq (sif (lift (c2 D.eq (m2 D.ix (xv 0) (xc (.int 0))) (xc (.str "mirror")))) (sseq (sif (lift (c2 D.eq (xv 1) (xc (.int 0)))) (sret (xif (c2 D.eq (mL bAbs (acons (xv 2) anil)) (xc (.int 1))) (m1 D.neg (xv 2)) (xv 2))) snx)
    (sseq (sif (lift (c2 D.isin (mL bAbs (acons (xv 2) anil)) (xl (xlst (acons (xv 1) (acons (m2 D.add (xv 1) (xc (.int 1))) anil)))))) (sret (m2 D.mul (m2 D.sub (m2 D.add (m2 D.mul (xc (.int 2)) (xv 1)) (xc (.int 1))) (mL bAbs (acons (xv 2) anil))) (xif (c2 D.gt (xv 2) (xc (.int 0))) (xc (.int 1)) (m1 D.neg (xc (.int 1)))))) snx)
    (sret (xv 2)))) snx)
    (sseq (sasg 3 (lift (m2 D.mod (mL bInt (acons (m2 D.sub (xv 2) (xv 1)) anil)) (m2 D.ix (xv 0) (xc (.int 1))))))
    (sret (xif (c2 D.eq (xv 3) (xc (.int 0))) (m2 D.add (xv 2) (xc (.int 1))) (xif (c2 D.eq (xv 3) (xc (.int 1))) (m2 D.sub (xv 2) (xc (.int 1))) (xv 2))))))
def m__law_turned : List D → Option D := pdef 3 4 mb__law_turned
def mb__law_stepped : SM := (sretO (lcM false (.one 3) [3] (iseq (xl (mLo m__law_start (acons (xv 0) anil)))) tyes (mL m__law_item (acons (xv 0) (acons (xv 1) (acons (mL m__law_turned (acons (xv 0) (acons (xv 2) (acons (xv 3) anil)))) anil))))))
def m__law_stepped : List D → Option (List D) := odef 3 4 mb__law_stepped
def mb__law_made : SM := (sseq (sasg 2 (lift (xl (mLo m__law_start (acons (xv 0) anil)))))
    (sseq (sfor (lift (iseq (xv 1))) (gN 3) (sasg 2 (lift (xl (mLo m__law_stepped (acons (xv 0) (acons (xv 2) (acons (xv 3) anil))))))))
    (sret (xv 2))))
def m__law_made : List D → Option D := pdef 2 4 mb__law_made
def mb_check_kind : SM := (sif (lift (nB (tB' (m1 (D.isC "Kind") (xv 0))))) snever snx)
def m_check_kind : List D → Option D := pdef 1 1 mb_check_kind
def mb_Kind_size : SM := (sret (m1 (D.fld "Kind" "_size") (xv 0)))
def m_Kind_size : List D → Option D := pdef 1 1 mb_Kind_size
def mb_Kind_name : SM := (sret (m1 (D.fld "Kind" "_name") (xv 0)))
def m_Kind_name : List D → Option D := pdef 1 1 mb_Kind_name
def mb_is_order_list : SM := (sseq (sasg 2 (lift (mM "Kind" "size" m_Kind_size (xv 0) anil)))
    (sseq (sif (lift (orB (nB (tB' (m1 (D.isT "list") (xv 1)))) (orB (c2 D.ne (mL bLen (acons (xv 1) anil)) (xv 2)) (c2 D.ne (xl (lcM false (.one 3) [3] (iseq (xv 1)) (nB (tB' (mL m_is_whole (acons (xv 3) anil)))) (xv 3))) (xl (xlst anil)))))) (sret (xc (.bl false))) snx)
    (sseq (sif (lift (c2 D.eq (mM "Kind" "name" m_Kind_name (xv 0) anil) (xc (.str "plain")))) (sret (vB (c2 D.eq (xl (mLo bSorted (acons (xv 1) anil))) (xl (xlrg (xrg1 (xv 2))))))) snx)
    (sseq (sif (lift (c2 D.eq (mM "Kind" "name" m_Kind_name (xv 0) anil) (xc (.str "mirror")))) (sret (vB (c2 D.eq (xl (mLo bSorted (acons (xl (lcM false (.one 3) [3] (iseq (xv 1)) tyes (mL bAbs (acons (xv 3) anil)))) anil))) (xl (xlrg (xrg2 (xc (.int 1)) (m2 D.add (xv 2) (xc (.int 1))))))))) snx)
    (sret (xand (vB (c2 D.eq (xl (mLo bSorted (acons (xl (lcM false (.one 3) [3] (iseq (xv 1)) tyes (m2 D.mod (xv 3) (xv 2)))) anil))) (xl (xlrg (xrg1 (xv 2)))))) (vB (c2 D.eq (mL bSum (acons (xv 1) anil)) (m2 D.fdiv (m2 D.mul (xv 2) (m2 D.sub (xv 2) (xc (.int 1)))) (xc (.int 2)))))))))))
def m_is_order_list : List D → Option D := pdef 2 4 mb_is_order_list
def mb_crossings_between : SM := (sseq (sif (lift (c2 D.eq (mM "Kind" "name" m_Kind_name (xv 0) anil) (xc (.str "ring")))) (sret (mL bAbs (acons (m2 D.fdiv (m2 D.sub (xv 3) (xv 2)) (xv 1)) anil))) snx)
    (sret (m2 D.add (mL bInt (acons (vB (c2 D.gt (xv 2) (xv 3))) anil)) (mL bInt (acons (xand (vB (c2 D.eq (mM "Kind" "name" m_Kind_name (xv 0) anil) (xc (.str "mirror")))) (vB (c2 D.lt (m2 D.add (xv 2) (xv 3)) (xc (.int 0))))) anil)))))
def m_crossings_between : List D → Option D := pdef 4 4 mb_crossings_between
def mb_crossings_of : SM := (sseq (sasg 2 (lift (xc (.int 0))))
    (sseq (sfor (lift (ienum (xv 1))) (gTn 2 (gs1 (gN 3) (gs1 (gN 4) gs0))) (sseq (sfor (lift (iseq (xl (xcut (xv 1) (pS (m2 D.add (xv 3) (xc (.int 1)))) pN)))) (gN 5) (sasg 2 (lift (m2 D.add (xv 2) (mL m_crossings_between (acons (xv 0) (acons (mL bLen (acons (xv 1) anil)) (acons (xv 4) (acons (xv 5) anil)))))))))
    (sasg 2 (lift (m2 D.add (xv 2) (mL bInt (acons (xand (vB (c2 D.eq (mM "Kind" "name" m_Kind_name (xv 0) anil) (xc (.str "mirror")))) (vB (c2 D.lt (xv 4) (xc (.int 0))))) anil)))))))
    (sret (xv 2))))
def m_crossings_of : List D → Option D := pdef 2 6 mb_crossings_of
def mb_is_let_order : SM := (sret (xand (mL m_is_order_list (acons (xv 0) (acons (xv 1) anil))) (vB (c2 D.le (mL m_crossings_of (acons (xv 0) (acons (xv 1) anil))) (xc (.int 60))))))
def m_is_let_order : List D → Option D := pdef 2 2 mb_is_let_order
def mb_check_order : SM := (sif (lift (nB (tB' (mL m_is_let_order (acons (xv 0) (acons (xv 1) anil)))))) snever snx)
def m_check_order : List D → Option D := pdef 2 2 mb_check_order
def mb_check_orders : SM := (sseq (sdrop (lift (mL m_check_kind (acons (xv 0) anil))))
    (sfor (lift (iseq (xv 1))) (gN 2) (sdrop (lift (mL m_check_order (acons (xv 0) (acons (xv 2) anil)))))))
def m_check_orders : List D → Option D := pdef 2 3 mb_check_orders
def mb_item_at : SM := (sseq (sif (lift (c2 D.eq (mM "Kind" "name" m_Kind_name (xv 0) anil) (xc (.str "mirror")))) (sret (m2 D.mul (m2 D.ix (xv 1) (m2 D.sub (mL bAbs (acons (xv 2) anil)) (xc (.int 1)))) (xif (c2 D.gt (xv 2) (xc (.int 0))) (xc (.int 1)) (m1 D.neg (xc (.int 1)))))) snx)
    (sret (m2 D.sub (m2 D.add (m2 D.ix (xv 1) (m2 D.mod (xv 2) (mL bLen (acons (xv 1) anil)))) (xv 2)) (m2 D.mod (xv 2) (mL bLen (acons (xv 1) anil))))))
def m_item_at : List D → Option D := pdef 3 3 mb_item_at
def mb_product_of : SM := (sretO (lcM false (.one 3) [3] (iseq (xv 2)) tyes (mL m_item_at (acons (xv 0) (acons (xv 1) (acons (xv 3) anil))))))
def m_product_of : List D → Option (List D) := odef 3 4 mb_product_of
def mb_product : SM := (sseq (sdrop (lift (mL m_check_orders (acons (xv 0) (acons (xl (xlst (acons (xv 1) (acons (xv 2) anil)))) anil)))))
    (sretO (mLo m_product_of (acons (xv 0) (acons (xv 1) (acons (xv 2) anil))))))
def m_product : List D → Option (List D) := odef 3 3 mb_product
def mb_Kind_steps : SM := (sret (m2 D.sub (m1 (D.fld "Kind" "_size") (xv 0)) (mL bInt (acons (vB (c2 D.eq (m1 (D.fld "Kind" "_name") (xv 0)) (xc (.str "plain")))) anil))))
def m_Kind_steps : List D → Option D := pdef 1 1 mb_Kind_steps
def mb_check_step : SM := (sdrop (lift (mL m_check_number (acons (xv 1) (acons (xc (.int 0)) (acons (m2 D.sub (mM "Kind" "steps" m_Kind_steps (xv 0) anil) (xc (.int 1))) anil))))))
def m_check_step : List D → Option D := pdef 2 2 mb_check_step
def mb_by_step : SM := (sseq (sasgO 3 (mLo bList (acons (xv 1) anil)))
    (sseq (sif (lift (andB (c2 D.eq (mM "Kind" "name" m_Kind_name (xv 0) anil) (xc (.str "mirror"))) (c2 D.eq (xv 2) (xc (.int 0))))) (sput (gS 3 (xc (.int 0))) (lift (m1 D.neg (xixo 3 (xc (.int 0)))))) (sif (lift (andB (c2 D.eq (mM "Kind" "name" m_Kind_name (xv 0) anil) (xc (.str "ring"))) (c2 D.eq (xv 2) (m2 D.sub (mL bLen (acons (xv 1) anil)) (xc (.int 1)))))) (sput (gTn 2 (gs1 (gS 3 (xc (.int 0))) (gs1 (gS 3 (xv 2)) gs0))) (lift (xtup (acons (m2 D.sub (m2 D.ix (xv 1) (xv 2)) (mL bLen (acons (xv 1) anil))) (acons (m2 D.add (m2 D.ix (xv 1) (xc (.int 0))) (mL bLen (acons (xv 1) anil))) anil))))) (sseq (sasg 4 (lift (m2 D.sub (xv 2) (mL bInt (acons (vB (c2 D.eq (mM "Kind" "name" m_Kind_name (xv 0) anil) (xc (.str "mirror")))) anil)))))
    (sput (gTn 2 (gs1 (gS 3 (xv 4)) (gs1 (gS 3 (m2 D.add (xv 4) (xc (.int 1)))) gs0))) (lift (xtup (acons (m2 D.ix (xv 1) (m2 D.add (xv 4) (xc (.int 1)))) (acons (m2 D.ix (xv 1) (xv 4)) anil))))))))
    (sretV 3)))
def m_by_step : List D → Option (List D) := odef 3 5 mb_by_step
def mb_stepped : SM := (sseq (sdrop (lift (mL m_check_orders (acons (xv 0) (acons (xl (xlst (acons (xv 1) anil))) anil)))))
    (sseq (sdrop (lift (mL m_check_step (acons (xv 0) (acons (xv 2) anil)))))
    (sretO (mLo m_by_step (acons (xv 0) (acons (xv 1) (acons (xv 2) anil)))))))
def m_stepped : List D → Option (List D) := odef 3 3 mb_stepped
def mb_opposite_of : SM := (sseq (sasgO 2 (m2o D.rep (xl (xlst (acons (xc (.int 0)) anil))) (mL bLen (acons (xv 1) anil))))
    (sseq (sfor (lift (ienum (xv 1))) (gTn 2 (gs1 (gN 3) (gs1 (gN 4) gs0))) (sif (lift (c2 D.eq (mM "Kind" "name" m_Kind_name (xv 0) anil) (xc (.str "mirror")))) (sput (gS 2 (m2 D.sub (mL bAbs (acons (xv 4) anil)) (xc (.int 1)))) (lift (m2 D.mul (m2 D.add (xv 3) (xc (.int 1))) (xif (c2 D.gt (xv 4) (xc (.int 0))) (xc (.int 1)) (m1 D.neg (xc (.int 1))))))) (sput (gS 2 (m2 D.mod (xv 4) (mL bLen (acons (xv 1) anil)))) (lift (m2 D.sub (xv 3) (m2 D.sub (xv 4) (m2 D.mod (xv 4) (mL bLen (acons (xv 1) anil)))))))))
    (sretV 2)))
def m_opposite_of : List D → Option (List D) := odef 2 5 mb_opposite_of
def mb_opposite : SM := (sseq (sdrop (lift (mL m_check_orders (acons (xv 0) (acons (xl (xlst (acons (xv 1) anil))) anil)))))
    (sretO (mLo m_opposite_of (acons (xv 0) (acons (xv 1) anil)))))
def m_opposite : List D → Option (List D) := odef 2 2 mb_opposite
def mb_crossings : SM := (sseq (sdrop (lift (mL m_check_orders (acons (xv 0) (acons (xl (xlst (acons (xv 1) anil))) anil)))))
    (sret (mL m_crossings_of (acons (xv 0) (acons (xv 1) anil)))))
def m_crossings : List D → Option D := pdef 2 2 mb_crossings
def mb__law_many : SM := (sret (m2 D.sub (m2 D.ix (xv 0) (xc (.int 1))) (mL bInt (acons (vB (c2 D.eq (m2 D.ix (xv 0) (xc (.int 0))) (xc (.str "plain")))) anil))))
def m__law_many : List D → Option D := pdef 1 1 mb__law_many
def mb__law_row : SM := (sseq (sif (lift (c2 D.eq (mL m__law_many (acons (xv 1) anil)) (xc (.int 0)))) (sret (xl (xlst anil))) snx)
    (sretF (flcM (.one 3) [3] (frg1 (fF 0 m__law_random (lift (acons (m2 D.add (xv 2) (xc (.int 1))) anil)))) (fF 0 m__law_random (lift (acons (mL m__law_many (acons (xv 1) anil)) anil))))))
def m__law_row : List D → List D → Option (D × List D) := fdef 3 4 mb__law_row
def mb__law_product : SM := (sretO (lcM false (.one 3) [3] (iseq (xv 2)) tyes (mL m__law_item (acons (xv 0) (acons (xv 1) (acons (xv 3) anil))))))
def m__law_product : List D → Option (List D) := odef 3 4 mb__law_product
def mb_is_crossed : SM := (sseq (sif (lift (c2 D.eq (mM "Kind" "name" m_Kind_name (xv 0) anil) (xc (.str "mirror")))) (sret (xif (c2 D.eq (xv 2) (xc (.int 0))) (vB (c2 D.lt (m2 D.ix (xv 1) (xc (.int 0))) (xc (.int 0)))) (vB (c2 D.gt (m2 D.ix (xv 1) (m2 D.sub (xv 2) (xc (.int 1)))) (m2 D.ix (xv 1) (xv 2)))))) snx)
    (sseq (sif (lift (andB (c2 D.eq (mM "Kind" "name" m_Kind_name (xv 0) anil) (xc (.str "ring"))) (c2 D.eq (xv 2) (m2 D.sub (mL bLen (acons (xv 1) anil)) (xc (.int 1)))))) (sret (vB (c2 D.gt (m2 D.ix (xv 1) (xv 2)) (m2 D.add (m2 D.ix (xv 1) (xc (.int 0))) (mL bLen (acons (xv 1) anil)))))) snx)
    (sret (vB (c2 D.gt (m2 D.ix (xv 1) (xv 2)) (m2 D.ix (xv 1) (m2 D.add (xv 2) (xc (.int 1)))))))))
def m_is_crossed : List D → Option D := pdef 3 3 mb_is_crossed
def mb_falls_of : SM := (sretO (lcM false (.one 2) [2] (irg1 (mM "Kind" "steps" m_Kind_steps (xv 0) anil)) (tB' (mL m_is_crossed (acons (xv 0) (acons (xv 1) (acons (xv 2) anil))))) (xv 2)))
def m_falls_of : List D → Option (List D) := odef 2 3 mb_falls_of
def mb_heads_of : SM := (sretO (mLo m_falls_of (acons (xv 0) (acons (xl (mLo m_opposite_of (acons (xv 0) (acons (xv 1) anil)))) anil))))
def m_heads_of : List D → Option (List D) := odef 2 2 mb_heads_of
def mb_heads : SM := (sseq (sdrop (lift (mL m_check_orders (acons (xv 0) (acons (xl (xlst (acons (xv 1) anil))) anil)))))
    (sretO (mLo m_heads_of (acons (xv 0) (acons (xv 1) anil)))))
def m_heads : List D → Option (List D) := odef 2 2 mb_heads
def mb_falls : SM := (sseq (sdrop (lift (mL m_check_orders (acons (xv 0) (acons (xl (xlst (acons (xv 1) anil))) anil)))))
    (sretO (mLo m_falls_of (acons (xv 0) (acons (xv 1) anil)))))
def m_falls : List D → Option (List D) := odef 2 2 mb_falls
def mb__law_is_crossed : SM := (sseq (sasg 3 (lift (xif (c2 D.ne (m2 D.ix (xv 0) (xc (.int 0))) (xc (.str "mirror"))) (xv 2) (xif (c2 D.gt (xv 2) (xc (.int 0))) (xv 2) (m1 D.neg (xc (.int 1)))))))
    (sret (vB (c2 D.gt (mL m__law_item (acons (xv 0) (acons (xv 1) (acons (xv 3) anil)))) (mL m__law_item (acons (xv 0) (acons (xv 1) (acons (mL m__law_turned (acons (xv 0) (acons (xv 2) (acons (xv 3) anil)))) anil))))))))
def m__law_is_crossed : List D → Option D := pdef 3 4 mb__law_is_crossed
def mb__law_falls : SM := (sretO (lcM false (.one 2) [2] (irg1 (mL m__law_many (acons (xv 0) anil))) (tB' (mL m__law_is_crossed (acons (xv 0) (acons (xv 1) (acons (xv 2) anil))))) (xv 2)))
def m__law_falls : List D → Option (List D) := odef 2 3 mb__law_falls
def mb__law_least : SM := (sseq (smul [3, 4] (emO (xlst anil) (emV (lift (xl (mLo bList (acons (xv 1) anil)))) emN)))
    (sseq (sasg 2 (lift (xl (mLo m__law_falls (acons (xv 0) (acons (xv 4) anil))))))
    (sseq (swhile (c2 D.ne (xv 2) (xl (xlst anil))) (sseq (sapp 3 (m2 D.ix (xv 2) (m2 D.sub (mL bLen (acons (xv 2) anil)) (xc (.int 1)))))
    (sseq (sasg 4 (lift (xl (mLo m__law_stepped (acons (xv 0) (acons (xv 4) (acons (m2 D.ix (xv 2) (m2 D.sub (mL bLen (acons (xv 2) anil)) (xc (.int 1)))) anil)))))))
    (sasg 2 (lift (xl (mLo m__law_falls (acons (xv 0) (acons (xv 4) anil)))))))))
    (sretO (xrev (xb 3))))))
def m__law_least : List D → Option (List D) := odef 2 5 mb__law_least
def mb__law_opposite : SM := (sret (mL m__law_made (acons (xv 0) (acons (xl (xrev (xl (mLo m__law_least (acons (xv 0) (acons (xv 1) anil)))))) anil))))
def m__law_opposite : List D → Option D := pdef 2 2 mb__law_opposite
def mb_Kind_start : SM := (sseq (sasg 1 (lift (mL bInt (acons (vB (c2 D.eq (m1 (D.fld "Kind" "_name") (xv 0)) (xc (.str "mirror")))) anil))))
    (sretO (xlrg (xrg2 (xv 1) (m2 D.add (xv 1) (m1 (D.fld "Kind" "_size") (xv 0)))))))
def m_Kind_start : List D → Option (List D) := odef 1 2 mb_Kind_start
def mb__law_right : SM := (sseq (sasg 1 (fF 0 m__law_kind (lift anil)))
    (sseq (smul [7, 8] (emV (lift (mL m_Kind___init__ (acons (m2 D.ix (xv 1) (xc (.int 0))) (acons (m2 D.ix (xv 1) (xc (.int 1))) anil)))) (emV (flcM (.one 16) [16] (lift (irg1 (xc (.int 3)))) (fF 0 m__law_row (lift (acons (xv 1) (acons (xc (.int 12)) anil))))) emN)))
    (sseq (sput (gLs 3 (gs1 (gN 9) (gs1 (gN 10) (gs1 (gN 11) gs0)))) (lift (xl (lcM false (.one 15) [15] (iseq (xv 8)) tyes (mL m__law_made (acons (xv 1) (acons (xv 15) anil)))))))
    (sseq (sasg 2 (lift (mL bReprG (acons (xl (xlst (acons (xv 9) (acons (xv 10) (acons (xv 11) anil))))) anil))))
    (sseq (smul [12, 13] (emO (mLo m_product (acons (xv 7) (acons (xv 9) (acons (xv 10) anil)))) (emV (lift (xl (mLo bList (acons (xv 9) anil)))) emN)))
    (sseq (sfor (lift (iseq (m2 D.ix (xv 8) (xc (.int 1))))) (gN 3) (sasg 13 (lift (xl (mLo m_stepped (acons (xv 7) (acons (xv 13) (acons (xv 3) anil))))))))
    (sseq (sif (lift (orB (c2 D.ne (xb 12) (xv 13)) (orB (c2 D.ne (xb 12) (xl (mLo m__law_product (acons (xv 1) (acons (xv 9) (acons (xv 10) anil)))))) (c2 D.ne (xl (mKo [2, 1, 0] 0 3 m_product anil (acons (xv 10) (acons (xv 9) (acons (xv 7) anil))))) (xb 12))))) (sret (xc (.bl false))) snx)
    (sseq (sif (lift (c2 D.ne (xl (mLo m_product (acons (xv 7) (acons (xb 12) (acons (xv 11) anil))))) (xl (mLo m_product (acons (xv 7) (acons (xv 9) (acons (xl (mLo m_product (acons (xv 7) (acons (xv 10) (acons (xv 11) anil))))) anil))))))) (sret (xc (.bl false))) snx)
    (sseq (sif (lift (c2 D.ne (xb 12) (mL m__law_made (acons (xv 1) (acons (m2 D.add (m2 D.ix (xv 8) (xc (.int 0))) (m2 D.ix (xv 8) (xc (.int 1)))) anil))))) (sret (xc (.bl false))) snx)
    (sseq (sfor (lift (iseq (xl (xlst (acons (xv 9) (acons (xv 10) (acons (xv 11) anil))))))) (gN 4) (sseq (sasgO 14 (mLo m_opposite (acons (xv 7) (acons (xv 4) anil))))
    (sseq (sif (lift (orB (c2 D.ne (xb 14) (mL m__law_opposite (acons (xv 1) (acons (xv 4) anil)))) (orB (c2 D.ne (xl (mKo [1, 0] 0 2 m_opposite anil (acons (xv 4) (acons (xv 7) anil)))) (xb 14)) (c2 D.ne (xl (mLo m_opposite (acons (xv 7) (acons (xb 14) anil)))) (xv 4))))) (sret (xc (.bl false))) snx)
    (sseq (sif (lift (orB (c2 D.ne (xl (mLo m_product (acons (xv 7) (acons (xv 4) (acons (xb 14) anil))))) (xl (mMo "Kind" "start" m_Kind_start (xv 7) anil))) (c2 D.ne (xl (mLo m_product (acons (xv 7) (acons (xb 14) (acons (xv 4) anil))))) (xl (mMo "Kind" "start" m_Kind_start (xv 7) anil))))) (sret (xc (.bl false))) snx)
    (sseq (sif (lift (c2 D.ne (mL m_crossings (acons (xv 7) (acons (xb 14) anil))) (mL m_crossings (acons (xv 7) (acons (xv 4) anil))))) (sret (xc (.bl false))) snx)
    (sseq (sappN (mLo m_product (acons (xv 7) (acons (xv 4) (acons (xl (mMo "Kind" "start" m_Kind_start (xv 7) anil)) anil)))) (xc .non))
    (sseq (sappN (mLo m_product (acons (xv 7) (acons (xl (mMo "Kind" "start" m_Kind_start (xv 7) anil)) (acons (xv 4) anil)))) (xc .non))
    (sseq (sif (lift (orB (c2 D.ne (xl (mLo m_product (acons (xv 7) (acons (xv 4) (acons (xl (mMo "Kind" "start" m_Kind_start (xv 7) anil)) anil))))) (xv 4)) (c2 D.ne (xl (mLo m_product (acons (xv 7) (acons (xl (mMo "Kind" "start" m_Kind_start (xv 7) anil)) (acons (xv 4) anil))))) (xv 4)))) (sret (xc (.bl false))) snx)
    (sseq (sif (lift (c2 D.ne (xl (mLo m_heads (acons (xv 7) (acons (xv 4) anil)))) (xl (mLo m_falls (acons (xv 7) (acons (xb 14) anil)))))) (sret (xc (.bl false))) snx)
    (sapp 14 (xc .non)))))))))))
    (sseq (sif (lift (c2 D.ne (xl (mLo m_opposite (acons (xv 7) (acons (xb 12) anil)))) (xl (mLo m_product (acons (xv 7) (acons (xl (mLo m_opposite (acons (xv 7) (acons (xv 10) anil)))) (acons (xl (mLo m_opposite (acons (xv 7) (acons (xv 9) anil)))) anil))))))) (sret (xc (.bl false))) snx)
    (sseq (sasgO 5 (mLo bList (acons (xv 9) anil)))
    (sseq (sif (lift (orB (c2 D.ne (xl (mLo m_product (acons (xv 7) (acons (xb 5) (acons (xb 5) anil))))) (xl (mLo m__law_product (acons (xv 1) (acons (xv 9) (acons (xv 9) anil)))))) (c2 D.ne (xb 5) (xv 9)))) (sret (xc (.bl false))) snx)
    (sseq (sput (gAll 5) (lift (xv 10)))
    (sseq (sif (lift (orB (c2 D.ne (xl (mLo m_product (acons (xv 7) (acons (xb 5) (acons (xv 11) anil))))) (xl (mLo m__law_product (acons (xv 1) (acons (xv 10) (acons (xv 11) anil)))))) (c2 D.ne (xl (mLo m_opposite (acons (xv 7) (acons (xb 5) anil)))) (mL m__law_opposite (acons (xv 1) (acons (xv 10) anil)))))) (sret (xc (.bl false))) snx)
    (sseq (sasg 6 (lift (m2 D.sub (m2 D.add (mL m_crossings (acons (xv 7) (acons (xv 9) anil))) (mL m_crossings (acons (xv 7) (acons (xv 10) anil)))) (tight (mL m_crossings (acons (xv 7) (acons (xb 12) anil)))))))
    (sseq (sapp 12 (xc .non))
    (sseq (sif (lift (c2 D.ne (xl (mLo m_product (acons (xv 7) (acons (xv 9) (acons (xv 10) anil))))) (xl (xcut (xb 12) pN (pS (m1 D.neg (xc (.int 1)))))))) (sret (xc (.bl false))) snx)
    (sret (xand (vB (c2 D.ge (xv 6) (xc (.int 0)))) (xand (vB (c2 D.eq (m2 D.mod (mL bInt (acons (xv 6) anil)) (xc (.int 2))) (xc (.int 0)))) (vB (c2 D.eq (mL bReprG (acons (xl (xlst (acons (xv 9) (acons (xv 10) (acons (xv 11) anil))))) anil)) (xv 2))))))))))))))))))))))))
def m__law_right : List D → List D → Option (D × List D) := fdef 1 17 mb__law_right
def mb_ahead_of : SM := (sretO (mLo m_product_of (acons (xv 0) (acons (xl (mLo m_by_step (acons (xv 0) (acons (xl (mMo "Kind" "start" m_Kind_start (xv 0) anil)) (acons (xv 2) anil))))) (acons (xv 1) anil)))))
def m_ahead_of : List D → Option (List D) := odef 3 3 mb_ahead_of
def mb_stepped_ahead : SM := (sseq (sdrop (lift (mL m_check_orders (acons (xv 0) (acons (xl (xlst (acons (xv 1) anil))) anil)))))
    (sseq (sdrop (lift (mL m_check_step (acons (xv 0) (acons (xv 2) anil)))))
    (sretO (mLo m_ahead_of (acons (xv 0) (acons (xv 1) (acons (xv 2) anil)))))))
def m_stepped_ahead : List D → Option (List D) := odef 3 3 mb_stepped_ahead
def mb__law_cell : SM := (sseq (sif (lift (c2 D.lt (xv 1) (mL bLen (acons (xv 0) anil)))) (sret (m2 D.ix (xv 0) (xv 1))) snx)
    (sret (m2 D.mod (mL bSum (acons (xl (xcut (xv 0) pN (pS (xc (.int 1))))) anil)) (xc (.int 1000003)))))
def m__law_cell : List D → Option D := pdef 2 2 mb__law_cell
def mb__law_generator : SM := (sseq (sasg 2 (lift (mL m__law_cell (acons (xv 0) (acons (xv 1) anil)))))
    (sretO (xlst (acons (m2 D.mod (mL bInt (acons (mL bMax (acons (m2 D.sub (xv 2) (m2 D.pow (xc (.int 10)) (xc (.int 18)))) (acons (xc (.int 0)) anil))) anil)) (m2 D.pow (m2 D.pow (xc (.int 10)) (xc (.int 60))) (xc (.int 10)))) (acons (m2 D.mod (mL bInt (acons (xv 2) anil)) (xc (.int 2147483647))) (acons (m2 D.mul (xc (.int 1000)) (xv 1)) anil))))))
def m__law_generator : List D → Option (List D) := odef 2 3 mb__law_generator
def mb_law : SM := (sseq (sfor (lift (irg1 (xc (.int 3)))) (gN 1) (sif (lift (nB (tB' (mF m__law_right (mLo m__law_generator (acons (xv 0) (acons (xv 1) anil))) anil)))) (sret (xc (.bl false))) snx))
    (sseq (sput (gTn 4 (gs1 (gN 2) (gs1 (gN 3) (gs1 (gN 4) (gs1 (gN 5) gs0))))) (lift (xtup (acons (mL m_Kind___init__ (acons (xc (.str "mirror")) (acons (xc (.int 2)) anil))) (acons (mL m_Kind___init__ (acons (xc (.str "ring")) (acons (xc (.int 3)) anil))) (acons (mL m_Kind___init__ (acons (xc (.str "ring")) (acons (xc (.int 2)) anil))) (acons (xl (xlst (acons (m1 D.neg (xc (.int 60))) (acons (xc (.int 61)) anil)))) anil)))))))
    (sseq (sif (lift (orB (c2 D.ne (xl (mLo m_opposite (acons (xv 4) (acons (xv 5) anil)))) (xl (xlst (acons (xc (.int 60)) (acons (m1 D.neg (xc (.int 59))) anil))))) (c2 D.ne (xv 5) (xl (xlst (acons (m1 D.neg (xc (.int 60))) (acons (xc (.int 61)) anil))))))) (sret (xc (.bl false))) snx)
    (sseq (sif (lift (orB (c2 D.ne (xl (mLo m_product (acons (xv 4) (acons (xv 5) (acons (xv 5) anil))))) (xl (xlst (acons (m1 D.neg (xc (.int 120))) (acons (xc (.int 121)) anil))))) (orB (c2 D.ne (xl (mLo m_stepped (acons (xv 4) (acons (xv 5) (acons (xc (.int 0)) anil))))) (xl (xlst (acons (xc (.int 61)) (acons (m1 D.neg (xc (.int 60))) anil))))) (c2 D.ne (xl (mLo m_stepped_ahead (acons (xv 4) (acons (xv 5) (acons (xc (.int 1)) anil))))) (xl (xlst (acons (m1 D.neg (xc (.int 61))) (acons (xc (.int 62)) anil)))))))) (sret (xc (.bl false))) snx)
    (sseq (sif (lift (orB (c2 D.ne (xl (mLo m_opposite (acons (xv 2) (acons (xl (xlst (acons (m1 D.neg (xc (.int 2))) (acons (xc (.int 1)) anil)))) anil)))) (xl (xlst (acons (xc (.int 2)) (acons (m1 D.neg (xc (.int 1))) anil))))) (c2 D.ne (xl (mLo m_product (acons (xv 2) (acons (xl (xlst (acons (m1 D.neg (xc (.int 2))) (acons (xc (.int 1)) anil)))) (acons (xl (xlst (acons (m1 D.neg (xc (.int 2))) (acons (xc (.int 1)) anil)))) anil))))) (xl (xlst (acons (m1 D.neg (xc (.int 1))) (acons (m1 D.neg (xc (.int 2))) anil))))))) (sret (xc (.bl false))) snx)
    (sret (xand (vB (c2 D.eq (xl (mLo m_product (acons (xv 3) (acons (xl (xlst (acons (m1 D.neg (xc (.int 1))) (acons (xc (.int 1)) (acons (xc (.int 3)) anil))))) (acons (xl (xlst (acons (xc (.int 1)) (acons (xc (.int 0)) (acons (xc (.int 2)) anil))))) anil))))) (xl (xlst (acons (xc (.int 1)) (acons (m1 D.neg (xc (.int 1))) (acons (xc (.int 3)) anil))))))) (vB (c2 D.eq (xl (mLo m_opposite (acons (xv 3) (acons (xl (xlst (acons (xc (.int 1)) (acons (m1 D.neg (xc (.int 1))) (acons (xc (.int 3)) anil))))) anil)))) (xl (xlst (acons (m1 D.neg (xc (.int 1))) (acons (xc (.int 0)) (acons (xc (.int 4)) anil))))))))))))))
def m_law : List D → Option D := pdef 1 6 mb_law
end Mi

namespace Mi
open PySem Lay Ty
def t__law_cell (script : Scr) (index : Int) : Option Int :=
  (((some index).bind fun a => ((some script).bind fun x => some (x.ns.length : Int)).bind fun b => some (decide (a < b))).bind fun b2 => (if b2 = true then (((some script).bind fun a2 => (some index).bind fun b3 => tix a2.ns b3).bind fun a3 => some a3) else (((((some script).bind fun a4 => (some none).bind fun lo => ((some (1 : Int)).bind fun i => some (some i)).bind fun hi => some (cutG a4.ns lo hi)).bind fun x2 => some x2.sum).bind fun a5 => (some (1000003 : Int)).bind fun b4 => tmod a5 b4).bind fun a6 => some a6)))
theorem s__law_cell (script : Scr) (index : Int) : ∀ v, t__law_cell script index = some v → m__law_cell [Enc.e script, Enc.e index] = some (Enc.e v) := by
  unfold t__law_cell
  unfold m__law_cell mb__law_cell
  exact p_def rfl (show ST [.val (Enc.e script), .val (Enc.e index)] _ _ _ from (st_ifr (by exact (se_liftB (sb_c2 op_lt (sv_xv (x := index) rfl) (sv_mL (sc_cons (sv_xv (x := script) rfl) fun x => (sc_nil (bt_lenS x))))) fun b2 => by exact (kifr (by exact (show ST [.val (Enc.e script), .val (Enc.e index)] _ _ _ from (st_ret (sv_m2 op_ixS (sv_xv (x := script) rfl) (sv_xv (x := index) rfl)) fun a3 v h => by cases h; exact ⟨by simp, rfl⟩))) (by exact (show ST [.val (Enc.e script), .val (Enc.e index)] _ _ _ from (st_snx (show ST [.val (Enc.e script), .val (Enc.e index)] _ _ _ from (st_ret (sv_m2 op_mod (sv_mL (sc_cons (sv_xl (sl_cutS (sv_xv (x := script) rfl) sp_n (sp_s (sv_c (x := (1 : Int)) rfl)))) fun x2 => (sc_nil (bt_sum x2)))) (sv_c (x := (1000003 : Int)) rfl)) fun a6 v h => by cases h; exact rfl))))))))))
def t__law_generator (script : Scr) (index : Int) : Option (List Int) :=
  (((some script).bind fun x => ((some index).bind fun x2 => t__law_cell x x2)).bind fun seed => ((((((((some seed).bind fun a2 => ((some (10 : Int)).bind fun a => (some (18 : Int)).bind fun b => tpow a b).bind fun b2 => some (a2 - b2)).bind fun x3 => ((some (0 : Int)).bind fun x4 => some (if x4 > x3 then x4 else x3))).bind fun x5 => some x5).bind fun a5 => (((some (10 : Int)).bind fun a3 => (some (60 : Int)).bind fun b3 => tpow a3 b3).bind fun a4 => (some (10 : Int)).bind fun b4 => tpow a4 b4).bind fun b5 => tmod a5 b5).bind fun x6 => ((((some seed).bind fun x7 => some x7).bind fun a6 => (some (2147483647 : Int)).bind fun b6 => tmod a6 b6).bind fun x8 => (((some (1000 : Int)).bind fun a7 => (some index).bind fun b7 => tmul a7 b7).bind fun x9 => some [x6, x8, x9]))) : Option (List Int)).bind fun a8 => some a8))
theorem s__law_generator (script : Scr) (index : Int) : ∀ v, t__law_generator script index = some v → m__law_generator [Enc.e script, Enc.e index] = some (List.map Enc.e v) := by
  unfold t__law_generator
  unfold m__law_generator mb__law_generator
  exact o_def rfl (show ST [.val (Enc.e script), .val (Enc.e index), .emp] _ _ _ from (st_asg (se_lift (sv_mL (sc_cons (sv_xv (x := script) rfl) fun x => (sc_cons (sv_xv (x := index) rfl) fun x2 => (sc_nil (s__law_cell x x2))))) fun seed => by exact (show ST [.val (Enc.e script), .val (Enc.e index), .val (Enc.e seed)] _ _ _ from (st_retO (sl_xlst (sc_cons (sv_m2 op_mod (sv_mL (sc_cons (sv_mL (sc_cons (sv_m2 op_sub (sv_xv (x := seed) rfl) (sv_m2 op_pow (sv_c (x := (10 : Int)) rfl) (sv_c (x := (18 : Int)) rfl))) fun x3 => (sc_cons (sv_c (x := (0 : Int)) rfl) fun x4 => (sc_nil (bt_max x3 x4))))) fun x5 => (sc_nil (bt_intI x5)))) (sv_m2 op_pow (sv_m2 op_pow (sv_c (x := (10 : Int)) rfl) (sv_c (x := (60 : Int)) rfl)) (sv_c (x := (10 : Int)) rfl))) fun x6 => (sc_cons (sv_m2 op_mod (sv_mL (sc_cons (sv_xv (x := seed) rfl) fun x7 => (sc_nil (bt_intI x7)))) (sv_c (x := (2147483647 : Int)) rfl)) fun x8 => (sc_cons (sv_m2 op_mul (sv_c (x := (1000 : Int)) rfl) (sv_xv (x := index) rfl)) fun x9 => (sc_nil (fun v h => by cases h; exact ⟨Nat.le_of_ble_eq_true rfl, rfl⟩)))))) fun a8 v h => by cases h; exact rfl)))))
def t__law_hash (seed : Int) (index : Int) : Option Int :=
  ((((((((some seed).bind fun a => (some (1140671 : Int)).bind fun b => tmul a b).bind fun a4 => (((some (27644437 : Int)).bind fun a2 => (some index).bind fun b2 => tmul a2 b2).bind fun a3 => (some index).bind fun b3 => tmul a3 b3).bind fun b4 => some (a4 + b4)).bind fun a6 => ((some (131 : Int)).bind fun a5 => (some index).bind fun b5 => tmul a5 b5).bind fun b6 => some (a6 + b6)).bind fun a7 => (some (19 : Int)).bind fun b7 => some (a7 + b7)).bind fun x => some x).bind fun a8 => (some (2147483629 : Int)).bind fun b8 => tmod a8 b8).bind fun mixed => (((((((some mixed).bind fun a9 => (some mixed).bind fun b9 => tmul a9 b9).bind fun a11 => ((some (62089 : Int)).bind fun a10 => (some index).bind fun b10 => tmul a10 b10).bind fun b11 => some (a11 + b11)).bind fun a12 => (some (32416187 : Int)).bind fun b12 => some (a12 + b12)).bind fun x2 => some x2).bind fun a13 => (some (2147483587 : Int)).bind fun b13 => tmod a13 b13).bind fun mixed2 => (((((some mixed2).bind fun a14 => (some (48271 : Int)).bind fun b14 => tmul a14 b14).bind fun x3 => some x3).bind fun a15 => (some (2147483647 : Int)).bind fun b15 => tmod a15 b15).bind fun a16 => some a16)))
theorem s__law_hash (seed : Int) (index : Int) : ∀ v, t__law_hash seed index = some v → m__law_hash [Enc.e seed, Enc.e index] = some (Enc.e v) := by
  unfold t__law_hash
  unfold m__law_hash mb__law_hash
  exact p_def rfl (show ST [.val (Enc.e seed), .val (Enc.e index), .emp] _ _ _ from (st_asg (se_lift (sv_m2 op_mod (sv_mL (sc_cons (sv_m2 op_add (sv_m2 op_add (sv_m2 op_add (sv_m2 op_mul (sv_xv (x := seed) rfl) (sv_c (x := (1140671 : Int)) rfl)) (sv_m2 op_mul (sv_m2 op_mul (sv_c (x := (27644437 : Int)) rfl) (sv_xv (x := index) rfl)) (sv_xv (x := index) rfl))) (sv_m2 op_mul (sv_c (x := (131 : Int)) rfl) (sv_xv (x := index) rfl))) (sv_c (x := (19 : Int)) rfl)) fun x => (sc_nil (bt_intI x)))) (sv_c (x := (2147483629 : Int)) rfl)) fun mixed => by exact (show ST [.val (Enc.e seed), .val (Enc.e index), .val (Enc.e mixed)] _ _ _ from (st_asg (se_lift (sv_m2 op_mod (sv_mL (sc_cons (sv_m2 op_add (sv_m2 op_add (sv_m2 op_mul (sv_xv (x := mixed) rfl) (sv_xv (x := mixed) rfl)) (sv_m2 op_mul (sv_c (x := (62089 : Int)) rfl) (sv_xv (x := index) rfl))) (sv_c (x := (32416187 : Int)) rfl)) fun x2 => (sc_nil (bt_intI x2)))) (sv_c (x := (2147483587 : Int)) rfl)) fun mixed2 => by exact (show ST [.val (Enc.e seed), .val (Enc.e index), .val (Enc.e mixed2)] _ _ _ from (st_ret (sv_m2 op_mod (sv_mL (sc_cons (sv_m2 op_mul (sv_xv (x := mixed2) rfl) (sv_c (x := (48271 : Int)) rfl)) fun x3 => (sc_nil (bt_intI x3)))) (sv_c (x := (2147483647 : Int)) rfl)) fun a16 v h => by cases h; exact rfl))))))))
def t__law_random (generator : (List Int)) (bound : Int) : Option (Int × (List Int)) :=
  ((((some (0 : Int)).bind fun j => tix generator j).bind fun a => (some (0 : Int)).bind fun b => some (decide (b < a))).bind fun b2 => (if b2 = true then (((((some (0 : Int)).bind fun j2 => tix generator j2).bind fun x => some x).bind fun a2 => (some bound).bind fun b3 => tmod a2 b3).bind fun drawn => ((((some (0 : Int)).bind fun j3 => tix generator j3).bind fun a3 => (some bound).bind fun b4 => tfdiv a3 b4).bind fun x2 => ((some (0 : Int)).bind fun j4 => (tset generator j4 x2).bind fun generator2 => ((some drawn).bind fun a4 => some (a4, generator2))))) else ((some (0 : Int)).bind fun drawn2 => (((((some (1 : Int)).bind fun a7 => (((some bound).bind fun a5 => some (Builtin.Int.intBits a5 : Int)).bind fun a6 => (some (30 : Int)).bind fun b5 => tfdiv a6 b5).bind fun b6 => some (a7 + b6)).bind fun n => trg 0 n).bind fun xs => (forT (fun turn (s : (List Int) × Int) => ((((some (2 : Int)).bind fun j6 => tix s.1 j6).bind fun a8 => (some (1 : Int)).bind fun b7 => some (a8 + b7)).bind fun x3 => ((some (2 : Int)).bind fun j7 => (tset s.1 j7 x3).bind fun generator3 => ((((some s.2).bind fun a9 => (some (2147483587 : Int)).bind fun b8 => tmul a9 b8).bind fun a10 => (((some (1 : Int)).bind fun j8 => tix generator3 j8).bind fun x4 => (((some (2 : Int)).bind fun j9 => tix generator3 j9).bind fun x5 => t__law_hash x4 x5)).bind fun b9 => some (a10 + b9)).bind fun drawn3 => (some (generator3, drawn3)))))) xs (generator, drawn2))).bind fun s => ((((some s.2).bind fun x6 => some x6).bind fun a11 => (some bound).bind fun b10 => tmod a11 b10).bind fun a12 => some (a12, s.1))))))
theorem s__law_random (generator : (List Int)) (bound : Int) : ∀ v, t__law_random generator bound = some v → m__law_random (List.map Enc.e generator) [Enc.e bound] = some ((Enc.e v.1, List.map Enc.e v.2)) := by
  unfold t__law_random
  unfold m__law_random mb__law_random
  exact f_def rfl (show ST [.par (List.map Enc.e generator), .val (Enc.e bound), .emp, .emp] _ _ _ from (st_ifr (by exact (se_liftB (sb_c2 op_gt (sv_ixo (x := generator) (.inr rfl) (sv_c (x := (0 : Int)) rfl)) (sv_c (x := (0 : Int)) rfl)) fun b2 => by exact (kifr (by exact (show ST [.par (List.map Enc.e generator), .val (Enc.e bound), .emp, .emp] _ _ _ from (st_asg (se_lift (sv_m2 op_mod (sv_mL (sc_cons (sv_ixo (x := generator) (.inr rfl) (sv_c (x := (0 : Int)) rfl)) fun x => (sc_nil (bt_intI x)))) (sv_xv (x := bound) rfl)) fun drawn => by exact (show ST [.par (List.map Enc.e generator), .val (Enc.e bound), .val (Enc.e drawn), .emp] _ _ _ from (st_put (se_lift (sv_m2 op_fdiv (sv_ixo (x := generator) (.inr rfl) (sv_c (x := (0 : Int)) rfl)) (sv_xv (x := bound) rfl)) fun x2 => by exact (kS (xs := generator) rfl rfl (sv_c (x := (0 : Int)) rfl) fun generator2 => by exact (show ST [.par (List.map Enc.e generator2), .val (Enc.e bound), .val (Enc.e drawn), .emp] _ _ _ from (st_ret (sv_xv (x := drawn) rfl) fun a4 v h => by cases h; exact ⟨by simp, ⟨.inl rfl, rfl⟩⟩)))))))))) (by exact (show ST [.par (List.map Enc.e generator), .val (Enc.e bound), .emp, .emp] _ _ _ from (st_snx (show ST [.par (List.map Enc.e generator), .val (Enc.e bound), .emp, .emp] _ _ _ from (st_asg (se_lift (sv_c (x := (0 : Int)) rfl) fun drawn2 => by exact (show ST [.par (List.map Enc.e generator), .val (Enc.e bound), .val (Enc.e drawn2), .emp] _ _ _ from (st_bind (fun (s : (List Int) × Int) ev_ => ∃ j5 : PJ, ev_ = [.par (List.map Enc.e s.1), .val (Enc.e bound), .val (Enc.e s.2), j5.s]) (by exact (st_for (by exact (se_liftL (si_rg1 (sv_m2 op_add (sv_c (x := (1 : Int)) rfl) (sv_m2 op_fdiv (sv_m1 op_bits (sv_xv (x := bound) rfl)) (sv_c (x := (30 : Int)) rfl)))) fun xs => by exact (k_forA (fun (s : (List Int) × Int) ev_ => ∃ j5 : PJ, ev_ = [.par (List.map Enc.e s.1), .val (Enc.e bound), .val (Enc.e s.2), j5.s]) (fun turn s _ hI_ => by obtain ⟨j5, rfl⟩ := hI_; exact ⟨_, rfl, (show ST [.par (List.map Enc.e s.1), .val (Enc.e bound), .val (Enc.e s.2), .val (Enc.e turn)] _ _ _ from (st_put (se_lift (sv_m2 op_add (sv_ixo (x := s.1) (.inr rfl) (sv_c (x := (2 : Int)) rfl)) (sv_c (x := (1 : Int)) rfl)) fun x3 => by exact (kS (xs := s.1) rfl rfl (sv_c (x := (2 : Int)) rfl) fun generator3 => by exact (show ST [.par (List.map Enc.e generator3), .val (Enc.e bound), .val (Enc.e s.2), .val (Enc.e turn)] _ _ _ from (st_last (st_asg (se_lift (sv_m2 op_add (sv_m2 op_mul (sv_xv (x := s.2) rfl) (sv_c (x := (2147483587 : Int)) rfl)) (sv_mL (sc_cons (sv_ixo (x := generator3) (.inr rfl) (sv_c (x := (1 : Int)) rfl)) fun x4 => (sc_cons (sv_ixo (x := generator3) (.inr rfl) (sv_c (x := (2 : Int)) rfl)) fun x5 => (sc_nil (s__law_hash x4 x5)))))) fun drawn3 => by exact (show ST [.par (List.map Enc.e generator3), .val (Enc.e bound), .val (Enc.e drawn3), .val (Enc.e turn)] _ _ _ from (st_end ⟨rfl, ⟨.v (Enc.e turn), rfl⟩⟩))))))))))⟩) ⟨.e, rfl⟩))))) (fun s _ hI_ => by obtain ⟨j5, rfl⟩ := hI_; exact (show ST [.par (List.map Enc.e s.1), .val (Enc.e bound), .val (Enc.e s.2), j5.s] _ _ _ from (st_ret (sv_m2 op_mod (sv_mL (sc_cons (sv_xv (x := s.2) rfl) fun x6 => (sc_nil (bt_intI x6)))) (sv_xv (x := bound) rfl)) fun a12 v h => by cases h; exact ⟨.inl rfl, rfl⟩))))))))))))))))
def t__law_kind (generator : (List Int)) : Option ((T2 Str Int) × (List Int)) :=
  ((((some ("plain" : Str)).bind fun x => ((some ("mirror" : Str)).bind fun x2 => ((some ("ring" : Str)).bind fun x3 => some [x, x2, x3]))) : Option (List Str)).bind fun x4 => ((some (3 : Int)).bind fun x5 => (t__law_random generator x5).bind fun r => ((tix x4 r.1).bind fun x6 => ((some (1 : Int)).bind fun x7 => ((some (5 : Int)).bind fun x8 => (t__law_random r.2 x8).bind fun r2 => ((some (x7 + r2.1)).bind fun x9 => ((some (1 : Int)).bind fun x10 => ((some (4 : Int)).bind fun x11 => (t__law_random r2.2 x11).bind fun r3 => ((some (x10 + r3.1)).bind fun x12 => ((some (2 : Int)).bind fun x13 => ((some (3 : Int)).bind fun x14 => (t__law_random r3.2 x14).bind fun r4 => ((some (x13 + r4.1)).bind fun x15 => ((some [x9, x12, x15] : Option (List Int)).bind fun x16 => ((some (6 : Int)).bind fun x17 => ((some (2 : Int)).bind fun x18 => (t__law_random r4.2 x18).bind fun r5 => ((some (x17 + r5.1)).bind fun x19 => ((some (5 : Int)).bind fun x20 => ((some (5 : Int)).bind fun x21 => ((some [x19, x20, x21] : Option (List Int)).bind fun x22 => ((some (8 : Int)).bind fun x23 => (t__law_random r5.2 x23).bind fun r6 => ((some (0 : Int)).bind fun x24 => ((teq r6.1 x24).bind fun b => ((if b = true then ((some x22).bind fun x25 => some (x25, ())) else ((some x16).bind fun x26 => some (x26, ()))).bind fun r7 => ((((some x6).bind fun x27 => (((some r7.1).bind fun a2 => ((((some ("plain" : Str)).bind fun x28 => ((some ("mirror" : Str)).bind fun x29 => ((some ("ring" : Str)).bind fun x30 => some [x28, x29, x30]))) : Option (List Str)).bind fun a => (some x6).bind fun b2 => tindex a b2).bind fun b3 => tix a2 b3).bind fun x31 => some ⟨x27, x31⟩)) : Option (T2 Str Int)).bind fun a3 => some (a3, r6.2)))))))))))))))))))))))))
theorem s__law_kind (generator : (List Int)) : ∀ v, t__law_kind generator = some v → m__law_kind (List.map Enc.e generator) [] = some ((Enc.e v.1, List.map Enc.e v.2)) := by
  unfold t__law_kind
  unfold m__law_kind mb__law_kind
  exact f_def rfl (show ST [.par (List.map Enc.e generator), .emp, .emp, .emp, .emp] _ _ _ from (st_asg (by exact (se_f2 (by exact (se_lift (sv_xl (sl_xlst (sc_cons (sv_c (x := ("plain" : Str)) rfl) fun x => (sc_cons (sv_c (x := ("mirror" : Str)) rfl) fun x2 => (sc_cons (sv_c (x := ("ring" : Str)) rfl) fun x3 => (sc_nil (fun v h => by cases h; exact ⟨Nat.le_of_ble_eq_true rfl, rfl⟩))))))) fun x4 => by exact (se_fF ⟨_, rfl⟩ (by exact (se_liftC (by exact (sc_cons (sv_c (x := (3 : Int)) rfl) fun x5 => (sc_nil (kFm rfl rfl (s__law_random generator x5) (fun r => by exact (k2 (a := x4) (b := r.1) op_ix fun x6 => by exact (show ST [.par (List.map Enc.e r.2), .val (Enc.e x6), .emp, .emp, .emp] _ _ _ from (st_asg (by exact (se_lstK (List Int) (by exact (se_cons (by exact (se_f2 (by exact (se_lift (sv_c (x := (1 : Int)) rfl) fun x7 => by exact (se_fF ⟨_, rfl⟩ (by exact (se_liftC (by exact (sc_cons (sv_c (x := (5 : Int)) rfl) fun x8 => (sc_nil (kFm rfl rfl (s__law_random r.2 x8) (fun r2 => by exact (k2 (a := x7) (b := r2.1) op_add fun x9 => by exact (se_cons (by exact (se_f2 (by exact (se_lift (sv_c (x := (1 : Int)) rfl) fun x10 => by exact (se_fF ⟨_, rfl⟩ (by exact (se_liftC (by exact (sc_cons (sv_c (x := (4 : Int)) rfl) fun x11 => (sc_nil (kFm rfl rfl (s__law_random r2.2 x11) (fun r3 => by exact (k2 (a := x10) (b := r3.1) op_add fun x12 => by exact (se_cons (by exact (se_f2 (by exact (se_lift (sv_c (x := (2 : Int)) rfl) fun x13 => by exact (se_fF ⟨_, rfl⟩ (by exact (se_liftC (by exact (sc_cons (sv_c (x := (3 : Int)) rfl) fun x14 => (sc_nil (kFm rfl rfl (s__law_random r3.2 x14) (fun r4 => by exact (k2 (a := x13) (b := r4.1) op_add fun x15 => by exact (se_liftC (by exact (sc_nil (kTup (a := ([x9, x12, x15] : (List Int))) (Nat.le_of_ble_eq_true rfl) rfl (fun x16 => by exact (show ST [.par (List.map Enc.e r4.2), .val (Enc.e x6), .val (Enc.e x16), .emp, .emp] _ _ _ from (st_asg (by exact (se_lstK (List Int) (by exact (se_cons (by exact (se_f2 (by exact (se_lift (sv_c (x := (6 : Int)) rfl) fun x17 => by exact (se_fF ⟨_, rfl⟩ (by exact (se_liftC (by exact (sc_cons (sv_c (x := (2 : Int)) rfl) fun x18 => (sc_nil (kFm rfl rfl (s__law_random r4.2 x18) (fun r5 => by exact (k2 (a := x17) (b := r5.1) op_add fun x19 => by exact (se_liftC (by exact (sc_cons (sv_c (x := (5 : Int)) rfl) fun x20 => (sc_cons (sv_c (x := (5 : Int)) rfl) fun x21 => (sc_nil (kTup (a := ([x19, x20, x21] : (List Int))) (Nat.le_of_ble_eq_true rfl) rfl (fun x22 => by exact (show ST [.par (List.map Enc.e r5.2), .val (Enc.e x6), .val (Enc.e x16), .val (Enc.e x22), .emp] _ _ _ from (st_asg (by exact (se_fif (by exact (se_fc2 (by exact (se_fF ⟨_, rfl⟩ (by exact (se_liftC (by exact (sc_cons (sv_c (x := (8 : Int)) rfl) fun x23 => (sc_nil (kFm rfl rfl (s__law_random r5.2 x23) (fun r6 => by exact (se_lift (sv_c (x := (0 : Int)) rfl) fun x24 => by exact (kc2 (a := r6.1) (b := x24) op_eq fun b => by exact (se_ite (E := fun z_ => [.par (List.map Enc.e r6.2), .val (Enc.e x6), .val (Enc.e x16), .val (Enc.e x22), .emp]) (by exact (se_lift (sv_xv (x := x22) rfl) fun x25 => by exact (fun v h => by cases h; exact ⟨rfl, rfl⟩))) (by exact (se_lift (sv_xv (x := x16) rfl) fun x26 => by exact (fun v h => by cases h; exact ⟨rfl, rfl⟩))) (fun r7 => by exact (show ST [.par (List.map Enc.e r6.2), .val (Enc.e x6), .val (Enc.e x16), .val (Enc.e x22), .val (Enc.e r7.1)] _ _ _ from (st_ret (sv_xtup (sc_cons (sv_xv (x := x6) rfl) fun x27 => (sc_cons (sv_m2 op_ix (sv_xv (x := r7.1) rfl) (sv_m2 op_index (sv_xl (sl_xlst (sc_cons (sv_c (x := ("plain" : Str)) rfl) fun x28 => (sc_cons (sv_c (x := ("mirror" : Str)) rfl) fun x29 => (sc_cons (sv_c (x := ("ring" : Str)) rfl) fun x30 => (sc_nil (fun v h => by cases h; exact ⟨Nat.le_of_ble_eq_true rfl, rfl⟩))))))) (sv_xv (x := x6) rfl))) fun x31 => (sc_nil (fun v h => by cases h; exact ⟨Nat.le_of_ble_eq_true rfl, rfl⟩))))) fun a3 v h => by cases h; exact ⟨.inl rfl, rfl⟩))))))))))))))))))))))))))))))))))))))))))))))))))))))))))))))))))))))))))))))))))))))))))))))))))))))))))))))))))
def t_is_whole (value : Int) : Option Bool :=
  ((((some value).bind fun a => tisT "int" a).bind fun b2 => if b2 = true then (((some value).bind fun a2 => tisT "bool" a2).bind fun b => some (!b)) else some false).bind fun a3 => some a3)
theorem s_is_whole (value : Int) : ∀ v, t_is_whole value = some v → m_is_whole [Enc.e value] = some (Enc.e v) := by
  unfold t_is_whole
  unfold m_is_whole mb_is_whole
  exact p_def rfl (show ST [.val (Enc.e value)] _ _ _ from (st_ret (sv_xand (sv_m1 (op_isT "int") (sv_xv (x := value) rfl)) (sv_xnot (sv_m1 (op_isT "bool") (sv_xv (x := value) rfl)))) fun a3 v h => by cases h; exact rfl))
def t_is_between (value : Int) (low : Int) (high : Int) : Option Bool :=
  ((((some value).bind fun x => t_is_whole x).bind fun b6 => if b6 = true then (((some value).bind fun a => (some low).bind fun b => some (decide (b ≤ a))).bind fun b5 => if b5 = true then (((some high).bind fun a2 => (some ()).bind fun b2 => tisN a2 b2).bind fun b4 => if b4 = true then some true else ((some value).bind fun a3 => (some high).bind fun b3 => some (decide (a3 ≤ b3)))) else some false) else some false).bind fun a4 => some a4)
theorem s_is_between (value : Int) (low : Int) (high : Int) : ∀ v, t_is_between value low high = some v → m_is_between [Enc.e value, Enc.e low, Enc.e high] = some (Enc.e v) := by
  unfold t_is_between
  unfold m_is_between mb_is_between
  exact p_def rfl (show ST [.val (Enc.e value), .val (Enc.e low), .val (Enc.e high)] _ _ _ from (st_ret (sv_xand (sv_mL (sc_cons (sv_xv (x := value) rfl) fun x => (sc_nil (s_is_whole x)))) (sv_xand (sv_vB (sb_c2 op_ge (sv_xv (x := value) rfl) (sv_xv (x := low) rfl))) (sv_xor (sv_vB (sb_c2 op_isN (sv_xv (x := high) rfl) (sv_c (x := ()) rfl))) (sv_vB (sb_c2 op_le (sv_xv (x := value) rfl) (sv_xv (x := high) rfl)))))) fun a4 v h => by cases h; exact rfl))
def t_check_number (number : Int) (low : Int) (high : Int) : Option Unit :=
  ((((some number).bind fun x => ((some low).bind fun x2 => ((some high).bind fun x3 => t_is_between x x2 x3))).bind fun b => some (!b)).bind fun b2 => (if b2 = true then none else (some ())))
theorem s_check_number (number : Int) (low : Int) (high : Int) : ∀ v, t_check_number number low high = some v → m_check_number [Enc.e number, Enc.e low, Enc.e high] = some (Enc.e v) := by
  unfold t_check_number
  unfold m_check_number mb_check_number
  exact p_def rfl (show ST [.val (Enc.e number), .val (Enc.e low), .val (Enc.e high)] _ _ _ from (st_last (st_ifr (by exact (se_liftB (sb_not (sb_tB (sv_mL (sc_cons (sv_xv (x := number) rfl) fun x => (sc_cons (sv_xv (x := low) rfl) fun x2 => (sc_cons (sv_xv (x := high) rfl) fun x3 => (sc_nil (s_is_between x x2 x3)))))))) fun b2 => by exact (kifr (by exact (show ST [.val (Enc.e number), .val (Enc.e low), .val (Enc.e high)] _ _ _ from st_never)) (by exact (show ST [.val (Enc.e number), .val (Enc.e low), .val (Enc.e high)] _ _ _ from (st_snx (show ST [.val (Enc.e number), .val (Enc.e low), .val (Enc.e high)] _ _ _ from (st_end rfl)))))))))))
def t_Kind___init__ (name : Str) (size : Int) : Option Kd :=
  ((((some name).bind fun a => tisT "str" a).bind fun b => some (!b)).bind fun b2 => if b2 = true then some true else ((some name).bind fun a2 => tbnd a2)).bind fun b => if b = true then none else ((some size).bind fun x => (((some name).bind fun a3 => (some (0 : Int)).bind fun b3 => tbix a3 b3).bind fun x2 => (((some name).bind fun a4 => (some (1 : Int)).bind fun b4 => tbix a4 b4).bind fun x3 => t_check_number x x2 x3))).bind fun _ => some ⟨name, size⟩
theorem s_Kind___init__ (name : Str) (size : Int) : ∀ v, t_Kind___init__ name size = some v → m_Kind___init__ [Enc.e name, Enc.e size] = some (Enc.e v) := by
  unfold t_Kind___init__
  unfold m_Kind___init__
  exact init_def (show SB [.emp, .val (Enc.e name), .val (Enc.e size)] _ _ from (sb_or (sb_not (sb_tB (sv_m1 (op_isT "str") (sv_xv (x := name) rfl)))) (sb_bnot (sv_xv (x := name) rfl)))) (show SV [.emp, .val (Enc.e name), .val (Enc.e size)] _ _ from (sv_mL (sc_cons (sv_xv (x := size) rfl) fun x => (sc_cons (sv_m2 op_bix (sv_xv (x := name) rfl) (sv_c (x := (0 : Int)) rfl)) fun x2 => (sc_cons (sv_m2 op_bix (sv_xv (x := name) rfl) (sv_c (x := (1 : Int)) rfl)) fun x3 => (sc_nil (s_check_number x x2 x3)))))))
def t__law_many (told : (T2 Str Int)) : Option Int :=
  ((((some told).bind fun a => some a.b).bind fun a4 => ((((some told).bind fun a2 => some a2.a).bind fun a3 => (some ("plain" : Str)).bind fun b => teq a3 b).bind fun x => some (if x = true then (1 : Int) else 0)).bind fun b2 => some (a4 - b2)).bind fun a5 => some a5)
theorem s__law_many (told : (T2 Str Int)) : ∀ v, t__law_many told = some v → m__law_many [Enc.e told] = some (Enc.e v) := by
  unfold t__law_many
  unfold m__law_many mb__law_many
  exact p_def rfl (show ST [.val (Enc.e told)] _ _ _ from (st_ret (sv_m2 op_sub (sv_t2b (sv_xv (x := told) rfl)) (sv_mL (sc_cons (sv_vB (sb_c2 op_eq (sv_t2a (sv_xv (x := told) rfl)) (sv_c (x := ("plain" : Str)) rfl))) fun x => (sc_nil (bt_intB x))))) fun a5 v h => by cases h; exact rfl))
def t__law_row (generator : (List Int)) (told : (T2 Str Int)) (most : Int) : Option ((List Int) × (List Int)) :=
  ((((some told).bind fun x => t__law_many x).bind fun a => (some (0 : Int)).bind fun b => teq a b).bind fun b2 => (if b2 = true then ((some [] : Option (List Int)).bind fun a2 => some (a2, generator)) else (((some most).bind fun a3 => (some (1 : Int)).bind fun b3 => some (a3 + b3)).bind fun x2 => (t__law_random generator x2).bind fun r => ((trg 0 r.1).bind fun xs => ((tlcS (fun turn s => (((some told).bind fun x3 => t__law_many x3).bind fun x4 => (t__law_random s x4).bind fun r2 => some (r2.1, r2.2))) xs r.2).bind fun r3 => some (r3.1, r3.2))))))
theorem s__law_row (generator : (List Int)) (told : (T2 Str Int)) (most : Int) : ∀ v, t__law_row generator told most = some v → m__law_row (List.map Enc.e generator) [Enc.e told, Enc.e most] = some ((Enc.e v.1, List.map Enc.e v.2)) := by
  unfold t__law_row
  unfold m__law_row mb__law_row
  exact f_def rfl (show ST [.par (List.map Enc.e generator), .val (Enc.e told), .val (Enc.e most), .emp] _ _ _ from (st_ifr (by exact (se_liftB (sb_c2 op_eq (sv_mL (sc_cons (sv_xv (x := told) rfl) fun x => (sc_nil (s__law_many x)))) (sv_c (x := (0 : Int)) rfl)) fun b2 => by exact (kifr (by exact (show ST [.par (List.map Enc.e generator), .val (Enc.e told), .val (Enc.e most), .emp] _ _ _ from (st_ret (sv_xl (sl_xlst (sc_nil (fun v h => by cases h; exact ⟨Nat.le_of_ble_eq_true rfl, rfl⟩)))) fun a2 v h => by cases h; exact ⟨by simp, ⟨.inl rfl, rfl⟩⟩))) (by exact (show ST [.par (List.map Enc.e generator), .val (Enc.e told), .val (Enc.e most), .emp] _ _ _ from (st_snx (show ST [.par (List.map Enc.e generator), .val (Enc.e told), .val (Enc.e most), .emp] _ _ _ from (st_retF (by exact (se_flc (by exact (se_frgK (by exact (se_fF ⟨_, rfl⟩ (by exact (se_liftC (by exact (sc_cons (sv_m2 op_add (sv_xv (x := most) rfl) (sv_c (x := (1 : Int)) rfl)) fun x2 => (sc_nil (kFm rfl rfl (s__law_random generator x2) (fun r => by exact (krg fun xs => by exact (kflc (fun s => [.par (List.map Enc.e s), .val (Enc.e told), .val (Enc.e most), .emp]) (fun turn s => [.par (List.map Enc.e s), .val (Enc.e told), .val (Enc.e most), .val (Enc.e turn)]) rfl rfl (fun _ _ => rfl) (fun turn s => by exact (se_fF ⟨_, rfl⟩ (by exact (se_liftC (by exact (sc_cons (sv_mL (sc_cons (sv_xv (x := told) rfl) fun x3 => (sc_nil (s__law_many x3)))) fun x4 => (sc_nil (kFm rfl rfl (s__law_random s x4) (fun r2 => by exact (fun v h => by cases h; exact ⟨rfl, rfl, rfl⟩)))))))))) (fun r3 => by exact (fun v h => by cases h; exact ⟨.inl rfl, rfl⟩)))))))))))))))))))))))))))
def t__law_start (told : (T2 Str Int)) : Option (List Int) :=
  ((((((some told).bind fun a => some a.a).bind fun a2 => (some ("mirror" : Str)).bind fun b => teq a2 b).bind fun x => some (if x = true then (1 : Int) else 0)).bind fun a7 => (((some told).bind fun a3 => some a3.b).bind fun a6 => ((((some told).bind fun a4 => some a4.a).bind fun a5 => (some ("mirror" : Str)).bind fun b2 => teq a5 b2).bind fun x2 => some (if x2 = true then (1 : Int) else 0)).bind fun b3 => some (a6 + b3)).bind fun b4 => tlrg a7 b4).bind fun a8 => some a8)
theorem s__law_start (told : (T2 Str Int)) : ∀ v, t__law_start told = some v → m__law_start [Enc.e told] = some (List.map Enc.e v) := by
  unfold t__law_start
  unfold m__law_start mb__law_start
  exact o_def rfl (show ST [.val (Enc.e told)] _ _ _ from (st_retO (sl_lrg2 (sv_mL (sc_cons (sv_vB (sb_c2 op_eq (sv_t2a (sv_xv (x := told) rfl)) (sv_c (x := ("mirror" : Str)) rfl))) fun x => (sc_nil (bt_intB x)))) (sv_m2 op_add (sv_t2b (sv_xv (x := told) rfl)) (sv_mL (sc_cons (sv_vB (sb_c2 op_eq (sv_t2a (sv_xv (x := told) rfl)) (sv_c (x := ("mirror" : Str)) rfl))) fun x2 => (sc_nil (bt_intB x2)))))) fun a8 v h => by cases h; exact rfl))
def t__law_turned (told : (T2 Str Int)) (step : Int) (place : Int) : Option Int :=
  ((((some told).bind fun a => some a.a).bind fun a2 => (some ("mirror" : Str)).bind fun b => teq a2 b).bind fun b2 => (if b2 = true then (((some step).bind fun a3 => (some (0 : Int)).bind fun b3 => teq a3 b3).bind fun b4 => (if b4 = true then (((((some place).bind fun x => some (x.natAbs : Int)).bind fun a4 => (some (1 : Int)).bind fun b5 => teq a4 b5).bind fun b6 => if b6 = true then ((some place).bind fun a5 => some (-a5)) else (some place)).bind fun a6 => some a6) else ((((some place).bind fun x2 => some (x2.natAbs : Int)).bind fun a8 => (((some step).bind fun x3 => (((some step).bind fun a7 => (some (1 : Int)).bind fun b7 => some (a7 + b7)).bind fun x4 => some [x3, x4])) : Option (List Int)).bind fun b8 => tin a8 b8).bind fun b9 => (if b9 = true then ((((((some (2 : Int)).bind fun a9 => (some step).bind fun b10 => tmul a9 b10).bind fun a10 => (some (1 : Int)).bind fun b11 => some (a10 + b11)).bind fun a11 => ((some place).bind fun x5 => some (x5.natAbs : Int)).bind fun b12 => some (a11 - b12)).bind fun a14 => (((some place).bind fun a12 => (some (0 : Int)).bind fun b13 => some (decide (b13 < a12))).bind fun b14 => if b14 = true then (some (1 : Int)) else ((some (1 : Int)).bind fun a13 => some (-a13))).bind fun b15 => tmul a14 b15).bind fun a15 => some a15) else ((some place).bind fun a16 => some a16))))) else (((((some place).bind fun a17 => (some step).bind fun b16 => some (a17 - b16)).bind fun x6 => some x6).bind fun a19 => ((some told).bind fun a18 => some a18.b).bind fun b17 => tmod a19 b17).bind fun apart => ((((some apart).bind fun a20 => (some (0 : Int)).bind fun b18 => teq a20 b18).bind fun b23 => if b23 = true then ((some place).bind fun a21 => (some (1 : Int)).bind fun b19 => some (a21 + b19)) else (((some apart).bind fun a22 => (some (1 : Int)).bind fun b20 => teq a22 b20).bind fun b22 => if b22 = true then ((some place).bind fun a23 => (some (1 : Int)).bind fun b21 => some (a23 - b21)) else (some place))).bind fun a24 => some a24))))
theorem s__law_turned (told : (T2 Str Int)) (step : Int) (place : Int) : ∀ v, t__law_turned told step place = some v → m__law_turned [Enc.e told, Enc.e step, Enc.e place] = some (Enc.e v) := by
  unfold t__law_turned
  unfold m__law_turned mb__law_turned
  exact p_def rfl (show ST [.val (Enc.e told), .val (Enc.e step), .val (Enc.e place), .emp] _ _ _ from (st_ifr (by exact (se_liftB (sb_c2 op_eq (sv_t2a (sv_xv (x := told) rfl)) (sv_c (x := ("mirror" : Str)) rfl)) fun b2 => by exact (kifr (by exact (show ST [.val (Enc.e told), .val (Enc.e step), .val (Enc.e place), .emp] _ _ _ from (st_ifr (by exact (se_liftB (sb_c2 op_eq (sv_xv (x := step) rfl) (sv_c (x := (0 : Int)) rfl)) fun b4 => by exact (kifr (by exact (show ST [.val (Enc.e told), .val (Enc.e step), .val (Enc.e place), .emp] _ _ _ from (st_ret (sv_if (sb_c2 op_eq (sv_mL (sc_cons (sv_xv (x := place) rfl) fun x => (sc_nil (bt_abs x)))) (sv_c (x := (1 : Int)) rfl)) (sv_m1 op_neg (sv_xv (x := place) rfl)) (sv_xv (x := place) rfl)) fun a6 v h => by cases h; exact ⟨by simp, ⟨by simp, rfl⟩⟩))) (by exact (show ST [.val (Enc.e told), .val (Enc.e step), .val (Enc.e place), .emp] _ _ _ from (st_snx (show ST [.val (Enc.e told), .val (Enc.e step), .val (Enc.e place), .emp] _ _ _ from (st_ifr (by exact (se_liftB (sb_c2 op_in (sv_mL (sc_cons (sv_xv (x := place) rfl) fun x2 => (sc_nil (bt_abs x2)))) (sv_xl (sl_xlst (sc_cons (sv_xv (x := step) rfl) fun x3 => (sc_cons (sv_m2 op_add (sv_xv (x := step) rfl) (sv_c (x := (1 : Int)) rfl)) fun x4 => (sc_nil (fun v h => by cases h; exact ⟨Nat.le_of_ble_eq_true rfl, rfl⟩))))))) fun b9 => by exact (kifr (by exact (show ST [.val (Enc.e told), .val (Enc.e step), .val (Enc.e place), .emp] _ _ _ from (st_ret (sv_m2 op_mul (sv_m2 op_sub (sv_m2 op_add (sv_m2 op_mul (sv_c (x := (2 : Int)) rfl) (sv_xv (x := step) rfl)) (sv_c (x := (1 : Int)) rfl)) (sv_mL (sc_cons (sv_xv (x := place) rfl) fun x5 => (sc_nil (bt_abs x5))))) (sv_if (sb_c2 op_gt (sv_xv (x := place) rfl) (sv_c (x := (0 : Int)) rfl)) (sv_c (x := (1 : Int)) rfl) (sv_m1 op_neg (sv_c (x := (1 : Int)) rfl)))) fun a15 v h => by cases h; exact ⟨by simp, ⟨by simp, rfl⟩⟩))) (by exact (show ST [.val (Enc.e told), .val (Enc.e step), .val (Enc.e place), .emp] _ _ _ from (st_snx (show ST [.val (Enc.e told), .val (Enc.e step), .val (Enc.e place), .emp] _ _ _ from (st_ret (sv_xv (x := place) rfl) fun a16 v h => by cases h; exact ⟨by simp, rfl⟩))))))))))))))))))) (by exact (show ST [.val (Enc.e told), .val (Enc.e step), .val (Enc.e place), .emp] _ _ _ from (st_snx (show ST [.val (Enc.e told), .val (Enc.e step), .val (Enc.e place), .emp] _ _ _ from (st_asg (se_lift (sv_m2 op_mod (sv_mL (sc_cons (sv_m2 op_sub (sv_xv (x := place) rfl) (sv_xv (x := step) rfl)) fun x6 => (sc_nil (bt_intI x6)))) (sv_t2b (sv_xv (x := told) rfl))) fun apart => by exact (show ST [.val (Enc.e told), .val (Enc.e step), .val (Enc.e place), .val (Enc.e apart)] _ _ _ from (st_ret (sv_if (sb_c2 op_eq (sv_xv (x := apart) rfl) (sv_c (x := (0 : Int)) rfl)) (sv_m2 op_add (sv_xv (x := place) rfl) (sv_c (x := (1 : Int)) rfl)) (sv_if (sb_c2 op_eq (sv_xv (x := apart) rfl) (sv_c (x := (1 : Int)) rfl)) (sv_m2 op_sub (sv_xv (x := place) rfl) (sv_c (x := (1 : Int)) rfl)) (sv_xv (x := place) rfl))) fun a24 v h => by cases h; exact rfl)))))))))))))
def t__law_item (told : (T2 Str Int)) (order : (List Int)) (place : Int) : Option Int :=
  ((((some told).bind fun a => some a.a).bind fun a2 => (some ("mirror" : Str)).bind fun b => teq a2 b).bind fun b2 => (if b2 = true then ((((some order).bind fun a4 => (((some place).bind fun x => some (x.natAbs : Int)).bind fun a3 => (some (1 : Int)).bind fun b3 => some (a3 - b3)).bind fun b4 => tix a4 b4).bind fun a7 => (((some place).bind fun a5 => (some (0 : Int)).bind fun b5 => some (decide (b5 < a5))).bind fun b6 => if b6 = true then (some (1 : Int)) else ((some (1 : Int)).bind fun a6 => some (-a6))).bind fun b7 => tmul a7 b7).bind fun a8 => some a8) else (((((some order).bind fun a11 => (((some place).bind fun x2 => some x2).bind fun a10 => ((some told).bind fun a9 => some a9.b).bind fun b8 => tmod a10 b8).bind fun b9 => tix a11 b9).bind fun a12 => (some place).bind fun b10 => some (a12 + b10)).bind fun a15 => (((some place).bind fun x3 => some x3).bind fun a14 => ((some told).bind fun a13 => some a13.b).bind fun b11 => tmod a14 b11).bind fun b12 => some (a15 - b12)).bind fun a16 => some a16)))
theorem s__law_item (told : (T2 Str Int)) (order : (List Int)) (place : Int) : ∀ v, t__law_item told order place = some v → m__law_item [Enc.e told, Enc.e order, Enc.e place] = some (Enc.e v) := by
  unfold t__law_item
  unfold m__law_item mb__law_item
  exact p_def rfl (show ST [.val (Enc.e told), .val (Enc.e order), .val (Enc.e place)] _ _ _ from (st_ifr (by exact (se_liftB (sb_c2 op_eq (sv_t2a (sv_xv (x := told) rfl)) (sv_c (x := ("mirror" : Str)) rfl)) fun b2 => by exact (kifr (by exact (show ST [.val (Enc.e told), .val (Enc.e order), .val (Enc.e place)] _ _ _ from (st_ret (sv_m2 op_mul (sv_m2 op_ix (sv_xv (x := order) rfl) (sv_m2 op_sub (sv_mL (sc_cons (sv_xv (x := place) rfl) fun x => (sc_nil (bt_abs x)))) (sv_c (x := (1 : Int)) rfl))) (sv_if (sb_c2 op_gt (sv_xv (x := place) rfl) (sv_c (x := (0 : Int)) rfl)) (sv_c (x := (1 : Int)) rfl) (sv_m1 op_neg (sv_c (x := (1 : Int)) rfl)))) fun a8 v h => by cases h; exact ⟨by simp, rfl⟩))) (by exact (show ST [.val (Enc.e told), .val (Enc.e order), .val (Enc.e place)] _ _ _ from (st_snx (show ST [.val (Enc.e told), .val (Enc.e order), .val (Enc.e place)] _ _ _ from (st_ret (sv_m2 op_sub (sv_m2 op_add (sv_m2 op_ix (sv_xv (x := order) rfl) (sv_m2 op_mod (sv_mL (sc_cons (sv_xv (x := place) rfl) fun x2 => (sc_nil (bt_intI x2)))) (sv_t2b (sv_xv (x := told) rfl)))) (sv_xv (x := place) rfl)) (sv_m2 op_mod (sv_mL (sc_cons (sv_xv (x := place) rfl) fun x3 => (sc_nil (bt_intI x3)))) (sv_t2b (sv_xv (x := told) rfl)))) fun a16 v h => by cases h; exact rfl))))))))))
def t__law_stepped (told : (T2 Str Int)) (order : (List Int)) (step : Int) : Option (List Int) :=
  ((((some told).bind fun x => t__law_start x).bind fun xs => tlc (fun place => (some true)) (fun place => ((some told).bind fun x2 => ((some order).bind fun x3 => (((some told).bind fun x4 => ((some step).bind fun x5 => ((some place).bind fun x6 => t__law_turned x4 x5 x6))).bind fun x7 => t__law_item x2 x3 x7)))) xs).bind fun a => some a)
theorem s__law_stepped (told : (T2 Str Int)) (order : (List Int)) (step : Int) : ∀ v, t__law_stepped told order step = some v → m__law_stepped [Enc.e told, Enc.e order, Enc.e step] = some (List.map Enc.e v) := by
  unfold t__law_stepped
  unfold m__law_stepped mb__law_stepped
  exact o_def rfl (show ST [.val (Enc.e told), .val (Enc.e order), .val (Enc.e step), .emp] _ _ _ from (st_retO (sl_lc [.val (Enc.e told), .val (Enc.e order), .val (Enc.e step), .emp] (fun place => [.val (Enc.e told), .val (Enc.e order), .val (Enc.e step), .val (Enc.e place)]) rfl rfl (fun _ => rfl) (fun h => by cases h) (si_seq (sv_xl (sl_mLo (sc_cons (sv_xv (x := told) rfl) fun x => (sc_nil (s__law_start x)))))) (fun place => sb_yes) (fun place => (sv_mL (sc_cons (sv_xv (x := told) rfl) fun x2 => (sc_cons (sv_xv (x := order) rfl) fun x3 => (sc_cons (sv_mL (sc_cons (sv_xv (x := told) rfl) fun x4 => (sc_cons (sv_xv (x := step) rfl) fun x5 => (sc_cons (sv_xv (x := place) rfl) fun x6 => (sc_nil (s__law_turned x4 x5 x6)))))) fun x7 => (sc_nil (s__law_item x2 x3 x7)))))))) fun a v h => by cases h; exact rfl))
def t__law_made (told : (T2 Str Int)) (row : (List Int)) : Option (List Int) :=
  (((some told).bind fun x => t__law_start x).bind fun found => (((some row).bind fun xs => (forT (fun step (s : (List Int)) => (((some told).bind fun x2 => ((some s).bind fun x3 => ((some step).bind fun x4 => t__law_stepped x2 x3 x4))).bind fun found2 => (some found2))) xs found)).bind fun s => ((some s).bind fun a => some a)))
theorem s__law_made (told : (T2 Str Int)) (row : (List Int)) : ∀ v, t__law_made told row = some v → m__law_made [Enc.e told, Enc.e row] = some (Enc.e v) := by
  unfold t__law_made
  unfold m__law_made mb__law_made
  exact p_def rfl (show ST [.val (Enc.e told), .val (Enc.e row), .emp, .emp] _ _ _ from (st_asg (se_lift (sv_xl (sl_mLo (sc_cons (sv_xv (x := told) rfl) fun x => (sc_nil (s__law_start x))))) fun found => by exact (show ST [.val (Enc.e told), .val (Enc.e row), .val (Enc.e found), .emp] _ _ _ from (st_bind (fun (s : (List Int)) ev_ => ∃ j : PJ, ev_ = [.val (Enc.e told), .val (Enc.e row), .val (Enc.e s), j.s]) (by exact (st_for (by exact (se_liftL (si_seq (sv_xv (x := row) rfl)) fun xs => by exact (k_forA (fun (s : (List Int)) ev_ => ∃ j : PJ, ev_ = [.val (Enc.e told), .val (Enc.e row), .val (Enc.e s), j.s]) (fun step s _ hI_ => by obtain ⟨j, rfl⟩ := hI_; exact ⟨_, rfl, (show ST [.val (Enc.e told), .val (Enc.e row), .val (Enc.e s), .val (Enc.e step)] _ _ _ from (st_last (st_asg (se_lift (sv_xl (sl_mLo (sc_cons (sv_xv (x := told) rfl) fun x2 => (sc_cons (sv_xv (x := s) rfl) fun x3 => (sc_cons (sv_xv (x := step) rfl) fun x4 => (sc_nil (s__law_stepped x2 x3 x4))))))) fun found2 => by exact (show ST [.val (Enc.e told), .val (Enc.e row), .val (Enc.e found2), .val (Enc.e step)] _ _ _ from (st_end ⟨rfl, ⟨.v (Enc.e step), rfl⟩⟩))))))⟩) ⟨.e, rfl⟩))))) (fun s _ hI_ => by obtain ⟨j, rfl⟩ := hI_; exact (show ST [.val (Enc.e told), .val (Enc.e row), .val (Enc.e s), j.s] _ _ _ from (st_ret (sv_xv (x := s) rfl) fun a v h => by cases h; exact rfl))))))))
def t_check_kind (kind : Kd) : Option Unit :=
  ((((some kind).bind fun a => tisC "Kind" a).bind fun b => some (!b)).bind fun b2 => (if b2 = true then none else (some ())))
theorem s_check_kind (kind : Kd) : ∀ v, t_check_kind kind = some v → m_check_kind [Enc.e kind] = some (Enc.e v) := by
  unfold t_check_kind
  unfold m_check_kind mb_check_kind
  exact p_def rfl (show ST [.val (Enc.e kind)] _ _ _ from (st_last (st_ifr (by exact (se_liftB (sb_not (sb_tB (sv_m1 (op_isC "Kind") (sv_xv (x := kind) rfl)))) fun b2 => by exact (kifr (by exact (show ST [.val (Enc.e kind)] _ _ _ from st_never)) (by exact (show ST [.val (Enc.e kind)] _ _ _ from (st_snx (show ST [.val (Enc.e kind)] _ _ _ from (st_end rfl)))))))))))
def t_Kind_size (self : Kd) : Option Int :=
  (((some self).bind fun a => some a.n).bind fun a2 => some a2)
theorem s_Kind_size (self : Kd) : ∀ v, t_Kind_size self = some v → m_Kind_size [Enc.e self] = some (Enc.e v) := by
  unfold t_Kind_size
  unfold m_Kind_size mb_Kind_size
  exact p_def rfl (show ST [.val (Enc.e self)] _ _ _ from (st_ret (sv_m1 op_fld2 (sv_xv (x := self) rfl)) fun a2 v h => by cases h; exact rfl))
def t_Kind_name (self : Kd) : Option Str :=
  (((some self).bind fun a => some a.nm).bind fun a2 => some a2)
theorem s_Kind_name (self : Kd) : ∀ v, t_Kind_name self = some v → m_Kind_name [Enc.e self] = some (Enc.e v) := by
  unfold t_Kind_name
  unfold m_Kind_name mb_Kind_name
  exact p_def rfl (show ST [.val (Enc.e self)] _ _ _ from (st_ret (sv_m1 op_fld1 (sv_xv (x := self) rfl)) fun a2 v h => by cases h; exact rfl))
def t_is_order_list (kind : Kd) (value : (List Int)) : Option Bool :=
  (((some kind).bind fun k => t_Kind_size k).bind fun size => (((((some value).bind fun a => tisT "list" a).bind fun b => some (!b)).bind fun b6 => if b6 = true then some true else ((((some value).bind fun x => some (x.length : Int)).bind fun a2 => (some size).bind fun b2 => tne a2 b2).bind fun b5 => if b5 = true then some true else (((some value).bind fun xs => tlc (fun item => (((some item).bind fun x2 => t_is_whole x2).bind fun b3 => some (!b3))) (fun item => (some item)) xs).bind fun a3 => (some [] : Option (List Int)).bind fun b4 => tne a3 b4))).bind fun b7 => (if b7 = true then ((some false).bind fun a4 => some a4) else ((((some kind).bind fun k2 => t_Kind_name k2).bind fun a5 => (some ("plain" : Str)).bind fun b8 => teq a5 b8).bind fun b9 => (if b9 = true then ((((some value).bind fun x3 => some (sortI x3)).bind fun a6 => ((some size).bind fun n => tlrg 0 n).bind fun b10 => teq a6 b10).bind fun a7 => some a7) else ((((some kind).bind fun k3 => t_Kind_name k3).bind fun a8 => (some ("mirror" : Str)).bind fun b11 => teq a8 b11).bind fun b12 => (if b12 = true then (((((some value).bind fun xs => tlc (fun item2 => (some true)) (fun item2 => ((some item2).bind fun x4 => some (x4.natAbs : Int))) xs).bind fun x5 => some (sortI x5)).bind fun a11 => ((some (1 : Int)).bind fun a10 => ((some size).bind fun a9 => (some (1 : Int)).bind fun b13 => some (a9 + b13)).bind fun b14 => tlrg a10 b14).bind fun b15 => teq a11 b15).bind fun a12 => some a12) else ((((((some value).bind fun xs => tlc (fun item3 => (some true)) (fun item3 => ((some item3).bind fun a13 => (some size).bind fun b16 => tmod a13 b16)) xs).bind fun x6 => some (sortI x6)).bind fun a14 => ((some size).bind fun n2 => tlrg 0 n2).bind fun b17 => teq a14 b17).bind fun b22 => if b22 = true then (((some value).bind fun x7 => some x7.sum).bind fun a18 => (((some size).bind fun a16 => ((some size).bind fun a15 => (some (1 : Int)).bind fun b18 => some (a15 - b18)).bind fun b19 => tmul a16 b19).bind fun a17 => (some (2 : Int)).bind fun b20 => tfdiv a17 b20).bind fun b21 => teq a18 b21) else some false).bind fun a19 => some a19))))))))
theorem s_is_order_list (kind : Kd) (value : (List Int)) : ∀ v, t_is_order_list kind value = some v → m_is_order_list [Enc.e kind, Enc.e value] = some (Enc.e v) := by
  unfold t_is_order_list
  unfold m_is_order_list mb_is_order_list
  exact p_def rfl (show ST [.val (Enc.e kind), .val (Enc.e value), .emp, .emp] _ _ _ from (st_asg (se_lift (sv_mM (fun _ => rfl) (sv_xv (x := kind) rfl) fun k => (sc_nil (s_Kind_size k))) fun size => by exact (show ST [.val (Enc.e kind), .val (Enc.e value), .val (Enc.e size), .emp] _ _ _ from (st_ifr (by exact (se_liftB (sb_or (sb_not (sb_tB (sv_m1 (op_isT "list") (sv_xv (x := value) rfl)))) (sb_or (sb_c2 op_ne (sv_mL (sc_cons (sv_xv (x := value) rfl) fun x => (sc_nil (bt_len x)))) (sv_xv (x := size) rfl)) (sb_c2 op_ne (sv_xl (sl_lc [.val (Enc.e kind), .val (Enc.e value), .val (Enc.e size), .emp] (fun item => [.val (Enc.e kind), .val (Enc.e value), .val (Enc.e size), .val (Enc.e item)]) rfl rfl (fun _ => rfl) (fun h => by cases h) (si_seq (sv_xv (x := value) rfl)) (fun item => (sb_not (sb_tB (sv_mL (sc_cons (sv_xv (x := item) rfl) fun x2 => (sc_nil (s_is_whole x2))))))) (fun item => (sv_xv (x := item) rfl)))) (sv_xl (sl_xlst (sc_nil (fun v h => by cases h; exact ⟨Nat.le_of_ble_eq_true rfl, rfl⟩))))))) fun b7 => by exact (kifr (by exact (show ST [.val (Enc.e kind), .val (Enc.e value), .val (Enc.e size), .emp] _ _ _ from (st_ret (sv_c (x := false) rfl) fun a4 v h => by cases h; exact ⟨by simp, rfl⟩))) (by exact (show ST [.val (Enc.e kind), .val (Enc.e value), .val (Enc.e size), .emp] _ _ _ from (st_snx (show ST [.val (Enc.e kind), .val (Enc.e value), .val (Enc.e size), .emp] _ _ _ from (st_ifr (by exact (se_liftB (sb_c2 op_eq (sv_mM (fun _ => rfl) (sv_xv (x := kind) rfl) fun k2 => (sc_nil (s_Kind_name k2))) (sv_c (x := ("plain" : Str)) rfl)) fun b9 => by exact (kifr (by exact (show ST [.val (Enc.e kind), .val (Enc.e value), .val (Enc.e size), .emp] _ _ _ from (st_ret (sv_vB (sb_c2 op_eq (sv_xl (sl_mLo (sc_cons (sv_xv (x := value) rfl) fun x3 => (sc_nil (bt_sorted x3))))) (sv_xl (sl_lrg1 (sv_xv (x := size) rfl))))) fun a7 v h => by cases h; exact ⟨by simp, rfl⟩))) (by exact (show ST [.val (Enc.e kind), .val (Enc.e value), .val (Enc.e size), .emp] _ _ _ from (st_snx (show ST [.val (Enc.e kind), .val (Enc.e value), .val (Enc.e size), .emp] _ _ _ from (st_ifr (by exact (se_liftB (sb_c2 op_eq (sv_mM (fun _ => rfl) (sv_xv (x := kind) rfl) fun k3 => (sc_nil (s_Kind_name k3))) (sv_c (x := ("mirror" : Str)) rfl)) fun b12 => by exact (kifr (by exact (show ST [.val (Enc.e kind), .val (Enc.e value), .val (Enc.e size), .emp] _ _ _ from (st_ret (sv_vB (sb_c2 op_eq (sv_xl (sl_mLo (sc_cons (sv_xl (sl_lc [.val (Enc.e kind), .val (Enc.e value), .val (Enc.e size), .emp] (fun item2 => [.val (Enc.e kind), .val (Enc.e value), .val (Enc.e size), .val (Enc.e item2)]) rfl rfl (fun _ => rfl) (fun h => by cases h) (si_seq (sv_xv (x := value) rfl)) (fun item2 => sb_yes) (fun item2 => (sv_mL (sc_cons (sv_xv (x := item2) rfl) fun x4 => (sc_nil (bt_abs x4))))))) fun x5 => (sc_nil (bt_sorted x5))))) (sv_xl (sl_lrg2 (sv_c (x := (1 : Int)) rfl) (sv_m2 op_add (sv_xv (x := size) rfl) (sv_c (x := (1 : Int)) rfl)))))) fun a12 v h => by cases h; exact ⟨by simp, rfl⟩))) (by exact (show ST [.val (Enc.e kind), .val (Enc.e value), .val (Enc.e size), .emp] _ _ _ from (st_snx (show ST [.val (Enc.e kind), .val (Enc.e value), .val (Enc.e size), .emp] _ _ _ from (st_ret (sv_xand (sv_vB (sb_c2 op_eq (sv_xl (sl_mLo (sc_cons (sv_xl (sl_lc [.val (Enc.e kind), .val (Enc.e value), .val (Enc.e size), .emp] (fun item3 => [.val (Enc.e kind), .val (Enc.e value), .val (Enc.e size), .val (Enc.e item3)]) rfl rfl (fun _ => rfl) (fun h => by cases h) (si_seq (sv_xv (x := value) rfl)) (fun item3 => sb_yes) (fun item3 => (sv_m2 op_mod (sv_xv (x := item3) rfl) (sv_xv (x := size) rfl))))) fun x6 => (sc_nil (bt_sorted x6))))) (sv_xl (sl_lrg1 (sv_xv (x := size) rfl))))) (sv_vB (sb_c2 op_eq (sv_mL (sc_cons (sv_xv (x := value) rfl) fun x7 => (sc_nil (bt_sum x7)))) (sv_m2 op_fdiv (sv_m2 op_mul (sv_xv (x := size) rfl) (sv_m2 op_sub (sv_xv (x := size) rfl) (sv_c (x := (1 : Int)) rfl))) (sv_c (x := (2 : Int)) rfl))))) fun a19 v h => by cases h; exact rfl)))))))))))))))))))))))))))))
def t_crossings_between (kind : Kd) (size : Int) (low : Int) (high : Int) : Option Int :=
  ((((some kind).bind fun k => t_Kind_name k).bind fun a => (some ("ring" : Str)).bind fun b => teq a b).bind fun b2 => (if b2 = true then (((((some high).bind fun a2 => (some low).bind fun b3 => some (a2 - b3)).bind fun a3 => (some size).bind fun b4 => tfdiv a3 b4).bind fun x => some (x.natAbs : Int)).bind fun a4 => some a4) else (((((some low).bind fun a5 => (some high).bind fun b5 => some (decide (b5 < a5))).bind fun x2 => some (if x2 = true then (1 : Int) else 0)).bind fun a9 => (((((some kind).bind fun k2 => t_Kind_name k2).bind fun a6 => (some ("mirror" : Str)).bind fun b6 => teq a6 b6).bind fun b9 => if b9 = true then (((some low).bind fun a7 => (some high).bind fun b7 => some (a7 + b7)).bind fun a8 => (some (0 : Int)).bind fun b8 => some (decide (a8 < b8))) else some false).bind fun x3 => some (if x3 = true then (1 : Int) else 0)).bind fun b10 => some (a9 + b10)).bind fun a10 => some a10)))
theorem s_crossings_between (kind : Kd) (size : Int) (low : Int) (high : Int) : ∀ v, t_crossings_between kind size low high = some v → m_crossings_between [Enc.e kind, Enc.e size, Enc.e low, Enc.e high] = some (Enc.e v) := by
  unfold t_crossings_between
  unfold m_crossings_between mb_crossings_between
  exact p_def rfl (show ST [.val (Enc.e kind), .val (Enc.e size), .val (Enc.e low), .val (Enc.e high)] _ _ _ from (st_ifr (by exact (se_liftB (sb_c2 op_eq (sv_mM (fun _ => rfl) (sv_xv (x := kind) rfl) fun k => (sc_nil (s_Kind_name k))) (sv_c (x := ("ring" : Str)) rfl)) fun b2 => by exact (kifr (by exact (show ST [.val (Enc.e kind), .val (Enc.e size), .val (Enc.e low), .val (Enc.e high)] _ _ _ from (st_ret (sv_mL (sc_cons (sv_m2 op_fdiv (sv_m2 op_sub (sv_xv (x := high) rfl) (sv_xv (x := low) rfl)) (sv_xv (x := size) rfl)) fun x => (sc_nil (bt_abs x)))) fun a4 v h => by cases h; exact ⟨by simp, rfl⟩))) (by exact (show ST [.val (Enc.e kind), .val (Enc.e size), .val (Enc.e low), .val (Enc.e high)] _ _ _ from (st_snx (show ST [.val (Enc.e kind), .val (Enc.e size), .val (Enc.e low), .val (Enc.e high)] _ _ _ from (st_ret (sv_m2 op_add (sv_mL (sc_cons (sv_vB (sb_c2 op_gt (sv_xv (x := low) rfl) (sv_xv (x := high) rfl))) fun x2 => (sc_nil (bt_intB x2)))) (sv_mL (sc_cons (sv_xand (sv_vB (sb_c2 op_eq (sv_mM (fun _ => rfl) (sv_xv (x := kind) rfl) fun k2 => (sc_nil (s_Kind_name k2))) (sv_c (x := ("mirror" : Str)) rfl))) (sv_vB (sb_c2 op_lt (sv_m2 op_add (sv_xv (x := low) rfl) (sv_xv (x := high) rfl)) (sv_c (x := (0 : Int)) rfl)))) fun x3 => (sc_nil (bt_intB x3))))) fun a10 v h => by cases h; exact rfl))))))))))
def t_crossings_of (kind : Kd) (order : (List Int)) : Option Int :=
  ((some (0 : Int)).bind fun found => ((((some order).bind fun a => some (tenum 0 a)).bind fun xs => (forT (fun q (s : Int) => ((((some order).bind fun a3 => (((some q.a).bind fun a2 => (some (1 : Int)).bind fun b => some (a2 + b)).bind fun i => some (some i)).bind fun lo => (some none).bind fun hi => some (cutG a3 lo hi)).bind fun xs2 => (forT (fun high (s2 : Int) => (((some s2).bind fun a4 => ((some kind).bind fun x => (((some order).bind fun x2 => some (x2.length : Int)).bind fun x3 => ((some q.b).bind fun x4 => ((some high).bind fun x5 => t_crossings_between x x3 x4 x5)))).bind fun b2 => some (a4 + b2)).bind fun found2 => (some found2))) xs2 s)).bind fun s2 => (((some s2).bind fun a7 => (((((some kind).bind fun k => t_Kind_name k).bind fun a5 => (some ("mirror" : Str)).bind fun b3 => teq a5 b3).bind fun b5 => if b5 = true then ((some q.b).bind fun a6 => (some (0 : Int)).bind fun b4 => some (decide (a6 < b4))) else some false).bind fun x6 => some (if x6 = true then (1 : Int) else 0)).bind fun b6 => some (a7 + b6)).bind fun found3 => (some found3)))) xs found)).bind fun s => ((some s).bind fun a8 => some a8)))
theorem s_crossings_of (kind : Kd) (order : (List Int)) : ∀ v, t_crossings_of kind order = some v → m_crossings_of [Enc.e kind, Enc.e order] = some (Enc.e v) := by
  unfold t_crossings_of
  unfold m_crossings_of mb_crossings_of
  exact p_def rfl (show ST [.val (Enc.e kind), .val (Enc.e order), .emp, .emp, .emp, .emp] _ _ _ from (st_asg (se_lift (sv_c (x := (0 : Int)) rfl) fun found => by exact (show ST [.val (Enc.e kind), .val (Enc.e order), .val (Enc.e found), .emp, .emp, .emp] _ _ _ from (st_bind (fun (s : Int) ev_ => ∃ j : PJ, ∃ j2 : PJ, ∃ j3 : PJ, ev_ = [.val (Enc.e kind), .val (Enc.e order), .val (Enc.e s), j.s, j2.s, j3.s]) (by exact (st_for (by exact (se_liftL (si_enum (sv_xv (x := order) rfl)) fun xs => by exact (k_forA (fun (s : Int) ev_ => ∃ j : PJ, ∃ j2 : PJ, ∃ j3 : PJ, ev_ = [.val (Enc.e kind), .val (Enc.e order), .val (Enc.e s), j.s, j2.s, j3.s]) (fun q s _ hI_ => by obtain ⟨j, j2, j3, rfl⟩ := hI_; exact ⟨_, rfl, (show ST [.val (Enc.e kind), .val (Enc.e order), .val (Enc.e s), .val (Enc.e q.a), .val (Enc.e q.b), j3.s] _ _ _ from (st_bind (fun (s2 : Int) ev_ => ∃ j4 : PJ, ev_ = [.val (Enc.e kind), .val (Enc.e order), .val (Enc.e s2), .val (Enc.e q.a), .val (Enc.e q.b), j4.s]) (by exact (st_for (by exact (se_liftL (si_seq (sv_xl (sl_cut (sv_xv (x := order) rfl) (sp_s (sv_m2 op_add (sv_xv (x := q.a) rfl) (sv_c (x := (1 : Int)) rfl))) sp_n))) fun xs2 => by exact (k_forA (fun (s2 : Int) ev_ => ∃ j4 : PJ, ev_ = [.val (Enc.e kind), .val (Enc.e order), .val (Enc.e s2), .val (Enc.e q.a), .val (Enc.e q.b), j4.s]) (fun high s2 _ hI_ => by obtain ⟨j4, rfl⟩ := hI_; exact ⟨_, rfl, (show ST [.val (Enc.e kind), .val (Enc.e order), .val (Enc.e s2), .val (Enc.e q.a), .val (Enc.e q.b), .val (Enc.e high)] _ _ _ from (st_last (st_asg (se_lift (sv_m2 op_add (sv_xv (x := s2) rfl) (sv_mL (sc_cons (sv_xv (x := kind) rfl) fun x => (sc_cons (sv_mL (sc_cons (sv_xv (x := order) rfl) fun x2 => (sc_nil (bt_len x2)))) fun x3 => (sc_cons (sv_xv (x := q.b) rfl) fun x4 => (sc_cons (sv_xv (x := high) rfl) fun x5 => (sc_nil (s_crossings_between x x3 x4 x5)))))))) fun found2 => by exact (show ST [.val (Enc.e kind), .val (Enc.e order), .val (Enc.e found2), .val (Enc.e q.a), .val (Enc.e q.b), .val (Enc.e high)] _ _ _ from (st_end ⟨rfl, ⟨.v (Enc.e high), rfl⟩⟩))))))⟩) ⟨j3, rfl⟩))))) (fun s2 _ hI_ => by obtain ⟨j4, rfl⟩ := hI_; exact (show ST [.val (Enc.e kind), .val (Enc.e order), .val (Enc.e s2), .val (Enc.e q.a), .val (Enc.e q.b), j4.s] _ _ _ from (st_last (st_asg (se_lift (sv_m2 op_add (sv_xv (x := s2) rfl) (sv_mL (sc_cons (sv_xand (sv_vB (sb_c2 op_eq (sv_mM (fun _ => rfl) (sv_xv (x := kind) rfl) fun k => (sc_nil (s_Kind_name k))) (sv_c (x := ("mirror" : Str)) rfl))) (sv_vB (sb_c2 op_lt (sv_xv (x := q.b) rfl) (sv_c (x := (0 : Int)) rfl)))) fun x6 => (sc_nil (bt_intB x6))))) fun found3 => by exact (show ST [.val (Enc.e kind), .val (Enc.e order), .val (Enc.e found3), .val (Enc.e q.a), .val (Enc.e q.b), j4.s] _ _ _ from (st_end ⟨rfl, ⟨.v (Enc.e q.a), .v (Enc.e q.b), j4, rfl⟩⟩)))))))))⟩) ⟨.e, .e, .e, rfl⟩))))) (fun s _ hI_ => by obtain ⟨j, j2, j3, rfl⟩ := hI_; exact (show ST [.val (Enc.e kind), .val (Enc.e order), .val (Enc.e s), j.s, j2.s, j3.s] _ _ _ from (st_ret (sv_xv (x := s) rfl) fun a8 v h => by cases h; exact rfl))))))))
def t_is_let_order (kind : Kd) (value : (List Int)) : Option Bool :=
  ((((some kind).bind fun x => ((some value).bind fun x2 => t_is_order_list x x2)).bind fun b2 => if b2 = true then (((some kind).bind fun x3 => ((some value).bind fun x4 => t_crossings_of x3 x4)).bind fun a => (some (60 : Int)).bind fun b => some (decide (a ≤ b))) else some false).bind fun a2 => some a2)
theorem s_is_let_order (kind : Kd) (value : (List Int)) : ∀ v, t_is_let_order kind value = some v → m_is_let_order [Enc.e kind, Enc.e value] = some (Enc.e v) := by
  unfold t_is_let_order
  unfold m_is_let_order mb_is_let_order
  exact p_def rfl (show ST [.val (Enc.e kind), .val (Enc.e value)] _ _ _ from (st_ret (sv_xand (sv_mL (sc_cons (sv_xv (x := kind) rfl) fun x => (sc_cons (sv_xv (x := value) rfl) fun x2 => (sc_nil (s_is_order_list x x2))))) (sv_vB (sb_c2 op_le (sv_mL (sc_cons (sv_xv (x := kind) rfl) fun x3 => (sc_cons (sv_xv (x := value) rfl) fun x4 => (sc_nil (s_crossings_of x3 x4))))) (sv_c (x := (60 : Int)) rfl)))) fun a2 v h => by cases h; exact rfl))
def t_check_order (kind : Kd) (order : (List Int)) : Option Unit :=
  ((((some kind).bind fun x => ((some order).bind fun x2 => t_is_let_order x x2)).bind fun b => some (!b)).bind fun b2 => (if b2 = true then none else (some ())))
theorem s_check_order (kind : Kd) (order : (List Int)) : ∀ v, t_check_order kind order = some v → m_check_order [Enc.e kind, Enc.e order] = some (Enc.e v) := by
  unfold t_check_order
  unfold m_check_order mb_check_order
  exact p_def rfl (show ST [.val (Enc.e kind), .val (Enc.e order)] _ _ _ from (st_last (st_ifr (by exact (se_liftB (sb_not (sb_tB (sv_mL (sc_cons (sv_xv (x := kind) rfl) fun x => (sc_cons (sv_xv (x := order) rfl) fun x2 => (sc_nil (s_is_let_order x x2))))))) fun b2 => by exact (kifr (by exact (show ST [.val (Enc.e kind), .val (Enc.e order)] _ _ _ from st_never)) (by exact (show ST [.val (Enc.e kind), .val (Enc.e order)] _ _ _ from (st_snx (show ST [.val (Enc.e kind), .val (Enc.e order)] _ _ _ from (st_end rfl)))))))))))
def t_check_orders (kind : Kd) (orders : (List (List Int))) : Option Unit :=
  (((some kind).bind fun x => t_check_kind x).bind fun _ => (((some orders).bind fun xs => (forT (fun order (s : Unit) => (((some kind).bind fun x2 => ((some order).bind fun x3 => t_check_order x2 x3)).bind fun _ => (some ()))) xs ())).bind fun s => (some ())))
theorem s_check_orders (kind : Kd) (orders : (List (List Int))) : ∀ v, t_check_orders kind orders = some v → m_check_orders [Enc.e kind, Enc.e orders] = some (Enc.e v) := by
  unfold t_check_orders
  unfold m_check_orders mb_check_orders
  exact p_def rfl (show ST [.val (Enc.e kind), .val (Enc.e orders), .emp] _ _ _ from (st_drop (se_lift (sv_mL (sc_cons (sv_xv (x := kind) rfl) fun x => (sc_nil (s_check_kind x)))) fun _ => by exact (show ST [.val (Enc.e kind), .val (Enc.e orders), .emp] _ _ _ from (st_last (st_bind (fun (s : Unit) ev_ => ∃ j : PJ, ev_ = [.val (Enc.e kind), .val (Enc.e orders), j.s]) (by exact (st_for (by exact (se_liftL (si_seq (sv_xv (x := orders) rfl)) fun xs => by exact (k_forA (fun (s : Unit) ev_ => ∃ j : PJ, ev_ = [.val (Enc.e kind), .val (Enc.e orders), j.s]) (fun order s _ hI_ => by obtain ⟨j, rfl⟩ := hI_; exact ⟨_, rfl, (show ST [.val (Enc.e kind), .val (Enc.e orders), .val (Enc.e order)] _ _ _ from (st_last (st_drop (se_lift (sv_mL (sc_cons (sv_xv (x := kind) rfl) fun x2 => (sc_cons (sv_xv (x := order) rfl) fun x3 => (sc_nil (s_check_order x2 x3))))) fun _ => by exact (show ST [.val (Enc.e kind), .val (Enc.e orders), .val (Enc.e order)] _ _ _ from (st_end ⟨rfl, ⟨.v (Enc.e order), rfl⟩⟩))))))⟩) ⟨.e, rfl⟩))))) (fun s _ hI_ => by obtain ⟨j, rfl⟩ := hI_; exact (show ST [.val (Enc.e kind), .val (Enc.e orders), j.s] _ _ _ from (st_end rfl)))))))))
def t_item_at (kind : Kd) (order : (List Int)) (place : Int) : Option Int :=
  ((((some kind).bind fun k => t_Kind_name k).bind fun a => (some ("mirror" : Str)).bind fun b => teq a b).bind fun b2 => (if b2 = true then ((((some order).bind fun a3 => (((some place).bind fun x => some (x.natAbs : Int)).bind fun a2 => (some (1 : Int)).bind fun b3 => some (a2 - b3)).bind fun b4 => tix a3 b4).bind fun a6 => (((some place).bind fun a4 => (some (0 : Int)).bind fun b5 => some (decide (b5 < a4))).bind fun b6 => if b6 = true then (some (1 : Int)) else ((some (1 : Int)).bind fun a5 => some (-a5))).bind fun b7 => tmul a6 b7).bind fun a7 => some a7) else (((((some order).bind fun a9 => ((some place).bind fun a8 => ((some order).bind fun x2 => some (x2.length : Int)).bind fun b8 => tmod a8 b8).bind fun b9 => tix a9 b9).bind fun a10 => (some place).bind fun b10 => some (a10 + b10)).bind fun a12 => ((some place).bind fun a11 => ((some order).bind fun x3 => some (x3.length : Int)).bind fun b11 => tmod a11 b11).bind fun b12 => some (a12 - b12)).bind fun a13 => some a13)))
theorem s_item_at (kind : Kd) (order : (List Int)) (place : Int) : ∀ v, t_item_at kind order place = some v → m_item_at [Enc.e kind, Enc.e order, Enc.e place] = some (Enc.e v) := by
  unfold t_item_at
  unfold m_item_at mb_item_at
  exact p_def rfl (show ST [.val (Enc.e kind), .val (Enc.e order), .val (Enc.e place)] _ _ _ from (st_ifr (by exact (se_liftB (sb_c2 op_eq (sv_mM (fun _ => rfl) (sv_xv (x := kind) rfl) fun k => (sc_nil (s_Kind_name k))) (sv_c (x := ("mirror" : Str)) rfl)) fun b2 => by exact (kifr (by exact (show ST [.val (Enc.e kind), .val (Enc.e order), .val (Enc.e place)] _ _ _ from (st_ret (sv_m2 op_mul (sv_m2 op_ix (sv_xv (x := order) rfl) (sv_m2 op_sub (sv_mL (sc_cons (sv_xv (x := place) rfl) fun x => (sc_nil (bt_abs x)))) (sv_c (x := (1 : Int)) rfl))) (sv_if (sb_c2 op_gt (sv_xv (x := place) rfl) (sv_c (x := (0 : Int)) rfl)) (sv_c (x := (1 : Int)) rfl) (sv_m1 op_neg (sv_c (x := (1 : Int)) rfl)))) fun a7 v h => by cases h; exact ⟨by simp, rfl⟩))) (by exact (show ST [.val (Enc.e kind), .val (Enc.e order), .val (Enc.e place)] _ _ _ from (st_snx (show ST [.val (Enc.e kind), .val (Enc.e order), .val (Enc.e place)] _ _ _ from (st_ret (sv_m2 op_sub (sv_m2 op_add (sv_m2 op_ix (sv_xv (x := order) rfl) (sv_m2 op_mod (sv_xv (x := place) rfl) (sv_mL (sc_cons (sv_xv (x := order) rfl) fun x2 => (sc_nil (bt_len x2)))))) (sv_xv (x := place) rfl)) (sv_m2 op_mod (sv_xv (x := place) rfl) (sv_mL (sc_cons (sv_xv (x := order) rfl) fun x3 => (sc_nil (bt_len x3)))))) fun a13 v h => by cases h; exact rfl))))))))))
def t_product_of (kind : Kd) (one : (List Int)) (other : (List Int)) : Option (List Int) :=
  (((some other).bind fun xs => tlc (fun place => (some true)) (fun place => ((some kind).bind fun x => ((some one).bind fun x2 => ((some place).bind fun x3 => t_item_at x x2 x3)))) xs).bind fun a => some a)
theorem s_product_of (kind : Kd) (one : (List Int)) (other : (List Int)) : ∀ v, t_product_of kind one other = some v → m_product_of [Enc.e kind, Enc.e one, Enc.e other] = some (List.map Enc.e v) := by
  unfold t_product_of
  unfold m_product_of mb_product_of
  exact o_def rfl (show ST [.val (Enc.e kind), .val (Enc.e one), .val (Enc.e other), .emp] _ _ _ from (st_retO (sl_lc [.val (Enc.e kind), .val (Enc.e one), .val (Enc.e other), .emp] (fun place => [.val (Enc.e kind), .val (Enc.e one), .val (Enc.e other), .val (Enc.e place)]) rfl rfl (fun _ => rfl) (fun h => by cases h) (si_seq (sv_xv (x := other) rfl)) (fun place => sb_yes) (fun place => (sv_mL (sc_cons (sv_xv (x := kind) rfl) fun x => (sc_cons (sv_xv (x := one) rfl) fun x2 => (sc_cons (sv_xv (x := place) rfl) fun x3 => (sc_nil (s_item_at x x2 x3)))))))) fun a v h => by cases h; exact rfl))
def t_product (kind : Kd) (one : (List Int)) (other : (List Int)) : Option (List Int) :=
  (((some kind).bind fun x => ((((some one).bind fun x2 => ((some other).bind fun x3 => some [x2, x3])) : Option (List (List Int))).bind fun x4 => t_check_orders x x4)).bind fun _ => (((some kind).bind fun x5 => ((some one).bind fun x6 => ((some other).bind fun x7 => t_product_of x5 x6 x7))).bind fun a => some a))
theorem s_product (kind : Kd) (one : (List Int)) (other : (List Int)) : ∀ v, t_product kind one other = some v → m_product [Enc.e kind, Enc.e one, Enc.e other] = some (List.map Enc.e v) := by
  unfold t_product
  unfold m_product mb_product
  exact o_def rfl (show ST [.val (Enc.e kind), .val (Enc.e one), .val (Enc.e other)] _ _ _ from (st_drop (se_lift (sv_mL (sc_cons (sv_xv (x := kind) rfl) fun x => (sc_cons (sv_xl (sl_xlst (sc_cons (sv_xv (x := one) rfl) fun x2 => (sc_cons (sv_xv (x := other) rfl) fun x3 => (sc_nil (fun v h => by cases h; exact ⟨Nat.le_of_ble_eq_true rfl, rfl⟩)))))) fun x4 => (sc_nil (s_check_orders x x4))))) fun _ => by exact (show ST [.val (Enc.e kind), .val (Enc.e one), .val (Enc.e other)] _ _ _ from (st_retO (sl_mLo (sc_cons (sv_xv (x := kind) rfl) fun x5 => (sc_cons (sv_xv (x := one) rfl) fun x6 => (sc_cons (sv_xv (x := other) rfl) fun x7 => (sc_nil (s_product_of x5 x6 x7)))))) fun a v h => by cases h; exact rfl)))))
def t_Kind_steps (self : Kd) : Option Int :=
  ((((some self).bind fun a => some a.n).bind fun a4 => ((((some self).bind fun a2 => some a2.nm).bind fun a3 => (some ("plain" : Str)).bind fun b => teq a3 b).bind fun x => some (if x = true then (1 : Int) else 0)).bind fun b2 => some (a4 - b2)).bind fun a5 => some a5)
theorem s_Kind_steps (self : Kd) : ∀ v, t_Kind_steps self = some v → m_Kind_steps [Enc.e self] = some (Enc.e v) := by
  unfold t_Kind_steps
  unfold m_Kind_steps mb_Kind_steps
  exact p_def rfl (show ST [.val (Enc.e self)] _ _ _ from (st_ret (sv_m2 op_sub (sv_m1 op_fld2 (sv_xv (x := self) rfl)) (sv_mL (sc_cons (sv_vB (sb_c2 op_eq (sv_m1 op_fld1 (sv_xv (x := self) rfl)) (sv_c (x := ("plain" : Str)) rfl))) fun x => (sc_nil (bt_intB x))))) fun a5 v h => by cases h; exact rfl))
def t_check_step (kind : Kd) (step : Int) : Option Unit :=
  (((some step).bind fun x => ((some (0 : Int)).bind fun x2 => ((((some kind).bind fun k => t_Kind_steps k).bind fun a => (some (1 : Int)).bind fun b => some (a - b)).bind fun x3 => t_check_number x x2 x3))).bind fun _ => (some ()))
theorem s_check_step (kind : Kd) (step : Int) : ∀ v, t_check_step kind step = some v → m_check_step [Enc.e kind, Enc.e step] = some (Enc.e v) := by
  unfold t_check_step
  unfold m_check_step mb_check_step
  exact p_def rfl (show ST [.val (Enc.e kind), .val (Enc.e step)] _ _ _ from (st_last (st_drop (se_lift (sv_mL (sc_cons (sv_xv (x := step) rfl) fun x => (sc_cons (sv_c (x := (0 : Int)) rfl) fun x2 => (sc_cons (sv_m2 op_sub (sv_mM (fun _ => rfl) (sv_xv (x := kind) rfl) fun k => (sc_nil (s_Kind_steps k))) (sv_c (x := (1 : Int)) rfl)) fun x3 => (sc_nil (s_check_number x x2 x3)))))) fun _ => by exact (show ST [.val (Enc.e kind), .val (Enc.e step)] _ _ _ from (st_end rfl))))))
def t_by_step (kind : Kd) (order : (List Int)) (step : Int) : Option (List Int) :=
  (((some order).bind fun x => some x).bind fun found => ((((((some kind).bind fun k => t_Kind_name k).bind fun a => (some ("mirror" : Str)).bind fun b => teq a b).bind fun b3 => if b3 = true then ((some step).bind fun a2 => (some (0 : Int)).bind fun b2 => teq a2 b2) else some false).bind fun b4 => (if b4 = true then ((((some (0 : Int)).bind fun j2 => tix found j2).bind fun a3 => some (-a3)).bind fun x2 => ((some (0 : Int)).bind fun j3 => (tset found j3 x2).bind fun found2 => (some found2))) else ((((((some kind).bind fun k2 => t_Kind_name k2).bind fun a4 => (some ("ring" : Str)).bind fun b5 => teq a4 b5).bind fun b8 => if b8 = true then ((some step).bind fun a6 => (((some order).bind fun x3 => some (x3.length : Int)).bind fun a5 => (some (1 : Int)).bind fun b6 => some (a5 - b6)).bind fun b7 => teq a6 b7) else some false).bind fun b9 => (if b9 = true then ((((((some order).bind fun a7 => (some step).bind fun b10 => tix a7 b10).bind fun a8 => ((some order).bind fun x4 => some (x4.length : Int)).bind fun b11 => some (a8 - b11)).bind fun x5 => ((((some order).bind fun a9 => (some (0 : Int)).bind fun b12 => tix a9 b12).bind fun a10 => ((some order).bind fun x6 => some (x6.length : Int)).bind fun b13 => some (a10 + b13)).bind fun x7 => some ⟨x5, x7⟩)) : Option (T2 Int Int)).bind fun x8 => ((some (0 : Int)).bind fun j5 => (tset found j5 x8.a).bind fun found3 => ((some step).bind fun j6 => (tset found3 j6 x8.b).bind fun found4 => (some found4)))) else (((some step).bind fun a12 => ((((some kind).bind fun k3 => t_Kind_name k3).bind fun a11 => (some ("mirror" : Str)).bind fun b14 => teq a11 b14).bind fun x9 => some (if x9 = true then (1 : Int) else 0)).bind fun b15 => some (a12 - b15)).bind fun at_ => (((((some order).bind fun a14 => ((some at_).bind fun a13 => (some (1 : Int)).bind fun b16 => some (a13 + b16)).bind fun b17 => tix a14 b17).bind fun x10 => (((some order).bind fun a15 => (some at_).bind fun b18 => tix a15 b18).bind fun x11 => some ⟨x10, x11⟩)) : Option (T2 Int Int)).bind fun x12 => ((some at_).bind fun j7 => (tset found j7 x12.a).bind fun found5 => (((some at_).bind fun a16 => (some (1 : Int)).bind fun b19 => some (a16 + b19)).bind fun j8 => (tset found5 j8 x12.b).bind fun found6 => (some found6))))))).bind fun s2 => (some s2)))).bind fun s => (some s)))
theorem s_by_step (kind : Kd) (order : (List Int)) (step : Int) : ∀ v, t_by_step kind order step = some v → m_by_step [Enc.e kind, Enc.e order, Enc.e step] = some (List.map Enc.e v) := by
  unfold t_by_step
  unfold m_by_step mb_by_step
  exact o_def rfl (show ST [.val (Enc.e kind), .val (Enc.e order), .val (Enc.e step), .emp, .emp] _ _ _ from (st_asgO (sl_mLo (sc_cons (sv_xv (x := order) rfl) fun x => (sc_nil (bt_list x)))) (Nat.le_of_ble_eq_true rfl) fun found => by exact (show ST [.val (Enc.e kind), .val (Enc.e order), .val (Enc.e step), .own (List.map Enc.e found), .emp] _ _ _ from (st_bind (fun (s : (List Int)) ev_ => ∃ j : PJ, ev_ = [.val (Enc.e kind), .val (Enc.e order), .val (Enc.e step), .own (List.map Enc.e s), j.s]) (by exact (st_if (by exact (se_liftB (sb_and (sb_c2 op_eq (sv_mM (fun _ => rfl) (sv_xv (x := kind) rfl) fun k => (sc_nil (s_Kind_name k))) (sv_c (x := ("mirror" : Str)) rfl)) (sb_c2 op_eq (sv_xv (x := step) rfl) (sv_c (x := (0 : Int)) rfl))) fun b4 => by exact (kif (by exact (show ST [.val (Enc.e kind), .val (Enc.e order), .val (Enc.e step), .own (List.map Enc.e found), .emp] _ _ _ from (st_last (st_put (se_lift (sv_m1 op_neg (sv_ixo (x := found) (.inl rfl) (sv_c (x := (0 : Int)) rfl))) fun x2 => by exact (kS (xs := found) rfl rfl (sv_c (x := (0 : Int)) rfl) fun found2 => by exact (show ST [.val (Enc.e kind), .val (Enc.e order), .val (Enc.e step), .own (List.map Enc.e found2), .emp] _ _ _ from (st_end ⟨rfl, ⟨.e, rfl⟩⟩)))))))) (by exact (show ST [.val (Enc.e kind), .val (Enc.e order), .val (Enc.e step), .own (List.map Enc.e found), .emp] _ _ _ from (st_last (st_bind (fun (s2 : (List Int)) ev_ => ∃ j4 : PJ, ev_ = [.val (Enc.e kind), .val (Enc.e order), .val (Enc.e step), .own (List.map Enc.e s2), j4.s]) (by exact (st_if (by exact (se_liftB (sb_and (sb_c2 op_eq (sv_mM (fun _ => rfl) (sv_xv (x := kind) rfl) fun k2 => (sc_nil (s_Kind_name k2))) (sv_c (x := ("ring" : Str)) rfl)) (sb_c2 op_eq (sv_xv (x := step) rfl) (sv_m2 op_sub (sv_mL (sc_cons (sv_xv (x := order) rfl) fun x3 => (sc_nil (bt_len x3)))) (sv_c (x := (1 : Int)) rfl)))) fun b9 => by exact (kif (by exact (show ST [.val (Enc.e kind), .val (Enc.e order), .val (Enc.e step), .own (List.map Enc.e found), .emp] _ _ _ from (st_last (st_put (se_lift (sv_xtup (sc_cons (sv_m2 op_sub (sv_m2 op_ix (sv_xv (x := order) rfl) (sv_xv (x := step) rfl)) (sv_mL (sc_cons (sv_xv (x := order) rfl) fun x4 => (sc_nil (bt_len x4))))) fun x5 => (sc_cons (sv_m2 op_add (sv_m2 op_ix (sv_xv (x := order) rfl) (sv_c (x := (0 : Int)) rfl)) (sv_mL (sc_cons (sv_xv (x := order) rfl) fun x6 => (sc_nil (bt_len x6))))) fun x7 => (sc_nil (fun v h => by cases h; exact ⟨Nat.le_of_ble_eq_true rfl, rfl⟩))))) fun x8 => by exact (kgTA rfl (by exact (kgs1A (by exact (kS (xs := found) rfl rfl (sv_c (x := (0 : Int)) rfl) fun found3 => by exact (kgs1A (by exact (kS (xs := found3) rfl rfl (sv_xv (x := step) rfl) fun found4 => by exact (exI rfl (by exact (show ST [.val (Enc.e kind), .val (Enc.e order), .val (Enc.e step), .own (List.map Enc.e found4), .emp] _ _ _ from (st_end ⟨rfl, ⟨.e, rfl⟩⟩))))))))))))))))) (by exact (show ST [.val (Enc.e kind), .val (Enc.e order), .val (Enc.e step), .own (List.map Enc.e found), .emp] _ _ _ from (st_asg (se_lift (sv_m2 op_sub (sv_xv (x := step) rfl) (sv_mL (sc_cons (sv_vB (sb_c2 op_eq (sv_mM (fun _ => rfl) (sv_xv (x := kind) rfl) fun k3 => (sc_nil (s_Kind_name k3))) (sv_c (x := ("mirror" : Str)) rfl))) fun x9 => (sc_nil (bt_intB x9))))) fun at_ => by exact (show ST [.val (Enc.e kind), .val (Enc.e order), .val (Enc.e step), .own (List.map Enc.e found), .val (Enc.e at_)] _ _ _ from (st_last (st_put (se_lift (sv_xtup (sc_cons (sv_m2 op_ix (sv_xv (x := order) rfl) (sv_m2 op_add (sv_xv (x := at_) rfl) (sv_c (x := (1 : Int)) rfl))) fun x10 => (sc_cons (sv_m2 op_ix (sv_xv (x := order) rfl) (sv_xv (x := at_) rfl)) fun x11 => (sc_nil (fun v h => by cases h; exact ⟨Nat.le_of_ble_eq_true rfl, rfl⟩))))) fun x12 => by exact (kgTA rfl (by exact (kgs1A (by exact (kS (xs := found) rfl rfl (sv_xv (x := at_) rfl) fun found5 => by exact (kgs1A (by exact (kS (xs := found5) rfl rfl (sv_m2 op_add (sv_xv (x := at_) rfl) (sv_c (x := (1 : Int)) rfl)) fun found6 => by exact (exI rfl (by exact (show ST [.val (Enc.e kind), .val (Enc.e order), .val (Enc.e step), .own (List.map Enc.e found6), .val (Enc.e at_)] _ _ _ from (st_end ⟨rfl, ⟨.v (Enc.e at_), rfl⟩⟩))))))))))))))))))))))))) (fun s2 _ hI_ => by obtain ⟨j4, rfl⟩ := hI_; exact (show ST [.val (Enc.e kind), .val (Enc.e order), .val (Enc.e step), .own (List.map Enc.e s2), j4.s] _ _ _ from (st_end ⟨rfl, ⟨j4, rfl⟩⟩)))))))))))) (fun s _ hI_ => by obtain ⟨j, rfl⟩ := hI_; exact (show ST [.val (Enc.e kind), .val (Enc.e order), .val (Enc.e step), .own (List.map Enc.e s), j.s] _ _ _ from (st_retV rfl fun v h => by cases h; exact rfl)))))))
def t_stepped (kind : Kd) (order : (List Int)) (step : Int) : Option (List Int) :=
  (((some kind).bind fun x => ((((some order).bind fun x2 => some [x2]) : Option (List (List Int))).bind fun x3 => t_check_orders x x3)).bind fun _ => (((some kind).bind fun x4 => ((some step).bind fun x5 => t_check_step x4 x5)).bind fun _ => (((some kind).bind fun x6 => ((some order).bind fun x7 => ((some step).bind fun x8 => t_by_step x6 x7 x8))).bind fun a => some a)))
theorem s_stepped (kind : Kd) (order : (List Int)) (step : Int) : ∀ v, t_stepped kind order step = some v → m_stepped [Enc.e kind, Enc.e order, Enc.e step] = some (List.map Enc.e v) := by
  unfold t_stepped
  unfold m_stepped mb_stepped
  exact o_def rfl (show ST [.val (Enc.e kind), .val (Enc.e order), .val (Enc.e step)] _ _ _ from (st_drop (se_lift (sv_mL (sc_cons (sv_xv (x := kind) rfl) fun x => (sc_cons (sv_xl (sl_xlst (sc_cons (sv_xv (x := order) rfl) fun x2 => (sc_nil (fun v h => by cases h; exact ⟨Nat.le_of_ble_eq_true rfl, rfl⟩))))) fun x3 => (sc_nil (s_check_orders x x3))))) fun _ => by exact (show ST [.val (Enc.e kind), .val (Enc.e order), .val (Enc.e step)] _ _ _ from (st_drop (se_lift (sv_mL (sc_cons (sv_xv (x := kind) rfl) fun x4 => (sc_cons (sv_xv (x := step) rfl) fun x5 => (sc_nil (s_check_step x4 x5))))) fun _ => by exact (show ST [.val (Enc.e kind), .val (Enc.e order), .val (Enc.e step)] _ _ _ from (st_retO (sl_mLo (sc_cons (sv_xv (x := kind) rfl) fun x6 => (sc_cons (sv_xv (x := order) rfl) fun x7 => (sc_cons (sv_xv (x := step) rfl) fun x8 => (sc_nil (s_by_step x6 x7 x8)))))) fun a v h => by cases h; exact rfl))))))))
def t__law_product (told : (T2 Str Int)) (one : (List Int)) (other : (List Int)) : Option (List Int) :=
  (((some other).bind fun xs => tlc (fun place => (some true)) (fun place => ((some told).bind fun x => ((some one).bind fun x2 => ((some place).bind fun x3 => t__law_item x x2 x3)))) xs).bind fun a => some a)
theorem s__law_product (told : (T2 Str Int)) (one : (List Int)) (other : (List Int)) : ∀ v, t__law_product told one other = some v → m__law_product [Enc.e told, Enc.e one, Enc.e other] = some (List.map Enc.e v) := by
  unfold t__law_product
  unfold m__law_product mb__law_product
  exact o_def rfl (show ST [.val (Enc.e told), .val (Enc.e one), .val (Enc.e other), .emp] _ _ _ from (st_retO (sl_lc [.val (Enc.e told), .val (Enc.e one), .val (Enc.e other), .emp] (fun place => [.val (Enc.e told), .val (Enc.e one), .val (Enc.e other), .val (Enc.e place)]) rfl rfl (fun _ => rfl) (fun h => by cases h) (si_seq (sv_xv (x := other) rfl)) (fun place => sb_yes) (fun place => (sv_mL (sc_cons (sv_xv (x := told) rfl) fun x => (sc_cons (sv_xv (x := one) rfl) fun x2 => (sc_cons (sv_xv (x := place) rfl) fun x3 => (sc_nil (s__law_item x x2 x3)))))))) fun a v h => by cases h; exact rfl))
def t_opposite_of (kind : Kd) (order : (List Int)) : Option (List Int) :=
  (((((some (0 : Int)).bind fun x => some [x]) : Option (List Int)).bind fun a => ((some order).bind fun x2 => some (x2.length : Int)).bind fun b => trep a b).bind fun found => ((((some order).bind fun a2 => some (tenum 0 a2)).bind fun xs => (forT (fun q (s : (List Int)) => (((((some kind).bind fun k => t_Kind_name k).bind fun a3 => (some ("mirror" : Str)).bind fun b2 => teq a3 b2).bind fun b3 => (if b3 = true then ((((some q.a).bind fun a4 => (some (1 : Int)).bind fun b4 => some (a4 + b4)).bind fun a7 => (((some q.b).bind fun a5 => (some (0 : Int)).bind fun b5 => some (decide (b5 < a5))).bind fun b6 => if b6 = true then (some (1 : Int)) else ((some (1 : Int)).bind fun a6 => some (-a6))).bind fun b7 => tmul a7 b7).bind fun x3 => ((((some q.b).bind fun x4 => some (x4.natAbs : Int)).bind fun a8 => (some (1 : Int)).bind fun b8 => some (a8 - b8)).bind fun j3 => (tset s j3 x3).bind fun found2 => (some found2))) else (((some q.a).bind fun a11 => ((some q.b).bind fun a10 => ((some q.b).bind fun a9 => ((some order).bind fun x5 => some (x5.length : Int)).bind fun b9 => tmod a9 b9).bind fun b10 => some (a10 - b10)).bind fun b11 => some (a11 - b11)).bind fun x6 => (((some q.b).bind fun a12 => ((some order).bind fun x7 => some (x7.length : Int)).bind fun b12 => tmod a12 b12).bind fun j4 => (tset s j4 x6).bind fun found3 => (some found3))))).bind fun s2 => (some s2))) xs found)).bind fun s => (some s)))
theorem s_opposite_of (kind : Kd) (order : (List Int)) : ∀ v, t_opposite_of kind order = some v → m_opposite_of [Enc.e kind, Enc.e order] = some (List.map Enc.e v) := by
  unfold t_opposite_of
  unfold m_opposite_of mb_opposite_of
  exact o_def rfl (show ST [.val (Enc.e kind), .val (Enc.e order), .emp, .emp, .emp] _ _ _ from (st_asgO (sl_m2o op_rep (sv_xl (sl_xlst (sc_cons (sv_c (x := (0 : Int)) rfl) fun x => (sc_nil (fun v h => by cases h; exact ⟨Nat.le_of_ble_eq_true rfl, rfl⟩))))) (sv_mL (sc_cons (sv_xv (x := order) rfl) fun x2 => (sc_nil (bt_len x2))))) (Nat.le_of_ble_eq_true rfl) fun found => by exact (show ST [.val (Enc.e kind), .val (Enc.e order), .own (List.map Enc.e found), .emp, .emp] _ _ _ from (st_bind (fun (s : (List Int)) ev_ => ∃ j : PJ, ∃ j2 : PJ, ev_ = [.val (Enc.e kind), .val (Enc.e order), .own (List.map Enc.e s), j.s, j2.s]) (by exact (st_for (by exact (se_liftL (si_enum (sv_xv (x := order) rfl)) fun xs => by exact (k_forA (fun (s : (List Int)) ev_ => ∃ j : PJ, ∃ j2 : PJ, ev_ = [.val (Enc.e kind), .val (Enc.e order), .own (List.map Enc.e s), j.s, j2.s]) (fun q s _ hI_ => by obtain ⟨j, j2, rfl⟩ := hI_; exact ⟨_, rfl, (show ST [.val (Enc.e kind), .val (Enc.e order), .own (List.map Enc.e s), .val (Enc.e q.a), .val (Enc.e q.b)] _ _ _ from (st_last (st_bind (fun (s2 : (List Int)) ev_ => ev_ = [.val (Enc.e kind), .val (Enc.e order), .own (List.map Enc.e s2), .val (Enc.e q.a), .val (Enc.e q.b)]) (by exact (st_if (by exact (se_liftB (sb_c2 op_eq (sv_mM (fun _ => rfl) (sv_xv (x := kind) rfl) fun k => (sc_nil (s_Kind_name k))) (sv_c (x := ("mirror" : Str)) rfl)) fun b3 => by exact (kif (by exact (show ST [.val (Enc.e kind), .val (Enc.e order), .own (List.map Enc.e s), .val (Enc.e q.a), .val (Enc.e q.b)] _ _ _ from (st_last (st_put (se_lift (sv_m2 op_mul (sv_m2 op_add (sv_xv (x := q.a) rfl) (sv_c (x := (1 : Int)) rfl)) (sv_if (sb_c2 op_gt (sv_xv (x := q.b) rfl) (sv_c (x := (0 : Int)) rfl)) (sv_c (x := (1 : Int)) rfl) (sv_m1 op_neg (sv_c (x := (1 : Int)) rfl)))) fun x3 => by exact (kS (xs := s) rfl rfl (sv_m2 op_sub (sv_mL (sc_cons (sv_xv (x := q.b) rfl) fun x4 => (sc_nil (bt_abs x4)))) (sv_c (x := (1 : Int)) rfl)) fun found2 => by exact (show ST [.val (Enc.e kind), .val (Enc.e order), .own (List.map Enc.e found2), .val (Enc.e q.a), .val (Enc.e q.b)] _ _ _ from (st_end ⟨rfl, rfl⟩)))))))) (by exact (show ST [.val (Enc.e kind), .val (Enc.e order), .own (List.map Enc.e s), .val (Enc.e q.a), .val (Enc.e q.b)] _ _ _ from (st_last (st_put (se_lift (sv_m2 op_sub (sv_xv (x := q.a) rfl) (sv_m2 op_sub (sv_xv (x := q.b) rfl) (sv_m2 op_mod (sv_xv (x := q.b) rfl) (sv_mL (sc_cons (sv_xv (x := order) rfl) fun x5 => (sc_nil (bt_len x5))))))) fun x6 => by exact (kS (xs := s) rfl rfl (sv_m2 op_mod (sv_xv (x := q.b) rfl) (sv_mL (sc_cons (sv_xv (x := order) rfl) fun x7 => (sc_nil (bt_len x7))))) fun found3 => by exact (show ST [.val (Enc.e kind), .val (Enc.e order), .own (List.map Enc.e found3), .val (Enc.e q.a), .val (Enc.e q.b)] _ _ _ from (st_end ⟨rfl, rfl⟩))))))))))))) (fun s2 _ hI_ => by subst hI_; exact (show ST [.val (Enc.e kind), .val (Enc.e order), .own (List.map Enc.e s2), .val (Enc.e q.a), .val (Enc.e q.b)] _ _ _ from (st_end ⟨rfl, ⟨.v (Enc.e q.a), .v (Enc.e q.b), rfl⟩⟩))))))⟩) ⟨.e, .e, rfl⟩))))) (fun s _ hI_ => by obtain ⟨j, j2, rfl⟩ := hI_; exact (show ST [.val (Enc.e kind), .val (Enc.e order), .own (List.map Enc.e s), j.s, j2.s] _ _ _ from (st_retV rfl fun v h => by cases h; exact rfl)))))))
def t_opposite (kind : Kd) (order : (List Int)) : Option (List Int) :=
  (((some kind).bind fun x => ((((some order).bind fun x2 => some [x2]) : Option (List (List Int))).bind fun x3 => t_check_orders x x3)).bind fun _ => (((some kind).bind fun x4 => ((some order).bind fun x5 => t_opposite_of x4 x5)).bind fun a => some a))
theorem s_opposite (kind : Kd) (order : (List Int)) : ∀ v, t_opposite kind order = some v → m_opposite [Enc.e kind, Enc.e order] = some (List.map Enc.e v) := by
  unfold t_opposite
  unfold m_opposite mb_opposite
  exact o_def rfl (show ST [.val (Enc.e kind), .val (Enc.e order)] _ _ _ from (st_drop (se_lift (sv_mL (sc_cons (sv_xv (x := kind) rfl) fun x => (sc_cons (sv_xl (sl_xlst (sc_cons (sv_xv (x := order) rfl) fun x2 => (sc_nil (fun v h => by cases h; exact ⟨Nat.le_of_ble_eq_true rfl, rfl⟩))))) fun x3 => (sc_nil (s_check_orders x x3))))) fun _ => by exact (show ST [.val (Enc.e kind), .val (Enc.e order)] _ _ _ from (st_retO (sl_mLo (sc_cons (sv_xv (x := kind) rfl) fun x4 => (sc_cons (sv_xv (x := order) rfl) fun x5 => (sc_nil (s_opposite_of x4 x5))))) fun a v h => by cases h; exact rfl)))))
def t__law_is_crossed (told : (T2 Str Int)) (order : (List Int)) (step : Int) : Option Bool :=
  (((((some told).bind fun a => some a.a).bind fun a2 => (some ("mirror" : Str)).bind fun b => tne a2 b).bind fun b4 => if b4 = true then (some step) else (((some step).bind fun a3 => (some (0 : Int)).bind fun b2 => some (decide (b2 < a3))).bind fun b3 => if b3 = true then (some step) else ((some (1 : Int)).bind fun a4 => some (-a4)))).bind fun low => ((((some told).bind fun x => ((some order).bind fun x2 => ((some low).bind fun x3 => t__law_item x x2 x3))).bind fun a5 => ((some told).bind fun x4 => ((some order).bind fun x5 => (((some told).bind fun x6 => ((some step).bind fun x7 => ((some low).bind fun x8 => t__law_turned x6 x7 x8))).bind fun x9 => t__law_item x4 x5 x9))).bind fun b5 => some (decide (b5 < a5))).bind fun a6 => some a6))
theorem s__law_is_crossed (told : (T2 Str Int)) (order : (List Int)) (step : Int) : ∀ v, t__law_is_crossed told order step = some v → m__law_is_crossed [Enc.e told, Enc.e order, Enc.e step] = some (Enc.e v) := by
  unfold t__law_is_crossed
  unfold m__law_is_crossed mb__law_is_crossed
  exact p_def rfl (show ST [.val (Enc.e told), .val (Enc.e order), .val (Enc.e step), .emp] _ _ _ from (st_asg (se_lift (sv_if (sb_c2 op_ne (sv_t2a (sv_xv (x := told) rfl)) (sv_c (x := ("mirror" : Str)) rfl)) (sv_xv (x := step) rfl) (sv_if (sb_c2 op_gt (sv_xv (x := step) rfl) (sv_c (x := (0 : Int)) rfl)) (sv_xv (x := step) rfl) (sv_m1 op_neg (sv_c (x := (1 : Int)) rfl)))) fun low => by exact (show ST [.val (Enc.e told), .val (Enc.e order), .val (Enc.e step), .val (Enc.e low)] _ _ _ from (st_ret (sv_vB (sb_c2 op_gt (sv_mL (sc_cons (sv_xv (x := told) rfl) fun x => (sc_cons (sv_xv (x := order) rfl) fun x2 => (sc_cons (sv_xv (x := low) rfl) fun x3 => (sc_nil (s__law_item x x2 x3)))))) (sv_mL (sc_cons (sv_xv (x := told) rfl) fun x4 => (sc_cons (sv_xv (x := order) rfl) fun x5 => (sc_cons (sv_mL (sc_cons (sv_xv (x := told) rfl) fun x6 => (sc_cons (sv_xv (x := step) rfl) fun x7 => (sc_cons (sv_xv (x := low) rfl) fun x8 => (sc_nil (s__law_turned x6 x7 x8)))))) fun x9 => (sc_nil (s__law_item x4 x5 x9)))))))) fun a6 v h => by cases h; exact rfl)))))
def t__law_falls (told : (T2 Str Int)) (order : (List Int)) : Option (List Int) :=
  (((((some told).bind fun x => t__law_many x).bind fun n => trg 0 n).bind fun xs => tlc (fun step => ((some told).bind fun x2 => ((some order).bind fun x3 => ((some step).bind fun x4 => t__law_is_crossed x2 x3 x4)))) (fun step => (some step)) xs).bind fun a => some a)
theorem s__law_falls (told : (T2 Str Int)) (order : (List Int)) : ∀ v, t__law_falls told order = some v → m__law_falls [Enc.e told, Enc.e order] = some (List.map Enc.e v) := by
  unfold t__law_falls
  unfold m__law_falls mb__law_falls
  exact o_def rfl (show ST [.val (Enc.e told), .val (Enc.e order), .emp] _ _ _ from (st_retO (sl_lc [.val (Enc.e told), .val (Enc.e order), .emp] (fun step => [.val (Enc.e told), .val (Enc.e order), .val (Enc.e step)]) rfl rfl (fun _ => rfl) (fun h => by cases h) (si_rg1 (sv_mL (sc_cons (sv_xv (x := told) rfl) fun x => (sc_nil (s__law_many x))))) (fun step => (sb_tB (sv_mL (sc_cons (sv_xv (x := told) rfl) fun x2 => (sc_cons (sv_xv (x := order) rfl) fun x3 => (sc_cons (sv_xv (x := step) rfl) fun x4 => (sc_nil (s__law_is_crossed x2 x3 x4)))))))) (fun step => (sv_xv (x := step) rfl))) fun a v h => by cases h; exact rfl))
def t__law_least (told : (T2 Str Int)) (order : (List Int)) : Option (List Int) :=
  ((some [] : Option (List Int)).bind fun found => (((some order).bind fun x => some x).bind fun x2 => (((some told).bind fun x3 => ((some x2).bind fun x4 => t__law_falls x3 x4)).bind fun steps => ((whT (fun (s : (List Int) × (List Int) × (List Int)) => ((some s.1).bind fun a => (some [] : Option (List Int)).bind fun b => tne a b)) (fun (s : (List Int) × (List Int) × (List Int)) => (((some s.1).bind fun a3 => (((some s.1).bind fun x5 => some (x5.length : Int)).bind fun a2 => (some (1 : Int)).bind fun b2 => some (a2 - b2)).bind fun b3 => tix a3 b3).bind fun x6 => (tapp s.2.1 x6).bind fun found2 => (((some told).bind fun x7 => ((some s.2.2).bind fun x8 => (((some s.1).bind fun a5 => (((some s.1).bind fun x9 => some (x9.length : Int)).bind fun a4 => (some (1 : Int)).bind fun b4 => some (a4 - b4)).bind fun b5 => tix a5 b5).bind fun x10 => t__law_stepped x7 x8 x10))).bind fun left => (((some told).bind fun x11 => ((some left).bind fun x12 => t__law_falls x11 x12)).bind fun steps2 => (some (steps2, found2, left)))))) FUEL (steps, found, x2)).bind fun s => (((some s.2.1).bind fun a6 => some a6.reverse).bind fun a7 => some a7)))))
theorem s__law_least (told : (T2 Str Int)) (order : (List Int)) : ∀ v, t__law_least told order = some v → m__law_least [Enc.e told, Enc.e order] = some (List.map Enc.e v) := by
  unfold t__law_least
  unfold m__law_least mb__law_least
  exact o_def rfl (show ST [.val (Enc.e told), .val (Enc.e order), .emp, .emp, .emp] _ _ _ from (st_mul (by exact (se_emO (sl_xlst (sc_nil (fun v h => by cases h; exact ⟨Nat.le_of_ble_eq_true rfl, rfl⟩))) fun found => by exact (se_emV (by exact (se_lift (sv_xl (sl_mLo (sc_cons (sv_xv (x := order) rfl) fun x => (sc_nil (bt_list x))))) fun x2 => by exact (se_emN (andI ⟨rfl, rfl⟩ (show ST [.val (Enc.e told), .val (Enc.e order), .emp, .own (List.map Enc.e found), .val (Enc.e x2)] _ _ _ from (st_asg (se_lift (sv_xl (sl_mLo (sc_cons (sv_xv (x := told) rfl) fun x3 => (sc_cons (sv_xv (x := x2) rfl) fun x4 => (sc_nil (s__law_falls x3 x4)))))) fun steps => by exact (show ST [.val (Enc.e told), .val (Enc.e order), .val (Enc.e steps), .own (List.map Enc.e found), .val (Enc.e x2)] _ _ _ from (st_bind (fun (s : (List Int) × (List Int) × (List Int)) ev_ => ev_ = [.val (Enc.e told), .val (Enc.e order), .val (Enc.e s.1), .own (List.map Enc.e s.2.1), .val (Enc.e s.2.2)]) (by exact (st_wh (fun (s : (List Int) × (List Int) × (List Int)) ev_ => ev_ = [.val (Enc.e told), .val (Enc.e order), .val (Enc.e s.1), .own (List.map Enc.e s.2.1), .val (Enc.e s.2.2)])  rfl (fun s _ hI_ => by subst hI_; exact (sb_c2 op_ne (sv_xv (x := s.1) rfl) (sv_xl (sl_xlst (sc_nil (fun v h => by cases h; exact ⟨Nat.le_of_ble_eq_true rfl, rfl⟩)))))) (fun s _ hI_ => by subst hI_; exact (show ST [.val (Enc.e told), .val (Enc.e order), .val (Enc.e s.1), .own (List.map Enc.e s.2.1), .val (Enc.e s.2.2)] _ _ _ from (st_app (xs := s.2.1) rfl rfl (sv_m2 op_ix (sv_xv (x := s.1) rfl) (sv_m2 op_sub (sv_mL (sc_cons (sv_xv (x := s.1) rfl) fun x5 => (sc_nil (bt_len x5)))) (sv_c (x := (1 : Int)) rfl))) fun found2 => by exact (show ST [.val (Enc.e told), .val (Enc.e order), .val (Enc.e s.1), .own (List.map Enc.e found2), .val (Enc.e s.2.2)] _ _ _ from (st_asg (se_lift (sv_xl (sl_mLo (sc_cons (sv_xv (x := told) rfl) fun x7 => (sc_cons (sv_xv (x := s.2.2) rfl) fun x8 => (sc_cons (sv_m2 op_ix (sv_xv (x := s.1) rfl) (sv_m2 op_sub (sv_mL (sc_cons (sv_xv (x := s.1) rfl) fun x9 => (sc_nil (bt_len x9)))) (sv_c (x := (1 : Int)) rfl))) fun x10 => (sc_nil (s__law_stepped x7 x8 x10))))))) fun left => by exact (show ST [.val (Enc.e told), .val (Enc.e order), .val (Enc.e s.1), .own (List.map Enc.e found2), .val (Enc.e left)] _ _ _ from (st_last (st_asg (se_lift (sv_xl (sl_mLo (sc_cons (sv_xv (x := told) rfl) fun x11 => (sc_cons (sv_xv (x := left) rfl) fun x12 => (sc_nil (s__law_falls x11 x12)))))) fun steps2 => by exact (show ST [.val (Enc.e told), .val (Enc.e order), .val (Enc.e steps2), .own (List.map Enc.e found2), .val (Enc.e left)] _ _ _ from (st_end ⟨rfl, rfl⟩)))))))))))))) (fun s _ hI_ => by subst hI_; exact (show ST [.val (Enc.e told), .val (Enc.e order), .val (Enc.e s.1), .own (List.map Enc.e s.2.1), .val (Enc.e s.2.2)] _ _ _ from (st_retO (sl_rev (sv_xbo (x := s.2.1) rfl)) fun a7 v h => by cases h; exact rfl)))))))))))))))))
def t__law_opposite (told : (T2 Str Int)) (order : (List Int)) : Option (List Int) :=
  (((some told).bind fun x => ((((some told).bind fun x2 => ((some order).bind fun x3 => t__law_least x2 x3)).bind fun a => some a.reverse).bind fun x4 => t__law_made x x4)).bind fun a2 => some a2)
theorem s__law_opposite (told : (T2 Str Int)) (order : (List Int)) : ∀ v, t__law_opposite told order = some v → m__law_opposite [Enc.e told, Enc.e order] = some (Enc.e v) := by
  unfold t__law_opposite
  unfold m__law_opposite mb__law_opposite
  exact p_def rfl (show ST [.val (Enc.e told), .val (Enc.e order)] _ _ _ from (st_ret (sv_mL (sc_cons (sv_xv (x := told) rfl) fun x => (sc_cons (sv_xl (sl_rev (sv_xl (sl_mLo (sc_cons (sv_xv (x := told) rfl) fun x2 => (sc_cons (sv_xv (x := order) rfl) fun x3 => (sc_nil (s__law_least x2 x3)))))))) fun x4 => (sc_nil (s__law_made x x4))))) fun a2 v h => by cases h; exact rfl))
def t_Kind_start (self : Kd) : Option (List Int) :=
  (((((some self).bind fun a => some a.nm).bind fun a2 => (some ("mirror" : Str)).bind fun b => teq a2 b).bind fun x => some (if x = true then (1 : Int) else 0)).bind fun first => (((some first).bind fun a5 => ((some first).bind fun a4 => ((some self).bind fun a3 => some a3.n).bind fun b2 => some (a4 + b2)).bind fun b3 => tlrg a5 b3).bind fun a6 => some a6))
theorem s_Kind_start (self : Kd) : ∀ v, t_Kind_start self = some v → m_Kind_start [Enc.e self] = some (List.map Enc.e v) := by
  unfold t_Kind_start
  unfold m_Kind_start mb_Kind_start
  exact o_def rfl (show ST [.val (Enc.e self), .emp] _ _ _ from (st_asg (se_lift (sv_mL (sc_cons (sv_vB (sb_c2 op_eq (sv_m1 op_fld1 (sv_xv (x := self) rfl)) (sv_c (x := ("mirror" : Str)) rfl))) fun x => (sc_nil (bt_intB x)))) fun first => by exact (show ST [.val (Enc.e self), .val (Enc.e first)] _ _ _ from (st_retO (sl_lrg2 (sv_xv (x := first) rfl) (sv_m2 op_add (sv_xv (x := first) rfl) (sv_m1 op_fld2 (sv_xv (x := self) rfl)))) fun a6 v h => by cases h; exact rfl)))))
def t_crossings (kind : Kd) (order : (List Int)) : Option Int :=
  (((some kind).bind fun x => ((((some order).bind fun x2 => some [x2]) : Option (List (List Int))).bind fun x3 => t_check_orders x x3)).bind fun _ => (((some kind).bind fun x4 => ((some order).bind fun x5 => t_crossings_of x4 x5)).bind fun a => some a))
theorem s_crossings (kind : Kd) (order : (List Int)) : ∀ v, t_crossings kind order = some v → m_crossings [Enc.e kind, Enc.e order] = some (Enc.e v) := by
  unfold t_crossings
  unfold m_crossings mb_crossings
  exact p_def rfl (show ST [.val (Enc.e kind), .val (Enc.e order)] _ _ _ from (st_drop (se_lift (sv_mL (sc_cons (sv_xv (x := kind) rfl) fun x => (sc_cons (sv_xl (sl_xlst (sc_cons (sv_xv (x := order) rfl) fun x2 => (sc_nil (fun v h => by cases h; exact ⟨Nat.le_of_ble_eq_true rfl, rfl⟩))))) fun x3 => (sc_nil (s_check_orders x x3))))) fun _ => by exact (show ST [.val (Enc.e kind), .val (Enc.e order)] _ _ _ from (st_ret (sv_mL (sc_cons (sv_xv (x := kind) rfl) fun x4 => (sc_cons (sv_xv (x := order) rfl) fun x5 => (sc_nil (s_crossings_of x4 x5))))) fun a v h => by cases h; exact rfl)))))
def t_is_crossed (kind : Kd) (order : (List Int)) (step : Int) : Option Bool :=
  ((((some kind).bind fun k => t_Kind_name k).bind fun a => (some ("mirror" : Str)).bind fun b => teq a b).bind fun b2 => (if b2 = true then ((((some step).bind fun a2 => (some (0 : Int)).bind fun b3 => teq a2 b3).bind fun b10 => if b10 = true then (((some order).bind fun a3 => (some (0 : Int)).bind fun b4 => tix a3 b4).bind fun a4 => (some (0 : Int)).bind fun b5 => some (decide (a4 < b5))) else (((some order).bind fun a6 => ((some step).bind fun a5 => (some (1 : Int)).bind fun b6 => some (a5 - b6)).bind fun b7 => tix a6 b7).bind fun a8 => ((some order).bind fun a7 => (some step).bind fun b8 => tix a7 b8).bind fun b9 => some (decide (b9 < a8)))).bind fun a9 => some a9) else (((((some kind).bind fun k2 => t_Kind_name k2).bind fun a10 => (some ("ring" : Str)).bind fun b11 => teq a10 b11).bind fun b14 => if b14 = true then ((some step).bind fun a12 => (((some order).bind fun x => some (x.length : Int)).bind fun a11 => (some (1 : Int)).bind fun b12 => some (a11 - b12)).bind fun b13 => teq a12 b13) else some false).bind fun b15 => (if b15 = true then ((((some order).bind fun a13 => (some step).bind fun b16 => tix a13 b16).bind fun a16 => (((some order).bind fun a14 => (some (0 : Int)).bind fun b17 => tix a14 b17).bind fun a15 => ((some order).bind fun x2 => some (x2.length : Int)).bind fun b18 => some (a15 + b18)).bind fun b19 => some (decide (b19 < a16))).bind fun a17 => some a17) else ((((some order).bind fun a18 => (some step).bind fun b20 => tix a18 b20).bind fun a21 => ((some order).bind fun a20 => ((some step).bind fun a19 => (some (1 : Int)).bind fun b21 => some (a19 + b21)).bind fun b22 => tix a20 b22).bind fun b23 => some (decide (b23 < a21))).bind fun a22 => some a22)))))
theorem s_is_crossed (kind : Kd) (order : (List Int)) (step : Int) : ∀ v, t_is_crossed kind order step = some v → m_is_crossed [Enc.e kind, Enc.e order, Enc.e step] = some (Enc.e v) := by
  unfold t_is_crossed
  unfold m_is_crossed mb_is_crossed
  exact p_def rfl (show ST [.val (Enc.e kind), .val (Enc.e order), .val (Enc.e step)] _ _ _ from (st_ifr (by exact (se_liftB (sb_c2 op_eq (sv_mM (fun _ => rfl) (sv_xv (x := kind) rfl) fun k => (sc_nil (s_Kind_name k))) (sv_c (x := ("mirror" : Str)) rfl)) fun b2 => by exact (kifr (by exact (show ST [.val (Enc.e kind), .val (Enc.e order), .val (Enc.e step)] _ _ _ from (st_ret (sv_if (sb_c2 op_eq (sv_xv (x := step) rfl) (sv_c (x := (0 : Int)) rfl)) (sv_vB (sb_c2 op_lt (sv_m2 op_ix (sv_xv (x := order) rfl) (sv_c (x := (0 : Int)) rfl)) (sv_c (x := (0 : Int)) rfl))) (sv_vB (sb_c2 op_gt (sv_m2 op_ix (sv_xv (x := order) rfl) (sv_m2 op_sub (sv_xv (x := step) rfl) (sv_c (x := (1 : Int)) rfl))) (sv_m2 op_ix (sv_xv (x := order) rfl) (sv_xv (x := step) rfl))))) fun a9 v h => by cases h; exact ⟨by simp, rfl⟩))) (by exact (show ST [.val (Enc.e kind), .val (Enc.e order), .val (Enc.e step)] _ _ _ from (st_snx (show ST [.val (Enc.e kind), .val (Enc.e order), .val (Enc.e step)] _ _ _ from (st_ifr (by exact (se_liftB (sb_and (sb_c2 op_eq (sv_mM (fun _ => rfl) (sv_xv (x := kind) rfl) fun k2 => (sc_nil (s_Kind_name k2))) (sv_c (x := ("ring" : Str)) rfl)) (sb_c2 op_eq (sv_xv (x := step) rfl) (sv_m2 op_sub (sv_mL (sc_cons (sv_xv (x := order) rfl) fun x => (sc_nil (bt_len x)))) (sv_c (x := (1 : Int)) rfl)))) fun b15 => by exact (kifr (by exact (show ST [.val (Enc.e kind), .val (Enc.e order), .val (Enc.e step)] _ _ _ from (st_ret (sv_vB (sb_c2 op_gt (sv_m2 op_ix (sv_xv (x := order) rfl) (sv_xv (x := step) rfl)) (sv_m2 op_add (sv_m2 op_ix (sv_xv (x := order) rfl) (sv_c (x := (0 : Int)) rfl)) (sv_mL (sc_cons (sv_xv (x := order) rfl) fun x2 => (sc_nil (bt_len x2))))))) fun a17 v h => by cases h; exact ⟨by simp, rfl⟩))) (by exact (show ST [.val (Enc.e kind), .val (Enc.e order), .val (Enc.e step)] _ _ _ from (st_snx (show ST [.val (Enc.e kind), .val (Enc.e order), .val (Enc.e step)] _ _ _ from (st_ret (sv_vB (sb_c2 op_gt (sv_m2 op_ix (sv_xv (x := order) rfl) (sv_xv (x := step) rfl)) (sv_m2 op_ix (sv_xv (x := order) rfl) (sv_m2 op_add (sv_xv (x := step) rfl) (sv_c (x := (1 : Int)) rfl))))) fun a22 v h => by cases h; exact rfl))))))))))))))))))
def t_falls_of (kind : Kd) (order : (List Int)) : Option (List Int) :=
  (((((some kind).bind fun k => t_Kind_steps k).bind fun n => trg 0 n).bind fun xs => tlc (fun step => ((some kind).bind fun x => ((some order).bind fun x2 => ((some step).bind fun x3 => t_is_crossed x x2 x3)))) (fun step => (some step)) xs).bind fun a => some a)
theorem s_falls_of (kind : Kd) (order : (List Int)) : ∀ v, t_falls_of kind order = some v → m_falls_of [Enc.e kind, Enc.e order] = some (List.map Enc.e v) := by
  unfold t_falls_of
  unfold m_falls_of mb_falls_of
  exact o_def rfl (show ST [.val (Enc.e kind), .val (Enc.e order), .emp] _ _ _ from (st_retO (sl_lc [.val (Enc.e kind), .val (Enc.e order), .emp] (fun step => [.val (Enc.e kind), .val (Enc.e order), .val (Enc.e step)]) rfl rfl (fun _ => rfl) (fun h => by cases h) (si_rg1 (sv_mM (fun _ => rfl) (sv_xv (x := kind) rfl) fun k => (sc_nil (s_Kind_steps k)))) (fun step => (sb_tB (sv_mL (sc_cons (sv_xv (x := kind) rfl) fun x => (sc_cons (sv_xv (x := order) rfl) fun x2 => (sc_cons (sv_xv (x := step) rfl) fun x3 => (sc_nil (s_is_crossed x x2 x3)))))))) (fun step => (sv_xv (x := step) rfl))) fun a v h => by cases h; exact rfl))
def t_heads_of (kind : Kd) (order : (List Int)) : Option (List Int) :=
  (((some kind).bind fun x => (((some kind).bind fun x2 => ((some order).bind fun x3 => t_opposite_of x2 x3)).bind fun x4 => t_falls_of x x4)).bind fun a => some a)
theorem s_heads_of (kind : Kd) (order : (List Int)) : ∀ v, t_heads_of kind order = some v → m_heads_of [Enc.e kind, Enc.e order] = some (List.map Enc.e v) := by
  unfold t_heads_of
  unfold m_heads_of mb_heads_of
  exact o_def rfl (show ST [.val (Enc.e kind), .val (Enc.e order)] _ _ _ from (st_retO (sl_mLo (sc_cons (sv_xv (x := kind) rfl) fun x => (sc_cons (sv_xl (sl_mLo (sc_cons (sv_xv (x := kind) rfl) fun x2 => (sc_cons (sv_xv (x := order) rfl) fun x3 => (sc_nil (s_opposite_of x2 x3)))))) fun x4 => (sc_nil (s_falls_of x x4))))) fun a v h => by cases h; exact rfl))
def t_heads (kind : Kd) (order : (List Int)) : Option (List Int) :=
  (((some kind).bind fun x => ((((some order).bind fun x2 => some [x2]) : Option (List (List Int))).bind fun x3 => t_check_orders x x3)).bind fun _ => (((some kind).bind fun x4 => ((some order).bind fun x5 => t_heads_of x4 x5)).bind fun a => some a))
theorem s_heads (kind : Kd) (order : (List Int)) : ∀ v, t_heads kind order = some v → m_heads [Enc.e kind, Enc.e order] = some (List.map Enc.e v) := by
  unfold t_heads
  unfold m_heads mb_heads
  exact o_def rfl (show ST [.val (Enc.e kind), .val (Enc.e order)] _ _ _ from (st_drop (se_lift (sv_mL (sc_cons (sv_xv (x := kind) rfl) fun x => (sc_cons (sv_xl (sl_xlst (sc_cons (sv_xv (x := order) rfl) fun x2 => (sc_nil (fun v h => by cases h; exact ⟨Nat.le_of_ble_eq_true rfl, rfl⟩))))) fun x3 => (sc_nil (s_check_orders x x3))))) fun _ => by exact (show ST [.val (Enc.e kind), .val (Enc.e order)] _ _ _ from (st_retO (sl_mLo (sc_cons (sv_xv (x := kind) rfl) fun x4 => (sc_cons (sv_xv (x := order) rfl) fun x5 => (sc_nil (s_heads_of x4 x5))))) fun a v h => by cases h; exact rfl)))))
def t_falls (kind : Kd) (order : (List Int)) : Option (List Int) :=
  (((some kind).bind fun x => ((((some order).bind fun x2 => some [x2]) : Option (List (List Int))).bind fun x3 => t_check_orders x x3)).bind fun _ => (((some kind).bind fun x4 => ((some order).bind fun x5 => t_falls_of x4 x5)).bind fun a => some a))
theorem s_falls (kind : Kd) (order : (List Int)) : ∀ v, t_falls kind order = some v → m_falls [Enc.e kind, Enc.e order] = some (List.map Enc.e v) := by
  unfold t_falls
  unfold m_falls mb_falls
  exact o_def rfl (show ST [.val (Enc.e kind), .val (Enc.e order)] _ _ _ from (st_drop (se_lift (sv_mL (sc_cons (sv_xv (x := kind) rfl) fun x => (sc_cons (sv_xl (sl_xlst (sc_cons (sv_xv (x := order) rfl) fun x2 => (sc_nil (fun v h => by cases h; exact ⟨Nat.le_of_ble_eq_true rfl, rfl⟩))))) fun x3 => (sc_nil (s_check_orders x x3))))) fun _ => by exact (show ST [.val (Enc.e kind), .val (Enc.e order)] _ _ _ from (st_retO (sl_mLo (sc_cons (sv_xv (x := kind) rfl) fun x4 => (sc_cons (sv_xv (x := order) rfl) fun x5 => (sc_nil (s_falls_of x4 x5))))) fun a v h => by cases h; exact rfl)))))
def t__law_right (generator : (List Int)) : Option (Bool × (List Int)) :=
  (t__law_kind generator).bind fun r => ((((some r.1).bind fun a => some a.a).bind fun x => (((some r.1).bind fun a2 => some a2.b).bind fun x2 => t_Kind___init__ x x2)).bind fun x3 => (((some (3 : Int)).bind fun n => trg 0 n).bind fun xs => ((tlcS (fun turn s => ((some r.1).bind fun x4 => ((some (12 : Int)).bind fun x5 => (t__law_row s x4 x5).bind fun r2 => some (r2.1, r2.2)))) xs r.2).bind fun r3 => (((some r3.1).bind fun xs => tlc (fun row => (some true)) (fun row => ((some r.1).bind fun x6 => ((some row).bind fun x7 => t__law_made x6 x7))) xs).bind fun x8 => (tun3 x8 fun x9 x10 x11 => (((((some x9).bind fun x12 => ((some x10).bind fun x13 => ((some x11).bind fun x14 => some [x12, x13, x14]))) : Option (List (List Int))).bind fun x15 => trepr x15).bind fun kept => (((some x3).bind fun x16 => ((some x9).bind fun x17 => ((some x10).bind fun x18 => t_product x16 x17 x18))).bind fun both => (((some x9).bind fun x19 => some x19).bind fun x20 => ((((some r3.1).bind fun a3 => (some (1 : Int)).bind fun b => tix a3 b).bind fun xs2 => (forT (fun step (s2 : (List Int)) => (((some x3).bind fun x21 => ((some s2).bind fun x22 => ((some step).bind fun x23 => t_stepped x21 x22 x23))).bind fun found => (some found))) xs2 x20)).bind fun s2 => ((((some both).bind fun a4 => (some s2).bind fun b2 => tne a4 b2).bind fun b6 => if b6 = true then some true else (((some both).bind fun a5 => ((some r.1).bind fun x24 => ((some x9).bind fun x25 => ((some x10).bind fun x26 => t__law_product x24 x25 x26))).bind fun b3 => tne a5 b3).bind fun b5 => if b5 = true then some true else (((some x10).bind fun x27 => ((some x9).bind fun x28 => ((some x3).bind fun x29 => t_product x29 x28 x27))).bind fun a6 => (some both).bind fun b4 => tne a6 b4))).bind fun b7 => (if b7 = true then ((some false).bind fun a7 => some (a7, r3.2)) else ((((some x3).bind fun x30 => ((some both).bind fun x31 => ((some x11).bind fun x32 => t_product x30 x31 x32))).bind fun a8 => ((some x3).bind fun x33 => ((some x9).bind fun x34 => (((some x3).bind fun x35 => ((some x10).bind fun x36 => ((some x11).bind fun x37 => t_product x35 x36 x37))).bind fun x38 => t_product x33 x34 x38))).bind fun b8 => tne a8 b8).bind fun b9 => (if b9 = true then ((some false).bind fun a9 => some (a9, r3.2)) else (((some both).bind fun a13 => ((some r.1).bind fun x39 => ((((some r3.1).bind fun a10 => (some (0 : Int)).bind fun b10 => tix a10 b10).bind fun a12 => ((some r3.1).bind fun a11 => (some (1 : Int)).bind fun b11 => tix a11 b11).bind fun b12 => tcat a12 b12).bind fun x40 => t__law_made x39 x40)).bind fun b13 => tne a13 b13).bind fun b14 => (if b14 = true then ((some false).bind fun a14 => some (a14, r3.2)) else (((((some x9).bind fun x41 => ((some x10).bind fun x42 => ((some x11).bind fun x43 => some [x41, x42, x43]))) : Option (List (List Int))).bind fun xs3 => (forC (fun order (s3 : Unit) => (((some x3).bind fun x44 => ((some order).bind fun x45 => t_opposite x44 x45)).bind fun back => ((((some back).bind fun a15 => ((some r.1).bind fun x46 => ((some order).bind fun x47 => t__law_opposite x46 x47)).bind fun b15 => tne a15 b15).bind fun b19 => if b19 = true then some true else ((((some order).bind fun x48 => ((some x3).bind fun x49 => t_opposite x49 x48)).bind fun a16 => (some back).bind fun b16 => tne a16 b16).bind fun b18 => if b18 = true then some true else (((some x3).bind fun x50 => ((some back).bind fun x51 => t_opposite x50 x51)).bind fun a17 => (some order).bind fun b17 => tne a17 b17))).bind fun b20 => (if b20 = true then ((some false).bind fun a18 => some (.ret (a18, r3.2))) else (((((some x3).bind fun x52 => ((some order).bind fun x53 => ((some back).bind fun x54 => t_product x52 x53 x54))).bind fun a19 => ((some x3).bind fun k => t_Kind_start k).bind fun b21 => tne a19 b21).bind fun b23 => if b23 = true then some true else (((some x3).bind fun x55 => ((some back).bind fun x56 => ((some order).bind fun x57 => t_product x55 x56 x57))).bind fun a20 => ((some x3).bind fun k2 => t_Kind_start k2).bind fun b22 => tne a20 b22)).bind fun b24 => (if b24 = true then ((some false).bind fun a21 => some (.ret (a21, r3.2))) else ((((some x3).bind fun x58 => ((some back).bind fun x59 => t_crossings x58 x59)).bind fun a22 => ((some x3).bind fun x60 => ((some order).bind fun x61 => t_crossings x60 x61)).bind fun b25 => tne a22 b25).bind fun b26 => (if b26 = true then ((some false).bind fun a23 => some (.ret (a23, r3.2))) else (((some x3).bind fun x62 => ((some order).bind fun x63 => (((some x3).bind fun k3 => t_Kind_start k3).bind fun x64 => t_product x62 x63 x64))).bind fun xs5 => (some ()).bind fun _ => if xs5.length ≤ 1000000 then (((some x3).bind fun x65 => (((some x3).bind fun k4 => t_Kind_start k4).bind fun x66 => ((some order).bind fun x67 => t_product x65 x66 x67))).bind fun xs4 => (some ()).bind fun _ => if xs4.length ≤ 1000000 then (((((some x3).bind fun x68 => ((some order).bind fun x69 => (((some x3).bind fun k5 => t_Kind_start k5).bind fun x70 => t_product x68 x69 x70))).bind fun a24 => (some order).bind fun b27 => tne a24 b27).bind fun b29 => if b29 = true then some true else (((some x3).bind fun x71 => (((some x3).bind fun k6 => t_Kind_start k6).bind fun x72 => ((some order).bind fun x73 => t_product x71 x72 x73))).bind fun a25 => (some order).bind fun b28 => tne a25 b28)).bind fun b30 => (if b30 = true then ((some false).bind fun a26 => some (.ret (a26, r3.2))) else ((((some x3).bind fun x74 => ((some order).bind fun x75 => t_heads x74 x75)).bind fun a27 => ((some x3).bind fun x76 => ((some back).bind fun x77 => t_falls x76 x77)).bind fun b31 => tne a27 b31).bind fun b32 => (if b32 = true then ((some false).bind fun a28 => some (.ret (a28, r3.2))) else ((some ()).bind fun _ => (tapp (List.map some back) none).bind fun back2 => (some (.nx ()))))))) else none) else none))))))))) xs3 ())).bind (Ctl.cont some fun s3 => ((((some x3).bind fun x78 => ((some both).bind fun x79 => t_opposite x78 x79)).bind fun a29 => ((some x3).bind fun x80 => (((some x3).bind fun x81 => ((some x10).bind fun x82 => t_opposite x81 x82)).bind fun x83 => (((some x3).bind fun x84 => ((some x9).bind fun x85 => t_opposite x84 x85)).bind fun x86 => t_product x80 x83 x86))).bind fun b33 => tne a29 b33).bind fun b34 => (if b34 = true then ((some false).bind fun a30 => some (a30, r3.2)) else (((some x9).bind fun x87 => some x87).bind fun given => (((((some x3).bind fun x88 => ((some given).bind fun x89 => ((some given).bind fun x90 => t_product x88 x89 x90))).bind fun a31 => ((some r.1).bind fun x91 => ((some x9).bind fun x92 => ((some x9).bind fun x93 => t__law_product x91 x92 x93))).bind fun b35 => tne a31 b35).bind fun b37 => if b37 = true then some true else ((some given).bind fun a32 => (some x9).bind fun b36 => tne a32 b36)).bind fun b38 => (if b38 = true then ((some false).bind fun a33 => some (a33, r3.2)) else ((some x10).bind fun x94 => ((tall given x94).bind fun given2 => (((((some x3).bind fun x95 => ((some given2).bind fun x96 => ((some x11).bind fun x97 => t_product x95 x96 x97))).bind fun a34 => ((some r.1).bind fun x98 => ((some x10).bind fun x99 => ((some x11).bind fun x100 => t__law_product x98 x99 x100))).bind fun b39 => tne a34 b39).bind fun b41 => if b41 = true then some true else (((some x3).bind fun x101 => ((some given2).bind fun x102 => t_opposite x101 x102)).bind fun a35 => ((some r.1).bind fun x103 => ((some x10).bind fun x104 => t__law_opposite x103 x104)).bind fun b40 => tne a35 b40)).bind fun b42 => (if b42 = true then ((some false).bind fun a36 => some (a36, r3.2)) else (((((some x3).bind fun x105 => ((some x9).bind fun x106 => t_crossings x105 x106)).bind fun a37 => ((some x3).bind fun x107 => ((some x10).bind fun x108 => t_crossings x107 x108)).bind fun b43 => some (a37 + b43)).bind fun a38 => ((some x3).bind fun x109 => ((some both).bind fun x110 => t_crossings x109 x110)).bind fun b44 => some (a38 - b44)).bind fun lost => ((some ()).bind fun _ => (tapp (List.map some both) none).bind fun both2 => ((((some x3).bind fun x111 => ((some x9).bind fun x112 => ((some x10).bind fun x113 => t_product x111 x112 x113))).bind fun a41 => ((some both2).bind fun a40 => (some none).bind fun lo => (((some (1 : Int)).bind fun a39 => some (-a39)).bind fun i => some (some i)).bind fun hi => some (cutG a40 lo hi)).bind fun b45 => tne a41 b45).bind fun b46 => (if b46 = true then ((some false).bind fun a42 => some (a42, r3.2)) else ((((some lost).bind fun a43 => (some (0 : Int)).bind fun b47 => some (decide (b47 ≤ a43))).bind fun b52 => if b52 = true then (((((some lost).bind fun x114 => some x114).bind fun a44 => (some (2 : Int)).bind fun b48 => tmod a44 b48).bind fun a45 => (some (0 : Int)).bind fun b49 => teq a45 b49).bind fun b51 => if b51 = true then (((((some x9).bind fun x115 => ((some x10).bind fun x116 => ((some x11).bind fun x117 => some [x115, x116, x117]))) : Option (List (List Int))).bind fun x118 => trepr x118).bind fun a46 => (some kept).bind fun b50 => teq a46 b50) else some false) else some false).bind fun a47 => some (a47, r3.2))))))))))))))))))))))))))))))))
theorem s__law_right (generator : (List Int)) : ∀ v, t__law_right generator = some v → m__law_right (List.map Enc.e generator) [] = some ((Enc.e v.1, List.map Enc.e v.2)) := by
  unfold t__law_right
  unfold m__law_right mb__law_right
  exact f_def rfl (show ST [.par (List.map Enc.e generator), .emp, .emp, .emp, .emp, .emp, .emp, .emp, .emp, .emp, .emp, .emp, .emp, .emp, .emp, .emp, .emp] _ _ _ from (st_asg (by exact (se_fF ⟨_, rfl⟩ (by exact (se_liftC (by exact (sc_nil (kFm rfl rfl (s__law_kind generator) (fun r => by exact (show ST [.par (List.map Enc.e r.2), .val (Enc.e r.1), .emp, .emp, .emp, .emp, .emp, .emp, .emp, .emp, .emp, .emp, .emp, .emp, .emp, .emp, .emp] _ _ _ from (st_mul (by exact (se_emV (by exact (se_lift (sv_mL (sc_cons (sv_t2a (sv_xv (x := r.1) rfl)) fun x => (sc_cons (sv_t2b (sv_xv (x := r.1) rfl)) fun x2 => (sc_nil (s_Kind___init__ x x2))))) fun x3 => by exact (se_emV (by exact (se_flc (by exact (se_liftL (si_rg1 (sv_c (x := (3 : Int)) rfl)) fun xs => by exact (kflc (fun s => [.par (List.map Enc.e s), .val (Enc.e r.1), .emp, .emp, .emp, .emp, .emp, .emp, .emp, .emp, .emp, .emp, .emp, .emp, .emp, .emp, .emp]) (fun turn s => [.par (List.map Enc.e s), .val (Enc.e r.1), .emp, .emp, .emp, .emp, .emp, .emp, .emp, .emp, .emp, .emp, .emp, .emp, .emp, .emp, .val (Enc.e turn)]) rfl rfl (fun _ _ => rfl) (fun turn s => by exact (se_fF ⟨_, rfl⟩ (by exact (se_liftC (by exact (sc_cons (sv_xv (x := r.1) rfl) fun x4 => (sc_cons (sv_c (x := (12 : Int)) rfl) fun x5 => (sc_nil (kFm rfl rfl (s__law_row s x4 x5) (fun r2 => by exact (fun v h => by cases h; exact ⟨rfl, rfl, rfl⟩))))))))))) (fun r3 => by exact (se_emN (andI ⟨rfl, rfl⟩ (show ST [.par (List.map Enc.e r3.2), .val (Enc.e r.1), .emp, .emp, .emp, .emp, .emp, .val (Enc.e x3), .val (Enc.e r3.1), .emp, .emp, .emp, .emp, .emp, .emp, .emp, .emp] _ _ _ from (st_put (se_lift (sv_xl (sl_lc [.par (List.map Enc.e r3.2), .val (Enc.e r.1), .emp, .emp, .emp, .emp, .emp, .val (Enc.e x3), .val (Enc.e r3.1), .emp, .emp, .emp, .emp, .emp, .emp, .emp, .emp] (fun row => [.par (List.map Enc.e r3.2), .val (Enc.e r.1), .emp, .emp, .emp, .emp, .emp, .val (Enc.e x3), .val (Enc.e r3.1), .emp, .emp, .emp, .emp, .emp, .emp, .val (Enc.e row), .emp]) rfl rfl (fun _ => rfl) (fun h => by cases h) (si_seq (sv_xv (x := r3.1) rfl)) (fun row => sb_yes) (fun row => (sv_mL (sc_cons (sv_xv (x := r.1) rfl) fun x6 => (sc_cons (sv_xv (x := row) rfl) fun x7 => (sc_nil (s__law_made x6 x7)))))))) fun x8 => by exact (kun3 fun x9 x10 x11 => (kgs1A (by exact (exI rfl (by exact (kgs1A (by exact (exI rfl (by exact (kgs1A (by exact (exI rfl (by exact (exI rfl (by exact (show ST [.par (List.map Enc.e r3.2), .val (Enc.e r.1), .emp, .emp, .emp, .emp, .emp, .val (Enc.e x3), .val (Enc.e r3.1), .val (Enc.e x9), .val (Enc.e x10), .val (Enc.e x11), .emp, .emp, .emp, .emp, .emp] _ _ _ from (st_asg (se_lift (sv_mL (sc_cons (sv_xl (sl_xlst (sc_cons (sv_xv (x := x9) rfl) fun x12 => (sc_cons (sv_xv (x := x10) rfl) fun x13 => (sc_cons (sv_xv (x := x11) rfl) fun x14 => (sc_nil (fun v h => by cases h; exact ⟨Nat.le_of_ble_eq_true rfl, rfl⟩))))))) fun x15 => (sc_nil (bt_repr x15)))) fun kept => by exact (show ST [.par (List.map Enc.e r3.2), .val (Enc.e r.1), .val (Enc.e kept), .emp, .emp, .emp, .emp, .val (Enc.e x3), .val (Enc.e r3.1), .val (Enc.e x9), .val (Enc.e x10), .val (Enc.e x11), .emp, .emp, .emp, .emp, .emp] _ _ _ from (st_mul (by exact (se_emO (sl_mLo (sc_cons (sv_xv (x := x3) rfl) fun x16 => (sc_cons (sv_xv (x := x9) rfl) fun x17 => (sc_cons (sv_xv (x := x10) rfl) fun x18 => (sc_nil (s_product x16 x17 x18)))))) fun both => by exact (se_emV (by exact (se_lift (sv_xl (sl_mLo (sc_cons (sv_xv (x := x9) rfl) fun x19 => (sc_nil (bt_list x19))))) fun x20 => by exact (se_emN (andI ⟨rfl, rfl⟩ (show ST [.par (List.map Enc.e r3.2), .val (Enc.e r.1), .val (Enc.e kept), .emp, .emp, .emp, .emp, .val (Enc.e x3), .val (Enc.e r3.1), .val (Enc.e x9), .val (Enc.e x10), .val (Enc.e x11), .own (List.map Enc.e both), .val (Enc.e x20), .emp, .emp, .emp] _ _ _ from (st_bind (fun (s2 : (List Int)) ev_ => ∃ j : PJ, ev_ = [.par (List.map Enc.e r3.2), .val (Enc.e r.1), .val (Enc.e kept), j.s, .emp, .emp, .emp, .val (Enc.e x3), .val (Enc.e r3.1), .val (Enc.e x9), .val (Enc.e x10), .val (Enc.e x11), .own (List.map Enc.e both), .val (Enc.e s2), .emp, .emp, .emp]) (by exact (st_for (by exact (se_liftL (si_seq (sv_m2 op_ix (sv_xv (x := r3.1) rfl) (sv_c (x := (1 : Int)) rfl))) fun xs2 => by exact (k_forA (fun (s2 : (List Int)) ev_ => ∃ j : PJ, ev_ = [.par (List.map Enc.e r3.2), .val (Enc.e r.1), .val (Enc.e kept), j.s, .emp, .emp, .emp, .val (Enc.e x3), .val (Enc.e r3.1), .val (Enc.e x9), .val (Enc.e x10), .val (Enc.e x11), .own (List.map Enc.e both), .val (Enc.e s2), .emp, .emp, .emp]) (fun step s2 _ hI_ => by obtain ⟨j, rfl⟩ := hI_; exact ⟨_, rfl, (show ST [.par (List.map Enc.e r3.2), .val (Enc.e r.1), .val (Enc.e kept), .val (Enc.e step), .emp, .emp, .emp, .val (Enc.e x3), .val (Enc.e r3.1), .val (Enc.e x9), .val (Enc.e x10), .val (Enc.e x11), .own (List.map Enc.e both), .val (Enc.e s2), .emp, .emp, .emp] _ _ _ from (st_last (st_asg (se_lift (sv_xl (sl_mLo (sc_cons (sv_xv (x := x3) rfl) fun x21 => (sc_cons (sv_xv (x := s2) rfl) fun x22 => (sc_cons (sv_xv (x := step) rfl) fun x23 => (sc_nil (s_stepped x21 x22 x23))))))) fun found => by exact (show ST [.par (List.map Enc.e r3.2), .val (Enc.e r.1), .val (Enc.e kept), .val (Enc.e step), .emp, .emp, .emp, .val (Enc.e x3), .val (Enc.e r3.1), .val (Enc.e x9), .val (Enc.e x10), .val (Enc.e x11), .own (List.map Enc.e both), .val (Enc.e found), .emp, .emp, .emp] _ _ _ from (st_end ⟨rfl, ⟨.v (Enc.e step), rfl⟩⟩))))))⟩) ⟨.e, rfl⟩))))) (fun s2 _ hI_ => by obtain ⟨j, rfl⟩ := hI_; exact (show ST [.par (List.map Enc.e r3.2), .val (Enc.e r.1), .val (Enc.e kept), j.s, .emp, .emp, .emp, .val (Enc.e x3), .val (Enc.e r3.1), .val (Enc.e x9), .val (Enc.e x10), .val (Enc.e x11), .own (List.map Enc.e both), .val (Enc.e s2), .emp, .emp, .emp] _ _ _ from (st_ifr (by exact (se_liftB (sb_or (sb_c2 op_ne (sv_xbo (x := both) rfl) (sv_xv (x := s2) rfl)) (sb_or (sb_c2 op_ne (sv_xbo (x := both) rfl) (sv_xl (sl_mLo (sc_cons (sv_xv (x := r.1) rfl) fun x24 => (sc_cons (sv_xv (x := x9) rfl) fun x25 => (sc_cons (sv_xv (x := x10) rfl) fun x26 => (sc_nil (s__law_product x24 x25 x26)))))))) (sb_c2 op_ne (sv_xl (sl_mKo (sc_nil (sc_cons (sv_xv (x := x10) rfl) fun x27 => (sc_cons (sv_xv (x := x9) rfl) fun x28 => (sc_cons (sv_xv (x := x3) rfl) fun x29 => (sc_nil (fun v h => ⟨rfl, rfl, s_product x29 x28 x27 v h⟩)))))))) (sv_xbo (x := both) rfl)))) fun b7 => by exact (kifr (by exact (show ST [.par (List.map Enc.e r3.2), .val (Enc.e r.1), .val (Enc.e kept), j.s, .emp, .emp, .emp, .val (Enc.e x3), .val (Enc.e r3.1), .val (Enc.e x9), .val (Enc.e x10), .val (Enc.e x11), .own (List.map Enc.e both), .val (Enc.e s2), .emp, .emp, .emp] _ _ _ from (st_ret (sv_c (x := false) rfl) fun a7 v h => by cases h; exact ⟨by simp, ⟨.inl rfl, rfl⟩⟩))) (by exact (show ST [.par (List.map Enc.e r3.2), .val (Enc.e r.1), .val (Enc.e kept), j.s, .emp, .emp, .emp, .val (Enc.e x3), .val (Enc.e r3.1), .val (Enc.e x9), .val (Enc.e x10), .val (Enc.e x11), .own (List.map Enc.e both), .val (Enc.e s2), .emp, .emp, .emp] _ _ _ from (st_snx (show ST [.par (List.map Enc.e r3.2), .val (Enc.e r.1), .val (Enc.e kept), j.s, .emp, .emp, .emp, .val (Enc.e x3), .val (Enc.e r3.1), .val (Enc.e x9), .val (Enc.e x10), .val (Enc.e x11), .own (List.map Enc.e both), .val (Enc.e s2), .emp, .emp, .emp] _ _ _ from (st_ifr (by exact (se_liftB (sb_c2 op_ne (sv_xl (sl_mLo (sc_cons (sv_xv (x := x3) rfl) fun x30 => (sc_cons (sv_xbo (x := both) rfl) fun x31 => (sc_cons (sv_xv (x := x11) rfl) fun x32 => (sc_nil (s_product x30 x31 x32))))))) (sv_xl (sl_mLo (sc_cons (sv_xv (x := x3) rfl) fun x33 => (sc_cons (sv_xv (x := x9) rfl) fun x34 => (sc_cons (sv_xl (sl_mLo (sc_cons (sv_xv (x := x3) rfl) fun x35 => (sc_cons (sv_xv (x := x10) rfl) fun x36 => (sc_cons (sv_xv (x := x11) rfl) fun x37 => (sc_nil (s_product x35 x36 x37))))))) fun x38 => (sc_nil (s_product x33 x34 x38)))))))) fun b9 => by exact (kifr (by exact (show ST [.par (List.map Enc.e r3.2), .val (Enc.e r.1), .val (Enc.e kept), j.s, .emp, .emp, .emp, .val (Enc.e x3), .val (Enc.e r3.1), .val (Enc.e x9), .val (Enc.e x10), .val (Enc.e x11), .own (List.map Enc.e both), .val (Enc.e s2), .emp, .emp, .emp] _ _ _ from (st_ret (sv_c (x := false) rfl) fun a9 v h => by cases h; exact ⟨by simp, ⟨.inl rfl, rfl⟩⟩))) (by exact (show ST [.par (List.map Enc.e r3.2), .val (Enc.e r.1), .val (Enc.e kept), j.s, .emp, .emp, .emp, .val (Enc.e x3), .val (Enc.e r3.1), .val (Enc.e x9), .val (Enc.e x10), .val (Enc.e x11), .own (List.map Enc.e both), .val (Enc.e s2), .emp, .emp, .emp] _ _ _ from (st_snx (show ST [.par (List.map Enc.e r3.2), .val (Enc.e r.1), .val (Enc.e kept), j.s, .emp, .emp, .emp, .val (Enc.e x3), .val (Enc.e r3.1), .val (Enc.e x9), .val (Enc.e x10), .val (Enc.e x11), .own (List.map Enc.e both), .val (Enc.e s2), .emp, .emp, .emp] _ _ _ from (st_ifr (by exact (se_liftB (sb_c2 op_ne (sv_xbo (x := both) rfl) (sv_mL (sc_cons (sv_xv (x := r.1) rfl) fun x39 => (sc_cons (sv_m2 op_catV (sv_m2 op_ix (sv_xv (x := r3.1) rfl) (sv_c (x := (0 : Int)) rfl)) (sv_m2 op_ix (sv_xv (x := r3.1) rfl) (sv_c (x := (1 : Int)) rfl))) fun x40 => (sc_nil (s__law_made x39 x40)))))) fun b14 => by exact (kifr (by exact (show ST [.par (List.map Enc.e r3.2), .val (Enc.e r.1), .val (Enc.e kept), j.s, .emp, .emp, .emp, .val (Enc.e x3), .val (Enc.e r3.1), .val (Enc.e x9), .val (Enc.e x10), .val (Enc.e x11), .own (List.map Enc.e both), .val (Enc.e s2), .emp, .emp, .emp] _ _ _ from (st_ret (sv_c (x := false) rfl) fun a14 v h => by cases h; exact ⟨by simp, ⟨.inl rfl, rfl⟩⟩))) (by exact (show ST [.par (List.map Enc.e r3.2), .val (Enc.e r.1), .val (Enc.e kept), j.s, .emp, .emp, .emp, .val (Enc.e x3), .val (Enc.e r3.1), .val (Enc.e x9), .val (Enc.e x10), .val (Enc.e x11), .own (List.map Enc.e both), .val (Enc.e s2), .emp, .emp, .emp] _ _ _ from (st_snx (show ST [.par (List.map Enc.e r3.2), .val (Enc.e r.1), .val (Enc.e kept), j.s, .emp, .emp, .emp, .val (Enc.e x3), .val (Enc.e r3.1), .val (Enc.e x9), .val (Enc.e x10), .val (Enc.e x11), .own (List.map Enc.e both), .val (Enc.e s2), .emp, .emp, .emp] _ _ _ from (st_bindC (fun (s3 : Unit) ev_ => ∃ j2 : PJ, ∃ j3 : OJ, ev_ = [.par (List.map Enc.e r3.2), .val (Enc.e r.1), .val (Enc.e kept), j.s, j2.s, .emp, .emp, .val (Enc.e x3), .val (Enc.e r3.1), .val (Enc.e x9), .val (Enc.e x10), .val (Enc.e x11), .own (List.map Enc.e both), .val (Enc.e s2), j3.s, .emp, .emp]) (fun r fl ev => RF r fl ev) (by exact (st_for (by exact (se_liftL (si_seq (sv_xl (sl_xlst (sc_cons (sv_xv (x := x9) rfl) fun x41 => (sc_cons (sv_xv (x := x10) rfl) fun x42 => (sc_cons (sv_xv (x := x11) rfl) fun x43 => (sc_nil (fun v h => by cases h; exact ⟨Nat.le_of_ble_eq_true rfl, rfl⟩)))))))) fun xs3 => by exact (k_forCA (fun (s3 : Unit) ev_ => ∃ j2 : PJ, ∃ j3 : OJ, ev_ = [.par (List.map Enc.e r3.2), .val (Enc.e r.1), .val (Enc.e kept), j.s, j2.s, .emp, .emp, .val (Enc.e x3), .val (Enc.e r3.1), .val (Enc.e x9), .val (Enc.e x10), .val (Enc.e x11), .own (List.map Enc.e both), .val (Enc.e s2), j3.s, .emp, .emp]) (fun r fl ev => RF r fl ev) (fun order s3 _ hI_ => by obtain ⟨j2, j3, rfl⟩ := hI_; exact ⟨_, rfl, (show ST [.par (List.map Enc.e r3.2), .val (Enc.e r.1), .val (Enc.e kept), j.s, .val (Enc.e order), .emp, .emp, .val (Enc.e x3), .val (Enc.e r3.1), .val (Enc.e x9), .val (Enc.e x10), .val (Enc.e x11), .own (List.map Enc.e both), .val (Enc.e s2), j3.s, .emp, .emp] _ _ _ from (st_asgO (sl_mLo (sc_cons (sv_xv (x := x3) rfl) fun x44 => (sc_cons (sv_xv (x := order) rfl) fun x45 => (sc_nil (s_opposite x44 x45))))) (Nat.le_of_ble_eq_true rfl) fun back => by exact (show ST [.par (List.map Enc.e r3.2), .val (Enc.e r.1), .val (Enc.e kept), j.s, .val (Enc.e order), .emp, .emp, .val (Enc.e x3), .val (Enc.e r3.1), .val (Enc.e x9), .val (Enc.e x10), .val (Enc.e x11), .own (List.map Enc.e both), .val (Enc.e s2), .own (List.map Enc.e back), .emp, .emp] _ _ _ from (st_ifr (by exact (se_liftB (sb_or (sb_c2 op_ne (sv_xbo (x := back) rfl) (sv_mL (sc_cons (sv_xv (x := r.1) rfl) fun x46 => (sc_cons (sv_xv (x := order) rfl) fun x47 => (sc_nil (s__law_opposite x46 x47)))))) (sb_or (sb_c2 op_ne (sv_xl (sl_mKo (sc_nil (sc_cons (sv_xv (x := order) rfl) fun x48 => (sc_cons (sv_xv (x := x3) rfl) fun x49 => (sc_nil (fun v h => ⟨rfl, rfl, s_opposite x49 x48 v h⟩))))))) (sv_xbo (x := back) rfl)) (sb_c2 op_ne (sv_xl (sl_mLo (sc_cons (sv_xv (x := x3) rfl) fun x50 => (sc_cons (sv_xbo (x := back) rfl) fun x51 => (sc_nil (s_opposite x50 x51)))))) (sv_xv (x := order) rfl)))) fun b20 => by exact (kifr (by exact (show ST [.par (List.map Enc.e r3.2), .val (Enc.e r.1), .val (Enc.e kept), j.s, .val (Enc.e order), .emp, .emp, .val (Enc.e x3), .val (Enc.e r3.1), .val (Enc.e x9), .val (Enc.e x10), .val (Enc.e x11), .own (List.map Enc.e both), .val (Enc.e s2), .own (List.map Enc.e back), .emp, .emp] _ _ _ from (st_ret (sv_c (x := false) rfl) fun a18 v h => by cases h; exact ⟨by simp, ⟨⟨_, rfl⟩, ⟨.inl rfl, rfl⟩⟩⟩))) (by exact (show ST [.par (List.map Enc.e r3.2), .val (Enc.e r.1), .val (Enc.e kept), j.s, .val (Enc.e order), .emp, .emp, .val (Enc.e x3), .val (Enc.e r3.1), .val (Enc.e x9), .val (Enc.e x10), .val (Enc.e x11), .own (List.map Enc.e both), .val (Enc.e s2), .own (List.map Enc.e back), .emp, .emp] _ _ _ from (st_snx (show ST [.par (List.map Enc.e r3.2), .val (Enc.e r.1), .val (Enc.e kept), j.s, .val (Enc.e order), .emp, .emp, .val (Enc.e x3), .val (Enc.e r3.1), .val (Enc.e x9), .val (Enc.e x10), .val (Enc.e x11), .own (List.map Enc.e both), .val (Enc.e s2), .own (List.map Enc.e back), .emp, .emp] _ _ _ from (st_ifr (by exact (se_liftB (sb_or (sb_c2 op_ne (sv_xl (sl_mLo (sc_cons (sv_xv (x := x3) rfl) fun x52 => (sc_cons (sv_xv (x := order) rfl) fun x53 => (sc_cons (sv_xbo (x := back) rfl) fun x54 => (sc_nil (s_product x52 x53 x54))))))) (sv_xl (sl_mMo (fun _ => rfl) (sv_xv (x := x3) rfl) fun k => (sc_nil (s_Kind_start k))))) (sb_c2 op_ne (sv_xl (sl_mLo (sc_cons (sv_xv (x := x3) rfl) fun x55 => (sc_cons (sv_xbo (x := back) rfl) fun x56 => (sc_cons (sv_xv (x := order) rfl) fun x57 => (sc_nil (s_product x55 x56 x57))))))) (sv_xl (sl_mMo (fun _ => rfl) (sv_xv (x := x3) rfl) fun k2 => (sc_nil (s_Kind_start k2)))))) fun b24 => by exact (kifr (by exact (show ST [.par (List.map Enc.e r3.2), .val (Enc.e r.1), .val (Enc.e kept), j.s, .val (Enc.e order), .emp, .emp, .val (Enc.e x3), .val (Enc.e r3.1), .val (Enc.e x9), .val (Enc.e x10), .val (Enc.e x11), .own (List.map Enc.e both), .val (Enc.e s2), .own (List.map Enc.e back), .emp, .emp] _ _ _ from (st_ret (sv_c (x := false) rfl) fun a21 v h => by cases h; exact ⟨by simp, ⟨⟨_, rfl⟩, ⟨.inl rfl, rfl⟩⟩⟩))) (by exact (show ST [.par (List.map Enc.e r3.2), .val (Enc.e r.1), .val (Enc.e kept), j.s, .val (Enc.e order), .emp, .emp, .val (Enc.e x3), .val (Enc.e r3.1), .val (Enc.e x9), .val (Enc.e x10), .val (Enc.e x11), .own (List.map Enc.e both), .val (Enc.e s2), .own (List.map Enc.e back), .emp, .emp] _ _ _ from (st_snx (show ST [.par (List.map Enc.e r3.2), .val (Enc.e r.1), .val (Enc.e kept), j.s, .val (Enc.e order), .emp, .emp, .val (Enc.e x3), .val (Enc.e r3.1), .val (Enc.e x9), .val (Enc.e x10), .val (Enc.e x11), .own (List.map Enc.e both), .val (Enc.e s2), .own (List.map Enc.e back), .emp, .emp] _ _ _ from (st_ifr (by exact (se_liftB (sb_c2 op_ne (sv_mL (sc_cons (sv_xv (x := x3) rfl) fun x58 => (sc_cons (sv_xbo (x := back) rfl) fun x59 => (sc_nil (s_crossings x58 x59))))) (sv_mL (sc_cons (sv_xv (x := x3) rfl) fun x60 => (sc_cons (sv_xv (x := order) rfl) fun x61 => (sc_nil (s_crossings x60 x61)))))) fun b26 => by exact (kifr (by exact (show ST [.par (List.map Enc.e r3.2), .val (Enc.e r.1), .val (Enc.e kept), j.s, .val (Enc.e order), .emp, .emp, .val (Enc.e x3), .val (Enc.e r3.1), .val (Enc.e x9), .val (Enc.e x10), .val (Enc.e x11), .own (List.map Enc.e both), .val (Enc.e s2), .own (List.map Enc.e back), .emp, .emp] _ _ _ from (st_ret (sv_c (x := false) rfl) fun a23 v h => by cases h; exact ⟨by simp, ⟨⟨_, rfl⟩, ⟨.inl rfl, rfl⟩⟩⟩))) (by exact (show ST [.par (List.map Enc.e r3.2), .val (Enc.e r.1), .val (Enc.e kept), j.s, .val (Enc.e order), .emp, .emp, .val (Enc.e x3), .val (Enc.e r3.1), .val (Enc.e x9), .val (Enc.e x10), .val (Enc.e x11), .own (List.map Enc.e both), .val (Enc.e s2), .own (List.map Enc.e back), .emp, .emp] _ _ _ from (st_snx (show ST [.par (List.map Enc.e r3.2), .val (Enc.e r.1), .val (Enc.e kept), j.s, .val (Enc.e order), .emp, .emp, .val (Enc.e x3), .val (Enc.e r3.1), .val (Enc.e x9), .val (Enc.e x10), .val (Enc.e x11), .own (List.map Enc.e both), .val (Enc.e s2), .own (List.map Enc.e back), .emp, .emp] _ _ _ from (st_appN (sl_mLo (sc_cons (sv_xv (x := x3) rfl) fun x62 => (sc_cons (sv_xv (x := order) rfl) fun x63 => (sc_cons (sv_xl (sl_mMo (fun _ => rfl) (sv_xv (x := x3) rfl) fun k3 => (sc_nil (s_Kind_start k3)))) fun x64 => (sc_nil (s_product x62 x63 x64)))))) (sv_c (x := ()) rfl) (show ST [.par (List.map Enc.e r3.2), .val (Enc.e r.1), .val (Enc.e kept), j.s, .val (Enc.e order), .emp, .emp, .val (Enc.e x3), .val (Enc.e r3.1), .val (Enc.e x9), .val (Enc.e x10), .val (Enc.e x11), .own (List.map Enc.e both), .val (Enc.e s2), .own (List.map Enc.e back), .emp, .emp] _ _ _ from (st_appN (sl_mLo (sc_cons (sv_xv (x := x3) rfl) fun x65 => (sc_cons (sv_xl (sl_mMo (fun _ => rfl) (sv_xv (x := x3) rfl) fun k4 => (sc_nil (s_Kind_start k4)))) fun x66 => (sc_cons (sv_xv (x := order) rfl) fun x67 => (sc_nil (s_product x65 x66 x67)))))) (sv_c (x := ()) rfl) (show ST [.par (List.map Enc.e r3.2), .val (Enc.e r.1), .val (Enc.e kept), j.s, .val (Enc.e order), .emp, .emp, .val (Enc.e x3), .val (Enc.e r3.1), .val (Enc.e x9), .val (Enc.e x10), .val (Enc.e x11), .own (List.map Enc.e both), .val (Enc.e s2), .own (List.map Enc.e back), .emp, .emp] _ _ _ from (st_ifr (by exact (se_liftB (sb_or (sb_c2 op_ne (sv_xl (sl_mLo (sc_cons (sv_xv (x := x3) rfl) fun x68 => (sc_cons (sv_xv (x := order) rfl) fun x69 => (sc_cons (sv_xl (sl_mMo (fun _ => rfl) (sv_xv (x := x3) rfl) fun k5 => (sc_nil (s_Kind_start k5)))) fun x70 => (sc_nil (s_product x68 x69 x70))))))) (sv_xv (x := order) rfl)) (sb_c2 op_ne (sv_xl (sl_mLo (sc_cons (sv_xv (x := x3) rfl) fun x71 => (sc_cons (sv_xl (sl_mMo (fun _ => rfl) (sv_xv (x := x3) rfl) fun k6 => (sc_nil (s_Kind_start k6)))) fun x72 => (sc_cons (sv_xv (x := order) rfl) fun x73 => (sc_nil (s_product x71 x72 x73))))))) (sv_xv (x := order) rfl))) fun b30 => by exact (kifr (by exact (show ST [.par (List.map Enc.e r3.2), .val (Enc.e r.1), .val (Enc.e kept), j.s, .val (Enc.e order), .emp, .emp, .val (Enc.e x3), .val (Enc.e r3.1), .val (Enc.e x9), .val (Enc.e x10), .val (Enc.e x11), .own (List.map Enc.e both), .val (Enc.e s2), .own (List.map Enc.e back), .emp, .emp] _ _ _ from (st_ret (sv_c (x := false) rfl) fun a26 v h => by cases h; exact ⟨by simp, ⟨⟨_, rfl⟩, ⟨.inl rfl, rfl⟩⟩⟩))) (by exact (show ST [.par (List.map Enc.e r3.2), .val (Enc.e r.1), .val (Enc.e kept), j.s, .val (Enc.e order), .emp, .emp, .val (Enc.e x3), .val (Enc.e r3.1), .val (Enc.e x9), .val (Enc.e x10), .val (Enc.e x11), .own (List.map Enc.e both), .val (Enc.e s2), .own (List.map Enc.e back), .emp, .emp] _ _ _ from (st_snx (show ST [.par (List.map Enc.e r3.2), .val (Enc.e r.1), .val (Enc.e kept), j.s, .val (Enc.e order), .emp, .emp, .val (Enc.e x3), .val (Enc.e r3.1), .val (Enc.e x9), .val (Enc.e x10), .val (Enc.e x11), .own (List.map Enc.e both), .val (Enc.e s2), .own (List.map Enc.e back), .emp, .emp] _ _ _ from (st_ifr (by exact (se_liftB (sb_c2 op_ne (sv_xl (sl_mLo (sc_cons (sv_xv (x := x3) rfl) fun x74 => (sc_cons (sv_xv (x := order) rfl) fun x75 => (sc_nil (s_heads x74 x75)))))) (sv_xl (sl_mLo (sc_cons (sv_xv (x := x3) rfl) fun x76 => (sc_cons (sv_xbo (x := back) rfl) fun x77 => (sc_nil (s_falls x76 x77))))))) fun b32 => by exact (kifr (by exact (show ST [.par (List.map Enc.e r3.2), .val (Enc.e r.1), .val (Enc.e kept), j.s, .val (Enc.e order), .emp, .emp, .val (Enc.e x3), .val (Enc.e r3.1), .val (Enc.e x9), .val (Enc.e x10), .val (Enc.e x11), .own (List.map Enc.e both), .val (Enc.e s2), .own (List.map Enc.e back), .emp, .emp] _ _ _ from (st_ret (sv_c (x := false) rfl) fun a28 v h => by cases h; exact ⟨by simp, ⟨⟨_, rfl⟩, ⟨.inl rfl, rfl⟩⟩⟩))) (by exact (show ST [.par (List.map Enc.e r3.2), .val (Enc.e r.1), .val (Enc.e kept), j.s, .val (Enc.e order), .emp, .emp, .val (Enc.e x3), .val (Enc.e r3.1), .val (Enc.e x9), .val (Enc.e x10), .val (Enc.e x11), .own (List.map Enc.e both), .val (Enc.e s2), .own (List.map Enc.e back), .emp, .emp] _ _ _ from (st_snx (show ST [.par (List.map Enc.e r3.2), .val (Enc.e r.1), .val (Enc.e kept), j.s, .val (Enc.e order), .emp, .emp, .val (Enc.e x3), .val (Enc.e r3.1), .val (Enc.e x9), .val (Enc.e x10), .val (Enc.e x11), .own (List.map Enc.e both), .val (Enc.e s2), .own (List.map Enc.e back), .emp, .emp] _ _ _ from (st_last (st_appO (xs := back) rfl rfl (sv_c (x := ()) rfl) fun back2 => by exact (show ST [.par (List.map Enc.e r3.2), .val (Enc.e r.1), .val (Enc.e kept), j.s, .val (Enc.e order), .emp, .emp, .val (Enc.e x3), .val (Enc.e r3.1), .val (Enc.e x9), .val (Enc.e x10), .val (Enc.e x11), .own (List.map Enc.e both), .val (Enc.e s2), .own (List.map Enc.e back2), .emp, .emp] _ _ _ from (st_end ⟨.inl rfl, ⟨.v (Enc.e order), .o (List.map Enc.e back2), rfl⟩⟩)))))))))))))))))))))))))))))))))))))))))))))))))))⟩) ⟨.e, .e, rfl⟩))))) (fun s3 _ hI_ => by obtain ⟨j2, j3, rfl⟩ := hI_; exact (show ST [.par (List.map Enc.e r3.2), .val (Enc.e r.1), .val (Enc.e kept), j.s, j2.s, .emp, .emp, .val (Enc.e x3), .val (Enc.e r3.1), .val (Enc.e x9), .val (Enc.e x10), .val (Enc.e x11), .own (List.map Enc.e both), .val (Enc.e s2), j3.s, .emp, .emp] _ _ _ from (st_ifr (by exact (se_liftB (sb_c2 op_ne (sv_xl (sl_mLo (sc_cons (sv_xv (x := x3) rfl) fun x78 => (sc_cons (sv_xbo (x := both) rfl) fun x79 => (sc_nil (s_opposite x78 x79)))))) (sv_xl (sl_mLo (sc_cons (sv_xv (x := x3) rfl) fun x80 => (sc_cons (sv_xl (sl_mLo (sc_cons (sv_xv (x := x3) rfl) fun x81 => (sc_cons (sv_xv (x := x10) rfl) fun x82 => (sc_nil (s_opposite x81 x82)))))) fun x83 => (sc_cons (sv_xl (sl_mLo (sc_cons (sv_xv (x := x3) rfl) fun x84 => (sc_cons (sv_xv (x := x9) rfl) fun x85 => (sc_nil (s_opposite x84 x85)))))) fun x86 => (sc_nil (s_product x80 x83 x86)))))))) fun b34 => by exact (kifr (by exact (show ST [.par (List.map Enc.e r3.2), .val (Enc.e r.1), .val (Enc.e kept), j.s, j2.s, .emp, .emp, .val (Enc.e x3), .val (Enc.e r3.1), .val (Enc.e x9), .val (Enc.e x10), .val (Enc.e x11), .own (List.map Enc.e both), .val (Enc.e s2), j3.s, .emp, .emp] _ _ _ from (st_ret (sv_c (x := false) rfl) fun a30 v h => by cases h; exact ⟨by simp, ⟨.inl rfl, rfl⟩⟩))) (by exact (show ST [.par (List.map Enc.e r3.2), .val (Enc.e r.1), .val (Enc.e kept), j.s, j2.s, .emp, .emp, .val (Enc.e x3), .val (Enc.e r3.1), .val (Enc.e x9), .val (Enc.e x10), .val (Enc.e x11), .own (List.map Enc.e both), .val (Enc.e s2), j3.s, .emp, .emp] _ _ _ from (st_snx (show ST [.par (List.map Enc.e r3.2), .val (Enc.e r.1), .val (Enc.e kept), j.s, j2.s, .emp, .emp, .val (Enc.e x3), .val (Enc.e r3.1), .val (Enc.e x9), .val (Enc.e x10), .val (Enc.e x11), .own (List.map Enc.e both), .val (Enc.e s2), j3.s, .emp, .emp] _ _ _ from (st_asgO (sl_mLo (sc_cons (sv_xv (x := x9) rfl) fun x87 => (sc_nil (bt_list x87)))) (Nat.le_of_ble_eq_true rfl) fun given => by exact (show ST [.par (List.map Enc.e r3.2), .val (Enc.e r.1), .val (Enc.e kept), j.s, j2.s, .own (List.map Enc.e given), .emp, .val (Enc.e x3), .val (Enc.e r3.1), .val (Enc.e x9), .val (Enc.e x10), .val (Enc.e x11), .own (List.map Enc.e both), .val (Enc.e s2), j3.s, .emp, .emp] _ _ _ from (st_ifr (by exact (se_liftB (sb_or (sb_c2 op_ne (sv_xl (sl_mLo (sc_cons (sv_xv (x := x3) rfl) fun x88 => (sc_cons (sv_xbo (x := given) rfl) fun x89 => (sc_cons (sv_xbo (x := given) rfl) fun x90 => (sc_nil (s_product x88 x89 x90))))))) (sv_xl (sl_mLo (sc_cons (sv_xv (x := r.1) rfl) fun x91 => (sc_cons (sv_xv (x := x9) rfl) fun x92 => (sc_cons (sv_xv (x := x9) rfl) fun x93 => (sc_nil (s__law_product x91 x92 x93)))))))) (sb_c2 op_ne (sv_xbo (x := given) rfl) (sv_xv (x := x9) rfl))) fun b38 => by exact (kifr (by exact (show ST [.par (List.map Enc.e r3.2), .val (Enc.e r.1), .val (Enc.e kept), j.s, j2.s, .own (List.map Enc.e given), .emp, .val (Enc.e x3), .val (Enc.e r3.1), .val (Enc.e x9), .val (Enc.e x10), .val (Enc.e x11), .own (List.map Enc.e both), .val (Enc.e s2), j3.s, .emp, .emp] _ _ _ from (st_ret (sv_c (x := false) rfl) fun a33 v h => by cases h; exact ⟨by simp, ⟨.inl rfl, rfl⟩⟩))) (by exact (show ST [.par (List.map Enc.e r3.2), .val (Enc.e r.1), .val (Enc.e kept), j.s, j2.s, .own (List.map Enc.e given), .emp, .val (Enc.e x3), .val (Enc.e r3.1), .val (Enc.e x9), .val (Enc.e x10), .val (Enc.e x11), .own (List.map Enc.e both), .val (Enc.e s2), j3.s, .emp, .emp] _ _ _ from (st_snx (show ST [.par (List.map Enc.e r3.2), .val (Enc.e r.1), .val (Enc.e kept), j.s, j2.s, .own (List.map Enc.e given), .emp, .val (Enc.e x3), .val (Enc.e r3.1), .val (Enc.e x9), .val (Enc.e x10), .val (Enc.e x11), .own (List.map Enc.e both), .val (Enc.e s2), j3.s, .emp, .emp] _ _ _ from (st_put (se_lift (sv_xv (x := x10) rfl) fun x94 => by exact (kAll (xs := given) rfl rfl fun given2 => by exact (show ST [.par (List.map Enc.e r3.2), .val (Enc.e r.1), .val (Enc.e kept), j.s, j2.s, .own (List.map Enc.e given2), .emp, .val (Enc.e x3), .val (Enc.e r3.1), .val (Enc.e x9), .val (Enc.e x10), .val (Enc.e x11), .own (List.map Enc.e both), .val (Enc.e s2), j3.s, .emp, .emp] _ _ _ from (st_ifr (by exact (se_liftB (sb_or (sb_c2 op_ne (sv_xl (sl_mLo (sc_cons (sv_xv (x := x3) rfl) fun x95 => (sc_cons (sv_xbo (x := given2) rfl) fun x96 => (sc_cons (sv_xv (x := x11) rfl) fun x97 => (sc_nil (s_product x95 x96 x97))))))) (sv_xl (sl_mLo (sc_cons (sv_xv (x := r.1) rfl) fun x98 => (sc_cons (sv_xv (x := x10) rfl) fun x99 => (sc_cons (sv_xv (x := x11) rfl) fun x100 => (sc_nil (s__law_product x98 x99 x100)))))))) (sb_c2 op_ne (sv_xl (sl_mLo (sc_cons (sv_xv (x := x3) rfl) fun x101 => (sc_cons (sv_xbo (x := given2) rfl) fun x102 => (sc_nil (s_opposite x101 x102)))))) (sv_mL (sc_cons (sv_xv (x := r.1) rfl) fun x103 => (sc_cons (sv_xv (x := x10) rfl) fun x104 => (sc_nil (s__law_opposite x103 x104))))))) fun b42 => by exact (kifr (by exact (show ST [.par (List.map Enc.e r3.2), .val (Enc.e r.1), .val (Enc.e kept), j.s, j2.s, .own (List.map Enc.e given2), .emp, .val (Enc.e x3), .val (Enc.e r3.1), .val (Enc.e x9), .val (Enc.e x10), .val (Enc.e x11), .own (List.map Enc.e both), .val (Enc.e s2), j3.s, .emp, .emp] _ _ _ from (st_ret (sv_c (x := false) rfl) fun a36 v h => by cases h; exact ⟨by simp, ⟨.inl rfl, rfl⟩⟩))) (by exact (show ST [.par (List.map Enc.e r3.2), .val (Enc.e r.1), .val (Enc.e kept), j.s, j2.s, .own (List.map Enc.e given2), .emp, .val (Enc.e x3), .val (Enc.e r3.1), .val (Enc.e x9), .val (Enc.e x10), .val (Enc.e x11), .own (List.map Enc.e both), .val (Enc.e s2), j3.s, .emp, .emp] _ _ _ from (st_snx (show ST [.par (List.map Enc.e r3.2), .val (Enc.e r.1), .val (Enc.e kept), j.s, j2.s, .own (List.map Enc.e given2), .emp, .val (Enc.e x3), .val (Enc.e r3.1), .val (Enc.e x9), .val (Enc.e x10), .val (Enc.e x11), .own (List.map Enc.e both), .val (Enc.e s2), j3.s, .emp, .emp] _ _ _ from (st_asg (se_lift (sv_m2 op_sub (sv_m2 op_add (sv_mL (sc_cons (sv_xv (x := x3) rfl) fun x105 => (sc_cons (sv_xv (x := x9) rfl) fun x106 => (sc_nil (s_crossings x105 x106))))) (sv_mL (sc_cons (sv_xv (x := x3) rfl) fun x107 => (sc_cons (sv_xv (x := x10) rfl) fun x108 => (sc_nil (s_crossings x107 x108)))))) (sv_tight (sv_mL (sc_cons (sv_xv (x := x3) rfl) fun x109 => (sc_cons (sv_xbo (x := both) rfl) fun x110 => (sc_nil (s_crossings x109 x110))))))) fun lost => by exact (show ST [.par (List.map Enc.e r3.2), .val (Enc.e r.1), .val (Enc.e kept), j.s, j2.s, .own (List.map Enc.e given2), .val (Enc.e lost), .val (Enc.e x3), .val (Enc.e r3.1), .val (Enc.e x9), .val (Enc.e x10), .val (Enc.e x11), .own (List.map Enc.e both), .val (Enc.e s2), j3.s, .emp, .emp] _ _ _ from (st_appO (xs := both) rfl rfl (sv_c (x := ()) rfl) fun both2 => by exact (show ST [.par (List.map Enc.e r3.2), .val (Enc.e r.1), .val (Enc.e kept), j.s, j2.s, .own (List.map Enc.e given2), .val (Enc.e lost), .val (Enc.e x3), .val (Enc.e r3.1), .val (Enc.e x9), .val (Enc.e x10), .val (Enc.e x11), .own (List.map Enc.e both2), .val (Enc.e s2), j3.s, .emp, .emp] _ _ _ from (st_ifr (by exact (se_liftB (sb_c2 op_ne (sv_xl (sl_mLo (sc_cons (sv_xv (x := x3) rfl) fun x111 => (sc_cons (sv_xv (x := x9) rfl) fun x112 => (sc_cons (sv_xv (x := x10) rfl) fun x113 => (sc_nil (s_product x111 x112 x113))))))) (sv_xl (sl_cut (sv_xbo (x := both2) rfl) sp_n (sp_s (sv_m1 op_neg (sv_c (x := (1 : Int)) rfl)))))) fun b46 => by exact (kifr (by exact (show ST [.par (List.map Enc.e r3.2), .val (Enc.e r.1), .val (Enc.e kept), j.s, j2.s, .own (List.map Enc.e given2), .val (Enc.e lost), .val (Enc.e x3), .val (Enc.e r3.1), .val (Enc.e x9), .val (Enc.e x10), .val (Enc.e x11), .own (List.map Enc.e both2), .val (Enc.e s2), j3.s, .emp, .emp] _ _ _ from (st_ret (sv_c (x := false) rfl) fun a42 v h => by cases h; exact ⟨by simp, ⟨.inl rfl, rfl⟩⟩))) (by exact (show ST [.par (List.map Enc.e r3.2), .val (Enc.e r.1), .val (Enc.e kept), j.s, j2.s, .own (List.map Enc.e given2), .val (Enc.e lost), .val (Enc.e x3), .val (Enc.e r3.1), .val (Enc.e x9), .val (Enc.e x10), .val (Enc.e x11), .own (List.map Enc.e both2), .val (Enc.e s2), j3.s, .emp, .emp] _ _ _ from (st_snx (show ST [.par (List.map Enc.e r3.2), .val (Enc.e r.1), .val (Enc.e kept), j.s, j2.s, .own (List.map Enc.e given2), .val (Enc.e lost), .val (Enc.e x3), .val (Enc.e r3.1), .val (Enc.e x9), .val (Enc.e x10), .val (Enc.e x11), .own (List.map Enc.e both2), .val (Enc.e s2), j3.s, .emp, .emp] _ _ _ from (st_ret (sv_xand (sv_vB (sb_c2 op_ge (sv_xv (x := lost) rfl) (sv_c (x := (0 : Int)) rfl))) (sv_xand (sv_vB (sb_c2 op_eq (sv_m2 op_mod (sv_mL (sc_cons (sv_xv (x := lost) rfl) fun x114 => (sc_nil (bt_intI x114)))) (sv_c (x := (2 : Int)) rfl)) (sv_c (x := (0 : Int)) rfl))) (sv_vB (sb_c2 op_eq (sv_mL (sc_cons (sv_xl (sl_xlst (sc_cons (sv_xv (x := x9) rfl) fun x115 => (sc_cons (sv_xv (x := x10) rfl) fun x116 => (sc_cons (sv_xv (x := x11) rfl) fun x117 => (sc_nil (fun v h => by cases h; exact ⟨Nat.le_of_ble_eq_true rfl, rfl⟩))))))) fun x118 => (sc_nil (bt_repr x118)))) (sv_xv (x := kept) rfl))))) fun a47 v h => by cases h; exact ⟨.inl rfl, rfl⟩)))))))))))))))))))))))))))))))))))))))))))))) (fun r fl ev v h _ e => by cases e; exact h)))))))))))))))))))))))))))))))))))))))))))))))))))))))))))))))))))))))))))))))))))))
def t_ahead_of (kind : Kd) (order : (List Int)) (step : Int) : Option (List Int) :=
  (((some kind).bind fun x => (((some kind).bind fun x2 => (((some kind).bind fun k => t_Kind_start k).bind fun x3 => ((some step).bind fun x4 => t_by_step x2 x3 x4))).bind fun x5 => ((some order).bind fun x6 => t_product_of x x5 x6))).bind fun a => some a)
theorem s_ahead_of (kind : Kd) (order : (List Int)) (step : Int) : ∀ v, t_ahead_of kind order step = some v → m_ahead_of [Enc.e kind, Enc.e order, Enc.e step] = some (List.map Enc.e v) := by
  unfold t_ahead_of
  unfold m_ahead_of mb_ahead_of
  exact o_def rfl (show ST [.val (Enc.e kind), .val (Enc.e order), .val (Enc.e step)] _ _ _ from (st_retO (sl_mLo (sc_cons (sv_xv (x := kind) rfl) fun x => (sc_cons (sv_xl (sl_mLo (sc_cons (sv_xv (x := kind) rfl) fun x2 => (sc_cons (sv_xl (sl_mMo (fun _ => rfl) (sv_xv (x := kind) rfl) fun k => (sc_nil (s_Kind_start k)))) fun x3 => (sc_cons (sv_xv (x := step) rfl) fun x4 => (sc_nil (s_by_step x2 x3 x4))))))) fun x5 => (sc_cons (sv_xv (x := order) rfl) fun x6 => (sc_nil (s_product_of x x5 x6)))))) fun a v h => by cases h; exact rfl))
def t_stepped_ahead (kind : Kd) (order : (List Int)) (step : Int) : Option (List Int) :=
  (((some kind).bind fun x => ((((some order).bind fun x2 => some [x2]) : Option (List (List Int))).bind fun x3 => t_check_orders x x3)).bind fun _ => (((some kind).bind fun x4 => ((some step).bind fun x5 => t_check_step x4 x5)).bind fun _ => (((some kind).bind fun x6 => ((some order).bind fun x7 => ((some step).bind fun x8 => t_ahead_of x6 x7 x8))).bind fun a => some a)))
theorem s_stepped_ahead (kind : Kd) (order : (List Int)) (step : Int) : ∀ v, t_stepped_ahead kind order step = some v → m_stepped_ahead [Enc.e kind, Enc.e order, Enc.e step] = some (List.map Enc.e v) := by
  unfold t_stepped_ahead
  unfold m_stepped_ahead mb_stepped_ahead
  exact o_def rfl (show ST [.val (Enc.e kind), .val (Enc.e order), .val (Enc.e step)] _ _ _ from (st_drop (se_lift (sv_mL (sc_cons (sv_xv (x := kind) rfl) fun x => (sc_cons (sv_xl (sl_xlst (sc_cons (sv_xv (x := order) rfl) fun x2 => (sc_nil (fun v h => by cases h; exact ⟨Nat.le_of_ble_eq_true rfl, rfl⟩))))) fun x3 => (sc_nil (s_check_orders x x3))))) fun _ => by exact (show ST [.val (Enc.e kind), .val (Enc.e order), .val (Enc.e step)] _ _ _ from (st_drop (se_lift (sv_mL (sc_cons (sv_xv (x := kind) rfl) fun x4 => (sc_cons (sv_xv (x := step) rfl) fun x5 => (sc_nil (s_check_step x4 x5))))) fun _ => by exact (show ST [.val (Enc.e kind), .val (Enc.e order), .val (Enc.e step)] _ _ _ from (st_retO (sl_mLo (sc_cons (sv_xv (x := kind) rfl) fun x6 => (sc_cons (sv_xv (x := order) rfl) fun x7 => (sc_cons (sv_xv (x := step) rfl) fun x8 => (sc_nil (s_ahead_of x6 x7 x8)))))) fun a v h => by cases h; exact rfl))))))))
def t_law (script : Scr) : Option Bool :=
  ((((some (3 : Int)).bind fun n => trg 0 n).bind fun xs => (forC (fun index (s : Unit) => (((((some script).bind fun x => ((some index).bind fun x2 => t__law_generator x x2)).bind fun g => (t__law_right g).bind fun r => some r.1).bind fun b => some (!b)).bind fun b2 => (if b2 = true then ((some false).bind fun a => some (.ret a)) else (some (.nx ()))))) xs ())).bind (Ctl.cont some fun s => (((((some ("mirror" : Str)).bind fun x3 => ((some (2 : Int)).bind fun x4 => t_Kind___init__ x3 x4)).bind fun x5 => (((some ("ring" : Str)).bind fun x6 => ((some (3 : Int)).bind fun x7 => t_Kind___init__ x6 x7)).bind fun x8 => (((some ("ring" : Str)).bind fun x9 => ((some (2 : Int)).bind fun x10 => t_Kind___init__ x9 x10)).bind fun x11 => (((((some (60 : Int)).bind fun a2 => some (-a2)).bind fun x12 => ((some (61 : Int)).bind fun x13 => some [x12, x13])) : Option (List Int)).bind fun x14 => some ⟨x5, x8, x11, x14⟩)))) : Option (T4 Kd Kd Kd (List Int))).bind fun x15 => (((((some x15.c).bind fun x16 => ((some x15.d).bind fun x17 => t_opposite x16 x17)).bind fun a4 => (((some (60 : Int)).bind fun x18 => (((some (59 : Int)).bind fun a3 => some (-a3)).bind fun x19 => some [x18, x19])) : Option (List Int)).bind fun b3 => tne a4 b3).bind fun b5 => if b5 = true then some true else ((some x15.d).bind fun a6 => ((((some (60 : Int)).bind fun a5 => some (-a5)).bind fun x20 => ((some (61 : Int)).bind fun x21 => some [x20, x21])) : Option (List Int)).bind fun b4 => tne a6 b4)).bind fun b6 => (if b6 = true then ((some false).bind fun a7 => some a7) else (((((some x15.c).bind fun x22 => ((some x15.d).bind fun x23 => ((some x15.d).bind fun x24 => t_product x22 x23 x24))).bind fun a9 => ((((some (120 : Int)).bind fun a8 => some (-a8)).bind fun x25 => ((some (121 : Int)).bind fun x26 => some [x25, x26])) : Option (List Int)).bind fun b7 => tne a9 b7).bind fun b11 => if b11 = true then some true else ((((some x15.c).bind fun x27 => ((some x15.d).bind fun x28 => ((some (0 : Int)).bind fun x29 => t_stepped x27 x28 x29))).bind fun a11 => (((some (61 : Int)).bind fun x30 => (((some (60 : Int)).bind fun a10 => some (-a10)).bind fun x31 => some [x30, x31])) : Option (List Int)).bind fun b8 => tne a11 b8).bind fun b10 => if b10 = true then some true else (((some x15.c).bind fun x32 => ((some x15.d).bind fun x33 => ((some (1 : Int)).bind fun x34 => t_stepped_ahead x32 x33 x34))).bind fun a13 => ((((some (61 : Int)).bind fun a12 => some (-a12)).bind fun x35 => ((some (62 : Int)).bind fun x36 => some [x35, x36])) : Option (List Int)).bind fun b9 => tne a13 b9))).bind fun b12 => (if b12 = true then ((some false).bind fun a14 => some a14) else (((((some x15.a).bind fun x37 => (((((some (2 : Int)).bind fun a15 => some (-a15)).bind fun x38 => ((some (1 : Int)).bind fun x39 => some [x38, x39])) : Option (List Int)).bind fun x40 => t_opposite x37 x40)).bind fun a17 => (((some (2 : Int)).bind fun x41 => (((some (1 : Int)).bind fun a16 => some (-a16)).bind fun x42 => some [x41, x42])) : Option (List Int)).bind fun b13 => tne a17 b13).bind fun b15 => if b15 = true then some true else (((some x15.a).bind fun x43 => (((((some (2 : Int)).bind fun a18 => some (-a18)).bind fun x44 => ((some (1 : Int)).bind fun x45 => some [x44, x45])) : Option (List Int)).bind fun x46 => (((((some (2 : Int)).bind fun a19 => some (-a19)).bind fun x47 => ((some (1 : Int)).bind fun x48 => some [x47, x48])) : Option (List Int)).bind fun x49 => t_product x43 x46 x49))).bind fun a22 => ((((some (1 : Int)).bind fun a20 => some (-a20)).bind fun x50 => (((some (2 : Int)).bind fun a21 => some (-a21)).bind fun x51 => some [x50, x51])) : Option (List Int)).bind fun b14 => tne a22 b14)).bind fun b16 => (if b16 = true then ((some false).bind fun a23 => some a23) else (((((some x15.b).bind fun x52 => (((((some (1 : Int)).bind fun a24 => some (-a24)).bind fun x53 => ((some (1 : Int)).bind fun x54 => ((some (3 : Int)).bind fun x55 => some [x53, x54, x55]))) : Option (List Int)).bind fun x56 => ((((some (1 : Int)).bind fun x57 => ((some (0 : Int)).bind fun x58 => ((some (2 : Int)).bind fun x59 => some [x57, x58, x59]))) : Option (List Int)).bind fun x60 => t_product x52 x56 x60))).bind fun a26 => (((some (1 : Int)).bind fun x61 => (((some (1 : Int)).bind fun a25 => some (-a25)).bind fun x62 => ((some (3 : Int)).bind fun x63 => some [x61, x62, x63]))) : Option (List Int)).bind fun b17 => teq a26 b17).bind fun b19 => if b19 = true then (((some x15.b).bind fun x64 => ((((some (1 : Int)).bind fun x65 => (((some (1 : Int)).bind fun a27 => some (-a27)).bind fun x66 => ((some (3 : Int)).bind fun x67 => some [x65, x66, x67]))) : Option (List Int)).bind fun x68 => t_opposite x64 x68)).bind fun a29 => ((((some (1 : Int)).bind fun a28 => some (-a28)).bind fun x69 => ((some (0 : Int)).bind fun x70 => ((some (4 : Int)).bind fun x71 => some [x69, x70, x71]))) : Option (List Int)).bind fun b18 => teq a29 b18) else some false).bind fun a30 => some a30))))))))))
theorem s_law (script : Scr) : ∀ v, t_law script = some v → m_law [Enc.e script] = some (Enc.e v) := by
  unfold t_law
  unfold m_law mb_law
  exact p_def rfl (show ST [.val (Enc.e script), .emp, .emp, .emp, .emp, .emp] _ _ _ from (st_bindC (fun (s : Unit) ev_ => ∃ j : PJ, ev_ = [.val (Enc.e script), j.s, .emp, .emp, .emp, .emp]) (fun r fl _ => RP r fl) (by exact (st_for (by exact (se_liftL (si_rg1 (sv_c (x := (3 : Int)) rfl)) fun xs => by exact (k_forCA (fun (s : Unit) ev_ => ∃ j : PJ, ev_ = [.val (Enc.e script), j.s, .emp, .emp, .emp, .emp]) (fun r fl _ => RP r fl) (fun index s _ hI_ => by obtain ⟨j, rfl⟩ := hI_; exact ⟨_, rfl, (show ST [.val (Enc.e script), .val (Enc.e index), .emp, .emp, .emp, .emp] _ _ _ from (st_last (st_ifr (by exact (se_liftB (sb_not (sb_tB (sv_mF (sl_mLo (sc_cons (sv_xv (x := script) rfl) fun x => (sc_cons (sv_xv (x := index) rfl) fun x2 => (sc_nil (s__law_generator x x2))))) fun g => (sc_nil (fun v h => by obtain ⟨r, h1, h2⟩ := bs h; cases h2; exact ⟨_, s__law_right g r h1⟩))))) fun b2 => by exact (kifr (by exact (show ST [.val (Enc.e script), .val (Enc.e index), .emp, .emp, .emp, .emp] _ _ _ from (st_ret (sv_c (x := false) rfl) fun a v h => by cases h; exact ⟨by simp, ⟨⟨_, rfl⟩, rfl⟩⟩))) (by exact (show ST [.val (Enc.e script), .val (Enc.e index), .emp, .emp, .emp, .emp] _ _ _ from (st_snx (show ST [.val (Enc.e script), .val (Enc.e index), .emp, .emp, .emp, .emp] _ _ _ from (st_end ⟨.inl rfl, ⟨.v (Enc.e index), rfl⟩⟩)))))))))))⟩) ⟨.e, rfl⟩))))) (fun s _ hI_ => by obtain ⟨j, rfl⟩ := hI_; exact (show ST [.val (Enc.e script), j.s, .emp, .emp, .emp, .emp] _ _ _ from (st_put (se_lift (sv_xtup (sc_cons (sv_mL (sc_cons (sv_c (x := ("mirror" : Str)) rfl) fun x3 => (sc_cons (sv_c (x := (2 : Int)) rfl) fun x4 => (sc_nil (s_Kind___init__ x3 x4))))) fun x5 => (sc_cons (sv_mL (sc_cons (sv_c (x := ("ring" : Str)) rfl) fun x6 => (sc_cons (sv_c (x := (3 : Int)) rfl) fun x7 => (sc_nil (s_Kind___init__ x6 x7))))) fun x8 => (sc_cons (sv_mL (sc_cons (sv_c (x := ("ring" : Str)) rfl) fun x9 => (sc_cons (sv_c (x := (2 : Int)) rfl) fun x10 => (sc_nil (s_Kind___init__ x9 x10))))) fun x11 => (sc_cons (sv_xl (sl_xlst (sc_cons (sv_m1 op_neg (sv_c (x := (60 : Int)) rfl)) fun x12 => (sc_cons (sv_c (x := (61 : Int)) rfl) fun x13 => (sc_nil (fun v h => by cases h; exact ⟨Nat.le_of_ble_eq_true rfl, rfl⟩)))))) fun x14 => (sc_nil (fun v h => by cases h; exact ⟨Nat.le_of_ble_eq_true rfl, rfl⟩))))))) fun x15 => by exact (kgTA rfl (by exact (kgs1A (by exact (exI rfl (by exact (kgs1A (by exact (exI rfl (by exact (kgs1A (by exact (exI rfl (by exact (kgs1A (by exact (exI rfl (by exact (exI rfl (by exact (show ST [.val (Enc.e script), j.s, .val (Enc.e x15.a), .val (Enc.e x15.b), .val (Enc.e x15.c), .val (Enc.e x15.d)] _ _ _ from (st_ifr (by exact (se_liftB (sb_or (sb_c2 op_ne (sv_xl (sl_mLo (sc_cons (sv_xv (x := x15.c) rfl) fun x16 => (sc_cons (sv_xv (x := x15.d) rfl) fun x17 => (sc_nil (s_opposite x16 x17)))))) (sv_xl (sl_xlst (sc_cons (sv_c (x := (60 : Int)) rfl) fun x18 => (sc_cons (sv_m1 op_neg (sv_c (x := (59 : Int)) rfl)) fun x19 => (sc_nil (fun v h => by cases h; exact ⟨Nat.le_of_ble_eq_true rfl, rfl⟩))))))) (sb_c2 op_ne (sv_xv (x := x15.d) rfl) (sv_xl (sl_xlst (sc_cons (sv_m1 op_neg (sv_c (x := (60 : Int)) rfl)) fun x20 => (sc_cons (sv_c (x := (61 : Int)) rfl) fun x21 => (sc_nil (fun v h => by cases h; exact ⟨Nat.le_of_ble_eq_true rfl, rfl⟩)))))))) fun b6 => by exact (kifr (by exact (show ST [.val (Enc.e script), j.s, .val (Enc.e x15.a), .val (Enc.e x15.b), .val (Enc.e x15.c), .val (Enc.e x15.d)] _ _ _ from (st_ret (sv_c (x := false) rfl) fun a7 v h => by cases h; exact ⟨by simp, rfl⟩))) (by exact (show ST [.val (Enc.e script), j.s, .val (Enc.e x15.a), .val (Enc.e x15.b), .val (Enc.e x15.c), .val (Enc.e x15.d)] _ _ _ from (st_snx (show ST [.val (Enc.e script), j.s, .val (Enc.e x15.a), .val (Enc.e x15.b), .val (Enc.e x15.c), .val (Enc.e x15.d)] _ _ _ from (st_ifr (by exact (se_liftB (sb_or (sb_c2 op_ne (sv_xl (sl_mLo (sc_cons (sv_xv (x := x15.c) rfl) fun x22 => (sc_cons (sv_xv (x := x15.d) rfl) fun x23 => (sc_cons (sv_xv (x := x15.d) rfl) fun x24 => (sc_nil (s_product x22 x23 x24))))))) (sv_xl (sl_xlst (sc_cons (sv_m1 op_neg (sv_c (x := (120 : Int)) rfl)) fun x25 => (sc_cons (sv_c (x := (121 : Int)) rfl) fun x26 => (sc_nil (fun v h => by cases h; exact ⟨Nat.le_of_ble_eq_true rfl, rfl⟩))))))) (sb_or (sb_c2 op_ne (sv_xl (sl_mLo (sc_cons (sv_xv (x := x15.c) rfl) fun x27 => (sc_cons (sv_xv (x := x15.d) rfl) fun x28 => (sc_cons (sv_c (x := (0 : Int)) rfl) fun x29 => (sc_nil (s_stepped x27 x28 x29))))))) (sv_xl (sl_xlst (sc_cons (sv_c (x := (61 : Int)) rfl) fun x30 => (sc_cons (sv_m1 op_neg (sv_c (x := (60 : Int)) rfl)) fun x31 => (sc_nil (fun v h => by cases h; exact ⟨Nat.le_of_ble_eq_true rfl, rfl⟩))))))) (sb_c2 op_ne (sv_xl (sl_mLo (sc_cons (sv_xv (x := x15.c) rfl) fun x32 => (sc_cons (sv_xv (x := x15.d) rfl) fun x33 => (sc_cons (sv_c (x := (1 : Int)) rfl) fun x34 => (sc_nil (s_stepped_ahead x32 x33 x34))))))) (sv_xl (sl_xlst (sc_cons (sv_m1 op_neg (sv_c (x := (61 : Int)) rfl)) fun x35 => (sc_cons (sv_c (x := (62 : Int)) rfl) fun x36 => (sc_nil (fun v h => by cases h; exact ⟨Nat.le_of_ble_eq_true rfl, rfl⟩))))))))) fun b12 => by exact (kifr (by exact (show ST [.val (Enc.e script), j.s, .val (Enc.e x15.a), .val (Enc.e x15.b), .val (Enc.e x15.c), .val (Enc.e x15.d)] _ _ _ from (st_ret (sv_c (x := false) rfl) fun a14 v h => by cases h; exact ⟨by simp, rfl⟩))) (by exact (show ST [.val (Enc.e script), j.s, .val (Enc.e x15.a), .val (Enc.e x15.b), .val (Enc.e x15.c), .val (Enc.e x15.d)] _ _ _ from (st_snx (show ST [.val (Enc.e script), j.s, .val (Enc.e x15.a), .val (Enc.e x15.b), .val (Enc.e x15.c), .val (Enc.e x15.d)] _ _ _ from (st_ifr (by exact (se_liftB (sb_or (sb_c2 op_ne (sv_xl (sl_mLo (sc_cons (sv_xv (x := x15.a) rfl) fun x37 => (sc_cons (sv_xl (sl_xlst (sc_cons (sv_m1 op_neg (sv_c (x := (2 : Int)) rfl)) fun x38 => (sc_cons (sv_c (x := (1 : Int)) rfl) fun x39 => (sc_nil (fun v h => by cases h; exact ⟨Nat.le_of_ble_eq_true rfl, rfl⟩)))))) fun x40 => (sc_nil (s_opposite x37 x40)))))) (sv_xl (sl_xlst (sc_cons (sv_c (x := (2 : Int)) rfl) fun x41 => (sc_cons (sv_m1 op_neg (sv_c (x := (1 : Int)) rfl)) fun x42 => (sc_nil (fun v h => by cases h; exact ⟨Nat.le_of_ble_eq_true rfl, rfl⟩))))))) (sb_c2 op_ne (sv_xl (sl_mLo (sc_cons (sv_xv (x := x15.a) rfl) fun x43 => (sc_cons (sv_xl (sl_xlst (sc_cons (sv_m1 op_neg (sv_c (x := (2 : Int)) rfl)) fun x44 => (sc_cons (sv_c (x := (1 : Int)) rfl) fun x45 => (sc_nil (fun v h => by cases h; exact ⟨Nat.le_of_ble_eq_true rfl, rfl⟩)))))) fun x46 => (sc_cons (sv_xl (sl_xlst (sc_cons (sv_m1 op_neg (sv_c (x := (2 : Int)) rfl)) fun x47 => (sc_cons (sv_c (x := (1 : Int)) rfl) fun x48 => (sc_nil (fun v h => by cases h; exact ⟨Nat.le_of_ble_eq_true rfl, rfl⟩)))))) fun x49 => (sc_nil (s_product x43 x46 x49))))))) (sv_xl (sl_xlst (sc_cons (sv_m1 op_neg (sv_c (x := (1 : Int)) rfl)) fun x50 => (sc_cons (sv_m1 op_neg (sv_c (x := (2 : Int)) rfl)) fun x51 => (sc_nil (fun v h => by cases h; exact ⟨Nat.le_of_ble_eq_true rfl, rfl⟩)))))))) fun b16 => by exact (kifr (by exact (show ST [.val (Enc.e script), j.s, .val (Enc.e x15.a), .val (Enc.e x15.b), .val (Enc.e x15.c), .val (Enc.e x15.d)] _ _ _ from (st_ret (sv_c (x := false) rfl) fun a23 v h => by cases h; exact ⟨by simp, rfl⟩))) (by exact (show ST [.val (Enc.e script), j.s, .val (Enc.e x15.a), .val (Enc.e x15.b), .val (Enc.e x15.c), .val (Enc.e x15.d)] _ _ _ from (st_snx (show ST [.val (Enc.e script), j.s, .val (Enc.e x15.a), .val (Enc.e x15.b), .val (Enc.e x15.c), .val (Enc.e x15.d)] _ _ _ from (st_ret (sv_xand (sv_vB (sb_c2 op_eq (sv_xl (sl_mLo (sc_cons (sv_xv (x := x15.b) rfl) fun x52 => (sc_cons (sv_xl (sl_xlst (sc_cons (sv_m1 op_neg (sv_c (x := (1 : Int)) rfl)) fun x53 => (sc_cons (sv_c (x := (1 : Int)) rfl) fun x54 => (sc_cons (sv_c (x := (3 : Int)) rfl) fun x55 => (sc_nil (fun v h => by cases h; exact ⟨Nat.le_of_ble_eq_true rfl, rfl⟩))))))) fun x56 => (sc_cons (sv_xl (sl_xlst (sc_cons (sv_c (x := (1 : Int)) rfl) fun x57 => (sc_cons (sv_c (x := (0 : Int)) rfl) fun x58 => (sc_cons (sv_c (x := (2 : Int)) rfl) fun x59 => (sc_nil (fun v h => by cases h; exact ⟨Nat.le_of_ble_eq_true rfl, rfl⟩))))))) fun x60 => (sc_nil (s_product x52 x56 x60))))))) (sv_xl (sl_xlst (sc_cons (sv_c (x := (1 : Int)) rfl) fun x61 => (sc_cons (sv_m1 op_neg (sv_c (x := (1 : Int)) rfl)) fun x62 => (sc_cons (sv_c (x := (3 : Int)) rfl) fun x63 => (sc_nil (fun v h => by cases h; exact ⟨Nat.le_of_ble_eq_true rfl, rfl⟩))))))))) (sv_vB (sb_c2 op_eq (sv_xl (sl_mLo (sc_cons (sv_xv (x := x15.b) rfl) fun x64 => (sc_cons (sv_xl (sl_xlst (sc_cons (sv_c (x := (1 : Int)) rfl) fun x65 => (sc_cons (sv_m1 op_neg (sv_c (x := (1 : Int)) rfl)) fun x66 => (sc_cons (sv_c (x := (3 : Int)) rfl) fun x67 => (sc_nil (fun v h => by cases h; exact ⟨Nat.le_of_ble_eq_true rfl, rfl⟩))))))) fun x68 => (sc_nil (s_opposite x64 x68)))))) (sv_xl (sl_xlst (sc_cons (sv_m1 op_neg (sv_c (x := (1 : Int)) rfl)) fun x69 => (sc_cons (sv_c (x := (0 : Int)) rfl) fun x70 => (sc_cons (sv_c (x := (4 : Int)) rfl) fun x71 => (sc_nil (fun v h => by cases h; exact ⟨Nat.le_of_ble_eq_true rfl, rfl⟩)))))))))) fun a30 v h => by cases h; exact rfl)))))))))))))))))))))))))))))))))))))))))))))))))) (fun r fl ev v h _ e => by cases e; exact h)))
end Mi

namespace Mi
open PySem Lay Ty Cx
/-! ### the drawing of numbers -/
theorem hash_s (a b : Int) (hb : b.natAbs < 18446744073709551616) : t__law_hash a b = some (tHash a b) := by
  have h1 : ∀ x : Int, tmul x b = some (x * b) := fun x => tmul_r hb
  have h2 : tmul (27644437 : Int) b = some (27644437 * b) := tmul_r hb
  have h3 : tmul a 1140671 = some (a * 1140671) := tmul_r (by decide)
  have h4 : ∀ x y : Int, tmul (x % 2147483629) y = some (x % 2147483629 * y) := fun x y => tmul_l (mod1 x)
  have h5 : ∀ x : Int, tmul x 48271 = some (x * 48271) := fun x => tmul_r (by decide)
  have h6 : ∀ x : Int, tmod x 2147483629 = some (x % 2147483629) := fun x => tmod_p (by decide)
  have h7 : ∀ x : Int, tmod x 2147483587 = some (x % 2147483587) := fun x => tmod_p (by decide)
  have h8 : ∀ x : Int, tmod x 2147483647 = some (x % 2147483647) := fun x => tmod_p (by decide)
  simp only [t__law_hash, bsm, bid, h1, h3, h4, h5, h6, h7, h8]
  rfl
/-- a generator that has drawn at most N numbers -/
def Gt (N : Int) (g : List Int) : Prop := ∃ a b c : Int, g = [a, b, c] ∧ 0 ≤ a ∧ 0 ≤ c ∧ c ≤ N
theorem Gt.le {N M : Int} {g : List Int} (h : Gt N g) (l : N ≤ M) : Gt M g := by
  obtain ⟨a, b, c, h1, h2, h3, h4⟩ := h
  exact ⟨a, b, c, h1, h2, h3, by omega⟩
theorem random_s {N : Int} (hN : N < 1000000000) {g : List Int} (h : Gt N g) (n : Int) (h1 : 0 < n) (h2 : n < 1000) : ∃ r g', t__law_random g n = some (r, g') ∧ 0 ≤ r ∧ r < n ∧ Gt (N + 1) g' := by
  obtain ⟨a, b, c, rfl, ha, hc, hcN⟩ := h
  have hc' : (c + 1).natAbs < 18446744073709551616 := by omega
  by_cases hp : 0 < a
  · refine ⟨a % n, [a / n, b, c], ?_, Int.emod_nonneg _ (by omega), Int.emod_lt_of_pos _ h1, a / n, b, c, rfl, Int.ediv_nonneg ha (by omega), hc, by omega⟩
    simp only [t__law_random, bsm, bid, tix0, hp, decide_true, if_true, tmod_p h1, tfdiv_p h1 (show n < 1000000000000 by omega), tset0]
  · have hbits : ((Builtin.Int.intBits n : Nat) : Int) / 30 = 0 := by
      unfold Builtin.Int.intBits
      have hl : n.natAbs.log2 < 10 := (Nat.log2_lt (by omega)).2 (by omega)
      have : (n == 0) = false := by simp; omega
      rw [this]
      simp only [Bool.false_eq_true, if_false]
      omega
    refine ⟨(0 * 2147483587 + tHash b (c + 1)) % n, [a, b, c + 1], ?_, Int.emod_nonneg _ (by omega), Int.emod_lt_of_pos _ h1, a, b, c + 1, rfl, ha, by omega, by omega⟩
    have e1 : ∀ x : Int, tfdiv x 30 = some (x / 30) := fun x => tfdiv_p (by decide) (by decide)
    have e2 : trg 0 1 = some [0] := trg_ok (by decide) (by decide) (by decide) (by decide)
    have e3 : ∀ x : Int, tmul x 2147483587 = some (x * 2147483587) := fun x => tmul_r (by decide)
    simp only [t__law_random, bsm, bid, tix0, hp, decide_false, Bool.false_eq_true, if_false, e1, hbits, Int.add_zero, e2, forT, tix1, tix2, tset2, e3, hash_s _ _ hc', tmod_p h1]
theorem cell_s (ns : List Int) (i : Int) (h0 : 0 ≤ i) : ∃ x, t__law_cell ⟨ns⟩ i = some x := by
  by_cases h : i < (ns.length : Int)
  · have hi : i.toNat < ns.length := by omega
    refine ⟨ns[i.toNat], ?_⟩
    have : tix ns i = some ns[i.toNat] := by
      have := tix_nat (xs := ns) (i := i.toNat) (x := ns[i.toNat]) (by simp [hi])
      rwa [Int.toNat_of_nonneg h0] at this
    simp only [t__law_cell, bsm, bid, h, decide_true, if_true, this]
  · refine ⟨(cutG ns none (some 1)).sum % 1000003, ?_⟩
    · simp only [t__law_cell, bsm, bid, h, decide_false, Bool.false_eq_true, if_false, tmod_p (show (0 : Int) < 1000003 by decide)]
theorem q18 : tpow 10 18 = some 1000000000000000000 := rfl
theorem q60 : tpow 10 60 = some 1000000000000000000000000000000000000000000000000000000000000 := rfl
theorem q600 : tpow 1000000000000000000000000000000000000000000000000000000000000 10 = some big := rfl
theorem gen_s (ns : List Int) (i : Int) (h0 : 0 ≤ i) (h3 : i < 1000) : ∃ g, t__law_generator ⟨ns⟩ i = some g ∧ Gt 1000000 g := by
  obtain ⟨x, hx⟩ := cell_s ns i h0
  refine ⟨[(if 0 > x - 1000000000000000000 then 0 else x - 1000000000000000000) % big, x % 2147483647, 1000 * i], ?_, _, _, _, rfl, ?_, ?_, ?_⟩
  · have e1 : ∀ x : Int, tmod x big = some (x % big) := fun x => tmod_p big_pos
    have e2 : ∀ x : Int, tmod x 2147483647 = some (x % 2147483647) := fun x => tmod_p (by decide)
    have e3 : tmul 1000 i = some (1000 * i) := tmul_l (by decide)
    simp only [t__law_generator, bsm, bid, hx, q18, q60, q600, e1, e2, e3]
  · exact Int.emod_nonneg _ (Int.ne_of_gt big_pos)
  · omega
  · omega
/-! ### kinds -/
theorem str_p : PyData.strOk "plain" = true := by decide +kernel
theorem str_m : PyData.strOk "mirror" = true := by decide +kernel
theorem str_r : PyData.strOk "ring" = true := by decide +kernel
@[simp] theorem e_pp : teq ("plain" : Str) ("plain" : Str) = some true := by rw [teq_str str_p str_p]; decide +kernel
@[simp] theorem e_pm : teq ("plain" : Str) ("mirror" : Str) = some false := by rw [teq_str str_p str_m]; decide +kernel
@[simp] theorem e_pr : teq ("plain" : Str) ("ring" : Str) = some false := by rw [teq_str str_p str_r]; decide +kernel
@[simp] theorem e_mp : teq ("mirror" : Str) ("plain" : Str) = some false := by rw [teq_str str_m str_p]; decide +kernel
@[simp] theorem e_mm : teq ("mirror" : Str) ("mirror" : Str) = some true := by rw [teq_str str_m str_m]; decide +kernel
@[simp] theorem e_mr : teq ("mirror" : Str) ("ring" : Str) = some false := by rw [teq_str str_m str_r]; decide +kernel
@[simp] theorem e_rp : teq ("ring" : Str) ("plain" : Str) = some false := by rw [teq_str str_r str_p]; decide +kernel
@[simp] theorem e_rm : teq ("ring" : Str) ("mirror" : Str) = some false := by rw [teq_str str_r str_m]; decide +kernel
@[simp] theorem e_rr : teq ("ring" : Str) ("ring" : Str) = some true := by rw [teq_str str_r str_r]; decide +kernel
theorem e_M {nm : Str} {n : Int} (h : KOk nm n) : teq nm ("mirror" : Str) = some (isM nm) := by
  rcases h with ⟨rfl, _⟩ | ⟨rfl, _⟩ | ⟨rfl, _⟩
  · rw [e_pm, isM_p]
  · rw [e_mm, isM_m]
  · rw [e_rm, isM_r]
theorem e_P {nm : Str} {n : Int} (h : KOk nm n) : teq nm ("plain" : Str) = some (isP nm) := by
  rcases h with ⟨rfl, _⟩ | ⟨rfl, _⟩ | ⟨rfl, _⟩
  · rw [e_pp, isP_p]
  · rw [e_mp, isP_m]
  · rw [e_rp, isP_r]
theorem e_R {nm : Str} {n : Int} (h : KOk nm n) : teq nm ("ring" : Str) = some (!isM nm && !isP nm) := by
  rcases h with ⟨rfl, _⟩ | ⟨rfl, _⟩ | ⟨rfl, _⟩
  · rw [e_pr, isM_p, isP_p]; rfl
  · rw [e_mr, isM_m, isP_m]; rfl
  · rw [e_rr, isM_r, isP_r]; rfl
theorem tne_eq {α β : Type} [Enc α] [Enc β] {a : α} {b : β} {r : Bool} (h : teq a b = some r) : tne a b = some (!r) := by
  unfold teq at h
  unfold tne D.ne
  rw [h]
  rfl
theorem ix_n (nms : List Str) (i : Int) : True := trivial
theorem index0 : tindex ([("plain" : Str), ("mirror" : Str), ("ring" : Str)]) ("plain" : Str) = some 0 := by rfl
theorem index1 : tindex ([("plain" : Str), ("mirror" : Str), ("ring" : Str)]) ("mirror" : Str) = some 1 := by rfl
theorem index2 : tindex ([("plain" : Str), ("mirror" : Str), ("ring" : Str)]) ("ring" : Str) = some 2 := by rfl
theorem kind_s {N : Int} (hN : N + 6 < 1000000000) {g : List Int} (h : Gt N g) : ∃ nm n g', t__law_kind g = some (⟨nm, n⟩, g') ∧ KOk nm n ∧ Gt (N + 6) g' := by
  obtain ⟨r1, g1, e1, a1, b1, G1⟩ := random_s (by omega) h 3 (by decide) (by decide)
  obtain ⟨r2, g2, e2, a2, b2, G2⟩ := random_s (by omega) G1 5 (by decide) (by decide)
  obtain ⟨r3, g3, e3, a3, b3, G3⟩ := random_s (by omega) G2 4 (by decide) (by decide)
  obtain ⟨r4, g4, e4, a4, b4, G4⟩ := random_s (by omega) G3 3 (by decide) (by decide)
  obtain ⟨r5, g5, e5, a5, b5, G5⟩ := random_s (by omega) G4 2 (by decide) (by decide)
  obtain ⟨r6, g6, e6, a6, b6, G6⟩ := random_s (by omega) G5 8 (by decide) (by decide)
  have G6' : Gt (N + 6) g6 := G6.le (by omega)
  rcases (by omega : r1 = 0 ∨ r1 = 1 ∨ r1 = 2) with rfl | rfl | rfl
  · by_cases h6 : r6 = 0
    · exact ⟨"plain", 6 + r5, g6, by simp only [t__law_kind, bsm, bid, e1, e2, e3, e4, e5, e6, tix0, tix1, tix2, teq_int, h6, decide_true, if_true, index0], .inl ⟨rfl, by omega, by omega⟩, G6'⟩
    · exact ⟨"plain", 1 + r2, g6, by simp only [t__law_kind, bsm, bid, e1, e2, e3, e4, e5, e6, tix0, tix1, tix2, teq_int, h6, decide_false, Bool.false_eq_true, if_false, index0], .inl ⟨rfl, by omega, by omega⟩, G6'⟩
  · by_cases h6 : r6 = 0
    · exact ⟨"mirror", 5, g6, by simp only [t__law_kind, bsm, bid, e1, e2, e3, e4, e5, e6, tix0, tix1, tix2, teq_int, h6, decide_true, if_true, index1], .inr (.inl ⟨rfl, by omega, by omega⟩), G6'⟩
    · exact ⟨"mirror", 1 + r3, g6, by simp only [t__law_kind, bsm, bid, e1, e2, e3, e4, e5, e6, tix0, tix1, tix2, teq_int, h6, decide_false, Bool.false_eq_true, if_false, index1], .inr (.inl ⟨rfl, by omega, by omega⟩), G6'⟩
  · by_cases h6 : r6 = 0
    · exact ⟨"ring", 5, g6, by simp only [t__law_kind, bsm, bid, e1, e2, e3, e4, e5, e6, tix0, tix1, tix2, teq_int, h6, decide_true, if_true, index2], .inr (.inr ⟨rfl, by omega, by omega⟩), G6'⟩
    · exact ⟨"ring", 2 + r4, g6, by simp only [t__law_kind, bsm, bid, e1, e2, e3, e4, e5, e6, tix0, tix1, tix2, teq_int, h6, decide_false, Bool.false_eq_true, if_false, index2], .inr (.inr ⟨rfl, by omega, by omega⟩), G6'⟩
theorem many_s {nm : Str} {n : Int} (h : KOk nm n) : t__law_many ⟨nm, n⟩ = some (many nm n) := by
  simp only [t__law_many, bsm, bid, e_P h, many]
  cases isP nm <;> simp
theorem kpos' {nm : Str} {n : Int} (h : KOk nm n) : 1 ≤ n ∧ n ≤ 7 := kpos h
theorem off_le {nm : Str} : 0 ≤ off nm ∧ off nm ≤ 1 := by unfold off; split <;> omega
theorem start_s {nm : Str} {n : Int} (h : KOk nm n) : t__law_start ⟨nm, n⟩ = some (places nm n) := by
  have hk := kpos h
  have ho := off_le (nm := nm)
  simp only [t__law_start, bsm, bid, e_M h]
  have e : (if isM nm = true then (1 : Int) else 0) = off nm := rfl
  rw [e]
  exact tlrg_ok (a := off nm) (b := n + off nm) (by omega) (by omega) (by omega) (by omega)
theorem turned_s {nm : Str} {n s p : Int} (h : KOk nm n) (hs : 0 ≤ s) (hs2 : s < 10) : t__law_turned ⟨nm, n⟩ s p = some (tT nm n s p) := by
  have hk := kpos h
  simp only [t__law_turned, bsm, bid, e_M h, tT]
  cases hm : isM nm with
  | true =>
    simp only [if_true, teq_int, bsm, bid, tin_ints]
    by_cases s0 : s = 0
    · simp only [s0, decide_true, if_true]
      by_cases c : p.natAbs = 1
      · have c' : (p.natAbs : Int) = 1 := by omega
        simp [c]
      · have c' : ¬ (p.natAbs : Int) = 1 := by omega
        simp only [c', c, decide_false, Bool.false_eq_true, if_false, bsm, bid]
    · simp only [s0, decide_false, Bool.false_eq_true, if_false, List.mem_cons, List.not_mem_nil, or_false]
      by_cases c : (p.natAbs : Int) = s ∨ (p.natAbs : Int) = s + 1
      · have m1 : tmul 2 s = some (2 * s) := tmul_l (by decide)
        have m2' : ∀ x : Int, tmul x 1 = some (x * 1) := fun x => tmul_r (by decide)
        have m3 : ∀ x : Int, tmul x (-1) = some (x * -1) := fun x => tmul_r (by decide)
        simp only [c, decide_true, if_true, bsm, bid, m1]
        by_cases hp : 0 < p
        · simp only [hp, decide_true, if_true, bsm, bid, m2']
          congr 1
          omega
        · simp only [hp, decide_false, Bool.false_eq_true, if_false, bsm, bid, m3]
          congr 1
          omega
      · simp only [c, decide_false, Bool.false_eq_true, if_false, bsm, bid]
  | false =>
    simp only [Bool.false_eq_true, if_false, tmod_p (show 0 < n by omega), bsm, bid, teq_int]
    by_cases c0 : (p - s) % n = 0
    · simp only [c0, decide_true, if_true, bsm, bid]
    · simp only [c0, decide_false, Bool.false_eq_true, if_false, bsm, bid]
      by_cases c1 : (p - s) % n = 1
      · simp only [c1, decide_true, if_true, bsm, bid]
      · simp only [c1, decide_false, Bool.false_eq_true, if_false, bsm, bid]
theorem win_tix {nm : Str} {n i : Int} {f : Int → Int} (h0 : 0 ≤ i) (h1 : i < n) : tix (win nm n f) i = some (f (off nm + i)) := by
  have hi : ((i.toNat : Nat) : Int) = i := Int.toNat_of_nonneg h0
  rw [← hi]
  refine tix_nat ?_
  unfold win
  rw [List.getElem?_map, places_get (by omega)]
  rfl
theorem item_s {nm : Str} {n p : Int} {f : Int → Int} (h : KOk nm n) (g : Good nm n f) (hd : dom nm n p) : t__law_item ⟨nm, n⟩ (win nm n f) p = some (f p) := by
  have hk := kpos h
  simp only [t__law_item, bsm, bid, e_M h]
  cases hm : isM nm with
  | true =>
    obtain ⟨d0, d1⟩ := hd hm
    have g' := good_odd g hm
    have ho : off nm = 1 := by unfold off; rw [hm]; rfl
    have e1 : tix (win nm n f) ((p.natAbs : Int) - 1) = some (f (p.natAbs : Int)) := by
      rw [win_tix (by omega) (by omega), ho]
      congr 2
      omega
    simp only [if_true, e1, bsm, bid]
    by_cases hp : 0 < p
    · have : (p.natAbs : Int) = p := by omega
      simp only [hp, decide_true, if_true, bsm, bid, tmul_r (show (1 : Int).natAbs < 18446744073709551616 by decide), this, Int.mul_one]
    · have : (p.natAbs : Int) = -p := by omega
      simp only [hp, decide_false, Bool.false_eq_true, if_false, bsm, bid, tmul_r (show (-1 : Int).natAbs < 18446744073709551616 by decide), this, g']
      congr 1
      omega
  | false =>
    have ho : off nm = 0 := by unfold off; rw [hm]; rfl
    have e1 : tix (win nm n f) (p % n) = some (f (p % n)) := by
      rw [win_tix (Int.emod_nonneg _ (by omega)) (Int.emod_lt_of_pos _ (by omega)), ho, Int.zero_add]
    have e2 := per_mod (good_per g hm) p
    simp only [Bool.false_eq_true, if_false, tmod_p (show 0 < n by omega), bsm, bid, e1, e2]
theorem places_l {nm : Str} {n : Int} (h : KOk nm n) : (places nm n).length ≤ 7 := by
  have h1 := kpos h
  have := places_len (nm := nm) (n := n) (by omega)
  omega
theorem win_l {nm : Str} {n : Int} {f : Int → Int} (h : KOk nm n) : (win nm n f).length ≤ 7 := by
  unfold win
  rw [List.length_map]
  exact places_l h
theorem stepped_s {nm : Str} {n s : Int} {f : Int → Int} (h : KOk nm n) (hs : StepOk nm n s) (g : Good nm n f) : t__law_stepped ⟨nm, n⟩ (win nm n f) s = some (win nm n fun p => f (tT nm n s p)) := by
  obtain ⟨h0, h1, h2, _⟩ := step_small h hs
  simp only [t__law_stepped, bsm, bid, start_s h, turned_s h h0 h1]
  have hl := places_l h
  exact tlc_map (fun p => f (tT nm n s p)) (by omega) fun p hp => item_s h g (tT_dom h hs (places_dom hp))
theorem crossed_s {nm : Str} {n s : Int} {f : Int → Int} (h : KOk nm n) (hs : StepOk nm n s) (g : Good nm n f) : t__law_is_crossed ⟨nm, n⟩ (win nm n f) s = some (crs nm n s f) := by
  obtain ⟨h0, h1, h2, _⟩ := step_small h hs
  have e2 := item_s h g (lowP_dom h hs)
  have e3 := item_s h g (tT_dom h hs (lowP_dom h hs))
  have key : (if (!isM nm) = true then some s else if decide (0 < s) = true then some s else some (-1)) = some (lowP nm s) := by
    unfold lowP
    cases isM nm <;> by_cases h : 0 < s <;> simp [h]
  simp only [t__law_is_crossed, bsm, bid, tne_eq (e_M h), key, turned_s h h0 h1, e2, e3]
  rfl
theorem lfalls_s {nm : Str} {n : Int} {f : Int → Int} (h : KOk nm n) (g : Good nm n f) : t__law_falls ⟨nm, n⟩ (win nm n f) = some (fl nm n f) := by
  have hk := many_pos h
  simp only [t__law_falls, bsm, bid, many_s h]
  rw [trg_ok (by omega) (by omega) (by omega) (by omega)]
  simp only [bsm, bid]
  exact tlc_filter (fun s => crs nm n s f) (by rw [rg_len]; omega) fun s hs => crossed_s h (mem_rg.1 hs) g
theorem lproduct_s {nm : Str} {n : Int} {f g : Int → Int} (h : KOk nm n) (gf : Good nm n f) (hg : ∀ p, dom nm n p → dom nm n (g p)) : t__law_product ⟨nm, n⟩ (win nm n f) (win nm n g) = some (win nm n fun p => f (g p)) := by
  simp only [t__law_product, bsm, bid]
  have hl := win_l (f := g) h
  have := tlc_map (xs := win nm n g) (f := fun x => t__law_item ⟨nm, n⟩ (win nm n f) x) f (by omega) fun x hx => by
    unfold win at hx
    obtain ⟨p, hp, rfl⟩ := List.mem_map.1 hx
    exact item_s h gf (hg p (places_dom hp))
  rw [this]
  unfold win
  rw [List.map_map]
  rfl
end Mi

namespace Ty
theorem tix_mid {α : Type} {l r : List α} {x : α} : tix (l ++ x :: r) (l.length : Int) = some x := tix_nat (by simp)
theorem tix_mid1 {α : Type} {l r : List α} {x y : α} : tix (l ++ x :: y :: r) ((l.length : Int) + 1) = some y := by
  have := tix_nat (xs := l ++ x :: y :: r) (i := l.length + 1) (x := y) (by simp [List.getElem?_append])
  rwa [Int.natCast_add] at this
theorem tset_mid {α : Type} {l r : List α} {x y : α} : tset (l ++ x :: r) (l.length : Int) y = some (l ++ y :: r) := by
  rw [tset_nat (by simp)]
  simp
theorem tset_mid1 {α : Type} {l r : List α} {x y z : α} : tset (l ++ x :: y :: r) ((l.length : Int) + 1) z = some (l ++ x :: z :: r) := by
  have := tset_nat (xs := l ++ x :: y :: r) (i := l.length + 1) (x := z) (by simp)
  rw [Int.natCast_add] at this
  rw [show ((l.length : Int) + 1) = (l.length : Int) + ((1 : Nat) : Int) from rfl, this]
  simp [List.set_append]
end Ty
namespace Mi
open PySem Lay Ty Cx
/-! ### rows and least rows, as the laws make them -/
theorem row_s {nm : Str} {n : Int} (h : KOk nm n) {N : Int} {g : List Int} (G : Gt N g) {m : Int} (h0 : 0 ≤ m) (h1 : m < 900) (hN : N < 900000000) : ∃ (ss : List Int) (g' : List Int), t__law_row g ⟨nm, n⟩ m = some (ss, g') ∧ Row nm n ss ∧ Gt (N + 1000) g' ∧ (ss.length : Int) ≤ m := by
  by_cases hp : many nm n = 0
  · refine ⟨[], g, ?_, fun s hs => by simp at hs, G.le (by omega), by simpa using h0⟩
    simp only [t__law_row, bsm, bid, many_s h, hp, teq_int, decide_true, if_true]
  · have hp' := many_pos h
    obtain ⟨r, g1, e1, a1, b1, G1⟩ := random_s (by omega) G (m + 1) (by omega) (by omega)
    have hl : (rgI 0 r).length = r.toNat := by rw [rg_len]; congr 1; omega
    have step : ∀ x ∈ rgI 0 r, ∀ (j : Nat) (s : List Int), j < (rgI 0 r).length → Gt (N + 1 + j) s → ∃ y s', ((t__law_random s (many nm n)).bind fun r2 => some (r2.1, r2.2)) = some (y, s') ∧ StepOk nm n y ∧ Gt (N + 1 + (j + 1 : Nat)) s' := by
      intro x _ j s hj hs
      rw [hl] at hj
      obtain ⟨r3, g3, e3, a3, b3, G3⟩ := random_s (N := N + 1 + j) (by omega) hs (many nm n) (by omega) (by omega)
      exact ⟨r3, g3, by rw [e3]; rfl, ⟨a3, b3⟩, by rw [Int.natCast_add, ← Int.add_assoc]; exact G3⟩
    obtain ⟨ss, g', e2, p2, l2, G2⟩ := tlcS_inv (fun j g => Gt (N + 1 + j) g) (fun s => StepOk nm n s) (by rw [hl]; omega) step (s := g1) (by simpa using G1)
    rw [hl] at G2 l2
    refine ⟨ss, g', ?_, p2, G2.le (by omega), by omega⟩
    have hr : trg 0 r = some (rgI 0 r) := trg_ok (by omega) (by omega) (by omega) (by omega)
    simp only [t__law_row, bsm, bid, many_s h, hp, teq_int, decide_false, Bool.false_eq_true, if_false, e1, hr]
    rw [e2]
    rfl
theorem made_s {nm : Str} {n : Int} {ss : List Int} (h : KOk nm n) (r : Row nm n ss) : t__law_made ⟨nm, n⟩ ss = some (win nm n (F nm n ss)) := by
  have go : ∀ (ss : List Int) (f : Int → Int), Row nm n ss → Good nm n f → forT (fun step (s : List Int) => t__law_stepped ⟨nm, n⟩ s step) ss (win nm n f) = some (win nm n fun p => f (F nm n ss p)) := by
    intro ss
    induction ss with
    | nil => intro f _ _; rfl
    | cons s ss ih =>
      intro f r g
      unfold forT
      rw [stepped_s h (r s (by simp)) g]
      exact ih (fun p => f (tT nm n s p)) (fun x hx => r x (by simp [hx])) (good_step (r s (by simp)).1 g)
  have e := go ss (fun p => p) r good_id
  rw [win_id] at e
  simp only [t__law_made, bsm, bid, start_s h]
  exact e
theorem least_s {nm : Str} {n : Int} {f : Int → Int} {xs : List Int} (h : KOk nm n) (t : Rm nm n f xs) (r : Row nm n xs) (g : Good nm n f) (hx : xs.length ≤ 100000) : t__law_least ⟨nm, n⟩ (win nm n f) = some xs.reverse := by
  have go : ∀ (xs : List Int) (f : Int → Int) (acc : List Int), Rm nm n f xs → Row nm n xs → Good nm n f → acc.length + xs.length ≤ 100000 → ∃ w, whT (fun (s : (List Int) × (List Int) × (List Int)) => tne s.1 ([] : List Int)) (fun (s : (List Int) × (List Int) × (List Int)) => (tix s.1 ((s.1.length : Int) - 1)).bind fun x6 => (tapp s.2.1 x6).bind fun found2 => ((tix s.1 ((s.1.length : Int) - 1)).bind fun x10 => t__law_stepped ⟨nm, n⟩ s.2.2 x10).bind fun left => (t__law_falls ⟨nm, n⟩ left).bind fun steps2 => some (steps2, found2, left)) (xs.length + 1) (fl nm n f, acc, win nm n f) = some ([], acc ++ xs, w) := by
    intro xs
    induction xs with
    | nil =>
      intro f acc t _ _ _
      cases t with
      | nil hf =>
        refine ⟨win nm n f, ?_⟩
        rw [hf, List.append_nil]
        show (Option.bind (tne ([] : List Int) []) _) = _
        rw [tne_ints]
        rfl
    | cons s xs ih =>
      intro f acc t r g ha
      cases t with
      | cons hf t =>
        next l =>
        have hs := r s (by simp)
        rw [List.length_cons] at ha
        obtain ⟨w, q⟩ := ih (fun p => f (tT nm n s p)) (acc ++ [s]) t (fun x hx => r x (by simp [hx])) (good_step hs.1 g) (by rw [List.length_append]; simp; omega)
        refine ⟨w, ?_⟩
        rw [List.length_cons]
        unfold whT
        have e0 : ((l ++ [s]).length : Int) - 1 = (l.length : Int) := by rw [List.length_append]; simp
        have e1 : tix (l ++ [s]) (l.length : Int) = some s := tix_mid
        have e2 : tapp acc s = some (acc ++ [s]) := if_pos (by omega)
        have e3 : tne (l ++ [s]) ([] : List Int) = some true := by rw [tne_ints]; simp
        simp only [hf, e0, e1, e2, e3, bsm, if_true, stepped_s h hs g, lfalls_s h (good_step hs.1 g)]
        rw [q, List.append_assoc]
        rfl
  obtain ⟨w, q⟩ := go xs f [] t r g (by simpa using hx)
  have q2 := whT_fuel (by omega) q
  simp only [t__law_least, bsm, bid, lfalls_s h g]
  rw [q2]
  simp only [bsm, List.nil_append]
theorem lopp_s {nm : Str} {n : Int} {f : Int → Int} {xs : List Int} (h : KOk nm n) (t : Rm nm n f xs) (r : Row nm n xs) (g : Good nm n f) (hx : xs.length ≤ 100000) : t__law_opposite ⟨nm, n⟩ (win nm n f) = some (win nm n (F nm n xs)) := by
  simp only [t__law_opposite, bsm, bid, least_s h t r g hx, List.reverse_reverse]
  exact made_s h r
end Mi

namespace Mi
open PySem Lay Ty Cx
/-! ### the program's kinds -/
@[simp] theorem tisT_list {α : Type} [Enc α] (a : List α) : tisT "list" a = some true := rfl
@[simp] theorem tisT_int (a : Int) : tisT "int" a = some true := rfl
@[simp] theorem tisT_bool (a : Int) : tisT "bool" a = some false := rfl
@[simp] theorem tisT_str (a : Str) : tisT "str" a = some true := rfl
@[simp] theorem tisC_kd (k : Kd) : tisC "Kind" k = some true := rfl
theorem whole_s (i : Int) : t_is_whole i = some true := rfl
theorem between_s (i lo hi : Int) : t_is_between i lo hi = some (decide (lo ≤ i) && decide (i ≤ hi)) := by
  have e : tisN hi () = some false := rfl
  simp only [t_is_between, bsm, bid, whole_s, if_true, e, Bool.false_eq_true, if_false]
  by_cases h : lo ≤ i <;> simp [h]
theorem number_s {i lo hi : Int} (h : lo ≤ i) (h2 : i ≤ hi) : t_check_number i lo hi = some () := by
  simp only [t_check_number, bsm, bid, between_s, h, h2, decide_true, Bool.and_true, Bool.not_true, Bool.false_eq_true, if_false]
theorem init_s {nm : Str} {n : Int} (h : KOk nm n) : t_Kind___init__ nm n = some ⟨nm, n⟩ := by
  have b1 : tbnd ("plain" : Str) = some false := rfl
  have b2 : tbnd ("mirror" : Str) = some false := rfl
  have b3 : tbnd ("ring" : Str) = some false := rfl
  have p0 : tbix ("plain" : Str) 0 = some 1 := rfl
  have p1 : tbix ("plain" : Str) 1 = some 7 := rfl
  have m0 : tbix ("mirror" : Str) 0 = some 1 := rfl
  have m1 : tbix ("mirror" : Str) 1 = some 5 := rfl
  have r0 : tbix ("ring" : Str) 0 = some 2 := rfl
  have r1 : tbix ("ring" : Str) 1 = some 5 := rfl
  rcases h with ⟨rfl, h1, h2⟩ | ⟨rfl, h1, h2⟩ | ⟨rfl, h1, h2⟩
  · simp only [t_Kind___init__, bsm, bid, tisT_str, Bool.not_true, Bool.false_eq_true, if_false, b1, p0, p1, number_s h1 h2]
  · simp only [t_Kind___init__, bsm, bid, tisT_str, Bool.not_true, Bool.false_eq_true, if_false, b2, m0, m1, number_s h1 h2]
  · simp only [t_Kind___init__, bsm, bid, tisT_str, Bool.not_true, Bool.false_eq_true, if_false, b3, r0, r1, number_s h1 h2]
@[simp] theorem name_s (k : Kd) : t_Kind_name k = some k.nm := rfl
@[simp] theorem size_s (k : Kd) : t_Kind_size k = some k.n := rfl
theorem steps_s {nm : Str} {n : Int} (h : KOk nm n) : t_Kind_steps ⟨nm, n⟩ = some (many nm n) := by
  simp only [t_Kind_steps, bsm, e_P h, many]
  cases isP nm <;> simp
theorem kstart_s {nm : Str} {n : Int} (h : KOk nm n) : t_Kind_start ⟨nm, n⟩ = some (places nm n) := by
  have hk := kpos h
  have ho := off_le (nm := nm)
  simp only [t_Kind_start, bsm, e_M h]
  have e : (if isM nm = true then (1 : Int) else 0) = off nm := rfl
  rw [e, Int.add_comm]
  simp only [bid]
  exact tlrg_ok (a := off nm) (b := n + off nm) (by omega) (by omega) (by omega) (by omega)
@[simp] theorem ckind_s (k : Kd) : t_check_kind k = some () := rfl
theorem cstep_s {nm : Str} {n s : Int} (h : KOk nm n) (hs : StepOk nm n s) : t_check_step ⟨nm, n⟩ s = some () := by
  simp only [t_check_step, bsm, steps_s h]
  rw [number_s hs.1 (by have := hs.2; omega)]
  rfl
/-! ### what an order is -/
theorem sort_s {ws : List Int} {nm : Str} {n : Int} (hp : ws.Perm (places nm n)) : sortI ws = places nm n := sort_perm hp places_le
theorem olist_s {nm : Str} {n : Int} {w : List Int} (h : KOk nm n) (hl : (w.length : Int) = n) (v : Cx.Inv nm n w) : t_is_order_list ⟨nm, n⟩ w = some true := by
  have hk := kpos h
  have hl2 : w.length ≤ 1000000 := by omega
  have e1 : tlc (fun item => (t_is_whole item).bind fun b3 => some (!b3)) (fun item => some item) w = some [] := by
    have := tlc_filter (p := fun item : Int => (t_is_whole item).bind fun b3 => some (!b3)) (fun _ => false) hl2 (fun x _ => rfl)
    rw [this]
    simp
  have hr0 : tlrg 0 n = some (rgI 0 n) := tlrg_ok (by omega) (by omega) (by omega) (by omega)
  have hr1 : tlrg 1 (n + 1) = some (rgI 1 (n + 1)) := tlrg_ok (by omega) (by omega) (by omega) (by omega)
  have pm := v.pm
  have tn : tne n n = some false := by simp
  have tn2 : tne ([] : List Int) ([] : List Int) = some false := by rw [tne_ints]; rfl
  rw [nrm_map] at pm
  simp only [t_is_order_list, bsm, bid, size_s, name_s, tisT_list, Bool.not_true, Bool.false_eq_true, if_false, hl, tn, e1, tn2, e_P h, e_M h]
  cases hm : isM nm with
  | true =>
    have hp : isP nm = false := by
      rcases h with ⟨rfl, _⟩ | ⟨rfl, _⟩ | ⟨rfl, _⟩
      · rw [isM_p] at hm; cases hm
      · exact isP_m
      · exact isP_r
    rw [hm] at pm
    simp only [if_true] at pm
    have e2 : tlc (fun _ => some true) (fun item2 : Int => some (item2.natAbs : Int)) w = some (w.map fun a => ((a.natAbs : Nat) : Int)) := tlc_map _ hl2 fun _ _ => rfl
    have e3 : rgI 1 (n + 1) = places nm n := by unfold places off; rw [hm]; rfl
    simp only [hp, Bool.false_eq_true, if_false, if_true, e2, hr1, bsm, sort_s pm, e3, teq_ints, decide_true]
  | false =>
    rw [hm] at pm
    have e3 : rgI 0 n = places nm n := by unfold places off; rw [hm]; simp
    cases hp : isP nm with
    | true =>
      rw [hp] at pm
      simp only [Bool.false_eq_true, if_false, if_true, List.map_id'] at pm
      simp only [if_true, hr0, bsm, sort_s pm, e3, teq_ints, decide_true]
    | false =>
      have hn := kring h hm hp
      rw [hp] at pm
      simp only [Bool.false_eq_true, if_false] at pm
      have e2 : tlc (fun _ => some true) (fun item3 : Int => tmod item3 n) w = some (w.map fun a => a % n) := tlc_map _ hl2 fun _ _ => tmod_p (by omega)
      have e4 : tmul n (n - 1) = some (n * (n - 1)) := tmul_l (by omega)
      have e5 : ∀ x : Int, tfdiv x 2 = some (x / 2) := fun x => tfdiv_p (by decide) (by decide)
      have s2 : w.sum = n * (n - 1) / 2 := by
        rw [v.sm hm, ← e3]
        rcases (by omega : n = 2 ∨ n = 3 ∨ n = 4 ∨ n = 5) with rfl | rfl | rfl | rfl <;> decide
      simp only [Bool.false_eq_true, if_false, e2, hr0, bsm, sort_s pm, e3, teq_ints, decide_true, if_true, e4, e5, s2, teq_int]
theorem cbet_s {nm : Str} {n a b : Int} (h : KOk nm n) : t_crossings_between ⟨nm, n⟩ n a b = some (cB nm n a b) := by
  have hk := kpos h
  have hd : tfdiv (b - a) n = some ((b - a) / n) := tfdiv_p (by omega) (by omega)
  simp only [t_crossings_between, bsm, bid, name_s, e_R h, e_M h]
  cases hm : isM nm with
  | true =>
    unfold cB
    simp only [hm, Bool.not_true, Bool.false_and, Bool.false_eq_true, if_false, if_true, bsm]
    by_cases c : b < a <;> by_cases d : a + b < 0 <;> simp [c, d]
  | false =>
    unfold cB
    cases hp : isP nm with
    | true =>
      simp only [hm, hp, Bool.not_true, Bool.and_false, Bool.false_eq_true, if_false, if_true, bsm]
      by_cases c : b < a <;> simp [c]
    | false =>
      simp only [hm, hp, Bool.not_false, Bool.and_self, if_true, hd, bsm, Bool.false_eq_true, if_false]
theorem cut_from {α : Type} (l r : List α) (x : α) : cutG (l ++ x :: r) (some ((l.length : Int) + 1)) none = r := by
  unfold cutG
  have e : ((l.length : Int) + 1) = ((l.length + 1 : Nat) : Int) := by omega
  rw [e, HT.sIx_nat, HT.sIx_none, Nat.min_eq_left (by simp), List.take_of_length_le (by simp; omega)]
  rw [show l ++ x :: r = (l ++ [x]) ++ r by simp]
  exact List.drop_left' (by simp)
theorem crossof_s {nm : Str} {n : Int} {w : List Int} (h : KOk nm n) (hl : (w.length : Int) = n) : t_crossings_of ⟨nm, n⟩ w = some (len nm n w) := by
  have inner : ∀ (a : Int) (hs : List Int) (c : Int), forT (fun high (s2 : Int) => (t_crossings_between ⟨nm, n⟩ (w.length : Int) a high).bind fun b2 => some (s2 + b2)) hs c = some (c + (hs.map (cB nm n a)).sum) := by
    intro a hs
    induction hs with
    | nil => intro c; simp [forT]
    | cons b hs ih =>
      intro c
      unfold forT
      rw [hl, cbet_s h]
      simp only [bsm]
      rw [hl] at ih
      rw [ih, List.map_cons, List.sum_cons]
      congr 1
      omega
  have outer : ∀ (rest pre : List Int) (c : Int), w = pre ++ rest → forT (fun (q : T2 Int Int) (s : Int) => (if isM nm = true then some (decide (q.b < 0)) else some false).bind fun x6 => some (s + ((cutG w (some (q.a + 1)) none).map (cB nm n q.b)).sum + (if x6 = true then (1 : Int) else 0))) (tenum pre.length rest) c = some (c + len nm n rest) := by
    intro rest
    induction rest with
    | nil => intro pre c _; simp [forT, tenum, len, pr]
    | cons a rest ih =>
      intro pre c hw
      have ec : cutG w (some ((pre.length : Int) + 1)) none = rest := by rw [hw]; exact cut_from pre rest a
      have ih' := ih (pre ++ [a]) (c + (rest.map (cB nm n a)).sum + (if isM nm = true then neg1 a else 0)) (by rw [hw]; simp)
      rw [List.length_append, List.length_cons, List.length_nil] at ih'
      unfold tenum forT
      simp only [ec]
      have e1 : ((if isM nm = true then some (decide (a < 0)) else some false).bind fun x6 => some (c + (rest.map (cB nm n a)).sum + (if x6 = true then (1 : Int) else 0))) = some (c + (rest.map (cB nm n a)).sum + (if isM nm = true then neg1 a else 0)) := by
        unfold neg1
        cases isM nm <;> by_cases ha : a < 0 <;> simp [ha]
      rw [e1]
      simp only [bsm]
      rw [Nat.zero_add] at ih'
      rw [ih']
      have el : len nm n (a :: rest) = (rest.map (cB nm n a)).sum + (if isM nm = true then neg1 a else 0) + len nm n rest := by
        unfold len
        simp only [pr, List.map_cons, List.sum_cons]
        split <;> omega
      rw [el]
      congr 1
      omega
  have := outer w [] 0 rfl
  simp only [t_crossings_of, bsm, Option.bind_assoc, bid, name_s, e_M h, inner]
  rw [Int.zero_add] at this
  exact this
theorem let_s {nm : Str} {n : Int} {w : List Int} (h : KOk nm n) (hl : (w.length : Int) = n) (v : Cx.Inv nm n w) : t_is_let_order ⟨nm, n⟩ w = some (decide (len nm n w ≤ 60)) := by
  simp only [t_is_let_order, bsm, bid, olist_s h hl v, if_true, crossof_s h hl]
theorem corder_s {nm : Str} {n : Int} {w : List Int} (h : KOk nm n) (hl : (w.length : Int) = n) (v : Cx.Inv nm n w) (l : len nm n w ≤ 60) : t_check_order ⟨nm, n⟩ w = some () := by
  simp only [t_check_order, bsm, bid, let_s h hl v, l, decide_true, Bool.not_true, Bool.false_eq_true, if_false]
theorem corder_x {nm : Str} {n : Int} {f : Int → Int} (h : KOk nm n) (o : Orx nm n f) (l : len nm n (win nm n f) ≤ 60) : t_check_order ⟨nm, n⟩ (win nm n f) = some () := corder_s h (win_len h) o.v l
theorem corders_s {nm : Str} {n : Int} {ws : List (List Int)} (hw : ∀ w ∈ ws, t_check_order ⟨nm, n⟩ w = some ()) : t_check_orders ⟨nm, n⟩ ws = some () := by
  have e : forT (fun order (s : Unit) => (t_check_order ⟨nm, n⟩ order).bind fun _ => some ()) ws () = some () := by
    obtain ⟨s, h1, _⟩ := forT_inv (f := fun order (s : Unit) => (t_check_order ⟨nm, n⟩ order).bind fun _ => some ()) (fun _ => True) (xs := ws) (s := ()) (fun x hx s _ => ⟨(), by rw [hw x hx]; rfl, trivial⟩) trivial
    exact h1
  simp only [t_check_orders, bsm, ckind_s, e]
/-! ### steps, products, opposites of the program -/
theorem pitem_s {nm : Str} {n p : Int} {f : Int → Int} (h : KOk nm n) (g : Good nm n f) (hd : dom nm n p) : t_item_at ⟨nm, n⟩ (win nm n f) p = some (f p) := by
  have e := item_s h g hd
  have hl : ((win nm n f).length : Int) = n := win_len h
  simp only [t__law_item, bsm, bid] at e
  simp only [t_item_at, bsm, bid, name_s, hl]
  exact e
theorem product_of_s {nm : Str} {n : Int} {f g : Int → Int} (h : KOk nm n) (gf : Good nm n f) (hg : ∀ p, dom nm n p → dom nm n (g p)) : t_product_of ⟨nm, n⟩ (win nm n f) (win nm n g) = some (win nm n fun p => f (g p)) := by
  simp only [t_product_of, bsm, bid]
  have hl := win_l (f := g) h
  have := tlc_map (xs := win nm n g) (f := fun x => t_item_at ⟨nm, n⟩ (win nm n f) x) f (by omega) fun x hx => by
    unfold win at hx
    obtain ⟨p, hp, rfl⟩ := List.mem_map.1 hx
    exact pitem_s h gf (hg p (places_dom hp))
  rw [this]
  unfold win
  rw [List.map_map]
  rfl
theorem pcrossed_s {nm : Str} {n s : Int} {f : Int → Int} (h : KOk nm n) (hs : StepOk nm n s) (g : Good nm n f) : t_is_crossed ⟨nm, n⟩ (win nm n f) s = some (crs nm n s f) := by
  obtain ⟨h0, _, h2, h3⟩ := step_small h hs
  have hk := kpos h
  have hl : ((win nm n f).length : Int) = n := win_len h
  simp only [t_is_crossed, bsm, bid, name_s, e_M h, e_R h, hl]
  unfold crs lowP
  cases hm : isM nm with
  | true =>
    have ho : off nm = 1 := by unfold off; rw [hm]; rfl
    simp only [if_true, teq_int, bsm]
    by_cases s0 : s = 0
    · subst s0
      obtain ⟨a1, a2, a3⟩ := tT_mir0 (n := n) hm
      have e1 : tix (win nm n f) 0 = some (f 1) := by rw [win_tix (by omega) (by omega), ho]; rfl
      simp only [decide_true, if_true, e1, bsm]
      rw [if_neg (by omega), a2, good_odd g hm]
      congr 1
      rw [decide_eq_decide]
      omega
    · obtain ⟨a1, a2, a3⟩ := tT_mir (n := n) hm (show 0 < s by omega)
      have e1 : tix (win nm n f) (s - 1) = some (f s) := by
        rw [win_tix (by omega) (by omega), ho]
        congr 2
        omega
      have e2 : tix (win nm n f) s = some (f (s + 1)) := by
        rw [win_tix (by omega) (by omega), ho]
        congr 2
        omega
      simp only [s0, decide_false, Bool.false_eq_true, if_false, e1, e2, bsm]
      rw [if_pos (by omega), a1]
  | false =>
    have ho : off nm = 0 := by unfold off; rw [hm]; rfl
    have hn2 := h3 hm
    have e1 : tix (win nm n f) s = some (f s) := by rw [win_tix (by omega) (by omega), ho, Int.zero_add]
    simp only [Bool.false_eq_true, if_false, Bool.not_false, Bool.true_and, teq_int]
    by_cases hw : s + 1 < n
    · obtain ⟨a1, a2, a3⟩ := tT_in (n := n) hm h0 hw
      have hne : ¬ s = n - 1 := by omega
      have e2 : tix (win nm n f) (s + 1) = some (f (s + 1)) := by rw [win_tix (by omega) (by omega), ho, Int.zero_add]
      cases hp : isP nm <;> simp only [Bool.not_false, Bool.not_true, if_true, Bool.false_eq_true, if_false, hne, decide_false, bsm, e1, e2, a1]
    · have hsn : s = n - 1 := by omega
      have hp : isP nm = false := by
        cases hpp : isP nm with
        | false => rfl
        | true =>
          obtain ⟨_, q⟩ := hs
          unfold many at q
          rw [hpp] at q
          simp at q
          omega
      obtain ⟨a1, a2, a3⟩ := tT_wrap (n := n) hm hn2
      have e3 : tix (win nm n f) 0 = some (f 0) := by rw [win_tix (by omega) (by omega), ho]; rfl
      have g2 : f n = f 0 + n := by
        have := good_per g hm 0
        rw [Int.zero_add] at this
        exact this
      simp only [hp, Bool.not_false, if_true, hsn, decide_true, bsm, e3]
      rw [hsn] at e1
      simp only [e1, bsm, a2, g2]
theorem falls_of_s {nm : Str} {n : Int} {f : Int → Int} (h : KOk nm n) (g : Good nm n f) : t_falls_of ⟨nm, n⟩ (win nm n f) = some (fl nm n f) := by
  have hk := many_pos h
  simp only [t_falls_of, bsm, bid, steps_s h]
  rw [trg_ok (by omega) (by omega) (by omega) (by omega)]
  simp only [bsm]
  exact tlc_filter (fun s => crs nm n s f) (by rw [rg_len]; omega) fun s hs => pcrossed_s h (mem_rg.1 hs) g
end Mi

namespace Mi
open PySem Lay Ty Cx
theorem bystep_s {nm : Str} {n s : Int} {f : Int → Int} (h : KOk nm n) (hs : StepOk nm n s) (g : Good nm n f) : t_by_step ⟨nm, n⟩ (win nm n f) s = some (win nm n fun p => f (tT nm n s p)) := by
  obtain ⟨h0, _, h2, h3⟩ := step_small h hs
  have hk := kpos h
  have hl : ((win nm n f).length : Int) = n := win_len h
  simp only [t_by_step, bsm, Option.bind_assoc, bid, name_s, e_M h, e_R h, hl]
  cases hm : isM nm with
  | true =>
    have ho : off nm = 1 := by unfold off; rw [hm]; rfl
    simp only [if_true, teq_int, bsm]
    by_cases s0 : s = 0
    · subst s0
      obtain ⟨a1, a2, a3⟩ := tT_mir0 (n := n) hm
      have ew : ∀ F : Int → Int, win nm n F = F 1 :: (rgI 2 (n + 1)).map F := fun F => by
        unfold win places
        rw [ho, rg_cons (by omega)]
        rfl
      have em : (rgI 2 (n + 1)).map (fun p => f (tT nm n 0 p)) = (rgI 2 (n + 1)).map f := by
        apply List.map_congr_left
        intro p hp
        rw [a3 p (by have := mem_rg.1 hp; omega)]
      simp only [decide_true, if_true, ew, tix0, tset0, bsm, em, a1, good_odd g hm]
    · obtain ⟨a1, a2, a3⟩ := tT_mir (n := n) hm (show 0 < s by omega)
      have ew : ∀ F : Int → Int, win nm n F = (rgI 1 s).map F ++ F s :: F (s + 1) :: (rgI (s + 2) (n + 1)).map F := fun F => by
        unfold win places
        rw [ho, rg_app (a := 1) (s := s) (b := n + 1) (by omega) (by omega), rg_cons (a := s) (b := n + 1) (by omega), rg_cons (a := s + 1) (b := n + 1) (by omega), show s + 1 + 1 = s + 2 by omega]
        simp
      have e1 : (rgI 1 s).map (fun p => f (tT nm n s p)) = (rgI 1 s).map f := by
        apply List.map_congr_left
        intro p hp
        have := mem_rg.1 hp
        rw [a3 p (by omega) (by omega) (by omega)]
      have e2 : (rgI (s + 2) (n + 1)).map (fun p => f (tT nm n s p)) = (rgI (s + 2) (n + 1)).map f := by
        apply List.map_congr_left
        intro p hp
        have := mem_rg.1 hp
        rw [a3 p (by omega) (by omega) (by omega)]
      have el : s - 1 = (((rgI 1 s).map f).length : Int) := by
        rw [List.length_map, rg_len]
        omega
      simp only [s0, decide_false, Bool.false_eq_true, if_false, Bool.not_true, Bool.false_and, bsm, ew, e1, e2, a1, a2, el, tix_mid, tix_mid1, tset_mid, tset_mid1]
  | false =>
    have ho : off nm = 0 := by unfold off; rw [hm]; rfl
    have hn2 := h3 hm
    simp only [Bool.false_eq_true, if_false, Bool.not_false, Bool.true_and, teq_int, bsm]
    by_cases hw : s + 1 < n
    · obtain ⟨a1, a2, a3⟩ := tT_in (n := n) hm h0 hw
      have hne : ¬ s = n - 1 := by omega
      have ew : ∀ F : Int → Int, win nm n F = (rgI 0 s).map F ++ F s :: F (s + 1) :: (rgI (s + 2) n).map F := fun F => by
        unfold win places
        rw [ho, Int.add_zero, rg_app (a := 0) (s := s) (b := n) (by omega) (by omega), rg_cons (a := s) (b := n) (by omega), rg_cons (a := s + 1) (b := n) (by omega), show s + 1 + 1 = s + 2 by omega]
        simp
      have e1 : (rgI 0 s).map (fun p => f (tT nm n s p)) = (rgI 0 s).map f := by
        apply List.map_congr_left
        intro p hp
        have := mem_rg.1 hp
        rw [a3 p (by omega) (by omega) (by omega) (by omega)]
      have e2 : (rgI (s + 2) n).map (fun p => f (tT nm n s p)) = (rgI (s + 2) n).map f := by
        apply List.map_congr_left
        intro p hp
        have := mem_rg.1 hp
        rw [a3 p (by omega) (by omega) (by omega) (by omega)]
      have el : s - 0 = (((rgI 0 s).map f).length : Int) := by
        rw [List.length_map, rg_len]
        omega
      have ez : (if (!isP nm) = true then some (decide (s = n - 1)) else some false) = some false := by
        cases isP nm <;> simp [hne]
      simp only [ez, bsm, Bool.false_eq_true, if_false, ew, e1, e2, a1, a2, el, tix_mid, tix_mid1, tset_mid, tset_mid1]
    · have hsn : s = n - 1 := by omega
      have hp : isP nm = false := by
        cases hpp : isP nm with
        | false => rfl
        | true =>
          obtain ⟨_, q⟩ := hs
          unfold many at q
          rw [hpp] at q
          simp at q
          omega
      subst hsn
      obtain ⟨a1, a2, a3⟩ := tT_wrap (n := n) hm hn2
      have ew : ∀ F : Int → Int, win nm n F = F 0 :: ((rgI 1 (n - 1)).map F ++ [F (n - 1)]) := fun F => by
        unfold win places
        rw [ho, Int.add_zero, rg_cons (a := 0) (b := n) (by omega), rg_snoc (a := 0 + 1) (b := n) (by omega)]
        simp
      have e1 : (rgI 1 (n - 1)).map (fun p => f (tT nm n (n - 1) p)) = (rgI 1 (n - 1)).map f := by
        apply List.map_congr_left
        intro p hp
        have := mem_rg.1 hp
        rw [a3 p (by omega) (by omega)]
      have g1 : f (0 - 1) = f (n - 1) - n := by
        have := good_per g hm (0 - 1)
        rw [show 0 - 1 + n = n - 1 by omega] at this
        omega
      have g2 : f n = f 0 + n := by
        have := good_per g hm 0
        rw [Int.zero_add] at this
        exact this
      have el : ∀ x : Int, n - 1 = ((x :: (rgI 1 (n - 1)).map f).length : Int) := fun x => by
        rw [List.length_cons, List.length_map, rg_len]
        omega
      have t1 : ∀ x y : Int, tix (x :: ((rgI 1 (n - 1)).map f ++ [y])) (n - 1) = some y := fun x y => by
        have q := tix_mid (l := x :: (rgI 1 (n - 1)).map f) (x := y) (r := [])
        rw [← el x] at q
        exact q
      have t2 : ∀ x y z : Int, tset (x :: ((rgI 1 (n - 1)).map f ++ [y])) (n - 1) z = some (x :: ((rgI 1 (n - 1)).map f ++ [z])) := fun x y z => by
        have q := tset_mid (l := x :: (rgI 1 (n - 1)).map f) (x := y) (r := []) (y := z)
        rw [← el x] at q
        exact q
      simp only [hp, Bool.not_false, if_true, decide_true, bsm, ew, e1, a1, a2, t1, t2, tix0, tset0, g1, g2]
theorem setAll {T : Nat → Int} : ∀ (is : List Nat) (acc : List Int), (∀ j, j < acc.length → acc[j]? = some (T j) ∨ j ∈ is) → is.foldl (fun a i => a.set i (T i)) acc = (List.range acc.length).map T
  | [], acc, h => by
    apply List.ext_getElem?
    intro j
    rcases Nat.lt_or_ge j acc.length with z | z
    · rw [List.foldl_nil, List.getElem?_map, List.getElem?_range z]
      rcases h j z with q | q
      · exact q
      · cases q
    · rw [List.foldl_nil, List.getElem?_eq_none z, List.getElem?_eq_none (by simpa using z)]
  | i :: is, acc, h => by
    rw [List.foldl_cons, setAll is (acc.set i (T i)) ?_, List.length_set]
    intro j hj
    rw [List.length_set] at hj
    rcases h j hj with q | q
    · by_cases e : i = j
      · subst e
        left
        rw [List.getElem?_set_self hj]
      · left
        rw [List.getElem?_set_ne e]
        exact q
    · rcases List.mem_cons.1 q with e | e
      · subst e
        left
        rw [List.getElem?_set_self hj]
      · exact .inr e
/-- where the opposite writes -/
def oix (nm : Str) (n i : Int) : Nat := (if isM nm = true then (i.natAbs : Int) - 1 else i % n).toNat
theorem opp_of_s {nm : Str} {n : Int} {f g : Int → Int} (h : KOk nm n) (gf : Good nm n f) (gg : Good nm n g) (o : Opp nm n f g) : t_opposite_of ⟨nm, n⟩ (win nm n f) = some (win nm n g) := by
  have hk := kpos h
  have hl : ((win nm n f).length : Int) = n := win_len h
  have h1 : trep [(0 : Int)] n = some (List.replicate n.toNat 0) := by
    unfold trep
    rw [if_pos ⟨by omega, by omega, by simp; omega⟩]
    congr 1
    generalize n.toNat = m
    induction m with
    | zero => rfl
    | succ m ih => rw [List.replicate_succ, List.flatten_cons, ih, List.replicate_succ]; rfl
  let T : Nat → Int := fun j => g (off nm + j)
  have step : ∀ q ∈ tenum 0 (win nm n f), ∀ s : List Int, s.length = n.toNat → True := fun _ _ _ _ => trivial
  have mem : ∀ (xs : List Int) (m : Nat) (q : T2 Int Int), q ∈ tenum m xs → ∃ i : Nat, q.a = (m : Int) + i ∧ xs[i]? = some q.b := by
    intro xs
    induction xs with
    | nil => intro m q hq; simp [tenum] at hq
    | cons x xs ih =>
      intro m q hq
      unfold tenum at hq
      rcases List.mem_cons.1 hq with e | e
      · subst e
        exact ⟨0, by simp, rfl⟩
      · obtain ⟨i, a, b⟩ := ih (m + 1) q e
        exact ⟨i + 1, by rw [a]; omega, by simpa using b⟩
  have items : ∀ q ∈ tenum 0 (win nm n f), q.b = f (off nm + q.a) ∧ 0 ≤ q.a ∧ q.a < n := by
    intro q hq
    obtain ⟨i, a, b⟩ := mem _ _ _ hq
    have hi : (i : Int) < n := by
      rcases Nat.lt_or_ge i (win nm n f).length with z | z
      · omega
      · rw [List.getElem?_eq_none z] at b; cases b
    have e := win_tix (nm := nm) (f := f) (show 0 ≤ (i : Int) by omega) hi
    rw [tix_nat b] at e
    have e2 := Option.some.inj e
    refine ⟨by rw [e2, a]; simp, by omega, by omega⟩
  have key : ∀ q ∈ tenum 0 (win nm n f), ((if isM nm = true then (q.b.natAbs : Int) - 1 else q.b % n) = (oix nm n q.b : Int)) ∧ oix nm n q.b < n.toNat ∧ (if isM nm = true then (q.a + 1) * (if 0 < q.b then 1 else -1) else q.a - (q.b - q.b % n)) = T (oix nm n q.b) := by
    intro q hq
    obtain ⟨a, b, c⟩ := items q hq
    unfold oix
    cases hm : isM nm with
    | true =>
      have ho : off nm = 1 := by unfold off; rw [hm]; rfl
      have hd : dom nm n (off nm + q.a) := fun _ => ⟨by omega, by omega⟩
      obtain ⟨d1, d2⟩ := o.fd _ hd hm
      have e := o.gf _ hd
      rw [← a] at d1 d2 e
      simp only [if_true]
      refine ⟨by omega, by omega, ?_⟩
      show _ = g (off nm + _)
      by_cases hp : 0 < q.b
      · rw [if_pos hp, show off nm + (((((q.b.natAbs : Nat) : Int) - 1).toNat : Nat) : Int) = q.b by omega, e]
        omega
      · rw [if_neg hp, show off nm + (((((q.b.natAbs : Nat) : Int) - 1).toNat : Nat) : Int) = -q.b by omega, good_odd gg hm, e]
        omega
    | false =>
      have ho : off nm = 0 := by unfold off; rw [hm]; rfl
      have hd : dom nm n (off nm + q.a) := fun z => by rw [hm] at z; cases z
      have e := o.gf _ hd
      rw [← a] at e
      simp only [Bool.false_eq_true, if_false]
      have m1 := Int.emod_nonneg q.b (show n ≠ 0 by omega)
      have m2 := Int.emod_lt_of_pos q.b (show 0 < n by omega)
      refine ⟨by omega, by omega, ?_⟩
      show _ = g (off nm + _)
      rw [show off nm + (((q.b % n).toNat : Nat) : Int) = q.b % n by omega]
      have := per_mod (good_per gg hm) q.b
      omega
  have fold : ∀ (qs : List (T2 Int Int)) (s : List Int), (∀ q ∈ qs, q ∈ tenum 0 (win nm n f)) → s.length = n.toNat → forT (fun (q : T2 Int Int) (s : List Int) => if isM nm = true then (tmul (q.a + 1) (if 0 < q.b then 1 else -1)).bind fun x3 => tset s ((q.b.natAbs : Int) - 1) x3 else (tmod q.b n).bind fun y => (tmod q.b n).bind fun j4 => tset s j4 (q.a - (q.b - y))) qs s = some ((qs.map fun q => oix nm n q.b).foldl (fun a i => a.set i (T i)) s) := by
    intro qs
    induction qs with
    | nil => intro s _ _; rfl
    | cons q qs ih =>
      intro s hq hs
      obtain ⟨k1, k2, k3⟩ := key q (hq q List.mem_cons_self)
      unfold forT
      have e : (if isM nm = true then (tmul (q.a + 1) (if 0 < q.b then 1 else -1)).bind fun x3 => tset s ((q.b.natAbs : Int) - 1) x3 else (tmod q.b n).bind fun y => (tmod q.b n).bind fun j4 => tset s j4 (q.a - (q.b - y))) = some (s.set (oix nm n q.b) (T (oix nm n q.b))) := by
        rw [← k3]
        cases hm : isM nm with
        | true =>
          rw [hm] at k1
          simp only [if_true] at k1 ⊢
          rw [tmul_r (by split <;> decide), bsm, k1, tset_nat (by omega)]
        | false =>
          rw [hm] at k1
          simp only [Bool.false_eq_true, if_false] at k1 ⊢
          rw [tmod_p (by omega), bsm, bsm, k1, tset_nat (by omega)]
      rw [e]
      simp only [bsm, List.map_cons, List.foldl_cons]
      exact ih _ (fun z hz => hq z (List.mem_cons_of_mem q hz)) (by rw [List.length_set]; exact hs)
  have cover : ∀ j, j < n.toNat → j ∈ (tenum 0 (win nm n f)).map fun q => oix nm n q.b := by
    intro j hj
    have mem2 : ∀ (xs : List Int) (m i : Nat) (x : Int), xs[i]? = some x → (⟨(m : Int) + i, x⟩ : T2 Int Int) ∈ tenum m xs := by
      intro xs
      induction xs with
      | nil => intro m i x hx; simp at hx
      | cons y xs ih =>
        intro m i x hx
        unfold tenum
        cases i with
        | zero => simp at hx; subst hx; simp
        | succ i =>
          refine List.mem_cons_of_mem _ ?_
          have := ih (m + 1) i x (by simpa using hx)
          rw [show ((m + 1 : Nat) : Int) + i = (m : Int) + ((i + 1 : Nat) : Int) by omega] at this
          exact this
    have at_ : ∀ i : Int, 0 ≤ i → i < n → (⟨i, f (off nm + i)⟩ : T2 Int Int) ∈ tenum 0 (win nm n f) := by
      intro i i0 i1
      have e : (win nm n f)[i.toNat]? = some (f (off nm + i)) := by
        unfold win
        rw [List.getElem?_map, places_get (by omega)]
        simp only [Option.map_some]
        congr 2
        omega
      have := mem2 _ 0 i.toNat _ e
      rw [show ((0 : Nat) : Int) + (i.toNat : Int) = i by omega] at this
      exact this
    cases hm : isM nm with
    | true =>
      have ho : off nm = 1 := by unfold off; rw [hm]; rfl
      have hd : dom nm n (1 + (j : Int)) := fun _ => ⟨by omega, by omega⟩
      obtain ⟨d1, d2⟩ := o.gd _ hd hm
      have e := o.fg _ hd
      have m1 := at_ (((g (1 + (j : Int))).natAbs : Int) - 1) (by omega) (by omega)
      refine List.mem_map.2 ⟨_, m1, ?_⟩
      simp only [ho, oix, hm, if_true]
      rcases (by omega : (g (1 + (j : Int))).natAbs = g (1 + (j : Int)) ∨ ((g (1 + (j : Int))).natAbs : Int) = -g (1 + (j : Int))) with z | z
      · rw [show (1 : Int) + (((g (1 + (j : Int))).natAbs : Int) - 1) = g (1 + (j : Int)) by omega, e]
        omega
      · rw [show (1 : Int) + (((g (1 + (j : Int))).natAbs : Int) - 1) = -g (1 + (j : Int)) by omega, good_odd gf hm, e]
        omega
    | false =>
      have ho : off nm = 0 := by unfold off; rw [hm]; rfl
      have hd : dom nm n (j : Int) := fun z => by rw [hm] at z; cases z
      have e := o.fg _ hd
      have m1 := at_ (g (j : Int) % n) (Int.emod_nonneg _ (by omega)) (Int.emod_lt_of_pos _ (by omega))
      refine List.mem_map.2 ⟨_, m1, ?_⟩
      simp only [ho, oix, hm, Bool.false_eq_true, if_false, Int.zero_add]
      have e2 := per_mod (good_per gf hm) (g (j : Int))
      have e3 : f (g (j : Int) % n) = (j : Int) + n * (-(g (j : Int) / n)) := by
        have := Int.emod_add_mul_ediv (g (j : Int)) n
        rw [Int.mul_neg]
        omega
      rw [e3, Int.add_mul_emod_self_left, Int.emod_eq_of_lt (by omega) (by omega)]
      omega
  have fin := fold (tenum 0 (win nm n f)) (List.replicate n.toNat 0) (fun _ z => z) (by simp)
  rw [setAll _ _ (fun j hj => .inr (cover j (by simpa using hj)))] at fin
  have e9 : (List.range (List.replicate n.toNat (0 : Int)).length).map T = win nm n g := by
    rw [List.length_replicate]
    unfold win places rgI
    rw [List.map_map, show (n + off nm - off nm).toNat = n.toNat by omega]
    rfl
  rw [e9] at fin
  have sgn : ∀ x : Int, (if decide (0 < x) = true then some (1 : Int) else some (-1)) = some (if 0 < x then 1 else -1) := fun x => by by_cases z : 0 < x <;> simp [z]
  simp only [t_opposite_of, bsm, Option.bind_assoc, bid, name_s, e_M h, hl, h1, sgn]
  exact fin
end Mi

namespace Cx
open PySem Lay
/-! ### orders by rows: the group -/
section
variable {nm : Str} {n : Int}
/-- the order that a row makes -/
def W (nm : Str) (n : Int) (a : List Int) : List Int := win nm n (F nm n a)
/-- its crossings -/
def Ln (nm : Str) (n : Int) (a : List Int) : Int := len nm n (W nm n a)
theorem Row.app {a b : List Int} (ha : Row nm n a) (hb : Row nm n b) : Row nm n (a ++ b) := fun s hs => (List.mem_append.1 hs).elim (ha s) (hb s)
theorem Row.left {a b : List Int} (h : Row nm n (a ++ b)) : Row nm n a := fun s hs => h s (List.mem_append_left _ hs)
theorem Row.right {a b : List Int} (h : Row nm n (a ++ b)) : Row nm n b := fun s hs => h s (List.mem_append_right _ hs)
theorem Row.cons {s : Int} {a : List Int} (hs : StepOk nm n s) (ha : Row nm n a) : Row nm n (s :: a) := fun x hx => (List.mem_cons.1 hx).elim (fun e => e ▸ hs) (ha x)
theorem Row.head {s : Int} {a : List Int} (h : Row nm n (s :: a)) : StepOk nm n s := h s List.mem_cons_self
theorem Row.tail {s : Int} {a : List Int} (h : Row nm n (s :: a)) : Row nm n a := fun x hx => h x (List.mem_cons_of_mem s hx)
theorem Row.one {s : Int} (h : StepOk nm n s) : Row nm n [s] := .cons h fun x hx => nomatch hx
theorem Row.nil : Row nm n [] := fun x hx => nomatch hx
theorem Row.flat {l : List (List Int)} (h : ∀ a ∈ l, Row nm n a) : Row nm n l.flatten := fun s hs => by
  obtain ⟨a, ha, hs⟩ := List.mem_flatten.1 hs
  exact h a ha s hs
/-- equal orders, equal functions -/
theorem W_iff {a b : List Int} (h : KOk nm n) (ha : Row nm n a) (hb : Row nm n b) : W nm n a = W nm n b ↔ ∀ p, dom nm n p → F nm n a p = F nm n b p := by
  constructor
  · exact fun e => dom_ext h (orx_F h ha).o.g (orx_F h hb).o.g e
  · intro e
    exact win_ext fun p h1 h2 => e p (places_dom (mem_rg.2 ⟨h1, h2⟩))
theorem W_nil : W nm n [] = places nm n := win_id
theorem W_app {a a' b b' : List Int} (h : KOk nm n) (ha : Row nm n a) (ha' : Row nm n a') (hb : Row nm n b) (hb' : Row nm n b') (e1 : W nm n a = W nm n a') (e2 : W nm n b = W nm n b') : W nm n (a ++ b) = W nm n (a' ++ b') := by
  rw [W_iff h ha ha'] at e1
  rw [W_iff h hb hb'] at e2
  rw [W_iff h (ha.app hb) (ha'.app hb')]
  intro p hp
  rw [F_app, F_app, e2 p hp, e1 _ (F_dom h b' hb' hp)]
theorem W_appL {a a' b : List Int} (h : KOk nm n) (ha : Row nm n a) (ha' : Row nm n a') (hb : Row nm n b) (e : W nm n a = W nm n a') : W nm n (a ++ b) = W nm n (a' ++ b) := W_app h ha ha' hb hb e rfl
theorem W_appR {a b b' : List Int} (h : KOk nm n) (ha : Row nm n a) (hb : Row nm n b) (hb' : Row nm n b') (e : W nm n b = W nm n b') : W nm n (a ++ b) = W nm n (a ++ b') := W_app h ha ha hb hb' rfl e
theorem W_rev {a : List Int} (h : KOk nm n) (ha : Row nm n a) : W nm n (a ++ a.reverse) = W nm n [] := by
  rw [W_iff h (ha.app ha.rev) .nil]
  intro p _
  rw [F_app]
  exact F_rev h a ha p
theorem W_rev' {a : List Int} (h : KOk nm n) (ha : Row nm n a) : W nm n (a.reverse ++ a) = W nm n [] := by
  have := W_rev h ha.rev
  rwa [List.reverse_reverse] at this
theorem W_twice {s : Int} (h : KOk nm n) (hs : StepOk nm n s) : W nm n [s, s] = W nm n [] := W_rev h (Row.one hs)
theorem W_opp {a b : List Int} (h : KOk nm n) (ha : Row nm n a) (hb : Row nm n b) (e : W nm n a = W nm n b) : W nm n a.reverse = W nm n b.reverse := by
  rw [W_iff h ha hb] at e
  rw [W_iff h ha.rev hb.rev]
  intro p hp
  have q := e (F nm n b.reverse p) (F_dom h _ hb.rev hp)
  rw [F_rev h b hb] at q
  have q2 := congrArg (F nm n a.reverse) q
  rw [F_rev' h a ha] at q2
  exact q2.symm
theorem W_cancelL {a b c : List Int} (h : KOk nm n) (ha : Row nm n a) (hb : Row nm n b) (hc : Row nm n c) (e : W nm n (a ++ b) = W nm n (a ++ c)) : W nm n b = W nm n c := by
  rw [W_iff h (ha.app hb) (ha.app hc)] at e
  rw [W_iff h hb hc]
  intro p hp
  have q := e p hp
  rw [F_app, F_app] at q
  have q2 := congrArg (F nm n a.reverse) q
  rw [F_rev' h a ha, F_rev' h a ha] at q2
  exact q2
theorem W_cancelR {a b c : List Int} (h : KOk nm n) (ha : Row nm n a) (hb : Row nm n b) (hc : Row nm n c) (e : W nm n (b ++ a) = W nm n (c ++ a)) : W nm n b = W nm n c := by
  have e2 := W_opp h (hb.app ha) (hc.app ha) e
  rw [List.reverse_append, List.reverse_append] at e2
  have e3 := W_cancelL h ha.rev hb.rev hc.rev e2
  have e4 := W_opp h hb.rev hc.rev e3
  rwa [List.reverse_reverse, List.reverse_reverse] at e4
/-! lengths -/
theorem Ln_nn {a : List Int} : 0 ≤ Ln nm n a := len_nonneg
theorem Ln_nil (h : KOk nm n) : Ln nm n [] = 0 := by
  unfold Ln
  rw [W_nil]
  exact len_places h
theorem Ln_eq {a b : List Int} (e : W nm n a = W nm n b) : Ln nm n a = Ln nm n b := by
  unfold Ln
  rw [e]
/-- is the order that a row makes crossed at s? -/
def cr (nm : Str) (n : Int) (a : List Int) (s : Int) : Bool := crs nm n s (F nm n a)
theorem cr_eq {a b : List Int} {s : Int} (h : KOk nm n) (ha : Row nm n a) (hb : Row nm n b) (hs : StepOk nm n s) (e : W nm n a = W nm n b) : cr nm n a s = cr nm n b s := by
  rw [W_iff h ha hb] at e
  unfold cr crs
  have d := lowP_dom h hs
  rw [e _ d, e _ (tT_dom h hs d)]
theorem Ln_step {a : List Int} {s : Int} (h : KOk nm n) (ha : Row nm n a) (hs : StepOk nm n s) : Ln nm n (a ++ [s]) = Ln nm n a + 1 - 2 * b1 (cr nm n a s) := by
  have e := len_step h hs (orx_F h ha).o
  have e2 : (fun p => F nm n a (tT nm n s p)) = F nm n (a ++ [s]) := by
    funext p
    rw [F_app]
    rfl
  rw [e2] at e
  exact e
theorem Ln_up {a : List Int} {s : Int} (h : KOk nm n) (ha : Row nm n a) (hs : StepOk nm n s) (c : cr nm n a s = false) : Ln nm n (a ++ [s]) = Ln nm n a + 1 := by
  rw [Ln_step h ha hs, c]
  simp [b1]
theorem Ln_down {a : List Int} {s : Int} (h : KOk nm n) (ha : Row nm n a) (hs : StepOk nm n s) (c : cr nm n a s = true) : Ln nm n (a ++ [s]) = Ln nm n a - 1 := by
  rw [Ln_step h ha hs, c]
  simp [b1]
  omega
theorem cr_flip {a : List Int} {s : Int} (h : KOk nm n) (ha : Row nm n a) (hs : StepOk nm n s) : cr nm n (a ++ [s]) s = !cr nm n a s := by
  have e1 := Ln_step h ha hs
  have e2 := Ln_step h (ha.app (.one hs)) hs
  have e3 : Ln nm n (a ++ [s] ++ [s]) = Ln nm n a := by
    refine Ln_eq ?_
    rw [List.append_assoc]
    have := W_appR h ha ((Row.one hs).app (.one hs)) .nil (W_twice h hs)
    rwa [List.append_nil] at this
  rw [e3, e1] at e2
  unfold b1 at e2
  cases h1 : cr nm n a s <;> cases h2 : cr nm n (a ++ [s]) s <;> simp [h1, h2] at e2 ⊢ <;> omega
theorem Ln_le {a : List Int} (h : KOk nm n) (ha : Row nm n a) : Ln nm n a ≤ a.length := by
  have := len_row h a ha (f := fun p => p) ord_id
  rw [win_id, len_places h] at this
  have e : len nm n (win nm n fun p => F nm n a p) = Ln nm n a := rfl
  rw [e] at this
  omega
theorem Ln_rev {a : List Int} (h : KOk nm n) (ha : Row nm n a) : Ln nm n a.reverse = Ln nm n a := len_opp h (orx_F h ha) (orx_F h ha.rev) (opp_row h ha)
/-- the falls of what a row makes; its heads -/
def fa (nm : Str) (n : Int) (a : List Int) : List Int := fl nm n (F nm n a)
theorem mem_fa {a : List Int} {s : Int} : s ∈ fa nm n a ↔ StepOk nm n s ∧ cr nm n a s = true := mem_fl
/-- each order has a least row -/
theorem red_ex {a : List Int} (h : KOk nm n) (ha : Row nm n a) : ∃ b, Row nm n b ∧ W nm n b = W nm n a ∧ (b.length : Int) = Ln nm n a := by
  obtain ⟨xs, _, r, l, e⟩ := rm_ex h (orx_F h ha)
  refine ⟨xs.reverse, r.rev, ?_, by rw [List.length_reverse]; exact l⟩
  have e1 : W nm n (a ++ xs) = W nm n [] := by
    rw [W_nil, ← e]
    refine win_ext fun p _ _ => ?_
    rw [F_app]
  have e2 := W_appL h (ha.app r) .nil r.rev e1
  rw [List.append_assoc, List.nil_append] at e2
  have e3 := W_appR h ha (r.app r.rev) .nil (W_rev h r)
  rw [List.append_nil] at e3
  exact e2.symm.trans e3
theorem Ln_zero {a : List Int} (h : KOk nm n) (ha : Row nm n a) (e : Ln nm n a = 0) : W nm n a = W nm n [] := by
  obtain ⟨b, hb, e1, e2⟩ := red_ex h ha
  rw [e] at e2
  have : b = [] := List.length_eq_zero_iff.1 (by omega)
  rw [← e1, this]
theorem Ln_app {a : List Int} (h : KOk nm n) (ha : Row nm n a) : ∀ {b : List Int}, Row nm n b → Ln nm n (a ++ b) ≤ Ln nm n a + b.length ∧ (Ln nm n a + b.length - Ln nm n (a ++ b)) % 2 = 0 := by
  intro b
  induction b generalizing a with
  | nil => intro _; simp
  | cons s b ih =>
    intro hb
    have h1 := Ln_step h ha hb.head
    have h2 := ih (ha.app (.one hb.head)) hb.tail
    rw [List.append_assoc] at h2
    rw [List.length_cons]
    have h3 : b1 (cr nm n a s) = 0 ∨ b1 (cr nm n a s) = 1 := by unfold b1; split <;> simp
    have e : a ++ s :: b = a ++ ([s] ++ b) := rfl
    rw [e]
    omega
theorem Ln_sub {a b : List Int} (h : KOk nm n) (ha : Row nm n a) (hb : Row nm n b) : Ln nm n (a ++ b) ≤ Ln nm n a + Ln nm n b ∧ (Ln nm n a + Ln nm n b - Ln nm n (a ++ b)) % 2 = 0 := by
  obtain ⟨c, hc, e1, e2⟩ := red_ex h hb
  have := Ln_app h ha hc
  rw [Ln_eq (W_appR h ha hc hb e1), e2] at this
  exact this
theorem Ln_par {a : List Int} (h : KOk nm n) (ha : Row nm n a) : ((a.length : Int) - Ln nm n a) % 2 = 0 := by
  have := Ln_app h .nil ha
  rw [Ln_nil h, List.nil_append] at this
  omega
end
end Cx

namespace Mi
open PySem Lay Ty Cx
/-! ### what the defs do, told of rows -/
section
variable {nm : Str} {n : Int} {a b : List Int} {s : Int}
theorem gF (h : KOk nm n) (ha : Row nm n a) : Good nm n (F nm n a) := (orx_F h ha).o.g
theorem W_len (h : KOk nm n) : ((W nm n a).length : Int) = n := win_len h
theorem W_l (h : KOk nm n) : (W nm n a).length ≤ 7 := win_l h
theorem W_snoc : win nm n (fun p => F nm n a (tT nm n s p)) = W nm n (a ++ [s]) := by
  refine win_ext fun p _ _ => ?_
  rw [F_app]
  rfl
theorem W_prod : win nm n (fun p => F nm n a (F nm n b p)) = W nm n (a ++ b) := by
  refine win_ext fun p _ _ => ?_
  rw [F_app]
theorem W_start (h : KOk nm n) : W nm n [] = places nm n := W_nil
/-! of the laws -/
theorem lmade_r (h : KOk nm n) (ha : Row nm n a) : t__law_made ⟨nm, n⟩ a = some (W nm n a) := made_s h ha
theorem lstepped_r (h : KOk nm n) (ha : Row nm n a) (hs : StepOk nm n s) : t__law_stepped ⟨nm, n⟩ (W nm n a) s = some (W nm n (a ++ [s])) := by
  rw [← W_snoc]
  exact stepped_s h hs (gF h ha)
theorem lcrossed_r (h : KOk nm n) (ha : Row nm n a) (hs : StepOk nm n s) : t__law_is_crossed ⟨nm, n⟩ (W nm n a) s = some (cr nm n a s) := crossed_s h hs (gF h ha)
theorem lfalls_r (h : KOk nm n) (ha : Row nm n a) : t__law_falls ⟨nm, n⟩ (W nm n a) = some (fa nm n a) := lfalls_s h (gF h ha)
theorem lproduct_r (h : KOk nm n) (ha : Row nm n a) (hb : Row nm n b) : t__law_product ⟨nm, n⟩ (W nm n a) (W nm n b) = some (W nm n (a ++ b)) := by
  rw [← W_prod]
  exact lproduct_s h (gF h ha) fun p hp => F_dom h b hb hp
theorem lstart_r (h : KOk nm n) : t__law_start ⟨nm, n⟩ = some (W nm n []) := by rw [W_nil]; exact start_s h
theorem lleast_r (h : KOk nm n) (ha : Row nm n a) (hl : Ln nm n a ≤ 100000) : ∃ b, t__law_least ⟨nm, n⟩ (W nm n a) = some b ∧ Row nm n b ∧ W nm n b = W nm n a ∧ (b.length : Int) = Ln nm n a := by
  obtain ⟨xs, t, r, l, e⟩ := rm_ex h (orx_F h ha)
  have l' : (xs.length : Int) = Ln nm n a := l
  refine ⟨xs.reverse, least_s h t r (gF h ha) (by omega), r.rev, ?_, by rw [List.length_reverse]; exact l⟩
  have e1 : W nm n (a ++ xs) = W nm n [] := by rw [W_nil, ← e, W_prod]
  have e2 := W_appL h (ha.app r) .nil r.rev e1
  rw [List.append_assoc, List.nil_append] at e2
  have e3 := W_appR h ha (r.app r.rev) .nil (W_rev h r)
  rw [List.append_nil] at e3
  exact e2.symm.trans e3
theorem lopp_r (h : KOk nm n) (ha : Row nm n a) (hl : Ln nm n a ≤ 100000) : t__law_opposite ⟨nm, n⟩ (W nm n a) = some (W nm n a.reverse) := by
  obtain ⟨b, e1, r, e2, _⟩ := lleast_r h ha hl
  simp only [t__law_opposite, bsm, bid, e1]
  rw [lmade_r h r.rev, W_opp h r ha e2]
/-! of the program -/
theorem check_r (h : KOk nm n) (ha : Row nm n a) (l : Ln nm n a ≤ 60) : t_check_order ⟨nm, n⟩ (W nm n a) = some () := corder_x h (orx_F h ha) l
theorem check1_r (h : KOk nm n) (ha : Row nm n a) (l : Ln nm n a ≤ 60) : t_check_orders ⟨nm, n⟩ [W nm n a] = some () := corders_s fun w hw => by
  rw [List.mem_singleton.1 hw]
  exact check_r h ha l
theorem check2_r (h : KOk nm n) (ha : Row nm n a) (l : Ln nm n a ≤ 60) (hb : Row nm n b) (l2 : Ln nm n b ≤ 60) : t_check_orders ⟨nm, n⟩ [W nm n a, W nm n b] = some () := corders_s fun w hw => by
  rcases List.mem_cons.1 hw with e | hw
  · rw [e]
    exact check_r h ha l
  · rw [List.mem_singleton.1 hw]
    exact check_r h hb l2
theorem crossof_r (h : KOk nm n) : t_crossings_of ⟨nm, n⟩ (W nm n a) = some (Ln nm n a) := crossof_s h (W_len h)
theorem pstart_r (h : KOk nm n) : t_Kind_start ⟨nm, n⟩ = some (W nm n []) := by rw [W_nil]; exact kstart_s h
theorem bystep_r (h : KOk nm n) (ha : Row nm n a) (hs : StepOk nm n s) : t_by_step ⟨nm, n⟩ (W nm n a) s = some (W nm n (a ++ [s])) := by
  rw [← W_snoc]
  exact bystep_s h hs (gF h ha)
theorem iscr_r (h : KOk nm n) (ha : Row nm n a) (hs : StepOk nm n s) : t_is_crossed ⟨nm, n⟩ (W nm n a) s = some (cr nm n a s) := pcrossed_s h hs (gF h ha)
theorem prodof_r (h : KOk nm n) (ha : Row nm n a) (hb : Row nm n b) : t_product_of ⟨nm, n⟩ (W nm n a) (W nm n b) = some (W nm n (a ++ b)) := by
  rw [← W_prod]
  exact product_of_s h (gF h ha) fun p hp => F_dom h b hb hp
theorem oppof_r (h : KOk nm n) (ha : Row nm n a) : t_opposite_of ⟨nm, n⟩ (W nm n a) = some (W nm n a.reverse) := opp_of_s h (gF h ha) (gF h ha.rev) (opp_row h ha)
theorem fallsof_r (h : KOk nm n) (ha : Row nm n a) : t_falls_of ⟨nm, n⟩ (W nm n a) = some (fa nm n a) := falls_of_s h (gF h ha)
theorem headsof_r (h : KOk nm n) (ha : Row nm n a) : t_heads_of ⟨nm, n⟩ (W nm n a) = some (fa nm n a.reverse) := by
  simp only [t_heads_of, bsm, bid, oppof_r h ha]
  exact fallsof_r h ha.rev
theorem aheadof_r (h : KOk nm n) (ha : Row nm n a) (hs : StepOk nm n s) : t_ahead_of ⟨nm, n⟩ (W nm n a) s = some (W nm n (s :: a)) := by
  simp only [t_ahead_of, bsm, bid, pstart_r h, bystep_r h .nil hs, List.nil_append]
  exact prodof_r h (.one hs) ha
theorem product_r (h : KOk nm n) (ha : Row nm n a) (l : Ln nm n a ≤ 60) (hb : Row nm n b) (l2 : Ln nm n b ≤ 60) : t_product ⟨nm, n⟩ (W nm n a) (W nm n b) = some (W nm n (a ++ b)) := by
  simp only [t_product, bsm, bid, check2_r h ha l hb l2, prodof_r h ha hb]
theorem opposite_r (h : KOk nm n) (ha : Row nm n a) (l : Ln nm n a ≤ 60) : t_opposite ⟨nm, n⟩ (W nm n a) = some (W nm n a.reverse) := by
  simp only [t_opposite, bsm, bid, check1_r h ha l, oppof_r h ha]
theorem crossings_r (h : KOk nm n) (ha : Row nm n a) (l : Ln nm n a ≤ 60) : t_crossings ⟨nm, n⟩ (W nm n a) = some (Ln nm n a) := by
  simp only [t_crossings, bsm, bid, check1_r h ha l, crossof_r h]
theorem falls_r (h : KOk nm n) (ha : Row nm n a) (l : Ln nm n a ≤ 60) : t_falls ⟨nm, n⟩ (W nm n a) = some (fa nm n a) := by
  simp only [t_falls, bsm, bid, check1_r h ha l, fallsof_r h ha]
theorem heads_r (h : KOk nm n) (ha : Row nm n a) (l : Ln nm n a ≤ 60) : t_heads ⟨nm, n⟩ (W nm n a) = some (fa nm n a.reverse) := by
  simp only [t_heads, bsm, bid, check1_r h ha l, headsof_r h ha]
theorem stepped_r (h : KOk nm n) (ha : Row nm n a) (l : Ln nm n a ≤ 60) (hs : StepOk nm n s) : t_stepped ⟨nm, n⟩ (W nm n a) s = some (W nm n (a ++ [s])) := by
  simp only [t_stepped, bsm, bid, check1_r h ha l, cstep_s h hs, bystep_r h ha hs]
theorem ahead_r (h : KOk nm n) (ha : Row nm n a) (l : Ln nm n a ≤ 60) (hs : StepOk nm n s) : t_stepped_ahead ⟨nm, n⟩ (W nm n a) s = some (W nm n (s :: a)) := by
  simp only [t_stepped_ahead, bsm, bid, check1_r h ha l, cstep_s h hs, aheadof_r h ha hs]
end
end Mi

namespace Ty
open PySem Lay PyProof.Rows
/-! ### how numbers, lists, tuples are shown -/
mutual
def wtP : PyData → Nat
  | .list xs => 4 + wtPs xs
  | .tuple xs => 4 + wtPs xs
  | _ => 64
def wtPs : List PyData → Nat
  | [] => 0
  | x :: xs => wtP x + 2 + wtPs xs
end
mutual
def smP : PyData → Bool
  | .none => true
  | .bool _ => true
  | .int i => decide (i.natAbs < 10 ^ 60)
  | .list xs => smPs xs
  | .tuple xs => smPs xs
  | .str _ => false
  | .dict _ => false
def smPs : List PyData → Bool
  | [] => true
  | x :: xs => smP x && smPs xs
end
def okS (s : Str) : Prop := ∀ c ∈ s.cps.toList, c < 0x110000
theorem okS_iff {s : Str} : okS s ↔ PyData.strOk s = true := by
  unfold okS PyData.strOk
  rw [← Array.all_toList, List.all_eq_true]
  simp
theorem okS_app {a b : Str} (ha : okS a) (hb : okS b) : okS (a ++ b) := fun c hc => by
  have e : (a ++ b).cps.toList = a.cps.toList ++ b.cps.toList := by
    show (a.cps ++ b.cps).toList = _
    simp
  rw [e] at hc
  exact (List.mem_append.1 hc).elim (ha c) (hb c)
theorem int_shown {i : Int} (h : i.natAbs < 10 ^ 60) : (PyData.int i).shown.length ≤ 64 ∧ okS (PyData.int i).shown := by
  constructor
  · have := int_text_length_le10 (a := i) (k := 60) (by decide) h
    rw [PyData.shown_int]
    show (Str.ofString (toString i)).cps.size ≤ 64
    have e : (Str.ofString (toString i)).cps.toList.length = (toString i).toList.length := by rw [signs_ofString, List.length_map]
    rw [Array.length_toList] at e
    rw [e]
    have e2 : (toString i).toList.length = (toString i).length := String.length_toList
    omega
  · intro c hc
    refine Decidable.byContradiction fun z => ?_
    exact shown_int_free' (k := c) ⟨by omega, by omega⟩ i hc
theorem textFrom_ok : ∀ (ts : List Str) (k : Nat) (acc : Str), okS acc → (∀ t ∈ ts, okS t) → okS (textFrom k acc ts) ∧ (textFrom k acc ts).length ≤ acc.length + (ts.map fun t => t.length + 2).sum
  | [], k, acc, h, _ => ⟨h, by show acc.length ≤ _; omega⟩
  | t :: ts, k, acc, h, ht => by
    have hsep : okS (if k > 0 then ", " else "" : String) := by
      split <;> exact okS_iff.2 (by decide +kernel)
    have hl : (Str.ofString (if k > 0 then ", " else "" : String)).length ≤ 2 := by
      split <;> decide +kernel
    obtain ⟨h1, h2⟩ := textFrom_ok ts (k + 1) (acc ++ (if k > 0 then ", " else "" : String) ++ t) (okS_app (okS_app h hsep) (ht t (by simp))) fun y hy => ht y (by simp [hy])
    refine ⟨h1, Nat.le_trans h2 ?_⟩
    rw [strLen_append, strLen_append, List.map_cons, List.sum_cons]
    omega
theorem listText_ok {ts : List Str} (h : ∀ t ∈ ts, okS t) : okS (listText ts) ∧ (listText ts).length ≤ 2 + (ts.map fun t => t.length + 2).sum := by
  obtain ⟨h1, h2⟩ := textFrom_ok ts 0 "[" (okS_iff.2 (by decide +kernel)) h
  refine ⟨okS_app h1 (okS_iff.2 (by decide +kernel)), ?_⟩
  unfold listText
  rw [strLen_append]
  have e1 : (Str.ofString "[").length = 1 := by decide +kernel
  have e2 : (Str.ofString "]").length = 1 := by decide +kernel
  omega
theorem join_ok : ∀ (ts : List Str), (∀ t ∈ ts, okS t) → okS (Str.join ", " ts) ∧ (Str.join ", " ts).length ≤ (ts.map fun t => t.length + 2).sum
  | [], _ => ⟨fun c hc => by simp [Str.join, Str.empty] at hc, by simp [Str.join, Str.empty, Str.length]⟩
  | [x], h => ⟨h x (by simp), by show x.length ≤ _; simp⟩
  | x :: y :: r, h => by
    obtain ⟨h1, h2⟩ := join_ok (y :: r) fun t ht => h t (by simp [ht])
    have hs : okS (Str.ofString ", ") := okS_iff.2 (by decide +kernel)
    refine ⟨okS_app (okS_app (h x (by simp)) hs) h1, ?_⟩
    show (x ++ Str.ofString ", " ++ Str.join ", " (y :: r)).length ≤ _
    rw [strLen_append, strLen_append, List.map_cons, List.sum_cons]
    have e2 : (Str.ofString ", ").length = 2 := by decide +kernel
    omega
theorem tupleText_ok {ts : List Str} (h : ∀ t ∈ ts, okS t) : okS (tupleText ts) ∧ (tupleText ts).length ≤ 3 + (ts.map fun t => t.length + 2).sum := by
  obtain ⟨h1, h2⟩ := join_ok ts h
  have e1 : (Str.ofString "(").length = 1 := by decide +kernel
  have e2 : (Str.ofString (if ts.length == 1 then ",)" else ")" : String)).length ≤ 2 := by split <;> decide +kernel
  refine ⟨okS_app (okS_app (okS_iff.2 (by decide +kernel)) h1) (by split <;> exact okS_iff.2 (by decide +kernel)), ?_⟩
  unfold tupleText
  rw [strLen_append, strLen_append]
  omega
mutual
theorem shown_ok : ∀ d : PyData, smP d = true → okS d.shown ∧ d.shown.length ≤ wtP d ∧ d.showable = true ∧ d.hasDict = false
  | .none, _ => ⟨okS_iff.2 (by decide +kernel), by decide +kernel, by simp [PyData.showable], by simp [PyData.hasDict]⟩
  | .bool b, _ => by cases b <;> exact ⟨okS_iff.2 (by decide +kernel), by decide +kernel, by simp [PyData.showable], by simp [PyData.hasDict]⟩
  | .int i, h => by
    rw [smP] at h
    have h' : i.natAbs < 10 ^ 60 := by simpa using h
    obtain ⟨a, b⟩ := int_shown h'
    refine ⟨b, by rw [wtP]; exact a; all_goals simp, ?_, by simp [PyData.hasDict]⟩
    rw [PyData.showable]
    by_cases h0 : i.natAbs = 0
    · rw [h0]; decide
    · simp only [decide_eq_true_eq]
      exact (Nat.log2_lt h0).2 (Nat.lt_of_lt_of_le h' (by
        have : (10 : Nat) ^ 60 ≤ 2 ^ 200 := by decide
        exact Nat.le_trans this (Nat.pow_le_pow_right (by decide) (by decide))))
  | .list xs, h => by
    rw [smP] at h
    obtain ⟨a, b, c, d⟩ := shownAll_ok xs h
    obtain ⟨e, f⟩ := listText_ok a
    refine ⟨by rw [PyData.shown]; exact e, by rw [PyData.shown, wtP]; omega, by rw [PyData.showable]; exact c, by rw [PyData.hasDict]; exact d⟩
  | .tuple xs, h => by
    rw [smP] at h
    obtain ⟨a, b, c, d⟩ := shownAll_ok xs h
    obtain ⟨e, f⟩ := tupleText_ok a
    refine ⟨by rw [PyData.shown]; exact e, by rw [PyData.shown, wtP]; omega, by rw [PyData.showable]; exact c, by rw [PyData.hasDict]; exact d⟩
  | .str s, h => by rw [smP] at h; cases h
  | .dict kvs, h => by rw [smP] at h; cases h
theorem shownAll_ok : ∀ xs : List PyData, smPs xs = true → (∀ t ∈ PyData.shownAll xs, okS t) ∧ ((PyData.shownAll xs).map fun t => t.length + 2).sum ≤ wtPs xs ∧ PyData.showableAll xs = true ∧ PyData.hasDictAll xs = false
  | [], _ => by simp [PyData.shownAll, PyData.showableAll, PyData.hasDictAll, wtPs]
  | x :: xs, h => by
    rw [smPs, Bool.and_eq_true] at h
    obtain ⟨a, b, c, d⟩ := shown_ok x h.1
    obtain ⟨e, f, g, i⟩ := shownAll_ok xs h.2
    refine ⟨?_, ?_, ?_, ?_⟩
    · intro t ht
      rw [PyData.shownAll] at ht
      rcases List.mem_cons.1 ht with z | z
      · rw [z]; exact a
      · exact e t z
    · rw [PyData.shownAll, List.map_cons, List.sum_cons, wtPs]
      omega
    · rw [PyData.showableAll, c, g]; rfl
    · rw [PyData.hasDictAll, d, i]; rfl
end
section
variable {α : Type} [Enc α] [DecidableEq α]
/-- a list is shown -/
theorem trepr_list [P : Pyd α] (xs : List α) (hd : P.dp ≤ 30) (hs : smPs (xs.map P.py) = true) (hw : wtPs (xs.map P.py) ≤ 900000) : ∃ s, trepr xs = some s ∧ PyData.strOk s = true ∧ s = (PyData.list (xs.map P.py)).shown := by
  have hs' : smP (.list (xs.map P.py)) = true := by rw [smP]; exact hs
  obtain ⟨h1, h2, h3, h4⟩ := shown_ok _ hs'
  refine ⟨_, ?_, okS_iff.1 h1, rfl⟩
  have e : bReprG [Enc.e xs] = some (.str (PyData.list (xs.map P.py)).shown) := by
    show D.shownM (.lst (xs.map Enc.e)) = _
    unfold D.shownM
    rw [show (D.lst (xs.map Enc.e)).toPy = some (.list (xs.map P.py)) by rw [D.toPy, toPys_map]; rfl]
    have hdp := dep_map (P := P) xs
    rw [wtP] at h2
    simp only [Option.bind_some]
    rw [if_pos ⟨h3, h4, by rw [PyData.depth]; omega, by omega⟩]
  unfold trepr
  rw [e]
theorem teq_self {s : Str} (h : PyData.strOk s = true) : teq s s = some true := by
  rw [teq_str h h]
  simp
end
/-- lists of orders -/
theorem sm_ints : ∀ {xs : List Int}, (∀ i ∈ xs, i.natAbs < 10 ^ 60) → smPs (xs.map PyData.int) = true ∧ wtPs (xs.map PyData.int) ≤ 70 * xs.length
  | [], _ => by simp [smPs, wtPs]
  | x :: xs, h => by
    obtain ⟨h1, h2⟩ := sm_ints (xs := xs) fun i hi => h i (by simp [hi])
    have h3 : smP (.int x) = true := by rw [smP]; simpa using h x (by simp)
    have h4 : wtP (.int x) = 64 := by rw [wtP] <;> simp
    refine ⟨by rw [List.map_cons, smPs, h1, h3]; rfl, ?_⟩
    rw [List.map_cons, wtPs, h4, List.length_cons]
    omega
theorem sm_lints : ∀ {ws : List (List Int)}, (∀ w ∈ ws, w.length ≤ 1000 ∧ ∀ i ∈ w, i.natAbs < 10 ^ 60) → smPs (ws.map fun w => PyData.list (w.map PyData.int)) = true ∧ wtPs (ws.map fun w => PyData.list (w.map PyData.int)) ≤ 70100 * ws.length
  | [], _ => by simp [smPs, wtPs]
  | w :: ws, h => by
    obtain ⟨h1, h2⟩ := sm_lints (ws := ws) fun i hi => h i (by simp [hi])
    obtain ⟨a, b⟩ := h w (by simp)
    obtain ⟨h3, h4⟩ := sm_ints b
    refine ⟨by rw [List.map_cons, smPs, h1, smP, h3]; rfl, ?_⟩
    rw [List.map_cons, wtPs, wtP, List.length_cons]
    omega
theorem repr_lints {ws : List (List Int)} (h : ∀ w ∈ ws, w.length ≤ 1000 ∧ ∀ i ∈ w, i.natAbs < 10 ^ 60) (hl : ws.length ≤ 12) : ∃ s, trepr ws = some s ∧ PyData.strOk s = true := by
  obtain ⟨h1, h2⟩ := sm_lints h
  obtain ⟨s, a, b, _⟩ := trepr_list (P := inferInstance) ws (by decide) h1 (by
    show wtPs (ws.map fun w => PyData.list (w.map PyData.int)) ≤ _
    omega)
  exact ⟨s, a, b⟩
theorem repr_ints {w : List Int} (h : ∀ i ∈ w, i.natAbs < 10 ^ 60) (hl : w.length ≤ 10000) : ∃ s, trepr w = some s ∧ PyData.strOk s = true := by
  obtain ⟨h1, h2⟩ := sm_ints h
  obtain ⟨s, a, b, _⟩ := trepr_list (P := inferInstance) w (by decide) h1 (by
    show wtPs (w.map PyData.int) ≤ _
    omega)
  exact ⟨s, a, b⟩
end Ty

namespace Cx
open PySem Lay
section
variable {nm : Str} {n : Int}
theorem tT_abs {s p : Int} (hs : 0 ≤ s) : (tT nm n s p).natAbs ≤ p.natAbs + 1 := by
  unfold tT
  split
  · split
    · split <;> omega
    · split
      · split <;> omega
      · omega
  · split
    · omega
    · split <;> omega
theorem F_abs : ∀ {a : List Int} (_ : Row nm n a) (p : Int), (F nm n a p).natAbs ≤ p.natAbs + a.length
  | [], _, p => by simp [F]
  | s :: a, r, p => by
    have h1 := F_abs r.tail p
    have h2 := tT_abs (nm := nm) (n := n) (p := F nm n a p) r.head.1
    rw [List.length_cons]
    show (tT nm n s (F nm n a p)).natAbs ≤ _
    omega
theorem W_abs {a : List Int} (h : KOk nm n) (r : Row nm n a) : ∀ i ∈ W nm n a, i.natAbs ≤ 8 + a.length := by
  intro i hi
  unfold W win at hi
  obtain ⟨p, hp, rfl⟩ := List.mem_map.1 hi
  have h1 := places_mem hp
  have h2 := F_abs r p
  have h3 := kpos h
  unfold off at h1
  split at h1 <;> omega
theorem W_big {a : List Int} (h : KOk nm n) (r : Row nm n a) (l : a.length ≤ 1000000) : ∀ i ∈ W nm n a, i.natAbs < 10 ^ 60 := fun i hi => by
  have := W_abs h r i hi
  have : (1000010 : Nat) < 10 ^ 60 := by decide
  omega
def rowB (nm : Str) (n : Int) (r : List Int) : Bool := r.all fun s => decide (0 ≤ s) && decide (s < many nm n)
theorem row_of {r : List Int} (h : rowB nm n r = true) : Row nm n r := fun s hs => by
  have := List.all_eq_true.1 h s hs
  simp only [Bool.and_eq_true, decide_eq_true_eq] at this
  exact this
end
end Cx

namespace k04
open PySem Lay Ty Cx Mi
theorem steps_go {nm : Str} {n : Int} (h : KOk nm n) : ∀ (b a : List Int), Row nm n a → Row nm n b → a.length + b.length ≤ 60 → forT (fun step (s2 : List Int) => t_stepped ⟨nm, n⟩ s2 step) b (W nm n a) = some (W nm n (a ++ b))
  | [], a, _, _, _ => by rw [List.append_nil]; rfl
  | s :: b, a, ha, hb, l => by
    rw [List.length_cons] at l
    have := Ln_le h ha
    unfold forT
    rw [stepped_r h ha (by omega) hb.head]
    simp only [bsm]
    have ih := steps_go h b (a ++ [s]) (ha.app (.one hb.head)) hb.tail (by rw [List.length_append]; simp; omega)
    rw [ih, List.append_assoc]
    rfl
theorem rows_s {nm : Str} {n : Int} (h : KOk nm n) {N : Int} {g : List Int} (G : Gt N g) (hN : N < 800000000) : ∃ a b c g', tlcS (fun (turn : Int) s => (t__law_row s ⟨nm, n⟩ 12).bind fun r2 => some (r2.1, r2.2)) [0, 1, 2] g = some ([a, b, c], g') ∧ (Row nm n a ∧ a.length ≤ 12) ∧ (Row nm n b ∧ b.length ≤ 12) ∧ (Row nm n c ∧ c.length ≤ 12) := by
  obtain ⟨ys, g', e, p, l, _⟩ := tlcS_inv (f := fun (turn : Int) s => (t__law_row s ⟨nm, n⟩ 12).bind fun r2 => some (r2.1, r2.2)) (xs := [0, 1, 2]) (fun j g => Gt (N + 1000 * j) g) (fun a => Row nm n a ∧ a.length ≤ 12) (by decide) (fun x _ j s hj hs => by
    have hj' : j < 3 := hj
    obtain ⟨ss, g', e, r, G', l⟩ := row_s h hs (m := 12) (by decide) (by decide) (by omega)
    exact ⟨ss, g', by rw [e]; rfl, ⟨r, by omega⟩, G'.le (by omega)⟩) (s := g) (by simpa using G)
  match ys, l with
  | [a, b, c], _ => exact ⟨a, b, c, g', e, p a (by simp), p b (by simp), p c (by simp)⟩
theorem right_s {N : Int} {g : List Int} (G : Gt N g) (hN : N < 100000000) : ∃ g', t__law_right g = some (true, g') := by
  obtain ⟨nm, n, g1, e1, h, G1⟩ := kind_s (by omega) G
  obtain ⟨a, b, c, g2, e2, ⟨ha, la⟩, ⟨hb, lb⟩, ⟨hc, lc⟩⟩ := rows_s h G1 (by omega)
  have t3 : trg 0 3 = some [0, 1, 2] := trg_ok (by decide) (by decide) (by decide) (by decide)
  have em : tlc (fun (row : List Int) => some true) (fun row => t__law_made ⟨nm, n⟩ row) [a, b, c] = some [W nm n a, W nm n b, W nm n c] := by
    rw [tlc_map (fun row => W nm n row) (by simp) fun x hx => ?_]
    · rfl
    · simp at hx
      rcases hx with rfl | rfl | rfl
      · exact lmade_r h ha
      · exact lmade_r h hb
      · exact lmade_r h hc
  obtain ⟨kept, ek, ok⟩ := repr_lints (ws := [W nm n a, W nm n b, W nm n c]) (fun w hw => by
    simp at hw
    rcases hw with rfl | rfl | rfl
    · exact ⟨by have := W_l (a := a) h; omega, W_big h ha (by omega)⟩
    · exact ⟨by have := W_l (a := b) h; omega, W_big h hb (by omega)⟩
    · exact ⟨by have := W_l (a := c) h; omega, W_big h hc (by omega)⟩) (by simp)
  have La := Ln_le h ha
  have Lb := Ln_le h hb
  have Lc := Ln_le h hc
  have hab := ha.app hb
  have Lab := Ln_le h hab
  rw [List.length_append] at Lab
  refine ⟨g2, ?_⟩
  simp only [t__law_right, bsm, bid, e1, init_s h, t3, e2, em, tun3, ek, product_r h ha (by omega) hb (by omega), tix1, steps_go h b a ha hb (by omega), lproduct_r h ha hb, tne_ints, decide_true, Bool.not_true, Bool.false_eq_true, if_false]
  have hbc := hb.app hc
  have Lbc := Ln_le h hbc
  rw [List.length_append] at Lbc
  have t0 : tix [a, b, c] 0 = some a := tix0
  have tc : tcat a b = some (a ++ b) := if_pos (by omega)
  simp only [bsm, bid, product_r h hab (by omega) hc (by omega), product_r h hb (by omega) hc (by omega), product_r h ha (by omega) hbc (by omega), t0, tc, lmade_r h hab, List.append_assoc, decide_true, Bool.not_true, Bool.false_eq_true, if_false]
  rw [forC_unit (fun x hx => ?_)]
  · have Lr := Ln_rev h hab
    have Lra := Ln_rev h ha
    have Lrb := Ln_rev h hb
    have ta : tall (W nm n a) (W nm n b) = some (W nm n b) := if_pos (by have := W_l (a := a) h; have := W_l (a := b) h; omega)
    have tp : tapp (List.map some (W nm n (a ++ b))) none = some (List.map some (W nm n (a ++ b)) ++ [none]) := if_pos (by rw [List.length_map]; have := W_l (a := a ++ b) h; omega)
    have tcut : cutG (List.map some (W nm n (a ++ b)) ++ [(none : Option Int)]) none (some (-1)) = List.map some (W nm n (a ++ b)) := by
      unfold cutG HT.sIx
      simp only [List.length_append, List.length_cons, List.length_nil]
      rw [if_pos (by decide), show (-1 + (((List.map some (W nm n (a ++ b))).length + (0 + 1) : Nat) : Int)).toNat - 0 = (List.map some (W nm n (a ++ b))).length by omega]
      simp
    have sub := Ln_sub h ha hb
    have d1 : decide (0 ≤ Ln nm n a + Ln nm n b - Ln nm n (a ++ b)) = true := decide_eq_true (by omega)
    simp only [Ctl.cont, bsm, bid, opposite_r h hab (by omega), opposite_r h hb (by omega), opposite_r h ha (by omega), product_r h hb.rev (by omega) ha.rev (by omega), List.reverse_append, decide_true, Bool.not_true, Bool.false_eq_true, if_false, product_r h ha (by omega) ha (by omega), lproduct_r h ha ha, ta, product_r h hb (by omega) hc (by omega), lproduct_r h hb hc, lopp_r h hb (by omega), crossings_r h ha (by omega), crossings_r h hb (by omega), crossings_r h hab (by omega), tp, tcut, tne_some, d1, if_true, tmod_p (show (0 : Int) < 2 by decide), sub.2, teq_int, teq_self ok]
  · obtain ⟨y, rfl, hy, ly⟩ : ∃ y, x = W nm n y ∧ Row nm n y ∧ y.length ≤ 12 := by
      simp at hx
      rcases hx with rfl | rfl | rfl
      · exact ⟨a, rfl, ha, la⟩
      · exact ⟨b, rfl, hb, lb⟩
      · exact ⟨c, rfl, hc, lc⟩
    have Ly := Ln_le h hy
    have Lr := Ln_rev h hy
    have tp : tapp (List.map some (W nm n y.reverse)) none = some (List.map some (W nm n y.reverse) ++ [none]) := if_pos (by rw [List.length_map]; have := W_l (a := y.reverse) h; omega)
    have l1 : (W nm n y).length ≤ 1000000 := by have := W_l (a := y) h; omega
    simp only [bsm, bid, opposite_r h hy (by omega), lopp_r h hy (by omega), opposite_r h hy.rev (by omega), List.reverse_reverse, decide_true, Bool.not_true, Bool.false_eq_true, if_false, product_r h hy (by omega) hy.rev (by omega), product_r h hy.rev (by omega) hy (by omega), pstart_r h, W_rev h hy, W_rev' h hy, crossings_r h hy.rev (by omega), crossings_r h hy (by omega), Lr, tne_int, product_r h hy (by omega) .nil (by rw [Ln_nil h]; omega), product_r h .nil (by rw [Ln_nil h]; omega) hy (by omega), List.append_nil, List.nil_append, l1, if_true, heads_r h hy (by omega), falls_r h hy.rev (by omega), tp]
def z60 : List Int := [0, 1, 0, 1, 0, 1, 0, 1, 0, 1, 0, 1, 0, 1, 0, 1, 0, 1, 0, 1, 0, 1, 0, 1, 0, 1, 0, 1, 0, 1, 0, 1, 0, 1, 0, 1, 0, 1, 0, 1, 0, 1, 0, 1, 0, 1, 0, 1, 0, 1, 0, 1, 0, 1, 0, 1, 0, 1, 0, 1]
theorem law_s (ns : List Int) : t_law ⟨ns⟩ = some true := by
  have k1 : KOk "mirror" 2 := .inr (.inl ⟨rfl, by decide, by decide⟩)
  have k2 : KOk "ring" 3 := .inr (.inr ⟨rfl, by decide, by decide⟩)
  have k3 : KOk "ring" 2 := .inr (.inr ⟨rfl, by decide, by decide⟩)
  simp only [t_law, bsm, bid, init_s k1, init_s k2, init_s k3]
  have t3 : trg 0 3 = some [0, 1, 2] := trg_ok (by decide) (by decide) (by decide) (by decide)
  have big : W "ring" 2 z60 = [-60, 61] := by decide +kernel
  have rz : Row "ring" 2 z60 := row_of (by decide +kernel)
  have lz : Ln "ring" 2 z60 ≤ 60 := by
    have := Ln_le k3 rz
    have e : z60.length = 60 := by decide +kernel
    omega
  have q1 : t_opposite ⟨"ring", 2⟩ [-60, 61] = some [60, -59] := by
    rw [← big, opposite_r k3 rz lz]
    decide +kernel
  have q2 : t_product ⟨"ring", 2⟩ [-60, 61] [-60, 61] = some [-120, 121] := by
    rw [← big, product_r k3 rz lz rz lz]
    decide +kernel
  have q3 : t_stepped ⟨"ring", 2⟩ [-60, 61] 0 = some [61, -60] := by
    rw [← big, stepped_r k3 rz lz ⟨by decide, by decide +kernel⟩]
    decide +kernel
  have q4 : t_stepped_ahead ⟨"ring", 2⟩ [-60, 61] 1 = some [-61, 62] := by
    rw [← big, ahead_r k3 rz lz ⟨by decide, by decide +kernel⟩]
    decide +kernel
  have w5 : W "mirror" 2 [1, 0] = [-2, 1] := by decide +kernel
  have r5 : Row "mirror" 2 [1, 0] := row_of (by decide +kernel)
  have l5 : Ln "mirror" 2 [1, 0] ≤ 60 := Int.le_trans (Ln_le k1 r5) (by decide)
  have q5 : t_opposite ⟨"mirror", 2⟩ [-2, 1] = some [2, -1] := by
    rw [← w5, opposite_r k1 r5 l5]
    decide +kernel
  have q6 : t_product ⟨"mirror", 2⟩ [-2, 1] [-2, 1] = some [-1, -2] := by
    rw [← w5, product_r k1 r5 l5 r5 l5]
    decide +kernel
  have w7 : W "ring" 3 [2] = [-1, 1, 3] := by decide +kernel
  have w8 : W "ring" 3 [0] = [1, 0, 2] := by decide +kernel
  have w9 : W "ring" 3 [2, 0] = [1, -1, 3] := by decide +kernel
  have r7 : Row "ring" 3 [2] := row_of (by decide +kernel)
  have r8 : Row "ring" 3 [0] := row_of (by decide +kernel)
  have r9 : Row "ring" 3 [2, 0] := row_of (by decide +kernel)
  have q7 : t_product ⟨"ring", 3⟩ [-1, 1, 3] [1, 0, 2] = some [1, -1, 3] := by
    rw [← w7, ← w8, product_r k2 r7 (Int.le_trans (Ln_le k2 r7) (by decide)) r8 (Int.le_trans (Ln_le k2 r8) (by decide))]
    decide +kernel
  have q8 : t_opposite ⟨"ring", 3⟩ [1, -1, 3] = some [-1, 0, 4] := by
    rw [← w9, opposite_r k2 r9 (Int.le_trans (Ln_le k2 r9) (by decide))]
    decide +kernel
  simp only [t3, bsm]
  rw [forC_unit (fun i hi => ?_)]
  · simp only [Ctl.cont, bsm, q1, q2, q3, q4, q5, q6, q7, q8, tne_ints, teq_ints, decide_true, Bool.not_true, Bool.false_eq_true, if_false, if_true]
  · simp at hi
    obtain ⟨g, e, G⟩ := gen_s ns i (by omega) (by omega)
    obtain ⟨g', e2⟩ := right_s G (by decide)
    simp only [e, bsm, e2, Bool.not_true, Bool.false_eq_true, if_false]
theorem law_true (ns : List Int) (_ : ns.length ≤ 63) : m_law [.scr ns] = some (.bl true) := s_law ⟨ns⟩ true (law_s ns)
end k04

namespace k04
open PySem PySem.Spec PyProof.Rows L2 Lay Mi
open Evl (Ex)
def top (i : Nat) : Stmt := PySem.Challenge.pw_seamlayers_k04_whole_products_and_opposi.main.body.getD i (.Pass ⟨0, 0, 0, 0⟩)
def clsBody : Stmt → List Stmt
  | .ClassDef (body := b) .. => b
  | _ => []
def sub (i j : Nat) : Stmt := (clsBody (top i)).getD j (.Pass ⟨0, 0, 0, 0⟩)
section
variable {P : Program} {w : World} {K : PySem.W.Frag} {cl : Str → Addr} {mg : Str → Option Value} {base : Heap}
abbrev s_is_whole : Stmt := (top 8)
abbrev n_is_whole : List Str := [("value" : Str)]
abbrev N_is_whole : List Str := [("value" : Str)]
theorem sc_is_whole : FnScope N_is_whole n_is_whole (defScope s_is_whole) := ⟨rfl, rfl, rfl, by decide +kernel, rfl, by decide +kernel, by decide +kernel⟩
theorem bd_is_whole (B : Bs mg) (Q : KG w K cl mg) : Body false P w K cl mg base N_is_whole (defScope s_is_whole) 0 (defBody s_is_whole) mb_is_whole := by
  intro X h1 h2 h3 h4 h5 C
  subst h1 h2 h3 h4 h5
  exact (ss_one (s_ret (ev_and (ev_isT (C.g (x := "isinstance") (by decide +kernel)) B.isinstance_ (C.g (x := "int") (by decide +kernel)) B.int_ (by decide +kernel) (ev_v (C.v (i := 0) (by decide +kernel) rfl)) (by decide +kernel) (by decide +kernel)) (ev_one (ev_not (ev_isT (C.g (x := "isinstance") (by decide +kernel)) B.isinstance_ (C.g (x := "bool") (by decide +kernel)) B.bool_ (by decide +kernel) (ev_v (C.v (i := 0) (by decide +kernel) rfl)) (by decide +kernel) (by decide +kernel)))))))
theorem fo_is_whole (B : Bs mg) (Q : KG w K cl mg) {f : Addr} {fd : FuncData} (F : FunD K "is_whole" "is_whole" (defArgs s_is_whole) (defBody s_is_whole) (defScope s_is_whole) [] [] f fd) : FnB false P w K mg base CX0 1 f fd n_is_whole (spP K cl m_is_whole) := fn_P F sc_is_whole (cl := cl) (bd_is_whole B Q )
theorem ok_is_whole (B : Bs mg) (Q : KG w K cl mg) {f : Addr} {fd : FuncData} (F : FunD K "is_whole" "is_whole" (defArgs s_is_whole) (defBody s_is_whole) (defScope s_is_whole) [] [] f fd) (hm : mg "is_whole" = some (.ref f)) : FnG false P w K mg base "is_whole" 1 n_is_whole (spP K cl m_is_whole) :=
  ⟨⟨f, fd, fo_is_whole B Q  F, hm, F.kp, F.bindsN fun _ _ _ _ _ _ us hl => match us, hl with | [_], _ => rfl⟩⟩
abbrev s_is_between : Stmt := (top 9)
abbrev n_is_between : List Str := [("value" : Str), ("low" : Str), ("high" : Str)]
abbrev N_is_between : List Str := [("value" : Str), ("low" : Str), ("high" : Str)]
theorem sc_is_between : FnScope N_is_between n_is_between (defScope s_is_between) := ⟨rfl, rfl, rfl, by decide +kernel, rfl, by decide +kernel, by decide +kernel⟩
theorem bd_is_between (B : Bs mg) (Q : KG w K cl mg)
    (h_is_whole : FnG false P w K mg base "is_whole" 1 n_is_whole (spP K cl m_is_whole)) : Body false P w K cl mg base N_is_between (defScope s_is_between) 1 (defBody s_is_between) mb_is_between := by
  intro X h1 h2 h3 h4 h5 C
  subst h1 h2 h3 h4 h5
  exact (ss_one (s_ret (ev_and (ev_call h_is_whole (fun z => nomatch z) C.rm (C.g (x := "is_whole") (by decide +kernel)) (ea_cons (ev_v (C.v (i := 0) (by decide +kernel) rfl)) ea_nil) (by decide +kernel)) (ev_and (ev_cmp op_ge rc_ge (ev_v (C.v (i := 0) (by decide +kernel) rfl)) (ev_v (C.v (i := 1) (by decide +kernel) rfl)) (nomark _)) (ev_one (ev_or (ev_cmp op_isD rc_is (ev_v (C.v (i := 2) (by decide +kernel) rfl)) ev_non (nomark _)) (ev_one (ev_cmp op_le rc_le (ev_v (C.v (i := 0) (by decide +kernel) rfl)) (ev_v (C.v (i := 2) (by decide +kernel) rfl)) (nomark _)))))))))
theorem fo_is_between (B : Bs mg) (Q : KG w K cl mg)
    (h_is_whole : FnG false P w K mg base "is_whole" 1 n_is_whole (spP K cl m_is_whole)) {f : Addr} {fd : FuncData} (F : FunD K "is_between" "is_between" (defArgs s_is_between) (defBody s_is_between) (defScope s_is_between) [] [] f fd) : FnB false P w K mg base CX0 2 f fd n_is_between (spP K cl m_is_between) := fn_P F sc_is_between (cl := cl) (bd_is_between B Q h_is_whole)
theorem ok_is_between (B : Bs mg) (Q : KG w K cl mg)
    (h_is_whole : FnG false P w K mg base "is_whole" 1 n_is_whole (spP K cl m_is_whole)) {f : Addr} {fd : FuncData} (F : FunD K "is_between" "is_between" (defArgs s_is_between) (defBody s_is_between) (defScope s_is_between) [] [] f fd) (hm : mg "is_between" = some (.ref f)) : FnG false P w K mg base "is_between" 2 n_is_between (spP K cl m_is_between) :=
  ⟨⟨f, fd, fo_is_between B Q h_is_whole F, hm, F.kp, F.bindsN fun _ _ _ _ _ _ us hl => match us, hl with | [_, _, _], _ => rfl⟩⟩
abbrev s_check_number : Stmt := (top 10)
abbrev n_check_number : List Str := [("number" : Str), ("low" : Str), ("high" : Str)]
abbrev N_check_number : List Str := [("number" : Str), ("low" : Str), ("high" : Str)]
theorem sc_check_number : FnScope N_check_number n_check_number (defScope s_check_number) := ⟨rfl, rfl, rfl, by decide +kernel, rfl, by decide +kernel, by decide +kernel⟩
theorem bd_check_number (B : Bs mg) (Q : KG w K cl mg)
    (h_is_between : FnG false P w K mg base "is_between" 2 n_is_between (spP K cl m_is_between)) : Body false P w K cl mg base N_check_number (defScope s_check_number) 2 (defBody s_check_number) mb_check_number := by
  intro X h1 h2 h3 h4 h5 C
  subst h1 h2 h3 h4 h5
  exact (ss_one (s_if (eft_et (et_not (et_val (ev_call h_is_between (fun z => nomatch z) C.rm (C.g (x := "is_between") (by decide +kernel)) (ea_cons (ev_v (C.v (i := 0) (by decide +kernel) rfl)) (ea_cons (ev_v (C.v (i := 1) (by decide +kernel) rfl)) (ea_cons (ev_v (C.v (i := 2) (by decide +kernel) rfl)) ea_nil))) (by decide +kernel))))) (ss_one s_never) ss_nil))
theorem fo_check_number (B : Bs mg) (Q : KG w K cl mg)
    (h_is_between : FnG false P w K mg base "is_between" 2 n_is_between (spP K cl m_is_between)) {f : Addr} {fd : FuncData} (F : FunD K "check_number" "check_number" (defArgs s_check_number) (defBody s_check_number) (defScope s_check_number) [] [] f fd) : FnB false P w K mg base CX0 3 f fd n_check_number (spP K cl m_check_number) := fn_P F sc_check_number (cl := cl) (bd_check_number B Q h_is_between)
theorem ok_check_number (B : Bs mg) (Q : KG w K cl mg)
    (h_is_between : FnG false P w K mg base "is_between" 2 n_is_between (spP K cl m_is_between)) {f : Addr} {fd : FuncData} (F : FunD K "check_number" "check_number" (defArgs s_check_number) (defBody s_check_number) (defScope s_check_number) [] [] f fd) (hm : mg "check_number" = some (.ref f)) : FnG false P w K mg base "check_number" 3 n_check_number (spP K cl m_check_number) :=
  ⟨⟨f, fd, fo_check_number B Q h_is_between F, hm, F.kp, F.bindsN fun _ _ _ _ _ _ us hl => match us, hl with | [_, _, _], _ => rfl⟩⟩
abbrev s_Kind___init__ : Stmt := (sub 11 0)
abbrev n_Kind___init__ : List Str := [("self" : Str), ("name" : Str), ("size" : Str)]
abbrev N_Kind___init__ : List Str := [("self" : Str), ("name" : Str), ("size" : Str)]
theorem sc_Kind___init__ : FnScope N_Kind___init__ n_Kind___init__ (defScope s_Kind___init__) := ⟨rfl, rfl, rfl, by decide +kernel, rfl, by decide +kernel, by decide +kernel⟩
theorem fo_Kind___init__ (B : Bs mg) (Q : KG w K cl mg)
    (h_check_number : FnG false P w K mg base "check_number" 3 n_check_number (spP K cl m_check_number)) {f : Addr} {fd : FuncData} (F : FunD K "__init__" "Kind.__init__" (defArgs s_Kind___init__) (defBody s_Kind___init__) (defScope s_Kind___init__) [] [] f fd) : FnOk P w K mg base CX0 4 f fd n_Kind___init__ (spI K cl m_Kind___init__) := by
  refine fn_I F sc_Kind___init__ Q.g.cls Q.na1 Q.na2 (by decide) (by decide +kernel) (by decide +kernel) (by decide +kernel) ?_
  intro X h1 h2 h3 h4 h5 C
  subst h1 h2 h3 h4 h5
  exact ⟨(et_pw (ew_or (et_not (et_val (ev_isT (C.g (x := "isinstance") (by decide +kernel)) B.isinstance_ (C.g (x := "str") (by decide +kernel)) B.str_ (by decide +kernel) (ev_v (C.v (i := 1) (by decide +kernel) rfl)) (by decide +kernel) (by decide +kernel)))) (ew_or1 (et_bnot Q.bnd (C.g (x := "BOUNDS") (by decide +kernel)) (ev_v (C.v (i := 1) (by decide +kernel) rfl)))))), (ev_call h_check_number (fun z => nomatch z) C.rm (C.g (x := "check_number") (by decide +kernel)) (ea_cons (ev_v (C.v (i := 2) (by decide +kernel) rfl)) (ea_cons (ev_bix Q.bnd (C.g (x := "BOUNDS") (by decide +kernel)) (ev_v (C.v (i := 1) (by decide +kernel) rfl)) ev_int (fun _ _ => rfl) (fun _ _ => rfl)) (ea_cons (ev_bix Q.bnd (C.g (x := "BOUNDS") (by decide +kernel)) (ev_v (C.v (i := 1) (by decide +kernel) rfl)) ev_int (fun _ _ => rfl) (fun _ _ => rfl)) ea_nil))) (by decide +kernel)), rfl, rfl, rfl⟩
theorem ok_Kind___init__ (B : Bs mg) (Q : KG w K cl mg)
    (h_check_number : FnG false P w K mg base "check_number" 3 n_check_number (spP K cl m_check_number)) {f : Addr} {fd : FuncData} (F : FunD K "__init__" "Kind.__init__" (defArgs s_Kind___init__) (defBody s_Kind___init__) (defScope s_Kind___init__) [] [] f fd) (M : Mk K (cl "Kind") f) : MkG P w K cl mg base "Kind" 4 n_Kind___init__ m_Kind___init__ :=
  ⟨⟨f, fd, fo_Kind___init__ B Q h_check_number F, Q.mgK, M, F.bindsN fun _ _ _ _ _ _ us hl => match us, hl with | [_, _, _], _ => rfl⟩, initM_cl, initM_ob⟩
abbrev s__law_hash : Stmt := (top 37)
abbrev n__law_hash : List Str := [("_law_seed" : Str), ("_law_index" : Str)]
abbrev N__law_hash : List Str := [("_law_seed" : Str), ("_law_index" : Str), ("_law_mixed" : Str)]
theorem sc__law_hash : FnScope N__law_hash n__law_hash (defScope s__law_hash) := ⟨rfl, rfl, rfl, by decide +kernel, rfl, by decide +kernel, by decide +kernel⟩
theorem bd__law_hash (B : Bs mg) (Q : KG w K cl mg) : Body false P w K cl mg base N__law_hash (defScope s__law_hash) 0 (defBody s__law_hash) mb__law_hash := by
  intro X h1 h2 h3 h4 h5 C
  subst h1 h2 h3 h4 h5
  exact (ss_cons (s_set (C.l (i := 2) (by decide +kernel) rfl) (ef_ev (ev_bin op_mod rd_mod (ev_fl fl_int (ev_Ty call_int1 rdl_int (C.g (x := "int") (by decide +kernel)) (B.int_) (by decide +kernel) (ea_cons (ev_bin op_addD rd_add (ev_bin op_addD rd_add (ev_bin op_addD rd_add (ev_bin op_mulD rd_mul (ev_v (C.v (i := 0) (by decide +kernel) rfl)) ev_int) (ev_bin op_mulD rd_mul (ev_bin op_mulD rd_mul ev_int (ev_v (C.v (i := 1) (by decide +kernel) rfl))) (ev_v (C.v (i := 1) (by decide +kernel) rfl)))) (ev_bin op_mulD rd_mul ev_int (ev_v (C.v (i := 1) (by decide +kernel) rfl)))) ev_int) ea_nil) (by decide +kernel) (by decide +kernel))) ev_int)))
    (ss_cons (s_set (C.l (i := 2) (by decide +kernel) rfl) (ef_ev (ev_bin op_mod rd_mod (ev_fl fl_int (ev_Ty call_int1 rdl_int (C.g (x := "int") (by decide +kernel)) (B.int_) (by decide +kernel) (ea_cons (ev_bin op_addD rd_add (ev_bin op_addD rd_add (ev_bin op_mulD rd_mul (ev_v (C.v (i := 2) (by decide +kernel) rfl)) (ev_v (C.v (i := 2) (by decide +kernel) rfl))) (ev_bin op_mulD rd_mul ev_int (ev_v (C.v (i := 1) (by decide +kernel) rfl)))) ev_int) ea_nil) (by decide +kernel) (by decide +kernel))) ev_int)))
    (ss_one (s_ret (ev_bin op_mod rd_mod (ev_fl fl_int (ev_Ty call_int1 rdl_int (C.g (x := "int") (by decide +kernel)) (B.int_) (by decide +kernel) (ea_cons (ev_bin op_mulD rd_mul (ev_v (C.v (i := 2) (by decide +kernel) rfl)) ev_int) ea_nil) (by decide +kernel) (by decide +kernel))) ev_int)))))
theorem fo__law_hash (B : Bs mg) (Q : KG w K cl mg) {f : Addr} {fd : FuncData} (F : FunD K "_law_hash" "_law_hash" (defArgs s__law_hash) (defBody s__law_hash) (defScope s__law_hash) [] [] f fd) : FnB false P w K mg base CX0 1 f fd n__law_hash (spP K cl m__law_hash) := fn_P F sc__law_hash (cl := cl) (bd__law_hash B Q )
theorem ok__law_hash (B : Bs mg) (Q : KG w K cl mg) {f : Addr} {fd : FuncData} (F : FunD K "_law_hash" "_law_hash" (defArgs s__law_hash) (defBody s__law_hash) (defScope s__law_hash) [] [] f fd) (hm : mg "_law_hash" = some (.ref f)) : FnG false P w K mg base "_law_hash" 1 n__law_hash (spP K cl m__law_hash) :=
  ⟨⟨f, fd, fo__law_hash B Q  F, hm, F.kp, F.bindsN fun _ _ _ _ _ _ us hl => match us, hl with | [_, _], _ => rfl⟩⟩
abbrev s__law_random : Stmt := (top 38)
abbrev n__law_random : List Str := [("_law_generator_here" : Str), ("_law_bound" : Str)]
abbrev N__law_random : List Str := [("_law_generator_here" : Str), ("_law_bound" : Str), ("_law_drawn" : Str), ("_law_turn" : Str)]
theorem sc__law_random : FnScope N__law_random n__law_random (defScope s__law_random) := ⟨rfl, rfl, rfl, by decide +kernel, rfl, by decide +kernel, by decide +kernel⟩
theorem bd__law_random (B : Bs mg) (Q : KG w K cl mg)
    (h__law_hash : FnG false P w K mg base "_law_hash" 1 n__law_hash (spP K cl m__law_hash)) : Body false P w K cl mg base N__law_random (defScope s__law_random) 1 (defBody s__law_random) mb__law_random := by
  intro X h1 h2 h3 h4 h5 C
  subst h1 h2 h3 h4 h5
  exact (ss_cons (s_if (eft_et (et_cmp op_gt rc_gt (ev_ixo (C.v (i := 0) (by decide +kernel) rfl) ev_int (fun _ _ => rfl)) ev_int (nomark _))) (ss_cons (s_set (C.l (i := 2) (by decide +kernel) rfl) (ef_ev (ev_bin op_mod rd_mod (ev_fl fl_int (ev_Ty call_int1 rdl_int (C.g (x := "int") (by decide +kernel)) (B.int_) (by decide +kernel) (ea_cons (ev_ixo (C.v (i := 0) (by decide +kernel) rfl) ev_int (fun _ _ => rfl)) ea_nil) (by decide +kernel) (by decide +kernel))) (ev_v (C.v (i := 1) (by decide +kernel) rfl)))))
    (ss_cons (s_asg (ef_ev (ev_bin op_fdivW rd_fdiv (ev_ixo (C.v (i := 0) (by decide +kernel) rfl) ev_int (fun _ _ => rfl)) (ev_v (C.v (i := 1) (by decide +kernel) rfl)))) (st_sub (C.v (i := 0) (by decide +kernel) rfl) ev_int))
    (ss_one (s_ret (ev_v (C.v (i := 2) (by decide +kernel) rfl)))))) ss_nil)
    (ss_cons (s_set (C.l (i := 2) (by decide +kernel) rfl) (ef_ev ev_int))
    (ss_cons (s_for C.xe C.calm (efi_ei (ei_rg1 (C.g (x := "range") (by decide +kernel)) B.range_ (ev_bin op_addD rd_add ev_int (ev_bin op_fdivW rd_fdiv (ev_bits (ev_v (C.v (i := 1) (by decide +kernel) rfl))) ev_int)))) (st_name (C.l (i := 3) (by decide +kernel) rfl)) (ss_cons (s_asg (ef_ev (ev_bin op_addD rd_add (ev_ixo (C.v (i := 0) (by decide +kernel) rfl) ev_int (fun _ _ => rfl)) ev_int)) (st_sub (C.v (i := 0) (by decide +kernel) rfl) ev_int))
    (ss_one (s_set (C.l (i := 2) (by decide +kernel) rfl) (ef_ev (ev_bin op_addD rd_add (ev_bin op_mulD rd_mul (ev_v (C.v (i := 2) (by decide +kernel) rfl)) ev_int) (ev_call h__law_hash (fun z => nomatch z) C.rm (C.g (x := "_law_hash") (by decide +kernel)) (ea_cons (ev_ixo (C.v (i := 0) (by decide +kernel) rfl) ev_int (fun _ _ => rfl)) (ea_cons (ev_ixo (C.v (i := 0) (by decide +kernel) rfl) ev_int (fun _ _ => rfl)) ea_nil)) (by decide +kernel))))))))
    (ss_one (s_ret (ev_bin op_mod rd_mod (ev_fl fl_int (ev_Ty call_int1 rdl_int (C.g (x := "int") (by decide +kernel)) (B.int_) (by decide +kernel) (ea_cons (ev_v (C.v (i := 2) (by decide +kernel) rfl)) ea_nil) (by decide +kernel) (by decide +kernel))) (ev_v (C.v (i := 1) (by decide +kernel) rfl))))))))
theorem fo__law_random (B : Bs mg) (Q : KG w K cl mg)
    (h__law_hash : FnG false P w K mg base "_law_hash" 1 n__law_hash (spP K cl m__law_hash)) {f : Addr} {fd : FuncData} (F : FunD K "_law_random" "_law_random" (defArgs s__law_random) (defBody s__law_random) (defScope s__law_random) [] [] f fd) : FnB false P w K mg base CX0 2 f fd n__law_random (spF K cl m__law_random) := fn_F F sc__law_random (cl := cl) (by decide) (by decide) (bd__law_random B Q h__law_hash)
theorem ok__law_random (B : Bs mg) (Q : KG w K cl mg)
    (h__law_hash : FnG false P w K mg base "_law_hash" 1 n__law_hash (spP K cl m__law_hash)) {f : Addr} {fd : FuncData} (F : FunD K "_law_random" "_law_random" (defArgs s__law_random) (defBody s__law_random) (defScope s__law_random) [] [] f fd) (hm : mg "_law_random" = some (.ref f)) : FnG false P w K mg base "_law_random" 2 n__law_random (spF K cl m__law_random) :=
  ⟨⟨f, fd, fo__law_random B Q h__law_hash F, hm, F.kp, F.bindsN fun _ _ _ _ _ _ us hl => match us, hl with | [_, _], _ => rfl⟩⟩
abbrev s__law_kind : Stmt := (top 41)
abbrev n__law_kind : List Str := [("_law_generator_here" : Str)]
abbrev N__law_kind : List Str := [("_law_generator_here" : Str), ("_law_name" : Str), ("_law_size" : Str), ("_law_great" : Str), ("_law_chosen" : Str)]
theorem sc__law_kind : FnScope N__law_kind n__law_kind (defScope s__law_kind) := ⟨rfl, rfl, rfl, by decide +kernel, rfl, by decide +kernel, by decide +kernel⟩
theorem bd__law_kind (B : Bs mg) (Q : KG w K cl mg)
    (h__law_random : FnG false P w K mg base "_law_random" 2 n__law_random (spF K cl m__law_random)) : Body false P w K cl mg base N__law_kind (defScope s__law_kind) 2 (defBody s__law_kind) mb__law_kind := by
  intro X h1 h2 h3 h4 h5 C
  subst h1 h2 h3 h4 h5
  exact (ss_cons (s_set (C.l (i := 1) (by decide +kernel) rfl) (ef_ix (ef_ev (ev_of_eo (eo_lst (ea_cons ev_str (ea_cons ev_str (ea_cons ev_str ea_nil)))))) (ef_callF h__law_random (fun z => nomatch z) C.rm (C.g (x := "_law_random") (by decide +kernel)) (C.v (i := 0) (by decide +kernel) rfl) (efa_ea (ea_cons ev_int ea_nil)) (by decide +kernel)) (fun _ _ => rfl)))
    (ss_cons (s_set (C.l (i := 2) (by decide +kernel) rfl) (ef_lst (efa_cons (ef_bin op_addD rd_add (ef_ev ev_int) (ef_callF h__law_random (fun z => nomatch z) C.rm (C.g (x := "_law_random") (by decide +kernel)) (C.v (i := 0) (by decide +kernel) rfl) (efa_ea (ea_cons ev_int ea_nil)) (by decide +kernel))) (efa_cons (ef_bin op_addD rd_add (ef_ev ev_int) (ef_callF h__law_random (fun z => nomatch z) C.rm (C.g (x := "_law_random") (by decide +kernel)) (C.v (i := 0) (by decide +kernel) rfl) (efa_ea (ea_cons ev_int ea_nil)) (by decide +kernel))) (efa_cons (ef_bin op_addD rd_add (ef_ev ev_int) (ef_callF h__law_random (fun z => nomatch z) C.rm (C.g (x := "_law_random") (by decide +kernel)) (C.v (i := 0) (by decide +kernel) rfl) (efa_ea (ea_cons ev_int ea_nil)) (by decide +kernel))) (efa_ea ea_nil))))))
    (ss_cons (s_set (C.l (i := 3) (by decide +kernel) rfl) (ef_lst (efa_cons (ef_bin op_addD rd_add (ef_ev ev_int) (ef_callF h__law_random (fun z => nomatch z) C.rm (C.g (x := "_law_random") (by decide +kernel)) (C.v (i := 0) (by decide +kernel) rfl) (efa_ea (ea_cons ev_int ea_nil)) (by decide +kernel))) (efa_ea (ea_cons ev_int (ea_cons ev_int ea_nil))))))
    (ss_cons (s_set (C.l (i := 4) (by decide +kernel) rfl) (ef_if (eft_cmp (op_eqD C.un) rc_eq (ef_callF h__law_random (fun z => nomatch z) C.rm (C.g (x := "_law_random") (by decide +kernel)) (C.v (i := 0) (by decide +kernel) rfl) (efa_ea (ea_cons ev_int ea_nil)) (by decide +kernel)) (ef_ev ev_int) (nomark _)) (ef_ev (ev_v (C.v (i := 3) (by decide +kernel) rfl))) (ef_ev (ev_v (C.v (i := 2) (by decide +kernel) rfl)))))
    (ss_one (s_ret (ev_tup (ea_cons (ev_v (C.v (i := 1) (by decide +kernel) rfl)) (ea_cons (ev_ix (ev_v (C.v (i := 4) (by decide +kernel) rfl)) (ev_index (ev_of_eo (eo_lst (ea_cons ev_str (ea_cons ev_str (ea_cons ev_str ea_nil))))) (ev_v (C.v (i := 1) (by decide +kernel) rfl)) (fun _ _ pa pb => pe_bm PySem.F.plainAttrs_list PySem.F.slot_list_index PySem.F.type_list_index mt_index pa (pa_cons pb pa_nil))) (fun _ _ => rfl)) ea_nil)))))))))
theorem fo__law_kind (B : Bs mg) (Q : KG w K cl mg)
    (h__law_random : FnG false P w K mg base "_law_random" 2 n__law_random (spF K cl m__law_random)) {f : Addr} {fd : FuncData} (F : FunD K "_law_kind" "_law_kind" (defArgs s__law_kind) (defBody s__law_kind) (defScope s__law_kind) [] [] f fd) : FnB false P w K mg base CX0 3 f fd n__law_kind (spF K cl m__law_kind) := fn_F F sc__law_kind (cl := cl) (by decide) (by decide) (bd__law_kind B Q h__law_random)
theorem ok__law_kind (B : Bs mg) (Q : KG w K cl mg)
    (h__law_random : FnG false P w K mg base "_law_random" 2 n__law_random (spF K cl m__law_random)) {f : Addr} {fd : FuncData} (F : FunD K "_law_kind" "_law_kind" (defArgs s__law_kind) (defBody s__law_kind) (defScope s__law_kind) [] [] f fd) (hm : mg "_law_kind" = some (.ref f)) : FnG false P w K mg base "_law_kind" 3 n__law_kind (spF K cl m__law_kind) :=
  ⟨⟨f, fd, fo__law_kind B Q h__law_random F, hm, F.kp, F.bindsN fun _ _ _ _ _ _ us hl => match us, hl with | [_], _ => rfl⟩⟩
abbrev s__law_start : Stmt := (top 43)
abbrev n__law_start : List Str := [("_law_told" : Str)]
abbrev N__law_start : List Str := [("_law_told" : Str)]
theorem sc__law_start : FnScope N__law_start n__law_start (defScope s__law_start) := ⟨rfl, rfl, rfl, by decide +kernel, rfl, by decide +kernel, by decide +kernel⟩
theorem bd__law_start (B : Bs mg) (Q : KG w K cl mg) : Body false P w K cl mg base N__law_start (defScope s__law_start) 0 (defBody s__law_start) mb__law_start := by
  intro X h1 h2 h3 h4 h5 C
  subst h1 h2 h3 h4 h5
  exact (ss_one (s_retO (eo_listRg C.calm (C.g (x := "list") (by decide +kernel)) B.list_ (er_2 (C.g (x := "range") (by decide +kernel)) B.range_ (ev_fl fl_int (ev_Ty call_int1 rdl_int (C.g (x := "int") (by decide +kernel)) (B.int_) (by decide +kernel) (ea_cons (ev_cmp (op_eqD C.un) rc_eq (ev_ix (ev_v (C.v (i := 0) (by decide +kernel) rfl)) ev_int (fun _ _ => rfl)) ev_str (nomark _)) ea_nil) (by decide +kernel) (by decide +kernel))) (ev_bin op_addD rd_add (ev_ix (ev_v (C.v (i := 0) (by decide +kernel) rfl)) ev_int (fun _ _ => rfl)) (ev_fl fl_int (ev_Ty call_int1 rdl_int (C.g (x := "int") (by decide +kernel)) (B.int_) (by decide +kernel) (ea_cons (ev_cmp (op_eqD C.un) rc_eq (ev_ix (ev_v (C.v (i := 0) (by decide +kernel) rfl)) ev_int (fun _ _ => rfl)) ev_str (nomark _)) ea_nil) (by decide +kernel) (by decide +kernel))))))))
theorem fo__law_start (B : Bs mg) (Q : KG w K cl mg) {f : Addr} {fd : FuncData} (F : FunD K "_law_start" "_law_start" (defArgs s__law_start) (defBody s__law_start) (defScope s__law_start) [] [] f fd) : FnB false P w K mg base CX0 1 f fd n__law_start (spO K cl m__law_start) := fn_O F sc__law_start (cl := cl) (bd__law_start B Q )
theorem ok__law_start (B : Bs mg) (Q : KG w K cl mg) {f : Addr} {fd : FuncData} (F : FunD K "_law_start" "_law_start" (defArgs s__law_start) (defBody s__law_start) (defScope s__law_start) [] [] f fd) (hm : mg "_law_start" = some (.ref f)) : FnG false P w K mg base "_law_start" 1 n__law_start (spO K cl m__law_start) :=
  ⟨⟨f, fd, fo__law_start B Q  F, hm, F.kp, F.bindsN fun _ _ _ _ _ _ us hl => match us, hl with | [_], _ => rfl⟩⟩
abbrev s__law_item : Stmt := (top 44)
abbrev n__law_item : List Str := [("_law_told" : Str), ("_law_order" : Str), ("_law_place" : Str)]
abbrev N__law_item : List Str := [("_law_told" : Str), ("_law_order" : Str), ("_law_place" : Str)]
theorem sc__law_item : FnScope N__law_item n__law_item (defScope s__law_item) := ⟨rfl, rfl, rfl, by decide +kernel, rfl, by decide +kernel, by decide +kernel⟩
theorem bd__law_item (B : Bs mg) (Q : KG w K cl mg) : Body false P w K cl mg base N__law_item (defScope s__law_item) 0 (defBody s__law_item) mb__law_item := by
  intro X h1 h2 h3 h4 h5 C
  subst h1 h2 h3 h4 h5
  exact (ss_cons (s_if (eft_et (et_cmp (op_eqD C.un) rc_eq (ev_ix (ev_v (C.v (i := 0) (by decide +kernel) rfl)) ev_int (fun _ _ => rfl)) ev_str (nomark _))) (ss_one (s_ret (ev_bin op_mulD rd_mul (ev_ix (ev_v (C.v (i := 1) (by decide +kernel) rfl)) (ev_bin op_sub rd_sub (ev_fl fl_abs (ev_B call_abs rdl_abs (C.g (x := "abs") (by decide +kernel)) (B.abs_) (by decide +kernel) (ea_cons (ev_v (C.v (i := 2) (by decide +kernel) rfl)) ea_nil) (by decide +kernel) (by decide +kernel))) ev_int) (fun _ _ => rfl)) (ev_if (et_cmp op_gt rc_gt (ev_v (C.v (i := 2) (by decide +kernel) rfl)) ev_int (nomark _)) ev_int (ev_un un_neg rd_neg ev_int))))) ss_nil)
    (ss_one (s_ret (ev_bin op_sub rd_sub (ev_bin op_addD rd_add (ev_ix (ev_v (C.v (i := 1) (by decide +kernel) rfl)) (ev_bin op_mod rd_mod (ev_fl fl_int (ev_Ty call_int1 rdl_int (C.g (x := "int") (by decide +kernel)) (B.int_) (by decide +kernel) (ea_cons (ev_v (C.v (i := 2) (by decide +kernel) rfl)) ea_nil) (by decide +kernel) (by decide +kernel))) (ev_ix (ev_v (C.v (i := 0) (by decide +kernel) rfl)) ev_int (fun _ _ => rfl))) (fun _ _ => rfl)) (ev_v (C.v (i := 2) (by decide +kernel) rfl))) (ev_bin op_mod rd_mod (ev_fl fl_int (ev_Ty call_int1 rdl_int (C.g (x := "int") (by decide +kernel)) (B.int_) (by decide +kernel) (ea_cons (ev_v (C.v (i := 2) (by decide +kernel) rfl)) ea_nil) (by decide +kernel) (by decide +kernel))) (ev_ix (ev_v (C.v (i := 0) (by decide +kernel) rfl)) ev_int (fun _ _ => rfl)))))))
theorem fo__law_item (B : Bs mg) (Q : KG w K cl mg) {f : Addr} {fd : FuncData} (F : FunD K "_law_item" "_law_item" (defArgs s__law_item) (defBody s__law_item) (defScope s__law_item) [] [] f fd) : FnB false P w K mg base CX0 1 f fd n__law_item (spP K cl m__law_item) := fn_P F sc__law_item (cl := cl) (bd__law_item B Q )
theorem ok__law_item (B : Bs mg) (Q : KG w K cl mg) {f : Addr} {fd : FuncData} (F : FunD K "_law_item" "_law_item" (defArgs s__law_item) (defBody s__law_item) (defScope s__law_item) [] [] f fd) (hm : mg "_law_item" = some (.ref f)) : FnG false P w K mg base "_law_item" 1 n__law_item (spP K cl m__law_item) :=
  ⟨⟨f, fd, fo__law_item B Q  F, hm, F.kp, F.bindsN fun _ _ _ _ _ _ us hl => match us, hl with | [_, _, _], _ => rfl⟩⟩
abbrev s__law_turned : Stmt := (top 45)
abbrev n__law_turned : List Str := [("_law_told" : Str), ("_law_step" : Str), ("_law_place" : Str)]
abbrev N__law_turned : List Str := [("_law_told" : Str), ("_law_step" : Str), ("_law_place" : Str), ("_law_apart" : Str)]
theorem sc__law_turned : FnScope N__law_turned n__law_turned (defScope s__law_turned) := ⟨rfl, rfl, rfl, by decide +kernel, rfl, by decide +kernel, by decide +kernel⟩
theorem bd__law_turned (B : Bs mg) (Q : KG w K cl mg) : Body false P w K cl mg base N__law_turned (defScope s__law_turned) 0 (defBody s__law_turned) mb__law_turned := by
  intro X h1 h2 h3 h4 h5 C
  subst h1 h2 h3 h4 h5
  exact (ss_cons (s_if (eft_et (et_cmp (op_eqD C.un) rc_eq (ev_ix (ev_v (C.v (i := 0) (by decide +kernel) rfl)) ev_int (fun _ _ => rfl)) ev_str (nomark _))) (ss_cons (s_if (eft_et (et_cmp (op_eqD C.un) rc_eq (ev_v (C.v (i := 1) (by decide +kernel) rfl)) ev_int (nomark _))) (ss_one (s_ret (ev_if (et_cmp (op_eqD C.un) rc_eq (ev_fl fl_abs (ev_B call_abs rdl_abs (C.g (x := "abs") (by decide +kernel)) (B.abs_) (by decide +kernel) (ea_cons (ev_v (C.v (i := 2) (by decide +kernel) rfl)) ea_nil) (by decide +kernel) (by decide +kernel))) ev_int (nomark _)) (ev_un un_neg rd_neg (ev_v (C.v (i := 2) (by decide +kernel) rfl))) (ev_v (C.v (i := 2) (by decide +kernel) rfl))))) ss_nil)
    (ss_cons (s_if (eft_et (et_cmp op_in_seq rc_in (ev_fl fl_abs (ev_B call_abs rdl_abs (C.g (x := "abs") (by decide +kernel)) (B.abs_) (by decide +kernel) (ea_cons (ev_v (C.v (i := 2) (by decide +kernel) rfl)) ea_nil) (by decide +kernel) (by decide +kernel))) (ev_of_eo (eo_lst (ea_cons (ev_v (C.v (i := 1) (by decide +kernel) rfl)) (ea_cons (ev_bin op_addD rd_add (ev_v (C.v (i := 1) (by decide +kernel) rfl)) ev_int) ea_nil)))) rfl)) (ss_one (s_ret (ev_bin op_mulD rd_mul (ev_bin op_sub rd_sub (ev_bin op_addD rd_add (ev_bin op_mulD rd_mul ev_int (ev_v (C.v (i := 1) (by decide +kernel) rfl))) ev_int) (ev_fl fl_abs (ev_B call_abs rdl_abs (C.g (x := "abs") (by decide +kernel)) (B.abs_) (by decide +kernel) (ea_cons (ev_v (C.v (i := 2) (by decide +kernel) rfl)) ea_nil) (by decide +kernel) (by decide +kernel)))) (ev_if (et_cmp op_gt rc_gt (ev_v (C.v (i := 2) (by decide +kernel) rfl)) ev_int (nomark _)) ev_int (ev_un un_neg rd_neg ev_int))))) ss_nil)
    (ss_one (s_ret (ev_v (C.v (i := 2) (by decide +kernel) rfl)))))) ss_nil)
    (ss_cons (s_set (C.l (i := 3) (by decide +kernel) rfl) (ef_ev (ev_bin op_mod rd_mod (ev_fl fl_int (ev_Ty call_int1 rdl_int (C.g (x := "int") (by decide +kernel)) (B.int_) (by decide +kernel) (ea_cons (ev_bin op_sub rd_sub (ev_v (C.v (i := 2) (by decide +kernel) rfl)) (ev_v (C.v (i := 1) (by decide +kernel) rfl))) ea_nil) (by decide +kernel) (by decide +kernel))) (ev_ix (ev_v (C.v (i := 0) (by decide +kernel) rfl)) ev_int (fun _ _ => rfl)))))
    (ss_one (s_ret (ev_if (et_cmp (op_eqD C.un) rc_eq (ev_v (C.v (i := 3) (by decide +kernel) rfl)) ev_int (nomark _)) (ev_bin op_addD rd_add (ev_v (C.v (i := 2) (by decide +kernel) rfl)) ev_int) (ev_if (et_cmp (op_eqD C.un) rc_eq (ev_v (C.v (i := 3) (by decide +kernel) rfl)) ev_int (nomark _)) (ev_bin op_sub rd_sub (ev_v (C.v (i := 2) (by decide +kernel) rfl)) ev_int) (ev_v (C.v (i := 2) (by decide +kernel) rfl))))))))
theorem fo__law_turned (B : Bs mg) (Q : KG w K cl mg) {f : Addr} {fd : FuncData} (F : FunD K "_law_turned" "_law_turned" (defArgs s__law_turned) (defBody s__law_turned) (defScope s__law_turned) [] [] f fd) : FnB false P w K mg base CX0 1 f fd n__law_turned (spP K cl m__law_turned) := fn_P F sc__law_turned (cl := cl) (bd__law_turned B Q )
theorem ok__law_turned (B : Bs mg) (Q : KG w K cl mg) {f : Addr} {fd : FuncData} (F : FunD K "_law_turned" "_law_turned" (defArgs s__law_turned) (defBody s__law_turned) (defScope s__law_turned) [] [] f fd) (hm : mg "_law_turned" = some (.ref f)) : FnG false P w K mg base "_law_turned" 1 n__law_turned (spP K cl m__law_turned) :=
  ⟨⟨f, fd, fo__law_turned B Q  F, hm, F.kp, F.bindsN fun _ _ _ _ _ _ us hl => match us, hl with | [_, _, _], _ => rfl⟩⟩
abbrev s__law_stepped : Stmt := (top 46)
abbrev n__law_stepped : List Str := [("_law_told" : Str), ("_law_order" : Str), ("_law_step" : Str)]
abbrev N__law_stepped : List Str := [("_law_told" : Str), ("_law_order" : Str), ("_law_step" : Str), ("_law_place" : Str)]
theorem sc__law_stepped : FnScope N__law_stepped n__law_stepped (defScope s__law_stepped) := ⟨rfl, rfl, rfl, by decide +kernel, rfl, by decide +kernel, by decide +kernel⟩
theorem bd__law_stepped (B : Bs mg) (Q : KG w K cl mg)
    (h__law_start : FnG false P w K mg base "_law_start" 1 n__law_start (spO K cl m__law_start))
    (h__law_item : FnG false P w K mg base "_law_item" 1 n__law_item (spP K cl m__law_item))
    (h__law_turned : FnG false P w K mg base "_law_turned" 1 n__law_turned (spP K cl m__law_turned)) : Body false P w K cl mg base N__law_stepped (defScope s__law_stepped) 1 (defBody s__law_stepped) mb__law_stepped := by
  intro X h1 h2 h3 h4 h5 C
  subst h1 h2 h3 h4 h5
  exact (ss_one (s_retO (eo_lc (own := [("_law_place", 3)]) (fl := false) (.inl rfl) C.calm C.nd (ei_seq (ev_of_eo (eo_call h__law_start (fun z => nomatch z) C.rm (C.g (x := "_law_start") (by decide +kernel)) (ea_cons (ev_v (C.v (i := 0) (by decide +kernel) rfl)) ea_nil) (by decide +kernel)))) (CXo.blkOk C (by decide +kernel)) (by decide) (fun s_ H_ C_ c_ fp_ => (gt_one ((CXo.blk C rfl s_ H_ C_ c_ fp_).l (i := 3) (by decide +kernel) rfl))) (fun s_ H_ C_ c_ fp_ => ets_nil) (fun s_ H_ C_ c_ fp_ => (ev_call h__law_item (fun z => nomatch z) (CXo.blk C rfl s_ H_ C_ c_ fp_).rm ((CXo.blk C rfl s_ H_ C_ c_ fp_).g (x := "_law_item") (by decide +kernel)) (ea_cons (ev_v ((CXo.blk C rfl s_ H_ C_ c_ fp_).v (i := 0) (by decide +kernel) rfl)) (ea_cons (ev_v ((CXo.blk C rfl s_ H_ C_ c_ fp_).v (i := 1) (by decide +kernel) rfl)) (ea_cons (ev_call h__law_turned (fun z => nomatch z) (CXo.blk C rfl s_ H_ C_ c_ fp_).rm ((CXo.blk C rfl s_ H_ C_ c_ fp_).g (x := "_law_turned") (by decide +kernel)) (ea_cons (ev_v ((CXo.blk C rfl s_ H_ C_ c_ fp_).v (i := 0) (by decide +kernel) rfl)) (ea_cons (ev_v ((CXo.blk C rfl s_ H_ C_ c_ fp_).v (i := 2) (by decide +kernel) rfl)) (ea_cons (ev_v ((CXo.blk C rfl s_ H_ C_ c_ fp_).v (i := 3) (by decide +kernel) rfl)) ea_nil))) (by decide +kernel)) ea_nil))) (by decide +kernel))))))
theorem fo__law_stepped (B : Bs mg) (Q : KG w K cl mg)
    (h__law_start : FnG false P w K mg base "_law_start" 1 n__law_start (spO K cl m__law_start))
    (h__law_item : FnG false P w K mg base "_law_item" 1 n__law_item (spP K cl m__law_item))
    (h__law_turned : FnG false P w K mg base "_law_turned" 1 n__law_turned (spP K cl m__law_turned)) {f : Addr} {fd : FuncData} (F : FunD K "_law_stepped" "_law_stepped" (defArgs s__law_stepped) (defBody s__law_stepped) (defScope s__law_stepped) [] [] f fd) : FnB false P w K mg base CX0 2 f fd n__law_stepped (spO K cl m__law_stepped) := fn_O F sc__law_stepped (cl := cl) (bd__law_stepped B Q h__law_start h__law_item h__law_turned)
theorem ok__law_stepped (B : Bs mg) (Q : KG w K cl mg)
    (h__law_start : FnG false P w K mg base "_law_start" 1 n__law_start (spO K cl m__law_start))
    (h__law_item : FnG false P w K mg base "_law_item" 1 n__law_item (spP K cl m__law_item))
    (h__law_turned : FnG false P w K mg base "_law_turned" 1 n__law_turned (spP K cl m__law_turned)) {f : Addr} {fd : FuncData} (F : FunD K "_law_stepped" "_law_stepped" (defArgs s__law_stepped) (defBody s__law_stepped) (defScope s__law_stepped) [] [] f fd) (hm : mg "_law_stepped" = some (.ref f)) : FnG false P w K mg base "_law_stepped" 2 n__law_stepped (spO K cl m__law_stepped) :=
  ⟨⟨f, fd, fo__law_stepped B Q h__law_start h__law_item h__law_turned F, hm, F.kp, F.bindsN fun _ _ _ _ _ _ us hl => match us, hl with | [_, _, _], _ => rfl⟩⟩
abbrev s__law_made : Stmt := (top 51)
abbrev n__law_made : List Str := [("_law_told" : Str), ("_law_row_here" : Str)]
abbrev N__law_made : List Str := [("_law_told" : Str), ("_law_row_here" : Str), ("_law_found" : Str), ("_law_step" : Str)]
theorem sc__law_made : FnScope N__law_made n__law_made (defScope s__law_made) := ⟨rfl, rfl, rfl, by decide +kernel, rfl, by decide +kernel, by decide +kernel⟩
theorem bd__law_made (B : Bs mg) (Q : KG w K cl mg)
    (h__law_start : FnG false P w K mg base "_law_start" 1 n__law_start (spO K cl m__law_start))
    (h__law_stepped : FnG false P w K mg base "_law_stepped" 2 n__law_stepped (spO K cl m__law_stepped)) : Body false P w K cl mg base N__law_made (defScope s__law_made) 2 (defBody s__law_made) mb__law_made := by
  intro X h1 h2 h3 h4 h5 C
  subst h1 h2 h3 h4 h5
  exact (ss_cons (s_set (C.l (i := 2) (by decide +kernel) rfl) (ef_ev (ev_of_eo (eo_call h__law_start (fun z => nomatch z) C.rm (C.g (x := "_law_start") (by decide +kernel)) (ea_cons (ev_v (C.v (i := 0) (by decide +kernel) rfl)) ea_nil) (by decide +kernel)))))
    (ss_cons (s_for C.xe C.calm (efi_ei (ei_seq (ev_v (C.v (i := 1) (by decide +kernel) rfl)))) (st_name (C.l (i := 3) (by decide +kernel) rfl)) (ss_one (s_set (C.l (i := 2) (by decide +kernel) rfl) (ef_ev (ev_of_eo (eo_call h__law_stepped (fun z => nomatch z) C.rm (C.g (x := "_law_stepped") (by decide +kernel)) (ea_cons (ev_v (C.v (i := 0) (by decide +kernel) rfl)) (ea_cons (ev_v (C.v (i := 2) (by decide +kernel) rfl)) (ea_cons (ev_v (C.v (i := 3) (by decide +kernel) rfl)) ea_nil))) (by decide +kernel)))))))
    (ss_one (s_ret (ev_v (C.v (i := 2) (by decide +kernel) rfl))))))
theorem fo__law_made (B : Bs mg) (Q : KG w K cl mg)
    (h__law_start : FnG false P w K mg base "_law_start" 1 n__law_start (spO K cl m__law_start))
    (h__law_stepped : FnG false P w K mg base "_law_stepped" 2 n__law_stepped (spO K cl m__law_stepped)) {f : Addr} {fd : FuncData} (F : FunD K "_law_made" "_law_made" (defArgs s__law_made) (defBody s__law_made) (defScope s__law_made) [] [] f fd) : FnB false P w K mg base CX0 3 f fd n__law_made (spP K cl m__law_made) := fn_P F sc__law_made (cl := cl) (bd__law_made B Q h__law_start h__law_stepped)
theorem ok__law_made (B : Bs mg) (Q : KG w K cl mg)
    (h__law_start : FnG false P w K mg base "_law_start" 1 n__law_start (spO K cl m__law_start))
    (h__law_stepped : FnG false P w K mg base "_law_stepped" 2 n__law_stepped (spO K cl m__law_stepped)) {f : Addr} {fd : FuncData} (F : FunD K "_law_made" "_law_made" (defArgs s__law_made) (defBody s__law_made) (defScope s__law_made) [] [] f fd) (hm : mg "_law_made" = some (.ref f)) : FnG false P w K mg base "_law_made" 3 n__law_made (spP K cl m__law_made) :=
  ⟨⟨f, fd, fo__law_made B Q h__law_start h__law_stepped F, hm, F.kp, F.bindsN fun _ _ _ _ _ _ us hl => match us, hl with | [_, _], _ => rfl⟩⟩
abbrev s_check_kind : Stmt := (top 12)
abbrev n_check_kind : List Str := [("kind" : Str)]
abbrev N_check_kind : List Str := [("kind" : Str)]
theorem sc_check_kind : FnScope N_check_kind n_check_kind (defScope s_check_kind) := ⟨rfl, rfl, rfl, by decide +kernel, rfl, by decide +kernel, by decide +kernel⟩
theorem bd_check_kind (B : Bs mg) (Q : KG w K cl mg) : Body false P w K cl mg base N_check_kind (defScope s_check_kind) 0 (defBody s_check_kind) mb_check_kind := by
  intro X h1 h2 h3 h4 h5 C
  subst h1 h2 h3 h4 h5
  exact (ss_one (s_if (eft_et (et_not (et_val (ev_isC Q.g (C.g (x := "isinstance") (by decide +kernel)) B.isinstance_ (C.g (x := "Kind") (by decide +kernel)) Q.mgK (ev_v (C.v (i := 0) (by decide +kernel) rfl)) (by decide +kernel))))) (ss_one s_never) ss_nil))
theorem fo_check_kind (B : Bs mg) (Q : KG w K cl mg) {f : Addr} {fd : FuncData} (F : FunD K "check_kind" "check_kind" (defArgs s_check_kind) (defBody s_check_kind) (defScope s_check_kind) [] [] f fd) : FnB false P w K mg base CX0 1 f fd n_check_kind (spP K cl m_check_kind) := fn_P F sc_check_kind (cl := cl) (bd_check_kind B Q )
theorem ok_check_kind (B : Bs mg) (Q : KG w K cl mg) {f : Addr} {fd : FuncData} (F : FunD K "check_kind" "check_kind" (defArgs s_check_kind) (defBody s_check_kind) (defScope s_check_kind) [] [] f fd) (hm : mg "check_kind" = some (.ref f)) : FnG false P w K mg base "check_kind" 1 n_check_kind (spP K cl m_check_kind) :=
  ⟨⟨f, fd, fo_check_kind B Q  F, hm, F.kp, F.bindsN fun _ _ _ _ _ _ us hl => match us, hl with | [_], _ => rfl⟩⟩
abbrev s_Kind_size : Stmt := (sub 11 2)
abbrev n_Kind_size : List Str := [("self" : Str)]
abbrev N_Kind_size : List Str := [("self" : Str)]
theorem sc_Kind_size : FnScope N_Kind_size n_Kind_size (defScope s_Kind_size) := ⟨rfl, rfl, rfl, by decide +kernel, rfl, by decide +kernel, by decide +kernel⟩
theorem bd_Kind_size (B : Bs mg) (Q : KG w K cl mg) : Body false P w K cl mg base N_Kind_size (defScope s_Kind_size) 0 (defBody s_Kind_size) mb_Kind_size := by
  intro X h1 h2 h3 h4 h5 C
  subst h1 h2 h3 h4 h5
  exact (ss_one (s_ret (ev_fld Q.g.cls Q.na2 (ev_v (C.v (i := 0) (by decide +kernel) rfl)))))
theorem fo_Kind_size (B : Bs mg) (Q : KG w K cl mg) {f : Addr} {fd : FuncData} (F : FunD K "size" "Kind.size" (defArgs s_Kind_size) (defBody s_Kind_size) (defScope s_Kind_size) [] [] f fd) : FnB false P w K mg base CX0 1 f fd n_Kind_size (spP K cl m_Kind_size) := fn_P F sc_Kind_size (cl := cl) (bd_Kind_size B Q )
theorem ok_Kind_size (B : Bs mg) (Q : KG w K cl mg) {f : Addr} {fd : FuncData} (F : FunD K "size" "Kind.size" (defArgs s_Kind_size) (defBody s_Kind_size) (defScope s_Kind_size) [] [] f fd) (M : Meth K (cl "Kind") "size" f) : MethG P w K mg base (cl "Kind") "size" 1 n_Kind_size (spP K cl m_Kind_size) :=
  ⟨Q.g.cls, f, fd, (fo_Kind_size B Q  F).ok, M, F.bindsN fun _ _ _ _ _ _ us hl => match us, hl with | [_], _ => rfl⟩
abbrev s_Kind_name : Stmt := (sub 11 1)
abbrev n_Kind_name : List Str := [("self" : Str)]
abbrev N_Kind_name : List Str := [("self" : Str)]
theorem sc_Kind_name : FnScope N_Kind_name n_Kind_name (defScope s_Kind_name) := ⟨rfl, rfl, rfl, by decide +kernel, rfl, by decide +kernel, by decide +kernel⟩
theorem bd_Kind_name (B : Bs mg) (Q : KG w K cl mg) : Body false P w K cl mg base N_Kind_name (defScope s_Kind_name) 0 (defBody s_Kind_name) mb_Kind_name := by
  intro X h1 h2 h3 h4 h5 C
  subst h1 h2 h3 h4 h5
  exact (ss_one (s_ret (ev_fld Q.g.cls Q.na1 (ev_v (C.v (i := 0) (by decide +kernel) rfl)))))
theorem fo_Kind_name (B : Bs mg) (Q : KG w K cl mg) {f : Addr} {fd : FuncData} (F : FunD K "name" "Kind.name" (defArgs s_Kind_name) (defBody s_Kind_name) (defScope s_Kind_name) [] [] f fd) : FnB false P w K mg base CX0 1 f fd n_Kind_name (spP K cl m_Kind_name) := fn_P F sc_Kind_name (cl := cl) (bd_Kind_name B Q )
theorem ok_Kind_name (B : Bs mg) (Q : KG w K cl mg) {f : Addr} {fd : FuncData} (F : FunD K "name" "Kind.name" (defArgs s_Kind_name) (defBody s_Kind_name) (defScope s_Kind_name) [] [] f fd) (M : Meth K (cl "Kind") "name" f) : MethG P w K mg base (cl "Kind") "name" 1 n_Kind_name (spP K cl m_Kind_name) :=
  ⟨Q.g.cls, f, fd, (fo_Kind_name B Q  F).ok, M, F.bindsN fun _ _ _ _ _ _ us hl => match us, hl with | [_], _ => rfl⟩
abbrev s_is_order_list : Stmt := (top 24)
abbrev n_is_order_list : List Str := [("kind" : Str), ("value" : Str)]
abbrev N_is_order_list : List Str := [("kind" : Str), ("value" : Str), ("size" : Str), ("item" : Str)]
theorem sc_is_order_list : FnScope N_is_order_list n_is_order_list (defScope s_is_order_list) := ⟨rfl, rfl, rfl, by decide +kernel, rfl, by decide +kernel, by decide +kernel⟩
theorem bd_is_order_list (B : Bs mg) (Q : KG w K cl mg)
    (h_Kind_size : MethG P w K mg base (cl "Kind") "size" 1 n_Kind_size (spP K cl m_Kind_size))
    (h_is_whole : FnG false P w K mg base "is_whole" 1 n_is_whole (spP K cl m_is_whole))
    (h_Kind_name : MethG P w K mg base (cl "Kind") "name" 1 n_Kind_name (spP K cl m_Kind_name)) : Body false P w K cl mg base N_is_order_list (defScope s_is_order_list) 1 (defBody s_is_order_list) mb_is_order_list := by
  intro X h1 h2 h3 h4 h5 C
  subst h1 h2 h3 h4 h5
  exact (ss_cons (s_set (C.l (i := 2) (by decide +kernel) rfl) (ef_ev (ev_meth0 h_Kind_size C.rm (ev_v (C.v (i := 0) (by decide +kernel) rfl)))))
    (ss_cons (s_if (eft_et (et_pw (ew_or (et_not (et_val (ev_isT (C.g (x := "isinstance") (by decide +kernel)) B.isinstance_ (C.g (x := "list") (by decide +kernel)) B.list_ (by decide +kernel) (ev_v (C.v (i := 1) (by decide +kernel) rfl)) (by decide +kernel) (by decide +kernel)))) (ew_or (et_cmp (op_neD C.un) rc_ne (ev_fl fl_len (ev_B call_lenD' rdl_len (C.g (x := "len") (by decide +kernel)) (B.len_) (by decide +kernel) (ea_cons (ev_v (C.v (i := 1) (by decide +kernel) rfl)) ea_nil) (by decide +kernel) (by decide +kernel))) (ev_v (C.v (i := 2) (by decide +kernel) rfl)) (nomark _)) (ew_or1 (et_cmp (op_neD C.un) rc_ne (ev_of_eo (eo_lc (own := [("item", 3)]) (fl := false) (.inl rfl) C.calm C.nd (ei_seq (ev_v (C.v (i := 1) (by decide +kernel) rfl))) (CXo.blkOk C (by decide +kernel)) (by decide) (fun s_ H_ C_ c_ fp_ => (gt_one ((CXo.blk C rfl s_ H_ C_ c_ fp_).l (i := 3) (by decide +kernel) rfl))) (fun s_ H_ C_ c_ fp_ => (ets_one (et_not (et_val (ev_call h_is_whole (fun z => nomatch z) (CXo.blk C rfl s_ H_ C_ c_ fp_).rm ((CXo.blk C rfl s_ H_ C_ c_ fp_).g (x := "is_whole") (by decide +kernel)) (ea_cons (ev_v ((CXo.blk C rfl s_ H_ C_ c_ fp_).v (i := 3) (by decide +kernel) rfl)) ea_nil) (by decide +kernel)))))) (fun s_ H_ C_ c_ fp_ => (ev_v ((CXo.blk C rfl s_ H_ C_ c_ fp_).v (i := 3) (by decide +kernel) rfl))))) (ev_of_eo (eo_lst ea_nil)) (nomark _))))))) (ss_one (s_ret ev_bl)) ss_nil)
    (ss_cons (s_if (eft_et (et_cmp (op_eqD C.un) rc_eq (ev_meth0 h_Kind_name C.rm (ev_v (C.v (i := 0) (by decide +kernel) rfl))) ev_str (nomark _))) (ss_one (s_ret (ev_cmp (op_eqD C.un) rc_eq (ev_of_eo (eo_B cr_sortedI rol_sorted (C.g (x := "sorted") (by decide +kernel)) (B.sorted_) (by decide +kernel) (ea_cons (ev_v (C.v (i := 1) (by decide +kernel) rfl)) ea_nil) (by decide +kernel) (by decide +kernel))) (ev_of_eo (eo_listRg C.calm (C.g (x := "list") (by decide +kernel)) B.list_ (er_1 (C.g (x := "range") (by decide +kernel)) B.range_ (ev_v (C.v (i := 2) (by decide +kernel) rfl))))) (nomark _)))) ss_nil)
    (ss_cons (s_if (eft_et (et_cmp (op_eqD C.un) rc_eq (ev_meth0 h_Kind_name C.rm (ev_v (C.v (i := 0) (by decide +kernel) rfl))) ev_str (nomark _))) (ss_one (s_ret (ev_cmp (op_eqD C.un) rc_eq (ev_of_eo (eo_B cr_sortedI rol_sorted (C.g (x := "sorted") (by decide +kernel)) (B.sorted_) (by decide +kernel) (ea_cons (ev_of_eo (eo_lc (own := [("item", 3)]) (fl := false) (.inl rfl) C.calm C.nd (ei_seq (ev_v (C.v (i := 1) (by decide +kernel) rfl))) (CXo.blkOk C (by decide +kernel)) (by decide) (fun s_ H_ C_ c_ fp_ => (gt_one ((CXo.blk C rfl s_ H_ C_ c_ fp_).l (i := 3) (by decide +kernel) rfl))) (fun s_ H_ C_ c_ fp_ => ets_nil) (fun s_ H_ C_ c_ fp_ => (ev_fl fl_abs (ev_B call_abs rdl_abs ((CXo.blk C rfl s_ H_ C_ c_ fp_).g (x := "abs") (by decide +kernel)) (B.abs_) (by decide +kernel) (ea_cons (ev_v ((CXo.blk C rfl s_ H_ C_ c_ fp_).v (i := 3) (by decide +kernel) rfl)) ea_nil) (by decide +kernel) (by decide +kernel)))))) ea_nil) (by decide +kernel) (by decide +kernel))) (ev_of_eo (eo_listRg C.calm (C.g (x := "list") (by decide +kernel)) B.list_ (er_2 (C.g (x := "range") (by decide +kernel)) B.range_ ev_int (ev_bin op_addD rd_add (ev_v (C.v (i := 2) (by decide +kernel) rfl)) ev_int)))) (nomark _)))) ss_nil)
    (ss_one (s_ret (ev_and (ev_cmp (op_eqD C.un) rc_eq (ev_of_eo (eo_B cr_sortedI rol_sorted (C.g (x := "sorted") (by decide +kernel)) (B.sorted_) (by decide +kernel) (ea_cons (ev_of_eo (eo_lc (own := [("item", 3)]) (fl := false) (.inl rfl) C.calm C.nd (ei_seq (ev_v (C.v (i := 1) (by decide +kernel) rfl))) (CXo.blkOk C (by decide +kernel)) (by decide) (fun s_ H_ C_ c_ fp_ => (gt_one ((CXo.blk C rfl s_ H_ C_ c_ fp_).l (i := 3) (by decide +kernel) rfl))) (fun s_ H_ C_ c_ fp_ => ets_nil) (fun s_ H_ C_ c_ fp_ => (ev_bin op_mod rd_mod (ev_v ((CXo.blk C rfl s_ H_ C_ c_ fp_).v (i := 3) (by decide +kernel) rfl)) (ev_v ((CXo.blk C rfl s_ H_ C_ c_ fp_).v (i := 2) (by decide +kernel) rfl)))))) ea_nil) (by decide +kernel) (by decide +kernel))) (ev_of_eo (eo_listRg C.calm (C.g (x := "list") (by decide +kernel)) B.list_ (er_1 (C.g (x := "range") (by decide +kernel)) B.range_ (ev_v (C.v (i := 2) (by decide +kernel) rfl))))) (nomark _)) (ev_one (ev_cmp (op_eqD C.un) rc_eq (ev_fl fl_sum (ev_B (cr_sum C.calm) rdl_sum (C.g (x := "sum") (by decide +kernel)) (B.sum_) (by decide +kernel) (ea_cons (ev_v (C.v (i := 1) (by decide +kernel) rfl)) ea_nil) (by decide +kernel) (by decide +kernel))) (ev_bin op_fdivW rd_fdiv (ev_bin op_mulD rd_mul (ev_v (C.v (i := 2) (by decide +kernel) rfl)) (ev_bin op_sub rd_sub (ev_v (C.v (i := 2) (by decide +kernel) rfl)) ev_int)) ev_int) (nomark _))))))))))
theorem fo_is_order_list (B : Bs mg) (Q : KG w K cl mg)
    (h_Kind_size : MethG P w K mg base (cl "Kind") "size" 1 n_Kind_size (spP K cl m_Kind_size))
    (h_is_whole : FnG false P w K mg base "is_whole" 1 n_is_whole (spP K cl m_is_whole))
    (h_Kind_name : MethG P w K mg base (cl "Kind") "name" 1 n_Kind_name (spP K cl m_Kind_name)) {f : Addr} {fd : FuncData} (F : FunD K "is_order_list" "is_order_list" (defArgs s_is_order_list) (defBody s_is_order_list) (defScope s_is_order_list) [] [] f fd) : FnB false P w K mg base CX0 2 f fd n_is_order_list (spP K cl m_is_order_list) := fn_P F sc_is_order_list (cl := cl) (bd_is_order_list B Q h_Kind_size h_is_whole h_Kind_name)
theorem ok_is_order_list (B : Bs mg) (Q : KG w K cl mg)
    (h_Kind_size : MethG P w K mg base (cl "Kind") "size" 1 n_Kind_size (spP K cl m_Kind_size))
    (h_is_whole : FnG false P w K mg base "is_whole" 1 n_is_whole (spP K cl m_is_whole))
    (h_Kind_name : MethG P w K mg base (cl "Kind") "name" 1 n_Kind_name (spP K cl m_Kind_name)) {f : Addr} {fd : FuncData} (F : FunD K "is_order_list" "is_order_list" (defArgs s_is_order_list) (defBody s_is_order_list) (defScope s_is_order_list) [] [] f fd) (hm : mg "is_order_list" = some (.ref f)) : FnG false P w K mg base "is_order_list" 2 n_is_order_list (spP K cl m_is_order_list) :=
  ⟨⟨f, fd, fo_is_order_list B Q h_Kind_size h_is_whole h_Kind_name F, hm, F.kp, F.bindsN fun _ _ _ _ _ _ us hl => match us, hl with | [_, _], _ => rfl⟩⟩
abbrev s_crossings_between : Stmt := (top 23)
abbrev n_crossings_between : List Str := [("kind" : Str), ("size" : Str), ("low" : Str), ("high" : Str)]
abbrev N_crossings_between : List Str := [("kind" : Str), ("size" : Str), ("low" : Str), ("high" : Str)]
theorem sc_crossings_between : FnScope N_crossings_between n_crossings_between (defScope s_crossings_between) := ⟨rfl, rfl, rfl, by decide +kernel, rfl, by decide +kernel, by decide +kernel⟩
theorem bd_crossings_between (B : Bs mg) (Q : KG w K cl mg)
    (h_Kind_name : MethG P w K mg base (cl "Kind") "name" 1 n_Kind_name (spP K cl m_Kind_name)) : Body false P w K cl mg base N_crossings_between (defScope s_crossings_between) 1 (defBody s_crossings_between) mb_crossings_between := by
  intro X h1 h2 h3 h4 h5 C
  subst h1 h2 h3 h4 h5
  exact (ss_cons (s_if (eft_et (et_cmp (op_eqD C.un) rc_eq (ev_meth0 h_Kind_name C.rm (ev_v (C.v (i := 0) (by decide +kernel) rfl))) ev_str (nomark _))) (ss_one (s_ret (ev_fl fl_abs (ev_B call_abs rdl_abs (C.g (x := "abs") (by decide +kernel)) (B.abs_) (by decide +kernel) (ea_cons (ev_bin op_fdivW rd_fdiv (ev_bin op_sub rd_sub (ev_v (C.v (i := 3) (by decide +kernel) rfl)) (ev_v (C.v (i := 2) (by decide +kernel) rfl))) (ev_v (C.v (i := 1) (by decide +kernel) rfl))) ea_nil) (by decide +kernel) (by decide +kernel))))) ss_nil)
    (ss_one (s_ret (ev_bin op_addD rd_add (ev_fl fl_int (ev_Ty call_int1 rdl_int (C.g (x := "int") (by decide +kernel)) (B.int_) (by decide +kernel) (ea_cons (ev_cmp op_gt rc_gt (ev_v (C.v (i := 2) (by decide +kernel) rfl)) (ev_v (C.v (i := 3) (by decide +kernel) rfl)) (nomark _)) ea_nil) (by decide +kernel) (by decide +kernel))) (ev_fl fl_int (ev_Ty call_int1 rdl_int (C.g (x := "int") (by decide +kernel)) (B.int_) (by decide +kernel) (ea_cons (ev_and (ev_cmp (op_eqD C.un) rc_eq (ev_meth0 h_Kind_name C.rm (ev_v (C.v (i := 0) (by decide +kernel) rfl))) ev_str (nomark _)) (ev_one (ev_cmp op_lt rc_lt (ev_bin op_addD rd_add (ev_v (C.v (i := 2) (by decide +kernel) rfl)) (ev_v (C.v (i := 3) (by decide +kernel) rfl))) ev_int (nomark _)))) ea_nil) (by decide +kernel) (by decide +kernel)))))))
theorem fo_crossings_between (B : Bs mg) (Q : KG w K cl mg)
    (h_Kind_name : MethG P w K mg base (cl "Kind") "name" 1 n_Kind_name (spP K cl m_Kind_name)) {f : Addr} {fd : FuncData} (F : FunD K "crossings_between" "crossings_between" (defArgs s_crossings_between) (defBody s_crossings_between) (defScope s_crossings_between) [] [] f fd) : FnB false P w K mg base CX0 2 f fd n_crossings_between (spP K cl m_crossings_between) := fn_P F sc_crossings_between (cl := cl) (bd_crossings_between B Q h_Kind_name)
theorem ok_crossings_between (B : Bs mg) (Q : KG w K cl mg)
    (h_Kind_name : MethG P w K mg base (cl "Kind") "name" 1 n_Kind_name (spP K cl m_Kind_name)) {f : Addr} {fd : FuncData} (F : FunD K "crossings_between" "crossings_between" (defArgs s_crossings_between) (defBody s_crossings_between) (defScope s_crossings_between) [] [] f fd) (hm : mg "crossings_between" = some (.ref f)) : FnG false P w K mg base "crossings_between" 2 n_crossings_between (spP K cl m_crossings_between) :=
  ⟨⟨f, fd, fo_crossings_between B Q h_Kind_name F, hm, F.kp, F.bindsN fun _ _ _ _ _ _ us hl => match us, hl with | [_, _, _, _], _ => rfl⟩⟩
abbrev s_crossings_of : Stmt := (top 22)
abbrev n_crossings_of : List Str := [("kind" : Str), ("order" : Str)]
abbrev N_crossings_of : List Str := [("kind" : Str), ("order" : Str), ("found" : Str), ("at" : Str), ("low" : Str), ("high" : Str)]
theorem sc_crossings_of : FnScope N_crossings_of n_crossings_of (defScope s_crossings_of) := ⟨rfl, rfl, rfl, by decide +kernel, rfl, by decide +kernel, by decide +kernel⟩
theorem bd_crossings_of (B : Bs mg) (Q : KG w K cl mg)
    (h_crossings_between : FnG false P w K mg base "crossings_between" 2 n_crossings_between (spP K cl m_crossings_between))
    (h_Kind_name : MethG P w K mg base (cl "Kind") "name" 1 n_Kind_name (spP K cl m_Kind_name)) : Body false P w K cl mg base N_crossings_of (defScope s_crossings_of) 2 (defBody s_crossings_of) mb_crossings_of := by
  intro X h1 h2 h3 h4 h5 C
  subst h1 h2 h3 h4 h5
  exact (ss_cons (s_set (C.l (i := 2) (by decide +kernel) rfl) (ef_ev ev_int))
    (ss_cons (s_for C.xe C.calm (efi_ei (ei_enum (C.g (x := "enumerate") (by decide +kernel)) B.enumerate_ (ev_v (C.v (i := 1) (by decide +kernel) rfl)))) (st_tup C.calm (sts_cons (st_name (C.l (i := 3) (by decide +kernel) rfl)) (sts_cons (st_name (C.l (i := 4) (by decide +kernel) rfl)) sts_nil))) (ss_cons (s_for C.xe C.calm (efi_ei (ei_seq (ev_of_eo (eo_cut (ev_v (C.v (i := 1) (by decide +kernel) rfl)) (ep_some (ev_bin op_addD rd_add (ev_v (C.v (i := 3) (by decide +kernel) rfl)) ev_int)) ep_none)))) (st_name (C.l (i := 5) (by decide +kernel) rfl)) (ss_one (s_set (C.l (i := 2) (by decide +kernel) rfl) (ef_ev (ev_bin op_addD rd_add (ev_v (C.v (i := 2) (by decide +kernel) rfl)) (ev_call h_crossings_between (fun z => nomatch z) C.rm (C.g (x := "crossings_between") (by decide +kernel)) (ea_cons (ev_v (C.v (i := 0) (by decide +kernel) rfl)) (ea_cons (ev_fl fl_len (ev_B call_lenD' rdl_len (C.g (x := "len") (by decide +kernel)) (B.len_) (by decide +kernel) (ea_cons (ev_v (C.v (i := 1) (by decide +kernel) rfl)) ea_nil) (by decide +kernel) (by decide +kernel))) (ea_cons (ev_v (C.v (i := 4) (by decide +kernel) rfl)) (ea_cons (ev_v (C.v (i := 5) (by decide +kernel) rfl)) ea_nil)))) (by decide +kernel)))))))
    (ss_one (s_set (C.l (i := 2) (by decide +kernel) rfl) (ef_ev (ev_bin op_addD rd_add (ev_v (C.v (i := 2) (by decide +kernel) rfl)) (ev_fl fl_int (ev_Ty call_int1 rdl_int (C.g (x := "int") (by decide +kernel)) (B.int_) (by decide +kernel) (ea_cons (ev_and (ev_cmp (op_eqD C.un) rc_eq (ev_meth0 h_Kind_name C.rm (ev_v (C.v (i := 0) (by decide +kernel) rfl))) ev_str (nomark _)) (ev_one (ev_cmp op_lt rc_lt (ev_v (C.v (i := 4) (by decide +kernel) rfl)) ev_int (nomark _)))) ea_nil) (by decide +kernel) (by decide +kernel)))))))))
    (ss_one (s_ret (ev_v (C.v (i := 2) (by decide +kernel) rfl))))))
theorem fo_crossings_of (B : Bs mg) (Q : KG w K cl mg)
    (h_crossings_between : FnG false P w K mg base "crossings_between" 2 n_crossings_between (spP K cl m_crossings_between))
    (h_Kind_name : MethG P w K mg base (cl "Kind") "name" 1 n_Kind_name (spP K cl m_Kind_name)) {f : Addr} {fd : FuncData} (F : FunD K "crossings_of" "crossings_of" (defArgs s_crossings_of) (defBody s_crossings_of) (defScope s_crossings_of) [] [] f fd) : FnB false P w K mg base CX0 3 f fd n_crossings_of (spP K cl m_crossings_of) := fn_P F sc_crossings_of (cl := cl) (bd_crossings_of B Q h_crossings_between h_Kind_name)
theorem ok_crossings_of (B : Bs mg) (Q : KG w K cl mg)
    (h_crossings_between : FnG false P w K mg base "crossings_between" 2 n_crossings_between (spP K cl m_crossings_between))
    (h_Kind_name : MethG P w K mg base (cl "Kind") "name" 1 n_Kind_name (spP K cl m_Kind_name)) {f : Addr} {fd : FuncData} (F : FunD K "crossings_of" "crossings_of" (defArgs s_crossings_of) (defBody s_crossings_of) (defScope s_crossings_of) [] [] f fd) (hm : mg "crossings_of" = some (.ref f)) : FnG false P w K mg base "crossings_of" 3 n_crossings_of (spP K cl m_crossings_of) :=
  ⟨⟨f, fd, fo_crossings_of B Q h_crossings_between h_Kind_name F, hm, F.kp, F.bindsN fun _ _ _ _ _ _ us hl => match us, hl with | [_, _], _ => rfl⟩⟩
abbrev s_is_let_order : Stmt := (top 25)
abbrev n_is_let_order : List Str := [("kind" : Str), ("value" : Str)]
abbrev N_is_let_order : List Str := [("kind" : Str), ("value" : Str)]
theorem sc_is_let_order : FnScope N_is_let_order n_is_let_order (defScope s_is_let_order) := ⟨rfl, rfl, rfl, by decide +kernel, rfl, by decide +kernel, by decide +kernel⟩
theorem bd_is_let_order (B : Bs mg) (Q : KG w K cl mg)
    (h_crossings_of : FnG false P w K mg base "crossings_of" 3 n_crossings_of (spP K cl m_crossings_of))
    (gi_MOST_CROSSINGS : ∃ t, mg "MOST_CROSSINGS" = some (.int 60 t))
    (h_is_order_list : FnG false P w K mg base "is_order_list" 2 n_is_order_list (spP K cl m_is_order_list)) : Body false P w K cl mg base N_is_let_order (defScope s_is_let_order) 3 (defBody s_is_let_order) mb_is_let_order := by
  intro X h1 h2 h3 h4 h5 C
  subst h1 h2 h3 h4 h5
  exact (ss_one (s_ret (ev_and (ev_call h_is_order_list (fun z => nomatch z) C.rm (C.g (x := "is_order_list") (by decide +kernel)) (ea_cons (ev_v (C.v (i := 0) (by decide +kernel) rfl)) (ea_cons (ev_v (C.v (i := 1) (by decide +kernel) rfl)) ea_nil)) (by decide +kernel)) (ev_one (ev_cmp op_le rc_le (ev_call h_crossings_of (fun z => nomatch z) C.rm (C.g (x := "crossings_of") (by decide +kernel)) (ea_cons (ev_v (C.v (i := 0) (by decide +kernel) rfl)) (ea_cons (ev_v (C.v (i := 1) (by decide +kernel) rfl)) ea_nil)) (by decide +kernel)) (ev_gi (C.g (x := "MOST_CROSSINGS") (by decide +kernel)) gi_MOST_CROSSINGS (by decide +kernel)) (nomark _))))))
theorem fo_is_let_order (B : Bs mg) (Q : KG w K cl mg)
    (h_crossings_of : FnG false P w K mg base "crossings_of" 3 n_crossings_of (spP K cl m_crossings_of))
    (gi_MOST_CROSSINGS : ∃ t, mg "MOST_CROSSINGS" = some (.int 60 t))
    (h_is_order_list : FnG false P w K mg base "is_order_list" 2 n_is_order_list (spP K cl m_is_order_list)) {f : Addr} {fd : FuncData} (F : FunD K "is_let_order" "is_let_order" (defArgs s_is_let_order) (defBody s_is_let_order) (defScope s_is_let_order) [] [] f fd) : FnB false P w K mg base CX0 4 f fd n_is_let_order (spP K cl m_is_let_order) := fn_P F sc_is_let_order (cl := cl) (bd_is_let_order B Q h_crossings_of gi_MOST_CROSSINGS h_is_order_list)
theorem ok_is_let_order (B : Bs mg) (Q : KG w K cl mg)
    (h_crossings_of : FnG false P w K mg base "crossings_of" 3 n_crossings_of (spP K cl m_crossings_of))
    (gi_MOST_CROSSINGS : ∃ t, mg "MOST_CROSSINGS" = some (.int 60 t))
    (h_is_order_list : FnG false P w K mg base "is_order_list" 2 n_is_order_list (spP K cl m_is_order_list)) {f : Addr} {fd : FuncData} (F : FunD K "is_let_order" "is_let_order" (defArgs s_is_let_order) (defBody s_is_let_order) (defScope s_is_let_order) [] [] f fd) (hm : mg "is_let_order" = some (.ref f)) : FnG false P w K mg base "is_let_order" 4 n_is_let_order (spP K cl m_is_let_order) :=
  ⟨⟨f, fd, fo_is_let_order B Q h_crossings_of gi_MOST_CROSSINGS h_is_order_list F, hm, F.kp, F.bindsN fun _ _ _ _ _ _ us hl => match us, hl with | [_, _], _ => rfl⟩⟩
abbrev s_check_order : Stmt := (top 26)
abbrev n_check_order : List Str := [("kind" : Str), ("order" : Str)]
abbrev N_check_order : List Str := [("kind" : Str), ("order" : Str)]
theorem sc_check_order : FnScope N_check_order n_check_order (defScope s_check_order) := ⟨rfl, rfl, rfl, by decide +kernel, rfl, by decide +kernel, by decide +kernel⟩
theorem bd_check_order (B : Bs mg) (Q : KG w K cl mg)
    (h_is_let_order : FnG false P w K mg base "is_let_order" 4 n_is_let_order (spP K cl m_is_let_order)) : Body false P w K cl mg base N_check_order (defScope s_check_order) 4 (defBody s_check_order) mb_check_order := by
  intro X h1 h2 h3 h4 h5 C
  subst h1 h2 h3 h4 h5
  exact (ss_one (s_if (eft_et (et_not (et_val (ev_call h_is_let_order (fun z => nomatch z) C.rm (C.g (x := "is_let_order") (by decide +kernel)) (ea_cons (ev_v (C.v (i := 0) (by decide +kernel) rfl)) (ea_cons (ev_v (C.v (i := 1) (by decide +kernel) rfl)) ea_nil)) (by decide +kernel))))) (ss_one s_never) ss_nil))
theorem fo_check_order (B : Bs mg) (Q : KG w K cl mg)
    (h_is_let_order : FnG false P w K mg base "is_let_order" 4 n_is_let_order (spP K cl m_is_let_order)) {f : Addr} {fd : FuncData} (F : FunD K "check_order" "check_order" (defArgs s_check_order) (defBody s_check_order) (defScope s_check_order) [] [] f fd) : FnB false P w K mg base CX0 5 f fd n_check_order (spP K cl m_check_order) := fn_P F sc_check_order (cl := cl) (bd_check_order B Q h_is_let_order)
theorem ok_check_order (B : Bs mg) (Q : KG w K cl mg)
    (h_is_let_order : FnG false P w K mg base "is_let_order" 4 n_is_let_order (spP K cl m_is_let_order)) {f : Addr} {fd : FuncData} (F : FunD K "check_order" "check_order" (defArgs s_check_order) (defBody s_check_order) (defScope s_check_order) [] [] f fd) (hm : mg "check_order" = some (.ref f)) : FnG false P w K mg base "check_order" 5 n_check_order (spP K cl m_check_order) :=
  ⟨⟨f, fd, fo_check_order B Q h_is_let_order F, hm, F.kp, F.bindsN fun _ _ _ _ _ _ us hl => match us, hl with | [_, _], _ => rfl⟩⟩
abbrev s_check_orders : Stmt := (top 28)
abbrev n_check_orders : List Str := [("kind" : Str), ("orders" : Str)]
abbrev N_check_orders : List Str := [("kind" : Str), ("orders" : Str), ("order" : Str)]
theorem sc_check_orders : FnScope N_check_orders n_check_orders (defScope s_check_orders) := ⟨rfl, rfl, rfl, by decide +kernel, rfl, by decide +kernel, by decide +kernel⟩
theorem bd_check_orders (B : Bs mg) (Q : KG w K cl mg)
    (h_check_kind : FnG false P w K mg base "check_kind" 1 n_check_kind (spP K cl m_check_kind))
    (h_check_order : FnG false P w K mg base "check_order" 5 n_check_order (spP K cl m_check_order)) : Body false P w K cl mg base N_check_orders (defScope s_check_orders) 5 (defBody s_check_orders) mb_check_orders := by
  intro X h1 h2 h3 h4 h5 C
  subst h1 h2 h3 h4 h5
  exact (ss_cons (s_expr (ef_ev (ev_call h_check_kind (fun z => nomatch z) C.rm (C.g (x := "check_kind") (by decide +kernel)) (ea_cons (ev_v (C.v (i := 0) (by decide +kernel) rfl)) ea_nil) (by decide +kernel))))
    (ss_one (s_for C.xe C.calm (efi_ei (ei_seq (ev_v (C.v (i := 1) (by decide +kernel) rfl)))) (st_name (C.l (i := 2) (by decide +kernel) rfl)) (ss_one (s_expr (ef_ev (ev_call h_check_order (fun z => nomatch z) C.rm (C.g (x := "check_order") (by decide +kernel)) (ea_cons (ev_v (C.v (i := 0) (by decide +kernel) rfl)) (ea_cons (ev_v (C.v (i := 2) (by decide +kernel) rfl)) ea_nil)) (by decide +kernel))))))))
theorem fo_check_orders (B : Bs mg) (Q : KG w K cl mg)
    (h_check_kind : FnG false P w K mg base "check_kind" 1 n_check_kind (spP K cl m_check_kind))
    (h_check_order : FnG false P w K mg base "check_order" 5 n_check_order (spP K cl m_check_order)) {f : Addr} {fd : FuncData} (F : FunD K "check_orders" "check_orders" (defArgs s_check_orders) (defBody s_check_orders) (defScope s_check_orders) [] [] f fd) : FnB false P w K mg base CX0 6 f fd n_check_orders (spP K cl m_check_orders) := fn_P F sc_check_orders (cl := cl) (bd_check_orders B Q h_check_kind h_check_order)
theorem ok_check_orders (B : Bs mg) (Q : KG w K cl mg)
    (h_check_kind : FnG false P w K mg base "check_kind" 1 n_check_kind (spP K cl m_check_kind))
    (h_check_order : FnG false P w K mg base "check_order" 5 n_check_order (spP K cl m_check_order)) {f : Addr} {fd : FuncData} (F : FunD K "check_orders" "check_orders" (defArgs s_check_orders) (defBody s_check_orders) (defScope s_check_orders) [] [] f fd) (hm : mg "check_orders" = some (.ref f)) : FnG false P w K mg base "check_orders" 6 n_check_orders (spP K cl m_check_orders) :=
  ⟨⟨f, fd, fo_check_orders B Q h_check_kind h_check_order F, hm, F.kp, F.bindsN fun _ _ _ _ _ _ us hl => match us, hl with | [_, _], _ => rfl⟩⟩
abbrev s_item_at : Stmt := (top 16)
abbrev n_item_at : List Str := [("kind" : Str), ("order" : Str), ("place" : Str)]
abbrev N_item_at : List Str := [("kind" : Str), ("order" : Str), ("place" : Str)]
theorem sc_item_at : FnScope N_item_at n_item_at (defScope s_item_at) := ⟨rfl, rfl, rfl, by decide +kernel, rfl, by decide +kernel, by decide +kernel⟩
theorem bd_item_at (B : Bs mg) (Q : KG w K cl mg)
    (h_Kind_name : MethG P w K mg base (cl "Kind") "name" 1 n_Kind_name (spP K cl m_Kind_name)) : Body false P w K cl mg base N_item_at (defScope s_item_at) 1 (defBody s_item_at) mb_item_at := by
  intro X h1 h2 h3 h4 h5 C
  subst h1 h2 h3 h4 h5
  exact (ss_cons (s_if (eft_et (et_cmp (op_eqD C.un) rc_eq (ev_meth0 h_Kind_name C.rm (ev_v (C.v (i := 0) (by decide +kernel) rfl))) ev_str (nomark _))) (ss_one (s_ret (ev_bin op_mulD rd_mul (ev_ix (ev_v (C.v (i := 1) (by decide +kernel) rfl)) (ev_bin op_sub rd_sub (ev_fl fl_abs (ev_B call_abs rdl_abs (C.g (x := "abs") (by decide +kernel)) (B.abs_) (by decide +kernel) (ea_cons (ev_v (C.v (i := 2) (by decide +kernel) rfl)) ea_nil) (by decide +kernel) (by decide +kernel))) ev_int) (fun _ _ => rfl)) (ev_if (et_cmp op_gt rc_gt (ev_v (C.v (i := 2) (by decide +kernel) rfl)) ev_int (nomark _)) ev_int (ev_un un_neg rd_neg ev_int))))) ss_nil)
    (ss_one (s_ret (ev_bin op_sub rd_sub (ev_bin op_addD rd_add (ev_ix (ev_v (C.v (i := 1) (by decide +kernel) rfl)) (ev_bin op_mod rd_mod (ev_v (C.v (i := 2) (by decide +kernel) rfl)) (ev_fl fl_len (ev_B call_lenD' rdl_len (C.g (x := "len") (by decide +kernel)) (B.len_) (by decide +kernel) (ea_cons (ev_v (C.v (i := 1) (by decide +kernel) rfl)) ea_nil) (by decide +kernel) (by decide +kernel)))) (fun _ _ => rfl)) (ev_v (C.v (i := 2) (by decide +kernel) rfl))) (ev_bin op_mod rd_mod (ev_v (C.v (i := 2) (by decide +kernel) rfl)) (ev_fl fl_len (ev_B call_lenD' rdl_len (C.g (x := "len") (by decide +kernel)) (B.len_) (by decide +kernel) (ea_cons (ev_v (C.v (i := 1) (by decide +kernel) rfl)) ea_nil) (by decide +kernel) (by decide +kernel))))))))
theorem fo_item_at (B : Bs mg) (Q : KG w K cl mg)
    (h_Kind_name : MethG P w K mg base (cl "Kind") "name" 1 n_Kind_name (spP K cl m_Kind_name)) {f : Addr} {fd : FuncData} (F : FunD K "item_at" "item_at" (defArgs s_item_at) (defBody s_item_at) (defScope s_item_at) [] [] f fd) : FnB false P w K mg base CX0 2 f fd n_item_at (spP K cl m_item_at) := fn_P F sc_item_at (cl := cl) (bd_item_at B Q h_Kind_name)
theorem ok_item_at (B : Bs mg) (Q : KG w K cl mg)
    (h_Kind_name : MethG P w K mg base (cl "Kind") "name" 1 n_Kind_name (spP K cl m_Kind_name)) {f : Addr} {fd : FuncData} (F : FunD K "item_at" "item_at" (defArgs s_item_at) (defBody s_item_at) (defScope s_item_at) [] [] f fd) (hm : mg "item_at" = some (.ref f)) : FnG false P w K mg base "item_at" 2 n_item_at (spP K cl m_item_at) :=
  ⟨⟨f, fd, fo_item_at B Q h_Kind_name F, hm, F.kp, F.bindsN fun _ _ _ _ _ _ us hl => match us, hl with | [_, _, _], _ => rfl⟩⟩
abbrev s_product_of : Stmt := (top 17)
abbrev n_product_of : List Str := [("kind" : Str), ("one" : Str), ("other" : Str)]
abbrev N_product_of : List Str := [("kind" : Str), ("one" : Str), ("other" : Str), ("place" : Str)]
theorem sc_product_of : FnScope N_product_of n_product_of (defScope s_product_of) := ⟨rfl, rfl, rfl, by decide +kernel, rfl, by decide +kernel, by decide +kernel⟩
theorem bd_product_of (B : Bs mg) (Q : KG w K cl mg)
    (h_item_at : FnG false P w K mg base "item_at" 2 n_item_at (spP K cl m_item_at)) : Body false P w K cl mg base N_product_of (defScope s_product_of) 2 (defBody s_product_of) mb_product_of := by
  intro X h1 h2 h3 h4 h5 C
  subst h1 h2 h3 h4 h5
  exact (ss_one (s_retO (eo_lc (own := [("place", 3)]) (fl := false) (.inl rfl) C.calm C.nd (ei_seq (ev_v (C.v (i := 2) (by decide +kernel) rfl))) (CXo.blkOk C (by decide +kernel)) (by decide) (fun s_ H_ C_ c_ fp_ => (gt_one ((CXo.blk C rfl s_ H_ C_ c_ fp_).l (i := 3) (by decide +kernel) rfl))) (fun s_ H_ C_ c_ fp_ => ets_nil) (fun s_ H_ C_ c_ fp_ => (ev_call h_item_at (fun z => nomatch z) (CXo.blk C rfl s_ H_ C_ c_ fp_).rm ((CXo.blk C rfl s_ H_ C_ c_ fp_).g (x := "item_at") (by decide +kernel)) (ea_cons (ev_v ((CXo.blk C rfl s_ H_ C_ c_ fp_).v (i := 0) (by decide +kernel) rfl)) (ea_cons (ev_v ((CXo.blk C rfl s_ H_ C_ c_ fp_).v (i := 1) (by decide +kernel) rfl)) (ea_cons (ev_v ((CXo.blk C rfl s_ H_ C_ c_ fp_).v (i := 3) (by decide +kernel) rfl)) ea_nil))) (by decide +kernel))))))
theorem fo_product_of (B : Bs mg) (Q : KG w K cl mg)
    (h_item_at : FnG false P w K mg base "item_at" 2 n_item_at (spP K cl m_item_at)) {f : Addr} {fd : FuncData} (F : FunD K "product_of" "product_of" (defArgs s_product_of) (defBody s_product_of) (defScope s_product_of) [] [] f fd) : FnB false P w K mg base CX0 3 f fd n_product_of (spO K cl m_product_of) := fn_O F sc_product_of (cl := cl) (bd_product_of B Q h_item_at)
theorem ok_product_of (B : Bs mg) (Q : KG w K cl mg)
    (h_item_at : FnG false P w K mg base "item_at" 2 n_item_at (spP K cl m_item_at)) {f : Addr} {fd : FuncData} (F : FunD K "product_of" "product_of" (defArgs s_product_of) (defBody s_product_of) (defScope s_product_of) [] [] f fd) (hm : mg "product_of" = some (.ref f)) : FnG false P w K mg base "product_of" 3 n_product_of (spO K cl m_product_of) :=
  ⟨⟨f, fd, fo_product_of B Q h_item_at F, hm, F.kp, F.bindsN fun _ _ _ _ _ _ us hl => match us, hl with | [_, _, _], _ => rfl⟩⟩
abbrev s_product : Stmt := (top 35)
abbrev n_product : List Str := [("kind" : Str), ("one" : Str), ("other" : Str)]
abbrev N_product : List Str := [("kind" : Str), ("one" : Str), ("other" : Str)]
theorem sc_product : FnScope N_product n_product (defScope s_product) := ⟨rfl, rfl, rfl, by decide +kernel, rfl, by decide +kernel, by decide +kernel⟩
theorem bd_product (B : Bs mg) (Q : KG w K cl mg)
    (h_check_orders : FnG false P w K mg base "check_orders" 6 n_check_orders (spP K cl m_check_orders))
    (h_product_of : FnG false P w K mg base "product_of" 3 n_product_of (spO K cl m_product_of)) : Body false P w K cl mg base N_product (defScope s_product) 6 (defBody s_product) mb_product := by
  intro X h1 h2 h3 h4 h5 C
  subst h1 h2 h3 h4 h5
  exact (ss_cons (s_expr (ef_ev (ev_call h_check_orders (fun z => nomatch z) C.rm (C.g (x := "check_orders") (by decide +kernel)) (ea_cons (ev_v (C.v (i := 0) (by decide +kernel) rfl)) (ea_cons (ev_of_eo (eo_lst (ea_cons (ev_v (C.v (i := 1) (by decide +kernel) rfl)) (ea_cons (ev_v (C.v (i := 2) (by decide +kernel) rfl)) ea_nil)))) ea_nil)) (by decide +kernel))))
    (ss_one (s_retO (eo_call h_product_of (fun z => nomatch z) C.rm (C.g (x := "product_of") (by decide +kernel)) (ea_cons (ev_v (C.v (i := 0) (by decide +kernel) rfl)) (ea_cons (ev_v (C.v (i := 1) (by decide +kernel) rfl)) (ea_cons (ev_v (C.v (i := 2) (by decide +kernel) rfl)) ea_nil))) (by decide +kernel)))))
theorem fo_product (B : Bs mg) (Q : KG w K cl mg)
    (h_check_orders : FnG false P w K mg base "check_orders" 6 n_check_orders (spP K cl m_check_orders))
    (h_product_of : FnG false P w K mg base "product_of" 3 n_product_of (spO K cl m_product_of)) {f : Addr} {fd : FuncData} (F : FunD K "product" "product" (defArgs s_product) (defBody s_product) (defScope s_product) [] [] f fd) : FnB false P w K mg base CX0 7 f fd n_product (spO K cl m_product) := fn_O F sc_product (cl := cl) (bd_product B Q h_check_orders h_product_of)
theorem ok_product (B : Bs mg) (Q : KG w K cl mg)
    (h_check_orders : FnG false P w K mg base "check_orders" 6 n_check_orders (spP K cl m_check_orders))
    (h_product_of : FnG false P w K mg base "product_of" 3 n_product_of (spO K cl m_product_of)) {f : Addr} {fd : FuncData} (F : FunD K "product" "product" (defArgs s_product) (defBody s_product) (defScope s_product) [] [] f fd) (hm : mg "product" = some (.ref f)) : FnG false P w K mg base "product" 7 n_product (spO K cl m_product) :=
  ⟨⟨f, fd, fo_product B Q h_check_orders h_product_of F, hm, F.kp, F.bindsN fun _ _ _ _ _ _ us hl => match us, hl with | [_, _, _], _ => rfl⟩⟩
abbrev s_Kind_steps : Stmt := (sub 11 3)
abbrev n_Kind_steps : List Str := [("self" : Str)]
abbrev N_Kind_steps : List Str := [("self" : Str)]
theorem sc_Kind_steps : FnScope N_Kind_steps n_Kind_steps (defScope s_Kind_steps) := ⟨rfl, rfl, rfl, by decide +kernel, rfl, by decide +kernel, by decide +kernel⟩
theorem bd_Kind_steps (B : Bs mg) (Q : KG w K cl mg) : Body false P w K cl mg base N_Kind_steps (defScope s_Kind_steps) 0 (defBody s_Kind_steps) mb_Kind_steps := by
  intro X h1 h2 h3 h4 h5 C
  subst h1 h2 h3 h4 h5
  exact (ss_one (s_ret (ev_bin op_sub rd_sub (ev_fld Q.g.cls Q.na2 (ev_v (C.v (i := 0) (by decide +kernel) rfl))) (ev_fl fl_int (ev_Ty call_int1 rdl_int (C.g (x := "int") (by decide +kernel)) (B.int_) (by decide +kernel) (ea_cons (ev_cmp (op_eqD C.un) rc_eq (ev_fld Q.g.cls Q.na1 (ev_v (C.v (i := 0) (by decide +kernel) rfl))) ev_str (nomark _)) ea_nil) (by decide +kernel) (by decide +kernel))))))
theorem fo_Kind_steps (B : Bs mg) (Q : KG w K cl mg) {f : Addr} {fd : FuncData} (F : FunD K "steps" "Kind.steps" (defArgs s_Kind_steps) (defBody s_Kind_steps) (defScope s_Kind_steps) [] [] f fd) : FnB false P w K mg base CX0 1 f fd n_Kind_steps (spP K cl m_Kind_steps) := fn_P F sc_Kind_steps (cl := cl) (bd_Kind_steps B Q )
theorem ok_Kind_steps (B : Bs mg) (Q : KG w K cl mg) {f : Addr} {fd : FuncData} (F : FunD K "steps" "Kind.steps" (defArgs s_Kind_steps) (defBody s_Kind_steps) (defScope s_Kind_steps) [] [] f fd) (M : Meth K (cl "Kind") "steps" f) : MethG P w K mg base (cl "Kind") "steps" 1 n_Kind_steps (spP K cl m_Kind_steps) :=
  ⟨Q.g.cls, f, fd, (fo_Kind_steps B Q  F).ok, M, F.bindsN fun _ _ _ _ _ _ us hl => match us, hl with | [_], _ => rfl⟩
abbrev s_check_step : Stmt := (top 13)
abbrev n_check_step : List Str := [("kind" : Str), ("step" : Str)]
abbrev N_check_step : List Str := [("kind" : Str), ("step" : Str)]
theorem sc_check_step : FnScope N_check_step n_check_step (defScope s_check_step) := ⟨rfl, rfl, rfl, by decide +kernel, rfl, by decide +kernel, by decide +kernel⟩
theorem bd_check_step (B : Bs mg) (Q : KG w K cl mg)
    (h_check_number : FnG false P w K mg base "check_number" 3 n_check_number (spP K cl m_check_number))
    (h_Kind_steps : MethG P w K mg base (cl "Kind") "steps" 1 n_Kind_steps (spP K cl m_Kind_steps)) : Body false P w K cl mg base N_check_step (defScope s_check_step) 3 (defBody s_check_step) mb_check_step := by
  intro X h1 h2 h3 h4 h5 C
  subst h1 h2 h3 h4 h5
  exact (ss_one (s_expr (ef_ev (ev_call h_check_number (fun z => nomatch z) C.rm (C.g (x := "check_number") (by decide +kernel)) (ea_cons (ev_v (C.v (i := 1) (by decide +kernel) rfl)) (ea_cons ev_int (ea_cons (ev_bin op_sub rd_sub (ev_meth0 h_Kind_steps C.rm (ev_v (C.v (i := 0) (by decide +kernel) rfl))) ev_int) ea_nil))) (by decide +kernel)))))
theorem fo_check_step (B : Bs mg) (Q : KG w K cl mg)
    (h_check_number : FnG false P w K mg base "check_number" 3 n_check_number (spP K cl m_check_number))
    (h_Kind_steps : MethG P w K mg base (cl "Kind") "steps" 1 n_Kind_steps (spP K cl m_Kind_steps)) {f : Addr} {fd : FuncData} (F : FunD K "check_step" "check_step" (defArgs s_check_step) (defBody s_check_step) (defScope s_check_step) [] [] f fd) : FnB false P w K mg base CX0 4 f fd n_check_step (spP K cl m_check_step) := fn_P F sc_check_step (cl := cl) (bd_check_step B Q h_check_number h_Kind_steps)
theorem ok_check_step (B : Bs mg) (Q : KG w K cl mg)
    (h_check_number : FnG false P w K mg base "check_number" 3 n_check_number (spP K cl m_check_number))
    (h_Kind_steps : MethG P w K mg base (cl "Kind") "steps" 1 n_Kind_steps (spP K cl m_Kind_steps)) {f : Addr} {fd : FuncData} (F : FunD K "check_step" "check_step" (defArgs s_check_step) (defBody s_check_step) (defScope s_check_step) [] [] f fd) (hm : mg "check_step" = some (.ref f)) : FnG false P w K mg base "check_step" 4 n_check_step (spP K cl m_check_step) :=
  ⟨⟨f, fd, fo_check_step B Q h_check_number h_Kind_steps F, hm, F.kp, F.bindsN fun _ _ _ _ _ _ us hl => match us, hl with | [_, _], _ => rfl⟩⟩
abbrev s_by_step : Stmt := (top 15)
abbrev n_by_step : List Str := [("kind" : Str), ("order" : Str), ("step" : Str)]
abbrev N_by_step : List Str := [("kind" : Str), ("order" : Str), ("step" : Str), ("found" : Str), ("at" : Str)]
theorem sc_by_step : FnScope N_by_step n_by_step (defScope s_by_step) := ⟨rfl, rfl, rfl, by decide +kernel, rfl, by decide +kernel, by decide +kernel⟩
theorem bd_by_step (B : Bs mg) (Q : KG w K cl mg)
    (h_Kind_name : MethG P w K mg base (cl "Kind") "name" 1 n_Kind_name (spP K cl m_Kind_name)) : Body false P w K cl mg base N_by_step (defScope s_by_step) 1 (defBody s_by_step) mb_by_step := by
  intro X h1 h2 h3 h4 h5 C
  subst h1 h2 h3 h4 h5
  exact (ss_cons (s_setO (C.l (i := 3) (by decide +kernel) rfl) (eo_Ty call_list_of rol_list (C.g (x := "list") (by decide +kernel)) (B.list_) (by decide +kernel) (ea_cons (ev_v (C.v (i := 1) (by decide +kernel) rfl)) ea_nil) (by decide +kernel) (by decide +kernel)))
    (ss_cons (s_if (eft_et (et_pw (ew_and (et_cmp (op_eqD C.un) rc_eq (ev_meth0 h_Kind_name C.rm (ev_v (C.v (i := 0) (by decide +kernel) rfl))) ev_str (nomark _)) (ew_and1 (et_cmp (op_eqD C.un) rc_eq (ev_v (C.v (i := 2) (by decide +kernel) rfl)) ev_int (nomark _)))))) (ss_one (s_asg (ef_ev (ev_un un_neg rd_neg (ev_ixo (C.v (i := 3) (by decide +kernel) rfl) ev_int (fun _ _ => rfl)))) (st_sub (C.v (i := 3) (by decide +kernel) rfl) ev_int))) (ss_one (s_if (eft_et (et_pw (ew_and (et_cmp (op_eqD C.un) rc_eq (ev_meth0 h_Kind_name C.rm (ev_v (C.v (i := 0) (by decide +kernel) rfl))) ev_str (nomark _)) (ew_and1 (et_cmp (op_eqD C.un) rc_eq (ev_v (C.v (i := 2) (by decide +kernel) rfl)) (ev_bin op_sub rd_sub (ev_fl fl_len (ev_B call_lenD' rdl_len (C.g (x := "len") (by decide +kernel)) (B.len_) (by decide +kernel) (ea_cons (ev_v (C.v (i := 1) (by decide +kernel) rfl)) ea_nil) (by decide +kernel) (by decide +kernel))) ev_int) (nomark _)))))) (ss_one (s_asg (hw := sw_subs) (ef_ev (ev_tup (ea_cons (ev_bin op_sub rd_sub (ev_ix (ev_v (C.v (i := 1) (by decide +kernel) rfl)) (ev_v (C.v (i := 2) (by decide +kernel) rfl)) (fun _ _ => rfl)) (ev_fl fl_len (ev_B call_lenD' rdl_len (C.g (x := "len") (by decide +kernel)) (B.len_) (by decide +kernel) (ea_cons (ev_v (C.v (i := 1) (by decide +kernel) rfl)) ea_nil) (by decide +kernel) (by decide +kernel)))) (ea_cons (ev_bin op_addD rd_add (ev_ix (ev_v (C.v (i := 1) (by decide +kernel) rfl)) ev_int (fun _ _ => rfl)) (ev_fl fl_len (ev_B call_lenD' rdl_len (C.g (x := "len") (by decide +kernel)) (B.len_) (by decide +kernel) (ea_cons (ev_v (C.v (i := 1) (by decide +kernel) rfl)) ea_nil) (by decide +kernel) (by decide +kernel)))) ea_nil)))) (st_tup C.calm (sts_cons (st_sub (C.v (i := 3) (by decide +kernel) rfl) ev_int) (sts_cons (st_sub (C.v (i := 3) (by decide +kernel) rfl) (ev_v (C.v (i := 2) (by decide +kernel) rfl))) sts_nil))))) (ss_cons (s_set (C.l (i := 4) (by decide +kernel) rfl) (ef_ev (ev_bin op_sub rd_sub (ev_v (C.v (i := 2) (by decide +kernel) rfl)) (ev_fl fl_int (ev_Ty call_int1 rdl_int (C.g (x := "int") (by decide +kernel)) (B.int_) (by decide +kernel) (ea_cons (ev_cmp (op_eqD C.un) rc_eq (ev_meth0 h_Kind_name C.rm (ev_v (C.v (i := 0) (by decide +kernel) rfl))) ev_str (nomark _)) ea_nil) (by decide +kernel) (by decide +kernel))))))
    (ss_one (s_asg (hw := sw_subs) (ef_ev (ev_tup (ea_cons (ev_ix (ev_v (C.v (i := 1) (by decide +kernel) rfl)) (ev_bin op_addD rd_add (ev_v (C.v (i := 4) (by decide +kernel) rfl)) ev_int) (fun _ _ => rfl)) (ea_cons (ev_ix (ev_v (C.v (i := 1) (by decide +kernel) rfl)) (ev_v (C.v (i := 4) (by decide +kernel) rfl)) (fun _ _ => rfl)) ea_nil)))) (st_tup C.calm (sts_cons (st_sub (C.v (i := 3) (by decide +kernel) rfl) (ev_v (C.v (i := 4) (by decide +kernel) rfl))) (sts_cons (st_sub (C.v (i := 3) (by decide +kernel) rfl) (ev_bin op_addD rd_add (ev_v (C.v (i := 4) (by decide +kernel) rfl)) ev_int)) sts_nil)))))))))
    (ss_one (s_retV (C.v (i := 3) (by decide +kernel) rfl)))))
theorem fo_by_step (B : Bs mg) (Q : KG w K cl mg)
    (h_Kind_name : MethG P w K mg base (cl "Kind") "name" 1 n_Kind_name (spP K cl m_Kind_name)) {f : Addr} {fd : FuncData} (F : FunD K "by_step" "by_step" (defArgs s_by_step) (defBody s_by_step) (defScope s_by_step) [] [] f fd) : FnB false P w K mg base CX0 2 f fd n_by_step (spO K cl m_by_step) := fn_O F sc_by_step (cl := cl) (bd_by_step B Q h_Kind_name)
theorem ok_by_step (B : Bs mg) (Q : KG w K cl mg)
    (h_Kind_name : MethG P w K mg base (cl "Kind") "name" 1 n_Kind_name (spP K cl m_Kind_name)) {f : Addr} {fd : FuncData} (F : FunD K "by_step" "by_step" (defArgs s_by_step) (defBody s_by_step) (defScope s_by_step) [] [] f fd) (hm : mg "by_step" = some (.ref f)) : FnG false P w K mg base "by_step" 2 n_by_step (spO K cl m_by_step) :=
  ⟨⟨f, fd, fo_by_step B Q h_Kind_name F, hm, F.kp, F.bindsN fun _ _ _ _ _ _ us hl => match us, hl with | [_, _, _], _ => rfl⟩⟩
abbrev s_stepped : Stmt := (top 32)
abbrev n_stepped : List Str := [("kind" : Str), ("order" : Str), ("step" : Str)]
abbrev N_stepped : List Str := [("kind" : Str), ("order" : Str), ("step" : Str)]
theorem sc_stepped : FnScope N_stepped n_stepped (defScope s_stepped) := ⟨rfl, rfl, rfl, by decide +kernel, rfl, by decide +kernel, by decide +kernel⟩
theorem bd_stepped (B : Bs mg) (Q : KG w K cl mg)
    (h_check_orders : FnG false P w K mg base "check_orders" 6 n_check_orders (spP K cl m_check_orders))
    (h_check_step : FnG false P w K mg base "check_step" 4 n_check_step (spP K cl m_check_step))
    (h_by_step : FnG false P w K mg base "by_step" 2 n_by_step (spO K cl m_by_step)) : Body false P w K cl mg base N_stepped (defScope s_stepped) 6 (defBody s_stepped) mb_stepped := by
  intro X h1 h2 h3 h4 h5 C
  subst h1 h2 h3 h4 h5
  exact (ss_cons (s_expr (ef_ev (ev_call h_check_orders (fun z => nomatch z) C.rm (C.g (x := "check_orders") (by decide +kernel)) (ea_cons (ev_v (C.v (i := 0) (by decide +kernel) rfl)) (ea_cons (ev_of_eo (eo_lst (ea_cons (ev_v (C.v (i := 1) (by decide +kernel) rfl)) ea_nil))) ea_nil)) (by decide +kernel))))
    (ss_cons (s_expr (ef_ev (ev_call h_check_step (fun z => nomatch z) C.rm (C.g (x := "check_step") (by decide +kernel)) (ea_cons (ev_v (C.v (i := 0) (by decide +kernel) rfl)) (ea_cons (ev_v (C.v (i := 2) (by decide +kernel) rfl)) ea_nil)) (by decide +kernel))))
    (ss_one (s_retO (eo_call h_by_step (fun z => nomatch z) C.rm (C.g (x := "by_step") (by decide +kernel)) (ea_cons (ev_v (C.v (i := 0) (by decide +kernel) rfl)) (ea_cons (ev_v (C.v (i := 1) (by decide +kernel) rfl)) (ea_cons (ev_v (C.v (i := 2) (by decide +kernel) rfl)) ea_nil))) (by decide +kernel))))))
theorem fo_stepped (B : Bs mg) (Q : KG w K cl mg)
    (h_check_orders : FnG false P w K mg base "check_orders" 6 n_check_orders (spP K cl m_check_orders))
    (h_check_step : FnG false P w K mg base "check_step" 4 n_check_step (spP K cl m_check_step))
    (h_by_step : FnG false P w K mg base "by_step" 2 n_by_step (spO K cl m_by_step)) {f : Addr} {fd : FuncData} (F : FunD K "stepped" "stepped" (defArgs s_stepped) (defBody s_stepped) (defScope s_stepped) [] [] f fd) : FnB false P w K mg base CX0 7 f fd n_stepped (spO K cl m_stepped) := fn_O F sc_stepped (cl := cl) (bd_stepped B Q h_check_orders h_check_step h_by_step)
theorem ok_stepped (B : Bs mg) (Q : KG w K cl mg)
    (h_check_orders : FnG false P w K mg base "check_orders" 6 n_check_orders (spP K cl m_check_orders))
    (h_check_step : FnG false P w K mg base "check_step" 4 n_check_step (spP K cl m_check_step))
    (h_by_step : FnG false P w K mg base "by_step" 2 n_by_step (spO K cl m_by_step)) {f : Addr} {fd : FuncData} (F : FunD K "stepped" "stepped" (defArgs s_stepped) (defBody s_stepped) (defScope s_stepped) [] [] f fd) (hm : mg "stepped" = some (.ref f)) : FnG false P w K mg base "stepped" 7 n_stepped (spO K cl m_stepped) :=
  ⟨⟨f, fd, fo_stepped B Q h_check_orders h_check_step h_by_step F, hm, F.kp, F.bindsN fun _ _ _ _ _ _ us hl => match us, hl with | [_, _, _], _ => rfl⟩⟩
abbrev s_opposite_of : Stmt := (top 18)
abbrev n_opposite_of : List Str := [("kind" : Str), ("order" : Str)]
abbrev N_opposite_of : List Str := [("kind" : Str), ("order" : Str), ("found" : Str), ("at" : Str), ("item" : Str)]
theorem sc_opposite_of : FnScope N_opposite_of n_opposite_of (defScope s_opposite_of) := ⟨rfl, rfl, rfl, by decide +kernel, rfl, by decide +kernel, by decide +kernel⟩
theorem bd_opposite_of (B : Bs mg) (Q : KG w K cl mg)
    (h_Kind_name : MethG P w K mg base (cl "Kind") "name" 1 n_Kind_name (spP K cl m_Kind_name)) : Body false P w K cl mg base N_opposite_of (defScope s_opposite_of) 1 (defBody s_opposite_of) mb_opposite_of := by
  intro X h1 h2 h3 h4 h5 C
  subst h1 h2 h3 h4 h5
  exact (ss_cons (s_setO (C.l (i := 2) (by decide +kernel) rfl) (eo_bin op_rep ro_rep (ev_of_eo (eo_lst (ea_cons ev_int ea_nil))) (ev_fl fl_len (ev_B call_lenD' rdl_len (C.g (x := "len") (by decide +kernel)) (B.len_) (by decide +kernel) (ea_cons (ev_v (C.v (i := 1) (by decide +kernel) rfl)) ea_nil) (by decide +kernel) (by decide +kernel)))))
    (ss_cons (s_for C.xe C.calm (efi_ei (ei_enum (C.g (x := "enumerate") (by decide +kernel)) B.enumerate_ (ev_v (C.v (i := 1) (by decide +kernel) rfl)))) (st_tup C.calm (sts_cons (st_name (C.l (i := 3) (by decide +kernel) rfl)) (sts_cons (st_name (C.l (i := 4) (by decide +kernel) rfl)) sts_nil))) (ss_one (s_if (eft_et (et_cmp (op_eqD C.un) rc_eq (ev_meth0 h_Kind_name C.rm (ev_v (C.v (i := 0) (by decide +kernel) rfl))) ev_str (nomark _))) (ss_one (s_asg (ef_ev (ev_bin op_mulD rd_mul (ev_bin op_addD rd_add (ev_v (C.v (i := 3) (by decide +kernel) rfl)) ev_int) (ev_if (et_cmp op_gt rc_gt (ev_v (C.v (i := 4) (by decide +kernel) rfl)) ev_int (nomark _)) ev_int (ev_un un_neg rd_neg ev_int)))) (st_sub (C.v (i := 2) (by decide +kernel) rfl) (ev_bin op_sub rd_sub (ev_fl fl_abs (ev_B call_abs rdl_abs (C.g (x := "abs") (by decide +kernel)) (B.abs_) (by decide +kernel) (ea_cons (ev_v (C.v (i := 4) (by decide +kernel) rfl)) ea_nil) (by decide +kernel) (by decide +kernel))) ev_int)))) (ss_one (s_asg (ef_ev (ev_bin op_sub rd_sub (ev_v (C.v (i := 3) (by decide +kernel) rfl)) (ev_bin op_sub rd_sub (ev_v (C.v (i := 4) (by decide +kernel) rfl)) (ev_bin op_mod rd_mod (ev_v (C.v (i := 4) (by decide +kernel) rfl)) (ev_fl fl_len (ev_B call_lenD' rdl_len (C.g (x := "len") (by decide +kernel)) (B.len_) (by decide +kernel) (ea_cons (ev_v (C.v (i := 1) (by decide +kernel) rfl)) ea_nil) (by decide +kernel) (by decide +kernel))))))) (st_sub (C.v (i := 2) (by decide +kernel) rfl) (ev_bin op_mod rd_mod (ev_v (C.v (i := 4) (by decide +kernel) rfl)) (ev_fl fl_len (ev_B call_lenD' rdl_len (C.g (x := "len") (by decide +kernel)) (B.len_) (by decide +kernel) (ea_cons (ev_v (C.v (i := 1) (by decide +kernel) rfl)) ea_nil) (by decide +kernel) (by decide +kernel))))))))))
    (ss_one (s_retV (C.v (i := 2) (by decide +kernel) rfl)))))
theorem fo_opposite_of (B : Bs mg) (Q : KG w K cl mg)
    (h_Kind_name : MethG P w K mg base (cl "Kind") "name" 1 n_Kind_name (spP K cl m_Kind_name)) {f : Addr} {fd : FuncData} (F : FunD K "opposite_of" "opposite_of" (defArgs s_opposite_of) (defBody s_opposite_of) (defScope s_opposite_of) [] [] f fd) : FnB false P w K mg base CX0 2 f fd n_opposite_of (spO K cl m_opposite_of) := fn_O F sc_opposite_of (cl := cl) (bd_opposite_of B Q h_Kind_name)
theorem ok_opposite_of (B : Bs mg) (Q : KG w K cl mg)
    (h_Kind_name : MethG P w K mg base (cl "Kind") "name" 1 n_Kind_name (spP K cl m_Kind_name)) {f : Addr} {fd : FuncData} (F : FunD K "opposite_of" "opposite_of" (defArgs s_opposite_of) (defBody s_opposite_of) (defScope s_opposite_of) [] [] f fd) (hm : mg "opposite_of" = some (.ref f)) : FnG false P w K mg base "opposite_of" 2 n_opposite_of (spO K cl m_opposite_of) :=
  ⟨⟨f, fd, fo_opposite_of B Q h_Kind_name F, hm, F.kp, F.bindsN fun _ _ _ _ _ _ us hl => match us, hl with | [_, _], _ => rfl⟩⟩
abbrev s_opposite : Stmt := (top 34)
abbrev n_opposite : List Str := [("kind" : Str), ("order" : Str)]
abbrev N_opposite : List Str := [("kind" : Str), ("order" : Str)]
theorem sc_opposite : FnScope N_opposite n_opposite (defScope s_opposite) := ⟨rfl, rfl, rfl, by decide +kernel, rfl, by decide +kernel, by decide +kernel⟩
theorem bd_opposite (B : Bs mg) (Q : KG w K cl mg)
    (h_check_orders : FnG false P w K mg base "check_orders" 6 n_check_orders (spP K cl m_check_orders))
    (h_opposite_of : FnG false P w K mg base "opposite_of" 2 n_opposite_of (spO K cl m_opposite_of)) : Body false P w K cl mg base N_opposite (defScope s_opposite) 6 (defBody s_opposite) mb_opposite := by
  intro X h1 h2 h3 h4 h5 C
  subst h1 h2 h3 h4 h5
  exact (ss_cons (s_expr (ef_ev (ev_call h_check_orders (fun z => nomatch z) C.rm (C.g (x := "check_orders") (by decide +kernel)) (ea_cons (ev_v (C.v (i := 0) (by decide +kernel) rfl)) (ea_cons (ev_of_eo (eo_lst (ea_cons (ev_v (C.v (i := 1) (by decide +kernel) rfl)) ea_nil))) ea_nil)) (by decide +kernel))))
    (ss_one (s_retO (eo_call h_opposite_of (fun z => nomatch z) C.rm (C.g (x := "opposite_of") (by decide +kernel)) (ea_cons (ev_v (C.v (i := 0) (by decide +kernel) rfl)) (ea_cons (ev_v (C.v (i := 1) (by decide +kernel) rfl)) ea_nil)) (by decide +kernel)))))
theorem fo_opposite (B : Bs mg) (Q : KG w K cl mg)
    (h_check_orders : FnG false P w K mg base "check_orders" 6 n_check_orders (spP K cl m_check_orders))
    (h_opposite_of : FnG false P w K mg base "opposite_of" 2 n_opposite_of (spO K cl m_opposite_of)) {f : Addr} {fd : FuncData} (F : FunD K "opposite" "opposite" (defArgs s_opposite) (defBody s_opposite) (defScope s_opposite) [] [] f fd) : FnB false P w K mg base CX0 7 f fd n_opposite (spO K cl m_opposite) := fn_O F sc_opposite (cl := cl) (bd_opposite B Q h_check_orders h_opposite_of)
theorem ok_opposite (B : Bs mg) (Q : KG w K cl mg)
    (h_check_orders : FnG false P w K mg base "check_orders" 6 n_check_orders (spP K cl m_check_orders))
    (h_opposite_of : FnG false P w K mg base "opposite_of" 2 n_opposite_of (spO K cl m_opposite_of)) {f : Addr} {fd : FuncData} (F : FunD K "opposite" "opposite" (defArgs s_opposite) (defBody s_opposite) (defScope s_opposite) [] [] f fd) (hm : mg "opposite" = some (.ref f)) : FnG false P w K mg base "opposite" 7 n_opposite (spO K cl m_opposite) :=
  ⟨⟨f, fd, fo_opposite B Q h_check_orders h_opposite_of F, hm, F.kp, F.bindsN fun _ _ _ _ _ _ us hl => match us, hl with | [_, _], _ => rfl⟩⟩
abbrev s_crossings : Stmt := (top 29)
abbrev n_crossings : List Str := [("kind" : Str), ("order" : Str)]
abbrev N_crossings : List Str := [("kind" : Str), ("order" : Str)]
theorem sc_crossings : FnScope N_crossings n_crossings (defScope s_crossings) := ⟨rfl, rfl, rfl, by decide +kernel, rfl, by decide +kernel, by decide +kernel⟩
theorem bd_crossings (B : Bs mg) (Q : KG w K cl mg)
    (h_check_orders : FnG false P w K mg base "check_orders" 6 n_check_orders (spP K cl m_check_orders))
    (h_crossings_of : FnG false P w K mg base "crossings_of" 3 n_crossings_of (spP K cl m_crossings_of)) : Body false P w K cl mg base N_crossings (defScope s_crossings) 6 (defBody s_crossings) mb_crossings := by
  intro X h1 h2 h3 h4 h5 C
  subst h1 h2 h3 h4 h5
  exact (ss_cons (s_expr (ef_ev (ev_call h_check_orders (fun z => nomatch z) C.rm (C.g (x := "check_orders") (by decide +kernel)) (ea_cons (ev_v (C.v (i := 0) (by decide +kernel) rfl)) (ea_cons (ev_of_eo (eo_lst (ea_cons (ev_v (C.v (i := 1) (by decide +kernel) rfl)) ea_nil))) ea_nil)) (by decide +kernel))))
    (ss_one (s_ret (ev_call h_crossings_of (fun z => nomatch z) C.rm (C.g (x := "crossings_of") (by decide +kernel)) (ea_cons (ev_v (C.v (i := 0) (by decide +kernel) rfl)) (ea_cons (ev_v (C.v (i := 1) (by decide +kernel) rfl)) ea_nil)) (by decide +kernel)))))
theorem fo_crossings (B : Bs mg) (Q : KG w K cl mg)
    (h_check_orders : FnG false P w K mg base "check_orders" 6 n_check_orders (spP K cl m_check_orders))
    (h_crossings_of : FnG false P w K mg base "crossings_of" 3 n_crossings_of (spP K cl m_crossings_of)) {f : Addr} {fd : FuncData} (F : FunD K "crossings" "crossings" (defArgs s_crossings) (defBody s_crossings) (defScope s_crossings) [] [] f fd) : FnB false P w K mg base CX0 7 f fd n_crossings (spP K cl m_crossings) := fn_P F sc_crossings (cl := cl) (bd_crossings B Q h_check_orders h_crossings_of)
theorem ok_crossings (B : Bs mg) (Q : KG w K cl mg)
    (h_check_orders : FnG false P w K mg base "check_orders" 6 n_check_orders (spP K cl m_check_orders))
    (h_crossings_of : FnG false P w K mg base "crossings_of" 3 n_crossings_of (spP K cl m_crossings_of)) {f : Addr} {fd : FuncData} (F : FunD K "crossings" "crossings" (defArgs s_crossings) (defBody s_crossings) (defScope s_crossings) [] [] f fd) (hm : mg "crossings" = some (.ref f)) : FnG false P w K mg base "crossings" 7 n_crossings (spP K cl m_crossings) :=
  ⟨⟨f, fd, fo_crossings B Q h_check_orders h_crossings_of F, hm, F.kp, F.bindsN fun _ _ _ _ _ _ us hl => match us, hl with | [_, _], _ => rfl⟩⟩
abbrev s__law_many : Stmt := (top 42)
abbrev n__law_many : List Str := [("_law_told" : Str)]
abbrev N__law_many : List Str := [("_law_told" : Str)]
theorem sc__law_many : FnScope N__law_many n__law_many (defScope s__law_many) := ⟨rfl, rfl, rfl, by decide +kernel, rfl, by decide +kernel, by decide +kernel⟩
theorem bd__law_many (B : Bs mg) (Q : KG w K cl mg) : Body false P w K cl mg base N__law_many (defScope s__law_many) 0 (defBody s__law_many) mb__law_many := by
  intro X h1 h2 h3 h4 h5 C
  subst h1 h2 h3 h4 h5
  exact (ss_one (s_ret (ev_bin op_sub rd_sub (ev_ix (ev_v (C.v (i := 0) (by decide +kernel) rfl)) ev_int (fun _ _ => rfl)) (ev_fl fl_int (ev_Ty call_int1 rdl_int (C.g (x := "int") (by decide +kernel)) (B.int_) (by decide +kernel) (ea_cons (ev_cmp (op_eqD C.un) rc_eq (ev_ix (ev_v (C.v (i := 0) (by decide +kernel) rfl)) ev_int (fun _ _ => rfl)) ev_str (nomark _)) ea_nil) (by decide +kernel) (by decide +kernel))))))
theorem fo__law_many (B : Bs mg) (Q : KG w K cl mg) {f : Addr} {fd : FuncData} (F : FunD K "_law_many" "_law_many" (defArgs s__law_many) (defBody s__law_many) (defScope s__law_many) [] [] f fd) : FnB false P w K mg base CX0 1 f fd n__law_many (spP K cl m__law_many) := fn_P F sc__law_many (cl := cl) (bd__law_many B Q )
theorem ok__law_many (B : Bs mg) (Q : KG w K cl mg) {f : Addr} {fd : FuncData} (F : FunD K "_law_many" "_law_many" (defArgs s__law_many) (defBody s__law_many) (defScope s__law_many) [] [] f fd) (hm : mg "_law_many" = some (.ref f)) : FnG false P w K mg base "_law_many" 1 n__law_many (spP K cl m__law_many) :=
  ⟨⟨f, fd, fo__law_many B Q  F, hm, F.kp, F.bindsN fun _ _ _ _ _ _ us hl => match us, hl with | [_], _ => rfl⟩⟩
abbrev s__law_row : Stmt := (top 53)
abbrev n__law_row : List Str := [("_law_generator_here" : Str), ("_law_told" : Str), ("_law_most" : Str)]
abbrev N__law_row : List Str := [("_law_generator_here" : Str), ("_law_told" : Str), ("_law_most" : Str), ("_law_turn" : Str)]
theorem sc__law_row : FnScope N__law_row n__law_row (defScope s__law_row) := ⟨rfl, rfl, rfl, by decide +kernel, rfl, by decide +kernel, by decide +kernel⟩
theorem bd__law_row (B : Bs mg) (Q : KG w K cl mg)
    (h__law_many : FnG false P w K mg base "_law_many" 1 n__law_many (spP K cl m__law_many))
    (h__law_random : FnG false P w K mg base "_law_random" 2 n__law_random (spF K cl m__law_random)) : Body false P w K cl mg base N__law_row (defScope s__law_row) 2 (defBody s__law_row) mb__law_row := by
  intro X h1 h2 h3 h4 h5 C
  subst h1 h2 h3 h4 h5
  exact (ss_cons (s_if (eft_et (et_cmp (op_eqD C.un) rc_eq (ev_call h__law_many (fun z => nomatch z) C.rm (C.g (x := "_law_many") (by decide +kernel)) (ea_cons (ev_v (C.v (i := 1) (by decide +kernel) rfl)) ea_nil) (by decide +kernel)) ev_int (nomark _))) (ss_one (s_ret (ev_of_eo (eo_lst ea_nil)))) ss_nil)
    (ss_one (s_retF (ef_lc (own := [("_law_turn", 3)]) C.calm C.nd (efi_rg1 (C.g (x := "range") (by decide +kernel)) B.range_ (ef_callF h__law_random (fun z => nomatch z) C.rm (C.g (x := "_law_random") (by decide +kernel)) (C.v (i := 0) (by decide +kernel) rfl) (efa_ea (ea_cons (ev_bin op_addD rd_add (ev_v (C.v (i := 2) (by decide +kernel) rfl)) ev_int) ea_nil)) (by decide +kernel))) (CXo.blkOk C (by decide +kernel)) (by decide) (fun s_ H_ C_ c_ fp_ => (gt_one ((CXo.blk C rfl s_ H_ C_ c_ fp_).l (i := 3) (by decide +kernel) rfl))) (fun s_ H_ C_ c_ fp_ => (ef_callF h__law_random (fun z => nomatch z) (CXo.blk C rfl s_ H_ C_ c_ fp_).rm ((CXo.blk C rfl s_ H_ C_ c_ fp_).g (x := "_law_random") (by decide +kernel)) ((CXo.blk C rfl s_ H_ C_ c_ fp_).v (i := 0) (by decide +kernel) rfl) (efa_ea (ea_cons (ev_call h__law_many (fun z => nomatch z) (CXo.blk C rfl s_ H_ C_ c_ fp_).rm ((CXo.blk C rfl s_ H_ C_ c_ fp_).g (x := "_law_many") (by decide +kernel)) (ea_cons (ev_v ((CXo.blk C rfl s_ H_ C_ c_ fp_).v (i := 1) (by decide +kernel) rfl)) ea_nil) (by decide +kernel)) ea_nil)) (by decide +kernel)))))))
theorem fo__law_row (B : Bs mg) (Q : KG w K cl mg)
    (h__law_many : FnG false P w K mg base "_law_many" 1 n__law_many (spP K cl m__law_many))
    (h__law_random : FnG false P w K mg base "_law_random" 2 n__law_random (spF K cl m__law_random)) {f : Addr} {fd : FuncData} (F : FunD K "_law_row" "_law_row" (defArgs s__law_row) (defBody s__law_row) (defScope s__law_row) [] [] f fd) : FnB false P w K mg base CX0 3 f fd n__law_row (spF K cl m__law_row) := fn_F F sc__law_row (cl := cl) (by decide) (by decide) (bd__law_row B Q h__law_many h__law_random)
theorem ok__law_row (B : Bs mg) (Q : KG w K cl mg)
    (h__law_many : FnG false P w K mg base "_law_many" 1 n__law_many (spP K cl m__law_many))
    (h__law_random : FnG false P w K mg base "_law_random" 2 n__law_random (spF K cl m__law_random)) {f : Addr} {fd : FuncData} (F : FunD K "_law_row" "_law_row" (defArgs s__law_row) (defBody s__law_row) (defScope s__law_row) [] [] f fd) (hm : mg "_law_row" = some (.ref f)) : FnG false P w K mg base "_law_row" 3 n__law_row (spF K cl m__law_row) :=
  ⟨⟨f, fd, fo__law_row B Q h__law_many h__law_random F, hm, F.kp, F.bindsN fun _ _ _ _ _ _ us hl => match us, hl with | [_, _, _], _ => rfl⟩⟩
abbrev s__law_product : Stmt := (top 49)
abbrev n__law_product : List Str := [("_law_told" : Str), ("_law_one" : Str), ("_law_other" : Str)]
abbrev N__law_product : List Str := [("_law_told" : Str), ("_law_one" : Str), ("_law_other" : Str), ("_law_place" : Str)]
theorem sc__law_product : FnScope N__law_product n__law_product (defScope s__law_product) := ⟨rfl, rfl, rfl, by decide +kernel, rfl, by decide +kernel, by decide +kernel⟩
theorem bd__law_product (B : Bs mg) (Q : KG w K cl mg)
    (h__law_item : FnG false P w K mg base "_law_item" 1 n__law_item (spP K cl m__law_item)) : Body false P w K cl mg base N__law_product (defScope s__law_product) 1 (defBody s__law_product) mb__law_product := by
  intro X h1 h2 h3 h4 h5 C
  subst h1 h2 h3 h4 h5
  exact (ss_one (s_retO (eo_lc (own := [("_law_place", 3)]) (fl := false) (.inl rfl) C.calm C.nd (ei_seq (ev_v (C.v (i := 2) (by decide +kernel) rfl))) (CXo.blkOk C (by decide +kernel)) (by decide) (fun s_ H_ C_ c_ fp_ => (gt_one ((CXo.blk C rfl s_ H_ C_ c_ fp_).l (i := 3) (by decide +kernel) rfl))) (fun s_ H_ C_ c_ fp_ => ets_nil) (fun s_ H_ C_ c_ fp_ => (ev_call h__law_item (fun z => nomatch z) (CXo.blk C rfl s_ H_ C_ c_ fp_).rm ((CXo.blk C rfl s_ H_ C_ c_ fp_).g (x := "_law_item") (by decide +kernel)) (ea_cons (ev_v ((CXo.blk C rfl s_ H_ C_ c_ fp_).v (i := 0) (by decide +kernel) rfl)) (ea_cons (ev_v ((CXo.blk C rfl s_ H_ C_ c_ fp_).v (i := 1) (by decide +kernel) rfl)) (ea_cons (ev_v ((CXo.blk C rfl s_ H_ C_ c_ fp_).v (i := 3) (by decide +kernel) rfl)) ea_nil))) (by decide +kernel))))))
theorem fo__law_product (B : Bs mg) (Q : KG w K cl mg)
    (h__law_item : FnG false P w K mg base "_law_item" 1 n__law_item (spP K cl m__law_item)) {f : Addr} {fd : FuncData} (F : FunD K "_law_product" "_law_product" (defArgs s__law_product) (defBody s__law_product) (defScope s__law_product) [] [] f fd) : FnB false P w K mg base CX0 2 f fd n__law_product (spO K cl m__law_product) := fn_O F sc__law_product (cl := cl) (bd__law_product B Q h__law_item)
theorem ok__law_product (B : Bs mg) (Q : KG w K cl mg)
    (h__law_item : FnG false P w K mg base "_law_item" 1 n__law_item (spP K cl m__law_item)) {f : Addr} {fd : FuncData} (F : FunD K "_law_product" "_law_product" (defArgs s__law_product) (defBody s__law_product) (defScope s__law_product) [] [] f fd) (hm : mg "_law_product" = some (.ref f)) : FnG false P w K mg base "_law_product" 2 n__law_product (spO K cl m__law_product) :=
  ⟨⟨f, fd, fo__law_product B Q h__law_item F, hm, F.kp, F.bindsN fun _ _ _ _ _ _ us hl => match us, hl with | [_, _, _], _ => rfl⟩⟩
abbrev s_is_crossed : Stmt := (top 14)
abbrev n_is_crossed : List Str := [("kind" : Str), ("order" : Str), ("step" : Str)]
abbrev N_is_crossed : List Str := [("kind" : Str), ("order" : Str), ("step" : Str)]
theorem sc_is_crossed : FnScope N_is_crossed n_is_crossed (defScope s_is_crossed) := ⟨rfl, rfl, rfl, by decide +kernel, rfl, by decide +kernel, by decide +kernel⟩
theorem bd_is_crossed (B : Bs mg) (Q : KG w K cl mg)
    (h_Kind_name : MethG P w K mg base (cl "Kind") "name" 1 n_Kind_name (spP K cl m_Kind_name)) : Body false P w K cl mg base N_is_crossed (defScope s_is_crossed) 1 (defBody s_is_crossed) mb_is_crossed := by
  intro X h1 h2 h3 h4 h5 C
  subst h1 h2 h3 h4 h5
  exact (ss_cons (s_if (eft_et (et_cmp (op_eqD C.un) rc_eq (ev_meth0 h_Kind_name C.rm (ev_v (C.v (i := 0) (by decide +kernel) rfl))) ev_str (nomark _))) (ss_one (s_ret (ev_if (et_cmp (op_eqD C.un) rc_eq (ev_v (C.v (i := 2) (by decide +kernel) rfl)) ev_int (nomark _)) (ev_cmp op_lt rc_lt (ev_ix (ev_v (C.v (i := 1) (by decide +kernel) rfl)) ev_int (fun _ _ => rfl)) ev_int (nomark _)) (ev_cmp op_gt rc_gt (ev_ix (ev_v (C.v (i := 1) (by decide +kernel) rfl)) (ev_bin op_sub rd_sub (ev_v (C.v (i := 2) (by decide +kernel) rfl)) ev_int) (fun _ _ => rfl)) (ev_ix (ev_v (C.v (i := 1) (by decide +kernel) rfl)) (ev_v (C.v (i := 2) (by decide +kernel) rfl)) (fun _ _ => rfl)) (nomark _))))) ss_nil)
    (ss_cons (s_if (eft_et (et_pw (ew_and (et_cmp (op_eqD C.un) rc_eq (ev_meth0 h_Kind_name C.rm (ev_v (C.v (i := 0) (by decide +kernel) rfl))) ev_str (nomark _)) (ew_and1 (et_cmp (op_eqD C.un) rc_eq (ev_v (C.v (i := 2) (by decide +kernel) rfl)) (ev_bin op_sub rd_sub (ev_fl fl_len (ev_B call_lenD' rdl_len (C.g (x := "len") (by decide +kernel)) (B.len_) (by decide +kernel) (ea_cons (ev_v (C.v (i := 1) (by decide +kernel) rfl)) ea_nil) (by decide +kernel) (by decide +kernel))) ev_int) (nomark _)))))) (ss_one (s_ret (ev_cmp op_gt rc_gt (ev_ix (ev_v (C.v (i := 1) (by decide +kernel) rfl)) (ev_v (C.v (i := 2) (by decide +kernel) rfl)) (fun _ _ => rfl)) (ev_bin op_addD rd_add (ev_ix (ev_v (C.v (i := 1) (by decide +kernel) rfl)) ev_int (fun _ _ => rfl)) (ev_fl fl_len (ev_B call_lenD' rdl_len (C.g (x := "len") (by decide +kernel)) (B.len_) (by decide +kernel) (ea_cons (ev_v (C.v (i := 1) (by decide +kernel) rfl)) ea_nil) (by decide +kernel) (by decide +kernel)))) (nomark _)))) ss_nil)
    (ss_one (s_ret (ev_cmp op_gt rc_gt (ev_ix (ev_v (C.v (i := 1) (by decide +kernel) rfl)) (ev_v (C.v (i := 2) (by decide +kernel) rfl)) (fun _ _ => rfl)) (ev_ix (ev_v (C.v (i := 1) (by decide +kernel) rfl)) (ev_bin op_addD rd_add (ev_v (C.v (i := 2) (by decide +kernel) rfl)) ev_int) (fun _ _ => rfl)) (nomark _))))))
theorem fo_is_crossed (B : Bs mg) (Q : KG w K cl mg)
    (h_Kind_name : MethG P w K mg base (cl "Kind") "name" 1 n_Kind_name (spP K cl m_Kind_name)) {f : Addr} {fd : FuncData} (F : FunD K "is_crossed" "is_crossed" (defArgs s_is_crossed) (defBody s_is_crossed) (defScope s_is_crossed) [] [] f fd) : FnB false P w K mg base CX0 2 f fd n_is_crossed (spP K cl m_is_crossed) := fn_P F sc_is_crossed (cl := cl) (bd_is_crossed B Q h_Kind_name)
theorem ok_is_crossed (B : Bs mg) (Q : KG w K cl mg)
    (h_Kind_name : MethG P w K mg base (cl "Kind") "name" 1 n_Kind_name (spP K cl m_Kind_name)) {f : Addr} {fd : FuncData} (F : FunD K "is_crossed" "is_crossed" (defArgs s_is_crossed) (defBody s_is_crossed) (defScope s_is_crossed) [] [] f fd) (hm : mg "is_crossed" = some (.ref f)) : FnG false P w K mg base "is_crossed" 2 n_is_crossed (spP K cl m_is_crossed) :=
  ⟨⟨f, fd, fo_is_crossed B Q h_Kind_name F, hm, F.kp, F.bindsN fun _ _ _ _ _ _ us hl => match us, hl with | [_, _, _], _ => rfl⟩⟩
abbrev s_falls_of : Stmt := (top 20)
abbrev n_falls_of : List Str := [("kind" : Str), ("order" : Str)]
abbrev N_falls_of : List Str := [("kind" : Str), ("order" : Str), ("step" : Str)]
theorem sc_falls_of : FnScope N_falls_of n_falls_of (defScope s_falls_of) := ⟨rfl, rfl, rfl, by decide +kernel, rfl, by decide +kernel, by decide +kernel⟩
theorem bd_falls_of (B : Bs mg) (Q : KG w K cl mg)
    (h_Kind_steps : MethG P w K mg base (cl "Kind") "steps" 1 n_Kind_steps (spP K cl m_Kind_steps))
    (h_is_crossed : FnG false P w K mg base "is_crossed" 2 n_is_crossed (spP K cl m_is_crossed)) : Body false P w K cl mg base N_falls_of (defScope s_falls_of) 2 (defBody s_falls_of) mb_falls_of := by
  intro X h1 h2 h3 h4 h5 C
  subst h1 h2 h3 h4 h5
  exact (ss_one (s_retO (eo_lc (own := [("step", 2)]) (fl := false) (.inl rfl) C.calm C.nd (ei_rg1 (C.g (x := "range") (by decide +kernel)) B.range_ (ev_meth0 h_Kind_steps C.rm (ev_v (C.v (i := 0) (by decide +kernel) rfl)))) (CXo.blkOk C (by decide +kernel)) (by decide) (fun s_ H_ C_ c_ fp_ => (gt_one ((CXo.blk C rfl s_ H_ C_ c_ fp_).l (i := 2) (by decide +kernel) rfl))) (fun s_ H_ C_ c_ fp_ => (ets_one (et_val (ev_call h_is_crossed (fun z => nomatch z) (CXo.blk C rfl s_ H_ C_ c_ fp_).rm ((CXo.blk C rfl s_ H_ C_ c_ fp_).g (x := "is_crossed") (by decide +kernel)) (ea_cons (ev_v ((CXo.blk C rfl s_ H_ C_ c_ fp_).v (i := 0) (by decide +kernel) rfl)) (ea_cons (ev_v ((CXo.blk C rfl s_ H_ C_ c_ fp_).v (i := 1) (by decide +kernel) rfl)) (ea_cons (ev_v ((CXo.blk C rfl s_ H_ C_ c_ fp_).v (i := 2) (by decide +kernel) rfl)) ea_nil))) (by decide +kernel))))) (fun s_ H_ C_ c_ fp_ => (ev_v ((CXo.blk C rfl s_ H_ C_ c_ fp_).v (i := 2) (by decide +kernel) rfl))))))
theorem fo_falls_of (B : Bs mg) (Q : KG w K cl mg)
    (h_Kind_steps : MethG P w K mg base (cl "Kind") "steps" 1 n_Kind_steps (spP K cl m_Kind_steps))
    (h_is_crossed : FnG false P w K mg base "is_crossed" 2 n_is_crossed (spP K cl m_is_crossed)) {f : Addr} {fd : FuncData} (F : FunD K "falls_of" "falls_of" (defArgs s_falls_of) (defBody s_falls_of) (defScope s_falls_of) [] [] f fd) : FnB false P w K mg base CX0 3 f fd n_falls_of (spO K cl m_falls_of) := fn_O F sc_falls_of (cl := cl) (bd_falls_of B Q h_Kind_steps h_is_crossed)
theorem ok_falls_of (B : Bs mg) (Q : KG w K cl mg)
    (h_Kind_steps : MethG P w K mg base (cl "Kind") "steps" 1 n_Kind_steps (spP K cl m_Kind_steps))
    (h_is_crossed : FnG false P w K mg base "is_crossed" 2 n_is_crossed (spP K cl m_is_crossed)) {f : Addr} {fd : FuncData} (F : FunD K "falls_of" "falls_of" (defArgs s_falls_of) (defBody s_falls_of) (defScope s_falls_of) [] [] f fd) (hm : mg "falls_of" = some (.ref f)) : FnG false P w K mg base "falls_of" 3 n_falls_of (spO K cl m_falls_of) :=
  ⟨⟨f, fd, fo_falls_of B Q h_Kind_steps h_is_crossed F, hm, F.kp, F.bindsN fun _ _ _ _ _ _ us hl => match us, hl with | [_, _], _ => rfl⟩⟩
abbrev s_heads_of : Stmt := (top 21)
abbrev n_heads_of : List Str := [("kind" : Str), ("order" : Str)]
abbrev N_heads_of : List Str := [("kind" : Str), ("order" : Str)]
theorem sc_heads_of : FnScope N_heads_of n_heads_of (defScope s_heads_of) := ⟨rfl, rfl, rfl, by decide +kernel, rfl, by decide +kernel, by decide +kernel⟩
theorem bd_heads_of (B : Bs mg) (Q : KG w K cl mg)
    (h_falls_of : FnG false P w K mg base "falls_of" 3 n_falls_of (spO K cl m_falls_of))
    (h_opposite_of : FnG false P w K mg base "opposite_of" 2 n_opposite_of (spO K cl m_opposite_of)) : Body false P w K cl mg base N_heads_of (defScope s_heads_of) 3 (defBody s_heads_of) mb_heads_of := by
  intro X h1 h2 h3 h4 h5 C
  subst h1 h2 h3 h4 h5
  exact (ss_one (s_retO (eo_call h_falls_of (fun z => nomatch z) C.rm (C.g (x := "falls_of") (by decide +kernel)) (ea_cons (ev_v (C.v (i := 0) (by decide +kernel) rfl)) (ea_cons (ev_of_eo (eo_call h_opposite_of (fun z => nomatch z) C.rm (C.g (x := "opposite_of") (by decide +kernel)) (ea_cons (ev_v (C.v (i := 0) (by decide +kernel) rfl)) (ea_cons (ev_v (C.v (i := 1) (by decide +kernel) rfl)) ea_nil)) (by decide +kernel))) ea_nil)) (by decide +kernel))))
theorem fo_heads_of (B : Bs mg) (Q : KG w K cl mg)
    (h_falls_of : FnG false P w K mg base "falls_of" 3 n_falls_of (spO K cl m_falls_of))
    (h_opposite_of : FnG false P w K mg base "opposite_of" 2 n_opposite_of (spO K cl m_opposite_of)) {f : Addr} {fd : FuncData} (F : FunD K "heads_of" "heads_of" (defArgs s_heads_of) (defBody s_heads_of) (defScope s_heads_of) [] [] f fd) : FnB false P w K mg base CX0 4 f fd n_heads_of (spO K cl m_heads_of) := fn_O F sc_heads_of (cl := cl) (bd_heads_of B Q h_falls_of h_opposite_of)
theorem ok_heads_of (B : Bs mg) (Q : KG w K cl mg)
    (h_falls_of : FnG false P w K mg base "falls_of" 3 n_falls_of (spO K cl m_falls_of))
    (h_opposite_of : FnG false P w K mg base "opposite_of" 2 n_opposite_of (spO K cl m_opposite_of)) {f : Addr} {fd : FuncData} (F : FunD K "heads_of" "heads_of" (defArgs s_heads_of) (defBody s_heads_of) (defScope s_heads_of) [] [] f fd) (hm : mg "heads_of" = some (.ref f)) : FnG false P w K mg base "heads_of" 4 n_heads_of (spO K cl m_heads_of) :=
  ⟨⟨f, fd, fo_heads_of B Q h_falls_of h_opposite_of F, hm, F.kp, F.bindsN fun _ _ _ _ _ _ us hl => match us, hl with | [_, _], _ => rfl⟩⟩
abbrev s_heads : Stmt := (top 31)
abbrev n_heads : List Str := [("kind" : Str), ("order" : Str)]
abbrev N_heads : List Str := [("kind" : Str), ("order" : Str)]
theorem sc_heads : FnScope N_heads n_heads (defScope s_heads) := ⟨rfl, rfl, rfl, by decide +kernel, rfl, by decide +kernel, by decide +kernel⟩
theorem bd_heads (B : Bs mg) (Q : KG w K cl mg)
    (h_check_orders : FnG false P w K mg base "check_orders" 6 n_check_orders (spP K cl m_check_orders))
    (h_heads_of : FnG false P w K mg base "heads_of" 4 n_heads_of (spO K cl m_heads_of)) : Body false P w K cl mg base N_heads (defScope s_heads) 6 (defBody s_heads) mb_heads := by
  intro X h1 h2 h3 h4 h5 C
  subst h1 h2 h3 h4 h5
  exact (ss_cons (s_expr (ef_ev (ev_call h_check_orders (fun z => nomatch z) C.rm (C.g (x := "check_orders") (by decide +kernel)) (ea_cons (ev_v (C.v (i := 0) (by decide +kernel) rfl)) (ea_cons (ev_of_eo (eo_lst (ea_cons (ev_v (C.v (i := 1) (by decide +kernel) rfl)) ea_nil))) ea_nil)) (by decide +kernel))))
    (ss_one (s_retO (eo_call h_heads_of (fun z => nomatch z) C.rm (C.g (x := "heads_of") (by decide +kernel)) (ea_cons (ev_v (C.v (i := 0) (by decide +kernel) rfl)) (ea_cons (ev_v (C.v (i := 1) (by decide +kernel) rfl)) ea_nil)) (by decide +kernel)))))
theorem fo_heads (B : Bs mg) (Q : KG w K cl mg)
    (h_check_orders : FnG false P w K mg base "check_orders" 6 n_check_orders (spP K cl m_check_orders))
    (h_heads_of : FnG false P w K mg base "heads_of" 4 n_heads_of (spO K cl m_heads_of)) {f : Addr} {fd : FuncData} (F : FunD K "heads" "heads" (defArgs s_heads) (defBody s_heads) (defScope s_heads) [] [] f fd) : FnB false P w K mg base CX0 7 f fd n_heads (spO K cl m_heads) := fn_O F sc_heads (cl := cl) (bd_heads B Q h_check_orders h_heads_of)
theorem ok_heads (B : Bs mg) (Q : KG w K cl mg)
    (h_check_orders : FnG false P w K mg base "check_orders" 6 n_check_orders (spP K cl m_check_orders))
    (h_heads_of : FnG false P w K mg base "heads_of" 4 n_heads_of (spO K cl m_heads_of)) {f : Addr} {fd : FuncData} (F : FunD K "heads" "heads" (defArgs s_heads) (defBody s_heads) (defScope s_heads) [] [] f fd) (hm : mg "heads" = some (.ref f)) : FnG false P w K mg base "heads" 7 n_heads (spO K cl m_heads) :=
  ⟨⟨f, fd, fo_heads B Q h_check_orders h_heads_of F, hm, F.kp, F.bindsN fun _ _ _ _ _ _ us hl => match us, hl with | [_, _], _ => rfl⟩⟩
abbrev s_falls : Stmt := (top 30)
abbrev n_falls : List Str := [("kind" : Str), ("order" : Str)]
abbrev N_falls : List Str := [("kind" : Str), ("order" : Str)]
theorem sc_falls : FnScope N_falls n_falls (defScope s_falls) := ⟨rfl, rfl, rfl, by decide +kernel, rfl, by decide +kernel, by decide +kernel⟩
theorem bd_falls (B : Bs mg) (Q : KG w K cl mg)
    (h_check_orders : FnG false P w K mg base "check_orders" 6 n_check_orders (spP K cl m_check_orders))
    (h_falls_of : FnG false P w K mg base "falls_of" 3 n_falls_of (spO K cl m_falls_of)) : Body false P w K cl mg base N_falls (defScope s_falls) 6 (defBody s_falls) mb_falls := by
  intro X h1 h2 h3 h4 h5 C
  subst h1 h2 h3 h4 h5
  exact (ss_cons (s_expr (ef_ev (ev_call h_check_orders (fun z => nomatch z) C.rm (C.g (x := "check_orders") (by decide +kernel)) (ea_cons (ev_v (C.v (i := 0) (by decide +kernel) rfl)) (ea_cons (ev_of_eo (eo_lst (ea_cons (ev_v (C.v (i := 1) (by decide +kernel) rfl)) ea_nil))) ea_nil)) (by decide +kernel))))
    (ss_one (s_retO (eo_call h_falls_of (fun z => nomatch z) C.rm (C.g (x := "falls_of") (by decide +kernel)) (ea_cons (ev_v (C.v (i := 0) (by decide +kernel) rfl)) (ea_cons (ev_v (C.v (i := 1) (by decide +kernel) rfl)) ea_nil)) (by decide +kernel)))))
theorem fo_falls (B : Bs mg) (Q : KG w K cl mg)
    (h_check_orders : FnG false P w K mg base "check_orders" 6 n_check_orders (spP K cl m_check_orders))
    (h_falls_of : FnG false P w K mg base "falls_of" 3 n_falls_of (spO K cl m_falls_of)) {f : Addr} {fd : FuncData} (F : FunD K "falls" "falls" (defArgs s_falls) (defBody s_falls) (defScope s_falls) [] [] f fd) : FnB false P w K mg base CX0 7 f fd n_falls (spO K cl m_falls) := fn_O F sc_falls (cl := cl) (bd_falls B Q h_check_orders h_falls_of)
theorem ok_falls (B : Bs mg) (Q : KG w K cl mg)
    (h_check_orders : FnG false P w K mg base "check_orders" 6 n_check_orders (spP K cl m_check_orders))
    (h_falls_of : FnG false P w K mg base "falls_of" 3 n_falls_of (spO K cl m_falls_of)) {f : Addr} {fd : FuncData} (F : FunD K "falls" "falls" (defArgs s_falls) (defBody s_falls) (defScope s_falls) [] [] f fd) (hm : mg "falls" = some (.ref f)) : FnG false P w K mg base "falls" 7 n_falls (spO K cl m_falls) :=
  ⟨⟨f, fd, fo_falls B Q h_check_orders h_falls_of F, hm, F.kp, F.bindsN fun _ _ _ _ _ _ us hl => match us, hl with | [_, _], _ => rfl⟩⟩
abbrev s__law_is_crossed : Stmt := (top 47)
abbrev n__law_is_crossed : List Str := [("_law_told" : Str), ("_law_order" : Str), ("_law_step" : Str)]
abbrev N__law_is_crossed : List Str := [("_law_told" : Str), ("_law_order" : Str), ("_law_step" : Str), ("_law_low" : Str)]
theorem sc__law_is_crossed : FnScope N__law_is_crossed n__law_is_crossed (defScope s__law_is_crossed) := ⟨rfl, rfl, rfl, by decide +kernel, rfl, by decide +kernel, by decide +kernel⟩
theorem bd__law_is_crossed (B : Bs mg) (Q : KG w K cl mg)
    (h__law_item : FnG false P w K mg base "_law_item" 1 n__law_item (spP K cl m__law_item))
    (h__law_turned : FnG false P w K mg base "_law_turned" 1 n__law_turned (spP K cl m__law_turned)) : Body false P w K cl mg base N__law_is_crossed (defScope s__law_is_crossed) 1 (defBody s__law_is_crossed) mb__law_is_crossed := by
  intro X h1 h2 h3 h4 h5 C
  subst h1 h2 h3 h4 h5
  exact (ss_cons (s_set (C.l (i := 3) (by decide +kernel) rfl) (ef_ev (ev_if (et_cmp (op_neD C.un) rc_ne (ev_ix (ev_v (C.v (i := 0) (by decide +kernel) rfl)) ev_int (fun _ _ => rfl)) ev_str (nomark _)) (ev_v (C.v (i := 2) (by decide +kernel) rfl)) (ev_if (et_cmp op_gt rc_gt (ev_v (C.v (i := 2) (by decide +kernel) rfl)) ev_int (nomark _)) (ev_v (C.v (i := 2) (by decide +kernel) rfl)) (ev_un un_neg rd_neg ev_int)))))
    (ss_one (s_ret (ev_cmp op_gt rc_gt (ev_call h__law_item (fun z => nomatch z) C.rm (C.g (x := "_law_item") (by decide +kernel)) (ea_cons (ev_v (C.v (i := 0) (by decide +kernel) rfl)) (ea_cons (ev_v (C.v (i := 1) (by decide +kernel) rfl)) (ea_cons (ev_v (C.v (i := 3) (by decide +kernel) rfl)) ea_nil))) (by decide +kernel)) (ev_call h__law_item (fun z => nomatch z) C.rm (C.g (x := "_law_item") (by decide +kernel)) (ea_cons (ev_v (C.v (i := 0) (by decide +kernel) rfl)) (ea_cons (ev_v (C.v (i := 1) (by decide +kernel) rfl)) (ea_cons (ev_call h__law_turned (fun z => nomatch z) C.rm (C.g (x := "_law_turned") (by decide +kernel)) (ea_cons (ev_v (C.v (i := 0) (by decide +kernel) rfl)) (ea_cons (ev_v (C.v (i := 2) (by decide +kernel) rfl)) (ea_cons (ev_v (C.v (i := 3) (by decide +kernel) rfl)) ea_nil))) (by decide +kernel)) ea_nil))) (by decide +kernel)) (nomark _)))))
theorem fo__law_is_crossed (B : Bs mg) (Q : KG w K cl mg)
    (h__law_item : FnG false P w K mg base "_law_item" 1 n__law_item (spP K cl m__law_item))
    (h__law_turned : FnG false P w K mg base "_law_turned" 1 n__law_turned (spP K cl m__law_turned)) {f : Addr} {fd : FuncData} (F : FunD K "_law_is_crossed" "_law_is_crossed" (defArgs s__law_is_crossed) (defBody s__law_is_crossed) (defScope s__law_is_crossed) [] [] f fd) : FnB false P w K mg base CX0 2 f fd n__law_is_crossed (spP K cl m__law_is_crossed) := fn_P F sc__law_is_crossed (cl := cl) (bd__law_is_crossed B Q h__law_item h__law_turned)
theorem ok__law_is_crossed (B : Bs mg) (Q : KG w K cl mg)
    (h__law_item : FnG false P w K mg base "_law_item" 1 n__law_item (spP K cl m__law_item))
    (h__law_turned : FnG false P w K mg base "_law_turned" 1 n__law_turned (spP K cl m__law_turned)) {f : Addr} {fd : FuncData} (F : FunD K "_law_is_crossed" "_law_is_crossed" (defArgs s__law_is_crossed) (defBody s__law_is_crossed) (defScope s__law_is_crossed) [] [] f fd) (hm : mg "_law_is_crossed" = some (.ref f)) : FnG false P w K mg base "_law_is_crossed" 2 n__law_is_crossed (spP K cl m__law_is_crossed) :=
  ⟨⟨f, fd, fo__law_is_crossed B Q h__law_item h__law_turned F, hm, F.kp, F.bindsN fun _ _ _ _ _ _ us hl => match us, hl with | [_, _, _], _ => rfl⟩⟩
abbrev s__law_falls : Stmt := (top 48)
abbrev n__law_falls : List Str := [("_law_told" : Str), ("_law_order" : Str)]
abbrev N__law_falls : List Str := [("_law_told" : Str), ("_law_order" : Str), ("_law_step" : Str)]
theorem sc__law_falls : FnScope N__law_falls n__law_falls (defScope s__law_falls) := ⟨rfl, rfl, rfl, by decide +kernel, rfl, by decide +kernel, by decide +kernel⟩
theorem bd__law_falls (B : Bs mg) (Q : KG w K cl mg)
    (h__law_many : FnG false P w K mg base "_law_many" 1 n__law_many (spP K cl m__law_many))
    (h__law_is_crossed : FnG false P w K mg base "_law_is_crossed" 2 n__law_is_crossed (spP K cl m__law_is_crossed)) : Body false P w K cl mg base N__law_falls (defScope s__law_falls) 2 (defBody s__law_falls) mb__law_falls := by
  intro X h1 h2 h3 h4 h5 C
  subst h1 h2 h3 h4 h5
  exact (ss_one (s_retO (eo_lc (own := [("_law_step", 2)]) (fl := false) (.inl rfl) C.calm C.nd (ei_rg1 (C.g (x := "range") (by decide +kernel)) B.range_ (ev_call h__law_many (fun z => nomatch z) C.rm (C.g (x := "_law_many") (by decide +kernel)) (ea_cons (ev_v (C.v (i := 0) (by decide +kernel) rfl)) ea_nil) (by decide +kernel))) (CXo.blkOk C (by decide +kernel)) (by decide) (fun s_ H_ C_ c_ fp_ => (gt_one ((CXo.blk C rfl s_ H_ C_ c_ fp_).l (i := 2) (by decide +kernel) rfl))) (fun s_ H_ C_ c_ fp_ => (ets_one (et_val (ev_call h__law_is_crossed (fun z => nomatch z) (CXo.blk C rfl s_ H_ C_ c_ fp_).rm ((CXo.blk C rfl s_ H_ C_ c_ fp_).g (x := "_law_is_crossed") (by decide +kernel)) (ea_cons (ev_v ((CXo.blk C rfl s_ H_ C_ c_ fp_).v (i := 0) (by decide +kernel) rfl)) (ea_cons (ev_v ((CXo.blk C rfl s_ H_ C_ c_ fp_).v (i := 1) (by decide +kernel) rfl)) (ea_cons (ev_v ((CXo.blk C rfl s_ H_ C_ c_ fp_).v (i := 2) (by decide +kernel) rfl)) ea_nil))) (by decide +kernel))))) (fun s_ H_ C_ c_ fp_ => (ev_v ((CXo.blk C rfl s_ H_ C_ c_ fp_).v (i := 2) (by decide +kernel) rfl))))))
theorem fo__law_falls (B : Bs mg) (Q : KG w K cl mg)
    (h__law_many : FnG false P w K mg base "_law_many" 1 n__law_many (spP K cl m__law_many))
    (h__law_is_crossed : FnG false P w K mg base "_law_is_crossed" 2 n__law_is_crossed (spP K cl m__law_is_crossed)) {f : Addr} {fd : FuncData} (F : FunD K "_law_falls" "_law_falls" (defArgs s__law_falls) (defBody s__law_falls) (defScope s__law_falls) [] [] f fd) : FnB false P w K mg base CX0 3 f fd n__law_falls (spO K cl m__law_falls) := fn_O F sc__law_falls (cl := cl) (bd__law_falls B Q h__law_many h__law_is_crossed)
theorem ok__law_falls (B : Bs mg) (Q : KG w K cl mg)
    (h__law_many : FnG false P w K mg base "_law_many" 1 n__law_many (spP K cl m__law_many))
    (h__law_is_crossed : FnG false P w K mg base "_law_is_crossed" 2 n__law_is_crossed (spP K cl m__law_is_crossed)) {f : Addr} {fd : FuncData} (F : FunD K "_law_falls" "_law_falls" (defArgs s__law_falls) (defBody s__law_falls) (defScope s__law_falls) [] [] f fd) (hm : mg "_law_falls" = some (.ref f)) : FnG false P w K mg base "_law_falls" 3 n__law_falls (spO K cl m__law_falls) :=
  ⟨⟨f, fd, fo__law_falls B Q h__law_many h__law_is_crossed F, hm, F.kp, F.bindsN fun _ _ _ _ _ _ us hl => match us, hl with | [_, _], _ => rfl⟩⟩
abbrev s__law_least : Stmt := (top 50)
abbrev n__law_least : List Str := [("_law_told" : Str), ("_law_order" : Str)]
abbrev N__law_least : List Str := [("_law_told" : Str), ("_law_order" : Str), ("_law_steps" : Str), ("_law_found" : Str), ("_law_left" : Str)]
theorem sc__law_least : FnScope N__law_least n__law_least (defScope s__law_least) := ⟨rfl, rfl, rfl, by decide +kernel, rfl, by decide +kernel, by decide +kernel⟩
theorem bd__law_least (B : Bs mg) (Q : KG w K cl mg)
    (h__law_falls : FnG false P w K mg base "_law_falls" 3 n__law_falls (spO K cl m__law_falls))
    (h__law_stepped : FnG false P w K mg base "_law_stepped" 2 n__law_stepped (spO K cl m__law_stepped)) : Body false P w K cl mg base N__law_least (defScope s__law_least) 3 (defBody s__law_least) mb__law_least := by
  intro X h1 h2 h3 h4 h5 C
  subst h1 h2 h3 h4 h5
  exact (ss_cons (s_par C.calm (C.l (i := 3) (by decide +kernel) rfl) (C.l (i := 4) (by decide +kernel) rfl) (by decide) (C.p (i := 3) (by decide +kernel) rfl) (C.p (i := 4) (by decide +kernel) rfl) (em_own (eo_lst ea_nil) (em_val (ef_ev (ev_of_eo (eo_Ty call_list_of rol_list (C.g (x := "list") (by decide +kernel)) (B.list_) (by decide +kernel) (ea_cons (ev_v (C.v (i := 1) (by decide +kernel) rfl)) ea_nil) (by decide +kernel) (by decide +kernel)))) em_nil)) (swapped2 C.sc.kind (C.p (i := 3) (by decide +kernel) rfl) (C.p (i := 4) (by decide +kernel) rfl) (by decide +kernel) rfl ⟨rfl, rfl⟩ rfl rfl))
    (ss_cons (s_set (C.l (i := 2) (by decide +kernel) rfl) (ef_ev (ev_of_eo (eo_call h__law_falls (fun z => nomatch z) C.rm (C.g (x := "_law_falls") (by decide +kernel)) (ea_cons (ev_v (C.v (i := 0) (by decide +kernel) rfl)) (ea_cons (ev_v (C.v (i := 4) (by decide +kernel) rfl)) ea_nil)) (by decide +kernel)))))
    (ss_cons (s_while C.xe (et_cmp (op_neD C.un) rc_ne (ev_v (C.v (i := 2) (by decide +kernel) rfl)) (ev_of_eo (eo_lst ea_nil)) (nomark _)) (ss_cons (s_append (t0 := fun _ _ _ => True) (C.v (i := 3) (by decide +kernel) rfl) (ev_ix (ev_v (C.v (i := 2) (by decide +kernel) rfl)) (ev_bin op_sub rd_sub (ev_fl fl_len (ev_B call_lenD' rdl_len (C.g (x := "len") (by decide +kernel)) (B.len_) (by decide +kernel) (ea_cons (ev_v (C.v (i := 2) (by decide +kernel) rfl)) ea_nil) (by decide +kernel) (by decide +kernel))) ev_int) (fun _ _ => rfl)) (fun te hp => pe_bm PySem.F.plainAttrs_list PySem.F.slot_list_append PySem.F.type_list_append mt_append (pe_var (C.v (i := 3) (by decide +kernel) rfl).ix (C.v (i := 3) (by decide +kernel) rfl).vis (C.v (i := 3) (by decide +kernel) rfl).nd (C.v (i := 3) (by decide +kernel) rfl).nc) (pa_cons hp pa_nil)))
    (ss_cons (s_set (C.l (i := 4) (by decide +kernel) rfl) (ef_ev (ev_of_eo (eo_call h__law_stepped (fun z => nomatch z) C.rm (C.g (x := "_law_stepped") (by decide +kernel)) (ea_cons (ev_v (C.v (i := 0) (by decide +kernel) rfl)) (ea_cons (ev_v (C.v (i := 4) (by decide +kernel) rfl)) (ea_cons (ev_ix (ev_v (C.v (i := 2) (by decide +kernel) rfl)) (ev_bin op_sub rd_sub (ev_fl fl_len (ev_B call_lenD' rdl_len (C.g (x := "len") (by decide +kernel)) (B.len_) (by decide +kernel) (ea_cons (ev_v (C.v (i := 2) (by decide +kernel) rfl)) ea_nil) (by decide +kernel) (by decide +kernel))) ev_int) (fun _ _ => rfl)) ea_nil))) (by decide +kernel)))))
    (ss_one (s_set (C.l (i := 2) (by decide +kernel) rfl) (ef_ev (ev_of_eo (eo_call h__law_falls (fun z => nomatch z) C.rm (C.g (x := "_law_falls") (by decide +kernel)) (ea_cons (ev_v (C.v (i := 0) (by decide +kernel) rfl)) (ea_cons (ev_v (C.v (i := 4) (by decide +kernel) rfl)) ea_nil)) (by decide +kernel)))))))))
    (ss_one (s_retO (eo_rev (ev_b (C.v (i := 3) (by decide +kernel) rfl))))))))
theorem fo__law_least (B : Bs mg) (Q : KG w K cl mg)
    (h__law_falls : FnG false P w K mg base "_law_falls" 3 n__law_falls (spO K cl m__law_falls))
    (h__law_stepped : FnG false P w K mg base "_law_stepped" 2 n__law_stepped (spO K cl m__law_stepped)) {f : Addr} {fd : FuncData} (F : FunD K "_law_least" "_law_least" (defArgs s__law_least) (defBody s__law_least) (defScope s__law_least) [] [] f fd) : FnB false P w K mg base CX0 4 f fd n__law_least (spO K cl m__law_least) := fn_O F sc__law_least (cl := cl) (bd__law_least B Q h__law_falls h__law_stepped)
theorem ok__law_least (B : Bs mg) (Q : KG w K cl mg)
    (h__law_falls : FnG false P w K mg base "_law_falls" 3 n__law_falls (spO K cl m__law_falls))
    (h__law_stepped : FnG false P w K mg base "_law_stepped" 2 n__law_stepped (spO K cl m__law_stepped)) {f : Addr} {fd : FuncData} (F : FunD K "_law_least" "_law_least" (defArgs s__law_least) (defBody s__law_least) (defScope s__law_least) [] [] f fd) (hm : mg "_law_least" = some (.ref f)) : FnG false P w K mg base "_law_least" 4 n__law_least (spO K cl m__law_least) :=
  ⟨⟨f, fd, fo__law_least B Q h__law_falls h__law_stepped F, hm, F.kp, F.bindsN fun _ _ _ _ _ _ us hl => match us, hl with | [_, _], _ => rfl⟩⟩
abbrev s__law_opposite : Stmt := (top 52)
abbrev n__law_opposite : List Str := [("_law_told" : Str), ("_law_order" : Str)]
abbrev N__law_opposite : List Str := [("_law_told" : Str), ("_law_order" : Str)]
theorem sc__law_opposite : FnScope N__law_opposite n__law_opposite (defScope s__law_opposite) := ⟨rfl, rfl, rfl, by decide +kernel, rfl, by decide +kernel, by decide +kernel⟩
theorem bd__law_opposite (B : Bs mg) (Q : KG w K cl mg)
    (h__law_made : FnG false P w K mg base "_law_made" 3 n__law_made (spP K cl m__law_made))
    (h__law_least : FnG false P w K mg base "_law_least" 4 n__law_least (spO K cl m__law_least)) : Body false P w K cl mg base N__law_opposite (defScope s__law_opposite) 4 (defBody s__law_opposite) mb__law_opposite := by
  intro X h1 h2 h3 h4 h5 C
  subst h1 h2 h3 h4 h5
  exact (ss_one (s_ret (ev_call h__law_made (fun z => nomatch z) C.rm (C.g (x := "_law_made") (by decide +kernel)) (ea_cons (ev_v (C.v (i := 0) (by decide +kernel) rfl)) (ea_cons (ev_of_eo (eo_rev (ev_of_eo (eo_call h__law_least (fun z => nomatch z) C.rm (C.g (x := "_law_least") (by decide +kernel)) (ea_cons (ev_v (C.v (i := 0) (by decide +kernel) rfl)) (ea_cons (ev_v (C.v (i := 1) (by decide +kernel) rfl)) ea_nil)) (by decide +kernel))))) ea_nil)) (by decide +kernel))))
theorem fo__law_opposite (B : Bs mg) (Q : KG w K cl mg)
    (h__law_made : FnG false P w K mg base "_law_made" 3 n__law_made (spP K cl m__law_made))
    (h__law_least : FnG false P w K mg base "_law_least" 4 n__law_least (spO K cl m__law_least)) {f : Addr} {fd : FuncData} (F : FunD K "_law_opposite" "_law_opposite" (defArgs s__law_opposite) (defBody s__law_opposite) (defScope s__law_opposite) [] [] f fd) : FnB false P w K mg base CX0 5 f fd n__law_opposite (spP K cl m__law_opposite) := fn_P F sc__law_opposite (cl := cl) (bd__law_opposite B Q h__law_made h__law_least)
theorem ok__law_opposite (B : Bs mg) (Q : KG w K cl mg)
    (h__law_made : FnG false P w K mg base "_law_made" 3 n__law_made (spP K cl m__law_made))
    (h__law_least : FnG false P w K mg base "_law_least" 4 n__law_least (spO K cl m__law_least)) {f : Addr} {fd : FuncData} (F : FunD K "_law_opposite" "_law_opposite" (defArgs s__law_opposite) (defBody s__law_opposite) (defScope s__law_opposite) [] [] f fd) (hm : mg "_law_opposite" = some (.ref f)) : FnG false P w K mg base "_law_opposite" 5 n__law_opposite (spP K cl m__law_opposite) :=
  ⟨⟨f, fd, fo__law_opposite B Q h__law_made h__law_least F, hm, F.kp, F.bindsN fun _ _ _ _ _ _ us hl => match us, hl with | [_, _], _ => rfl⟩⟩
abbrev s_Kind_start : Stmt := (sub 11 4)
abbrev n_Kind_start : List Str := [("self" : Str)]
abbrev N_Kind_start : List Str := [("self" : Str), ("first" : Str)]
theorem sc_Kind_start : FnScope N_Kind_start n_Kind_start (defScope s_Kind_start) := ⟨rfl, rfl, rfl, by decide +kernel, rfl, by decide +kernel, by decide +kernel⟩
theorem bd_Kind_start (B : Bs mg) (Q : KG w K cl mg) : Body false P w K cl mg base N_Kind_start (defScope s_Kind_start) 0 (defBody s_Kind_start) mb_Kind_start := by
  intro X h1 h2 h3 h4 h5 C
  subst h1 h2 h3 h4 h5
  exact (ss_cons (s_set (C.l (i := 1) (by decide +kernel) rfl) (ef_ev (ev_fl fl_int (ev_Ty call_int1 rdl_int (C.g (x := "int") (by decide +kernel)) (B.int_) (by decide +kernel) (ea_cons (ev_cmp (op_eqD C.un) rc_eq (ev_fld Q.g.cls Q.na1 (ev_v (C.v (i := 0) (by decide +kernel) rfl))) ev_str (nomark _)) ea_nil) (by decide +kernel) (by decide +kernel)))))
    (ss_one (s_retO (eo_listRg C.calm (C.g (x := "list") (by decide +kernel)) B.list_ (er_2 (C.g (x := "range") (by decide +kernel)) B.range_ (ev_v (C.v (i := 1) (by decide +kernel) rfl)) (ev_bin op_addD rd_add (ev_v (C.v (i := 1) (by decide +kernel) rfl)) (ev_fld Q.g.cls Q.na2 (ev_v (C.v (i := 0) (by decide +kernel) rfl)))))))))
theorem fo_Kind_start (B : Bs mg) (Q : KG w K cl mg) {f : Addr} {fd : FuncData} (F : FunD K "start" "Kind.start" (defArgs s_Kind_start) (defBody s_Kind_start) (defScope s_Kind_start) [] [] f fd) : FnB false P w K mg base CX0 1 f fd n_Kind_start (spO K cl m_Kind_start) := fn_O F sc_Kind_start (cl := cl) (bd_Kind_start B Q )
theorem ok_Kind_start (B : Bs mg) (Q : KG w K cl mg) {f : Addr} {fd : FuncData} (F : FunD K "start" "Kind.start" (defArgs s_Kind_start) (defBody s_Kind_start) (defScope s_Kind_start) [] [] f fd) (M : Meth K (cl "Kind") "start" f) : MethG P w K mg base (cl "Kind") "start" 1 n_Kind_start (spO K cl m_Kind_start) :=
  ⟨Q.g.cls, f, fd, (fo_Kind_start B Q  F).ok, M, F.bindsN fun _ _ _ _ _ _ us hl => match us, hl with | [_], _ => rfl⟩
abbrev s__law_right : Stmt := (top 54)
abbrev n__law_right : List Str := [("_law_generator_here" : Str)]
abbrev N__law_right : List Str := [("_law_generator_here" : Str), ("_law_told" : Str), ("_law_kept" : Str), ("_law_step" : Str), ("_law_order" : Str), ("_law_given" : Str), ("_law_lost" : Str), ("_law_kind_here" : Str), ("_law_rows" : Str), ("_law_one" : Str), ("_law_other" : Str), ("_law_third" : Str), ("_law_both" : Str), ("_law_found" : Str), ("_law_back" : Str), ("_law_row_here" : Str), ("_law_turn" : Str)]
theorem sc__law_right : FnScope N__law_right n__law_right (defScope s__law_right) := ⟨rfl, rfl, rfl, by decide +kernel, rfl, by decide +kernel, by decide +kernel⟩
theorem bd__law_right (B : Bs mg) (Q : KG w K cl mg)
    (h__law_kind : FnG false P w K mg base "_law_kind" 3 n__law_kind (spF K cl m__law_kind))
    (h__law_row : FnG false P w K mg base "_law_row" 3 n__law_row (spF K cl m__law_row))
    (h_Kind___init__ : MkG P w K cl mg base "Kind" 4 n_Kind___init__ m_Kind___init__)
    (h__law_made : FnG false P w K mg base "_law_made" 3 n__law_made (spP K cl m__law_made))
    (h_product : FnG false P w K mg base "product" 7 n_product (spO K cl m_product))
    (h_stepped : FnG false P w K mg base "stepped" 7 n_stepped (spO K cl m_stepped))
    (hk_product_0_other_one_kind : FnK P w K mg base "product" 7 n_product (spO K cl m_product) 0 [("other" : Str), ("one" : Str), ("kind" : Str)] [2, 1, 0])
    (h__law_product : FnG false P w K mg base "_law_product" 2 n__law_product (spO K cl m__law_product))
    (h_opposite : FnG false P w K mg base "opposite" 7 n_opposite (spO K cl m_opposite))
    (hk_opposite_0_order_kind : FnK P w K mg base "opposite" 7 n_opposite (spO K cl m_opposite) 0 [("order" : Str), ("kind" : Str)] [1, 0])
    (h__law_opposite : FnG false P w K mg base "_law_opposite" 5 n__law_opposite (spP K cl m__law_opposite))
    (h_Kind_start : MethG P w K mg base (cl "Kind") "start" 1 n_Kind_start (spO K cl m_Kind_start))
    (h_crossings : FnG false P w K mg base "crossings" 7 n_crossings (spP K cl m_crossings))
    (h_heads : FnG false P w K mg base "heads" 7 n_heads (spO K cl m_heads))
    (h_falls : FnG false P w K mg base "falls" 7 n_falls (spO K cl m_falls)) : Body true P w K cl mg base N__law_right (defScope s__law_right) 7 (defBody s__law_right) mb__law_right := by
  intro X h1 h2 h3 h4 h5 C
  subst h1 h2 h3 h4 h5
  exact (ss_cons (s_set (C.l (i := 1) (by decide +kernel) rfl) (ef_callF h__law_kind (fun z => nomatch z) C.rm (C.g (x := "_law_kind") (by decide +kernel)) (C.v (i := 0) (by decide +kernel) rfl) (efa_ea ea_nil) (by decide +kernel)))
    (ss_cons (s_par C.calm (C.l (i := 7) (by decide +kernel) rfl) (C.l (i := 8) (by decide +kernel) rfl) (by decide) (C.p (i := 7) (by decide +kernel) rfl) (C.p (i := 8) (by decide +kernel) rfl) (em_val (ef_ev (ev_make h_Kind___init__ C.rm (C.g (x := "Kind") (by decide +kernel)) (ea_cons (ev_ix (ev_v (C.v (i := 1) (by decide +kernel) rfl)) ev_int (fun _ _ => rfl)) (ea_cons (ev_ix (ev_v (C.v (i := 1) (by decide +kernel) rfl)) ev_int (fun _ _ => rfl)) ea_nil)) (by decide +kernel))) (em_val (ef_lc (own := [("_law_turn", 16)]) C.calm C.nd (efi_ei (ei_rg1 (C.g (x := "range") (by decide +kernel)) B.range_ ev_int)) (CXo.blkOk C (by decide +kernel)) (by decide) (fun s_ H_ C_ c_ fp_ => (gt_one ((CXo.blk C rfl s_ H_ C_ c_ fp_).l (i := 16) (by decide +kernel) rfl))) (fun s_ H_ C_ c_ fp_ => (ef_callF h__law_row (fun z => nomatch z) (CXo.blk C rfl s_ H_ C_ c_ fp_).rm ((CXo.blk C rfl s_ H_ C_ c_ fp_).g (x := "_law_row") (by decide +kernel)) ((CXo.blk C rfl s_ H_ C_ c_ fp_).v (i := 0) (by decide +kernel) rfl) (efa_ea (ea_cons (ev_v ((CXo.blk C rfl s_ H_ C_ c_ fp_).v (i := 1) (by decide +kernel) rfl)) (ea_cons ev_int ea_nil))) (by decide +kernel)))) em_nil)) (swapped2 C.sc.kind (C.p (i := 7) (by decide +kernel) rfl) (C.p (i := 8) (by decide +kernel) rfl) (by decide +kernel) rfl ⟨rfl, rfl⟩ rfl rfl))
    (ss_cons (s_asg (ef_ev (ev_of_eo (eo_lc (own := [("_law_row_here", 15)]) (fl := false) (.inl rfl) C.calm C.nd (ei_seq (ev_v (C.v (i := 8) (by decide +kernel) rfl))) (CXo.blkOk C (by decide +kernel)) (by decide) (fun s_ H_ C_ c_ fp_ => (gt_one ((CXo.blk C rfl s_ H_ C_ c_ fp_).l (i := 15) (by decide +kernel) rfl))) (fun s_ H_ C_ c_ fp_ => ets_nil) (fun s_ H_ C_ c_ fp_ => (ev_call h__law_made (fun z => nomatch z) (CXo.blk C rfl s_ H_ C_ c_ fp_).rm ((CXo.blk C rfl s_ H_ C_ c_ fp_).g (x := "_law_made") (by decide +kernel)) (ea_cons (ev_v ((CXo.blk C rfl s_ H_ C_ c_ fp_).v (i := 1) (by decide +kernel) rfl)) (ea_cons (ev_v ((CXo.blk C rfl s_ H_ C_ c_ fp_).v (i := 15) (by decide +kernel) rfl)) ea_nil)) (by decide +kernel)))))) (st_lst C.calm (sts_cons (st_name (C.l (i := 9) (by decide +kernel) rfl)) (sts_cons (st_name (C.l (i := 10) (by decide +kernel) rfl)) (sts_cons (st_name (C.l (i := 11) (by decide +kernel) rfl)) sts_nil)))))
    (ss_cons (s_set (C.l (i := 2) (by decide +kernel) rfl) (ef_ev (ev_fl fl_reprG (ev_B (call_reprG (C.gd rfl) C.un) rdl_reprG (C.g (x := "repr") (by decide +kernel)) (B.repr_) (by decide +kernel) (ea_cons (ev_of_eo (eo_lst (ea_cons (ev_v (C.v (i := 9) (by decide +kernel) rfl)) (ea_cons (ev_v (C.v (i := 10) (by decide +kernel) rfl)) (ea_cons (ev_v (C.v (i := 11) (by decide +kernel) rfl)) ea_nil))))) ea_nil) (by decide +kernel) (by decide +kernel)))))
    (ss_cons (s_par C.calm (C.l (i := 12) (by decide +kernel) rfl) (C.l (i := 13) (by decide +kernel) rfl) (by decide) (C.p (i := 12) (by decide +kernel) rfl) (C.p (i := 13) (by decide +kernel) rfl) (em_own (eo_call h_product (fun z => nomatch z) C.rm (C.g (x := "product") (by decide +kernel)) (ea_cons (ev_v (C.v (i := 7) (by decide +kernel) rfl)) (ea_cons (ev_v (C.v (i := 9) (by decide +kernel) rfl)) (ea_cons (ev_v (C.v (i := 10) (by decide +kernel) rfl)) ea_nil))) (by decide +kernel)) (em_val (ef_ev (ev_of_eo (eo_Ty call_list_of rol_list (C.g (x := "list") (by decide +kernel)) (B.list_) (by decide +kernel) (ea_cons (ev_v (C.v (i := 9) (by decide +kernel) rfl)) ea_nil) (by decide +kernel) (by decide +kernel)))) em_nil)) (swapped2 C.sc.kind (C.p (i := 12) (by decide +kernel) rfl) (C.p (i := 13) (by decide +kernel) rfl) (by decide +kernel) rfl ⟨rfl, rfl⟩ rfl rfl))
    (ss_cons (s_for C.xe C.calm (efi_ei (ei_seq (ev_ix (ev_v (C.v (i := 8) (by decide +kernel) rfl)) ev_int (fun _ _ => rfl)))) (st_name (C.l (i := 3) (by decide +kernel) rfl)) (ss_one (s_set (C.l (i := 13) (by decide +kernel) rfl) (ef_ev (ev_of_eo (eo_call h_stepped (fun z => nomatch z) C.rm (C.g (x := "stepped") (by decide +kernel)) (ea_cons (ev_v (C.v (i := 7) (by decide +kernel) rfl)) (ea_cons (ev_v (C.v (i := 13) (by decide +kernel) rfl)) (ea_cons (ev_v (C.v (i := 3) (by decide +kernel) rfl)) ea_nil))) (by decide +kernel)))))))
    (ss_cons (s_if (eft_et (et_pw (ew_or (et_cmp (op_neD C.un) rc_ne (ev_b (C.v (i := 12) (by decide +kernel) rfl)) (ev_v (C.v (i := 13) (by decide +kernel) rfl)) (nomark _)) (ew_or (et_cmp (op_neD C.un) rc_ne (ev_b (C.v (i := 12) (by decide +kernel) rfl)) (ev_of_eo (eo_call h__law_product (fun z => nomatch z) C.rm (C.g (x := "_law_product") (by decide +kernel)) (ea_cons (ev_v (C.v (i := 1) (by decide +kernel) rfl)) (ea_cons (ev_v (C.v (i := 9) (by decide +kernel) rfl)) (ea_cons (ev_v (C.v (i := 10) (by decide +kernel) rfl)) ea_nil))) (by decide +kernel))) (nomark _)) (ew_or1 (et_cmp (op_neD C.un) rc_ne (ev_of_eo (eo_callK0 hk_product_0_other_one_kind C.rm (C.g (x := "product") (by decide +kernel)) (ek_cons (ev_v (C.v (i := 10) (by decide +kernel) rfl)) (ek_cons (ev_v (C.v (i := 9) (by decide +kernel) rfl)) (ek_cons (ev_v (C.v (i := 7) (by decide +kernel) rfl)) ek_nil))) (by decide +kernel))) (ev_b (C.v (i := 12) (by decide +kernel) rfl)) (nomark _))))))) (ss_one (s_ret ev_bl)) ss_nil)
    (ss_cons (s_if (eft_et (et_cmp (op_neD C.un) rc_ne (ev_of_eo (eo_call h_product (fun z => nomatch z) C.rm (C.g (x := "product") (by decide +kernel)) (ea_cons (ev_v (C.v (i := 7) (by decide +kernel) rfl)) (ea_cons (ev_b (C.v (i := 12) (by decide +kernel) rfl)) (ea_cons (ev_v (C.v (i := 11) (by decide +kernel) rfl)) ea_nil))) (by decide +kernel))) (ev_of_eo (eo_call h_product (fun z => nomatch z) C.rm (C.g (x := "product") (by decide +kernel)) (ea_cons (ev_v (C.v (i := 7) (by decide +kernel) rfl)) (ea_cons (ev_v (C.v (i := 9) (by decide +kernel) rfl)) (ea_cons (ev_of_eo (eo_call h_product (fun z => nomatch z) C.rm (C.g (x := "product") (by decide +kernel)) (ea_cons (ev_v (C.v (i := 7) (by decide +kernel) rfl)) (ea_cons (ev_v (C.v (i := 10) (by decide +kernel) rfl)) (ea_cons (ev_v (C.v (i := 11) (by decide +kernel) rfl)) ea_nil))) (by decide +kernel))) ea_nil))) (by decide +kernel))) (nomark _))) (ss_one (s_ret ev_bl)) ss_nil)
    (ss_cons (s_if (eft_et (et_cmp (op_neD C.un) rc_ne (ev_b (C.v (i := 12) (by decide +kernel) rfl)) (ev_call h__law_made (fun z => nomatch z) C.rm (C.g (x := "_law_made") (by decide +kernel)) (ea_cons (ev_v (C.v (i := 1) (by decide +kernel) rfl)) (ea_cons (ev_bin op_addD rd_add (ev_ix (ev_v (C.v (i := 8) (by decide +kernel) rfl)) ev_int (fun _ _ => rfl)) (ev_ix (ev_v (C.v (i := 8) (by decide +kernel) rfl)) ev_int (fun _ _ => rfl))) ea_nil)) (by decide +kernel)) (nomark _))) (ss_one (s_ret ev_bl)) ss_nil)
    (ss_cons (s_for C.xe C.calm (efi_ei (ei_seq (ev_of_eo (eo_lst (ea_cons (ev_v (C.v (i := 9) (by decide +kernel) rfl)) (ea_cons (ev_v (C.v (i := 10) (by decide +kernel) rfl)) (ea_cons (ev_v (C.v (i := 11) (by decide +kernel) rfl)) ea_nil))))))) (st_name (C.l (i := 4) (by decide +kernel) rfl)) (ss_cons (s_setO (C.l (i := 14) (by decide +kernel) rfl) (eo_call h_opposite (fun z => nomatch z) C.rm (C.g (x := "opposite") (by decide +kernel)) (ea_cons (ev_v (C.v (i := 7) (by decide +kernel) rfl)) (ea_cons (ev_v (C.v (i := 4) (by decide +kernel) rfl)) ea_nil)) (by decide +kernel)))
    (ss_cons (s_if (eft_et (et_pw (ew_or (et_cmp (op_neD C.un) rc_ne (ev_b (C.v (i := 14) (by decide +kernel) rfl)) (ev_call h__law_opposite (fun z => nomatch z) C.rm (C.g (x := "_law_opposite") (by decide +kernel)) (ea_cons (ev_v (C.v (i := 1) (by decide +kernel) rfl)) (ea_cons (ev_v (C.v (i := 4) (by decide +kernel) rfl)) ea_nil)) (by decide +kernel)) (nomark _)) (ew_or (et_cmp (op_neD C.un) rc_ne (ev_of_eo (eo_callK0 hk_opposite_0_order_kind C.rm (C.g (x := "opposite") (by decide +kernel)) (ek_cons (ev_v (C.v (i := 4) (by decide +kernel) rfl)) (ek_cons (ev_v (C.v (i := 7) (by decide +kernel) rfl)) ek_nil)) (by decide +kernel))) (ev_b (C.v (i := 14) (by decide +kernel) rfl)) (nomark _)) (ew_or1 (et_cmp (op_neD C.un) rc_ne (ev_of_eo (eo_call h_opposite (fun z => nomatch z) C.rm (C.g (x := "opposite") (by decide +kernel)) (ea_cons (ev_v (C.v (i := 7) (by decide +kernel) rfl)) (ea_cons (ev_b (C.v (i := 14) (by decide +kernel) rfl)) ea_nil)) (by decide +kernel))) (ev_v (C.v (i := 4) (by decide +kernel) rfl)) (nomark _))))))) (ss_one (s_ret ev_bl)) ss_nil)
    (ss_cons (s_if (eft_et (et_pw (ew_or (et_cmp (op_neD C.un) rc_ne (ev_of_eo (eo_call h_product (fun z => nomatch z) C.rm (C.g (x := "product") (by decide +kernel)) (ea_cons (ev_v (C.v (i := 7) (by decide +kernel) rfl)) (ea_cons (ev_v (C.v (i := 4) (by decide +kernel) rfl)) (ea_cons (ev_b (C.v (i := 14) (by decide +kernel) rfl)) ea_nil))) (by decide +kernel))) (ev_of_eo (eo_meth0 h_Kind_start C.rm (ev_v (C.v (i := 7) (by decide +kernel) rfl)))) (nomark _)) (ew_or1 (et_cmp (op_neD C.un) rc_ne (ev_of_eo (eo_call h_product (fun z => nomatch z) C.rm (C.g (x := "product") (by decide +kernel)) (ea_cons (ev_v (C.v (i := 7) (by decide +kernel) rfl)) (ea_cons (ev_b (C.v (i := 14) (by decide +kernel) rfl)) (ea_cons (ev_v (C.v (i := 4) (by decide +kernel) rfl)) ea_nil))) (by decide +kernel))) (ev_of_eo (eo_meth0 h_Kind_start C.rm (ev_v (C.v (i := 7) (by decide +kernel) rfl)))) (nomark _)))))) (ss_one (s_ret ev_bl)) ss_nil)
    (ss_cons (s_if (eft_et (et_cmp (op_neD C.un) rc_ne (ev_call h_crossings (fun z => nomatch z) C.rm (C.g (x := "crossings") (by decide +kernel)) (ea_cons (ev_v (C.v (i := 7) (by decide +kernel) rfl)) (ea_cons (ev_b (C.v (i := 14) (by decide +kernel) rfl)) ea_nil)) (by decide +kernel)) (ev_call h_crossings (fun z => nomatch z) C.rm (C.g (x := "crossings") (by decide +kernel)) (ea_cons (ev_v (C.v (i := 7) (by decide +kernel) rfl)) (ea_cons (ev_v (C.v (i := 4) (by decide +kernel) rfl)) ea_nil)) (by decide +kernel)) (nomark _))) (ss_one (s_ret ev_bl)) ss_nil)
    (ss_cons (s_appN (eo_call h_product (fun z => nomatch z) C.rm (C.g (x := "product") (by decide +kernel)) (ea_cons (ev_v (C.v (i := 7) (by decide +kernel) rfl)) (ea_cons (ev_v (C.v (i := 4) (by decide +kernel) rfl)) (ea_cons (ev_of_eo (eo_meth0 h_Kind_start C.rm (ev_v (C.v (i := 7) (by decide +kernel) rfl)))) ea_nil))) (by decide +kernel)) ev_non (fun _ _ po pe => pe_bm PySem.F.plainAttrs_list PySem.F.slot_list_append PySem.F.type_list_append mt_append po (pa_cons pe pa_nil)))
    (ss_cons (s_appN (eo_call h_product (fun z => nomatch z) C.rm (C.g (x := "product") (by decide +kernel)) (ea_cons (ev_v (C.v (i := 7) (by decide +kernel) rfl)) (ea_cons (ev_of_eo (eo_meth0 h_Kind_start C.rm (ev_v (C.v (i := 7) (by decide +kernel) rfl)))) (ea_cons (ev_v (C.v (i := 4) (by decide +kernel) rfl)) ea_nil))) (by decide +kernel)) ev_non (fun _ _ po pe => pe_bm PySem.F.plainAttrs_list PySem.F.slot_list_append PySem.F.type_list_append mt_append po (pa_cons pe pa_nil)))
    (ss_cons (s_if (eft_et (et_pw (ew_or (et_cmp (op_neD C.un) rc_ne (ev_of_eo (eo_call h_product (fun z => nomatch z) C.rm (C.g (x := "product") (by decide +kernel)) (ea_cons (ev_v (C.v (i := 7) (by decide +kernel) rfl)) (ea_cons (ev_v (C.v (i := 4) (by decide +kernel) rfl)) (ea_cons (ev_of_eo (eo_meth0 h_Kind_start C.rm (ev_v (C.v (i := 7) (by decide +kernel) rfl)))) ea_nil))) (by decide +kernel))) (ev_v (C.v (i := 4) (by decide +kernel) rfl)) (nomark _)) (ew_or1 (et_cmp (op_neD C.un) rc_ne (ev_of_eo (eo_call h_product (fun z => nomatch z) C.rm (C.g (x := "product") (by decide +kernel)) (ea_cons (ev_v (C.v (i := 7) (by decide +kernel) rfl)) (ea_cons (ev_of_eo (eo_meth0 h_Kind_start C.rm (ev_v (C.v (i := 7) (by decide +kernel) rfl)))) (ea_cons (ev_v (C.v (i := 4) (by decide +kernel) rfl)) ea_nil))) (by decide +kernel))) (ev_v (C.v (i := 4) (by decide +kernel) rfl)) (nomark _)))))) (ss_one (s_ret ev_bl)) ss_nil)
    (ss_cons (s_if (eft_et (et_cmp (op_neD C.un) rc_ne (ev_of_eo (eo_call h_heads (fun z => nomatch z) C.rm (C.g (x := "heads") (by decide +kernel)) (ea_cons (ev_v (C.v (i := 7) (by decide +kernel) rfl)) (ea_cons (ev_v (C.v (i := 4) (by decide +kernel) rfl)) ea_nil)) (by decide +kernel))) (ev_of_eo (eo_call h_falls (fun z => nomatch z) C.rm (C.g (x := "falls") (by decide +kernel)) (ea_cons (ev_v (C.v (i := 7) (by decide +kernel) rfl)) (ea_cons (ev_b (C.v (i := 14) (by decide +kernel) rfl)) ea_nil)) (by decide +kernel))) (nomark _))) (ss_one (s_ret ev_bl)) ss_nil)
    (ss_one (s_append (t0 := fun _ _ _ => True) (C.v (i := 14) (by decide +kernel) rfl) ev_non (fun te hp => pe_bm PySem.F.plainAttrs_list PySem.F.slot_list_append PySem.F.type_list_append mt_append (pe_var (C.v (i := 14) (by decide +kernel) rfl).ix (C.v (i := 14) (by decide +kernel) rfl).vis (C.v (i := 14) (by decide +kernel) rfl).nd (C.v (i := 14) (by decide +kernel) rfl).nc) (pa_cons hp pa_nil)))))))))))))
    (ss_cons (s_if (eft_et (et_cmp (op_neD C.un) rc_ne (ev_of_eo (eo_call h_opposite (fun z => nomatch z) C.rm (C.g (x := "opposite") (by decide +kernel)) (ea_cons (ev_v (C.v (i := 7) (by decide +kernel) rfl)) (ea_cons (ev_b (C.v (i := 12) (by decide +kernel) rfl)) ea_nil)) (by decide +kernel))) (ev_of_eo (eo_call h_product (fun z => nomatch z) C.rm (C.g (x := "product") (by decide +kernel)) (ea_cons (ev_v (C.v (i := 7) (by decide +kernel) rfl)) (ea_cons (ev_of_eo (eo_call h_opposite (fun z => nomatch z) C.rm (C.g (x := "opposite") (by decide +kernel)) (ea_cons (ev_v (C.v (i := 7) (by decide +kernel) rfl)) (ea_cons (ev_v (C.v (i := 10) (by decide +kernel) rfl)) ea_nil)) (by decide +kernel))) (ea_cons (ev_of_eo (eo_call h_opposite (fun z => nomatch z) C.rm (C.g (x := "opposite") (by decide +kernel)) (ea_cons (ev_v (C.v (i := 7) (by decide +kernel) rfl)) (ea_cons (ev_v (C.v (i := 9) (by decide +kernel) rfl)) ea_nil)) (by decide +kernel))) ea_nil))) (by decide +kernel))) (nomark _))) (ss_one (s_ret ev_bl)) ss_nil)
    (ss_cons (s_setO (C.l (i := 5) (by decide +kernel) rfl) (eo_Ty call_list_of rol_list (C.g (x := "list") (by decide +kernel)) (B.list_) (by decide +kernel) (ea_cons (ev_v (C.v (i := 9) (by decide +kernel) rfl)) ea_nil) (by decide +kernel) (by decide +kernel)))
    (ss_cons (s_if (eft_et (et_pw (ew_or (et_cmp (op_neD C.un) rc_ne (ev_of_eo (eo_call h_product (fun z => nomatch z) C.rm (C.g (x := "product") (by decide +kernel)) (ea_cons (ev_v (C.v (i := 7) (by decide +kernel) rfl)) (ea_cons (ev_b (C.v (i := 5) (by decide +kernel) rfl)) (ea_cons (ev_b (C.v (i := 5) (by decide +kernel) rfl)) ea_nil))) (by decide +kernel))) (ev_of_eo (eo_call h__law_product (fun z => nomatch z) C.rm (C.g (x := "_law_product") (by decide +kernel)) (ea_cons (ev_v (C.v (i := 1) (by decide +kernel) rfl)) (ea_cons (ev_v (C.v (i := 9) (by decide +kernel) rfl)) (ea_cons (ev_v (C.v (i := 9) (by decide +kernel) rfl)) ea_nil))) (by decide +kernel))) (nomark _)) (ew_or1 (et_cmp (op_neD C.un) rc_ne (ev_b (C.v (i := 5) (by decide +kernel) rfl)) (ev_v (C.v (i := 9) (by decide +kernel) rfl)) (nomark _)))))) (ss_one (s_ret ev_bl)) ss_nil)
    (ss_cons (s_asg (ef_ev (ev_v (C.v (i := 10) (by decide +kernel) rfl))) (st_all (C.v (i := 5) (by decide +kernel) rfl)))
    (ss_cons (s_if (eft_et (et_pw (ew_or (et_cmp (op_neD C.un) rc_ne (ev_of_eo (eo_call h_product (fun z => nomatch z) C.rm (C.g (x := "product") (by decide +kernel)) (ea_cons (ev_v (C.v (i := 7) (by decide +kernel) rfl)) (ea_cons (ev_b (C.v (i := 5) (by decide +kernel) rfl)) (ea_cons (ev_v (C.v (i := 11) (by decide +kernel) rfl)) ea_nil))) (by decide +kernel))) (ev_of_eo (eo_call h__law_product (fun z => nomatch z) C.rm (C.g (x := "_law_product") (by decide +kernel)) (ea_cons (ev_v (C.v (i := 1) (by decide +kernel) rfl)) (ea_cons (ev_v (C.v (i := 10) (by decide +kernel) rfl)) (ea_cons (ev_v (C.v (i := 11) (by decide +kernel) rfl)) ea_nil))) (by decide +kernel))) (nomark _)) (ew_or1 (et_cmp (op_neD C.un) rc_ne (ev_of_eo (eo_call h_opposite (fun z => nomatch z) C.rm (C.g (x := "opposite") (by decide +kernel)) (ea_cons (ev_v (C.v (i := 7) (by decide +kernel) rfl)) (ea_cons (ev_b (C.v (i := 5) (by decide +kernel) rfl)) ea_nil)) (by decide +kernel))) (ev_call h__law_opposite (fun z => nomatch z) C.rm (C.g (x := "_law_opposite") (by decide +kernel)) (ea_cons (ev_v (C.v (i := 1) (by decide +kernel) rfl)) (ea_cons (ev_v (C.v (i := 10) (by decide +kernel) rfl)) ea_nil)) (by decide +kernel)) (nomark _)))))) (ss_one (s_ret ev_bl)) ss_nil)
    (ss_cons (s_set (C.l (i := 6) (by decide +kernel) rfl) (ef_ev (ev_bin op_sub rd_sub (ev_bin op_addD rd_add (ev_call h_crossings (fun z => nomatch z) C.rm (C.g (x := "crossings") (by decide +kernel)) (ea_cons (ev_v (C.v (i := 7) (by decide +kernel) rfl)) (ea_cons (ev_v (C.v (i := 9) (by decide +kernel) rfl)) ea_nil)) (by decide +kernel)) (ev_call h_crossings (fun z => nomatch z) C.rm (C.g (x := "crossings") (by decide +kernel)) (ea_cons (ev_v (C.v (i := 7) (by decide +kernel) rfl)) (ea_cons (ev_v (C.v (i := 10) (by decide +kernel) rfl)) ea_nil)) (by decide +kernel))) (ev_tight (ev_call h_crossings (fun z => nomatch z) C.rm (C.g (x := "crossings") (by decide +kernel)) (ea_cons (ev_v (C.v (i := 7) (by decide +kernel) rfl)) (ea_cons (ev_b (C.v (i := 12) (by decide +kernel) rfl)) ea_nil)) (by decide +kernel))))))
    (ss_cons (s_append (t0 := fun _ _ _ => True) (C.v (i := 12) (by decide +kernel) rfl) ev_non (fun te hp => pe_bm PySem.F.plainAttrs_list PySem.F.slot_list_append PySem.F.type_list_append mt_append (pe_var (C.v (i := 12) (by decide +kernel) rfl).ix (C.v (i := 12) (by decide +kernel) rfl).vis (C.v (i := 12) (by decide +kernel) rfl).nd (C.v (i := 12) (by decide +kernel) rfl).nc) (pa_cons hp pa_nil)))
    (ss_cons (s_if (eft_et (et_cmp (op_neD C.un) rc_ne (ev_of_eo (eo_call h_product (fun z => nomatch z) C.rm (C.g (x := "product") (by decide +kernel)) (ea_cons (ev_v (C.v (i := 7) (by decide +kernel) rfl)) (ea_cons (ev_v (C.v (i := 9) (by decide +kernel) rfl)) (ea_cons (ev_v (C.v (i := 10) (by decide +kernel) rfl)) ea_nil))) (by decide +kernel))) (ev_of_eo (eo_cut (ev_b (C.v (i := 12) (by decide +kernel) rfl)) ep_none (ep_some (ev_un un_neg rd_neg ev_int)))) (nomark _))) (ss_one (s_ret ev_bl)) ss_nil)
    (ss_one (s_ret (ev_and (ev_cmp op_ge rc_ge (ev_v (C.v (i := 6) (by decide +kernel) rfl)) ev_int (nomark _)) (ev_and (ev_cmp (op_eqD C.un) rc_eq (ev_bin op_mod rd_mod (ev_fl fl_int (ev_Ty call_int1 rdl_int (C.g (x := "int") (by decide +kernel)) (B.int_) (by decide +kernel) (ea_cons (ev_v (C.v (i := 6) (by decide +kernel) rfl)) ea_nil) (by decide +kernel) (by decide +kernel))) ev_int) ev_int (nomark _)) (ev_one (ev_cmp (op_eqD C.un) rc_eq (ev_fl fl_reprG (ev_B (call_reprG (C.gd rfl) C.un) rdl_reprG (C.g (x := "repr") (by decide +kernel)) (B.repr_) (by decide +kernel) (ea_cons (ev_of_eo (eo_lst (ea_cons (ev_v (C.v (i := 9) (by decide +kernel) rfl)) (ea_cons (ev_v (C.v (i := 10) (by decide +kernel) rfl)) (ea_cons (ev_v (C.v (i := 11) (by decide +kernel) rfl)) ea_nil))))) ea_nil) (by decide +kernel) (by decide +kernel))) (ev_v (C.v (i := 2) (by decide +kernel) rfl)) (nomark _)))))))))))))))))))))))))
theorem fo__law_right (B : Bs mg) (Q : KG w K cl mg)
    (h__law_kind : FnG false P w K mg base "_law_kind" 3 n__law_kind (spF K cl m__law_kind))
    (h__law_row : FnG false P w K mg base "_law_row" 3 n__law_row (spF K cl m__law_row))
    (h_Kind___init__ : MkG P w K cl mg base "Kind" 4 n_Kind___init__ m_Kind___init__)
    (h__law_made : FnG false P w K mg base "_law_made" 3 n__law_made (spP K cl m__law_made))
    (h_product : FnG false P w K mg base "product" 7 n_product (spO K cl m_product))
    (h_stepped : FnG false P w K mg base "stepped" 7 n_stepped (spO K cl m_stepped))
    (hk_product_0_other_one_kind : FnK P w K mg base "product" 7 n_product (spO K cl m_product) 0 [("other" : Str), ("one" : Str), ("kind" : Str)] [2, 1, 0])
    (h__law_product : FnG false P w K mg base "_law_product" 2 n__law_product (spO K cl m__law_product))
    (h_opposite : FnG false P w K mg base "opposite" 7 n_opposite (spO K cl m_opposite))
    (hk_opposite_0_order_kind : FnK P w K mg base "opposite" 7 n_opposite (spO K cl m_opposite) 0 [("order" : Str), ("kind" : Str)] [1, 0])
    (h__law_opposite : FnG false P w K mg base "_law_opposite" 5 n__law_opposite (spP K cl m__law_opposite))
    (h_Kind_start : MethG P w K mg base (cl "Kind") "start" 1 n_Kind_start (spO K cl m_Kind_start))
    (h_crossings : FnG false P w K mg base "crossings" 7 n_crossings (spP K cl m_crossings))
    (h_heads : FnG false P w K mg base "heads" 7 n_heads (spO K cl m_heads))
    (h_falls : FnG false P w K mg base "falls" 7 n_falls (spO K cl m_falls)) {f : Addr} {fd : FuncData} (F : FunD K "_law_right" "_law_right" (defArgs s__law_right) (defBody s__law_right) (defScope s__law_right) [] [] f fd) : FnB true P w K mg base CX0 8 f fd n__law_right (spF K cl m__law_right) := fn_F F sc__law_right (cl := cl) (by decide) (by decide) (bd__law_right B Q h__law_kind h__law_row h_Kind___init__ h__law_made h_product h_stepped hk_product_0_other_one_kind h__law_product h_opposite hk_opposite_0_order_kind h__law_opposite h_Kind_start h_crossings h_heads h_falls)
theorem ok__law_right (B : Bs mg) (Q : KG w K cl mg)
    (h__law_kind : FnG false P w K mg base "_law_kind" 3 n__law_kind (spF K cl m__law_kind))
    (h__law_row : FnG false P w K mg base "_law_row" 3 n__law_row (spF K cl m__law_row))
    (h_Kind___init__ : MkG P w K cl mg base "Kind" 4 n_Kind___init__ m_Kind___init__)
    (h__law_made : FnG false P w K mg base "_law_made" 3 n__law_made (spP K cl m__law_made))
    (h_product : FnG false P w K mg base "product" 7 n_product (spO K cl m_product))
    (h_stepped : FnG false P w K mg base "stepped" 7 n_stepped (spO K cl m_stepped))
    (hk_product_0_other_one_kind : FnK P w K mg base "product" 7 n_product (spO K cl m_product) 0 [("other" : Str), ("one" : Str), ("kind" : Str)] [2, 1, 0])
    (h__law_product : FnG false P w K mg base "_law_product" 2 n__law_product (spO K cl m__law_product))
    (h_opposite : FnG false P w K mg base "opposite" 7 n_opposite (spO K cl m_opposite))
    (hk_opposite_0_order_kind : FnK P w K mg base "opposite" 7 n_opposite (spO K cl m_opposite) 0 [("order" : Str), ("kind" : Str)] [1, 0])
    (h__law_opposite : FnG false P w K mg base "_law_opposite" 5 n__law_opposite (spP K cl m__law_opposite))
    (h_Kind_start : MethG P w K mg base (cl "Kind") "start" 1 n_Kind_start (spO K cl m_Kind_start))
    (h_crossings : FnG false P w K mg base "crossings" 7 n_crossings (spP K cl m_crossings))
    (h_heads : FnG false P w K mg base "heads" 7 n_heads (spO K cl m_heads))
    (h_falls : FnG false P w K mg base "falls" 7 n_falls (spO K cl m_falls)) {f : Addr} {fd : FuncData} (F : FunD K "_law_right" "_law_right" (defArgs s__law_right) (defBody s__law_right) (defScope s__law_right) [] [] f fd) (hm : mg "_law_right" = some (.ref f)) : FnG true P w K mg base "_law_right" 8 n__law_right (spF K cl m__law_right) :=
  ⟨⟨f, fd, fo__law_right B Q h__law_kind h__law_row h_Kind___init__ h__law_made h_product h_stepped hk_product_0_other_one_kind h__law_product h_opposite hk_opposite_0_order_kind h__law_opposite h_Kind_start h_crossings h_heads h_falls F, hm, F.kp, F.bindsN fun _ _ _ _ _ _ us hl => match us, hl with | [_], _ => rfl⟩⟩
abbrev s_ahead_of : Stmt := (top 19)
abbrev n_ahead_of : List Str := [("kind" : Str), ("order" : Str), ("step" : Str)]
abbrev N_ahead_of : List Str := [("kind" : Str), ("order" : Str), ("step" : Str)]
theorem sc_ahead_of : FnScope N_ahead_of n_ahead_of (defScope s_ahead_of) := ⟨rfl, rfl, rfl, by decide +kernel, rfl, by decide +kernel, by decide +kernel⟩
theorem bd_ahead_of (B : Bs mg) (Q : KG w K cl mg)
    (h_product_of : FnG false P w K mg base "product_of" 3 n_product_of (spO K cl m_product_of))
    (h_by_step : FnG false P w K mg base "by_step" 2 n_by_step (spO K cl m_by_step))
    (h_Kind_start : MethG P w K mg base (cl "Kind") "start" 1 n_Kind_start (spO K cl m_Kind_start)) : Body false P w K cl mg base N_ahead_of (defScope s_ahead_of) 3 (defBody s_ahead_of) mb_ahead_of := by
  intro X h1 h2 h3 h4 h5 C
  subst h1 h2 h3 h4 h5
  exact (ss_one (s_retO (eo_call h_product_of (fun z => nomatch z) C.rm (C.g (x := "product_of") (by decide +kernel)) (ea_cons (ev_v (C.v (i := 0) (by decide +kernel) rfl)) (ea_cons (ev_of_eo (eo_call h_by_step (fun z => nomatch z) C.rm (C.g (x := "by_step") (by decide +kernel)) (ea_cons (ev_v (C.v (i := 0) (by decide +kernel) rfl)) (ea_cons (ev_of_eo (eo_meth0 h_Kind_start C.rm (ev_v (C.v (i := 0) (by decide +kernel) rfl)))) (ea_cons (ev_v (C.v (i := 2) (by decide +kernel) rfl)) ea_nil))) (by decide +kernel))) (ea_cons (ev_v (C.v (i := 1) (by decide +kernel) rfl)) ea_nil))) (by decide +kernel))))
theorem fo_ahead_of (B : Bs mg) (Q : KG w K cl mg)
    (h_product_of : FnG false P w K mg base "product_of" 3 n_product_of (spO K cl m_product_of))
    (h_by_step : FnG false P w K mg base "by_step" 2 n_by_step (spO K cl m_by_step))
    (h_Kind_start : MethG P w K mg base (cl "Kind") "start" 1 n_Kind_start (spO K cl m_Kind_start)) {f : Addr} {fd : FuncData} (F : FunD K "ahead_of" "ahead_of" (defArgs s_ahead_of) (defBody s_ahead_of) (defScope s_ahead_of) [] [] f fd) : FnB false P w K mg base CX0 4 f fd n_ahead_of (spO K cl m_ahead_of) := fn_O F sc_ahead_of (cl := cl) (bd_ahead_of B Q h_product_of h_by_step h_Kind_start)
theorem ok_ahead_of (B : Bs mg) (Q : KG w K cl mg)
    (h_product_of : FnG false P w K mg base "product_of" 3 n_product_of (spO K cl m_product_of))
    (h_by_step : FnG false P w K mg base "by_step" 2 n_by_step (spO K cl m_by_step))
    (h_Kind_start : MethG P w K mg base (cl "Kind") "start" 1 n_Kind_start (spO K cl m_Kind_start)) {f : Addr} {fd : FuncData} (F : FunD K "ahead_of" "ahead_of" (defArgs s_ahead_of) (defBody s_ahead_of) (defScope s_ahead_of) [] [] f fd) (hm : mg "ahead_of" = some (.ref f)) : FnG false P w K mg base "ahead_of" 4 n_ahead_of (spO K cl m_ahead_of) :=
  ⟨⟨f, fd, fo_ahead_of B Q h_product_of h_by_step h_Kind_start F, hm, F.kp, F.bindsN fun _ _ _ _ _ _ us hl => match us, hl with | [_, _, _], _ => rfl⟩⟩
abbrev s_stepped_ahead : Stmt := (top 33)
abbrev n_stepped_ahead : List Str := [("kind" : Str), ("order" : Str), ("step" : Str)]
abbrev N_stepped_ahead : List Str := [("kind" : Str), ("order" : Str), ("step" : Str)]
theorem sc_stepped_ahead : FnScope N_stepped_ahead n_stepped_ahead (defScope s_stepped_ahead) := ⟨rfl, rfl, rfl, by decide +kernel, rfl, by decide +kernel, by decide +kernel⟩
theorem bd_stepped_ahead (B : Bs mg) (Q : KG w K cl mg)
    (h_check_orders : FnG false P w K mg base "check_orders" 6 n_check_orders (spP K cl m_check_orders))
    (h_check_step : FnG false P w K mg base "check_step" 4 n_check_step (spP K cl m_check_step))
    (h_ahead_of : FnG false P w K mg base "ahead_of" 4 n_ahead_of (spO K cl m_ahead_of)) : Body false P w K cl mg base N_stepped_ahead (defScope s_stepped_ahead) 6 (defBody s_stepped_ahead) mb_stepped_ahead := by
  intro X h1 h2 h3 h4 h5 C
  subst h1 h2 h3 h4 h5
  exact (ss_cons (s_expr (ef_ev (ev_call h_check_orders (fun z => nomatch z) C.rm (C.g (x := "check_orders") (by decide +kernel)) (ea_cons (ev_v (C.v (i := 0) (by decide +kernel) rfl)) (ea_cons (ev_of_eo (eo_lst (ea_cons (ev_v (C.v (i := 1) (by decide +kernel) rfl)) ea_nil))) ea_nil)) (by decide +kernel))))
    (ss_cons (s_expr (ef_ev (ev_call h_check_step (fun z => nomatch z) C.rm (C.g (x := "check_step") (by decide +kernel)) (ea_cons (ev_v (C.v (i := 0) (by decide +kernel) rfl)) (ea_cons (ev_v (C.v (i := 2) (by decide +kernel) rfl)) ea_nil)) (by decide +kernel))))
    (ss_one (s_retO (eo_call h_ahead_of (fun z => nomatch z) C.rm (C.g (x := "ahead_of") (by decide +kernel)) (ea_cons (ev_v (C.v (i := 0) (by decide +kernel) rfl)) (ea_cons (ev_v (C.v (i := 1) (by decide +kernel) rfl)) (ea_cons (ev_v (C.v (i := 2) (by decide +kernel) rfl)) ea_nil))) (by decide +kernel))))))
theorem fo_stepped_ahead (B : Bs mg) (Q : KG w K cl mg)
    (h_check_orders : FnG false P w K mg base "check_orders" 6 n_check_orders (spP K cl m_check_orders))
    (h_check_step : FnG false P w K mg base "check_step" 4 n_check_step (spP K cl m_check_step))
    (h_ahead_of : FnG false P w K mg base "ahead_of" 4 n_ahead_of (spO K cl m_ahead_of)) {f : Addr} {fd : FuncData} (F : FunD K "stepped_ahead" "stepped_ahead" (defArgs s_stepped_ahead) (defBody s_stepped_ahead) (defScope s_stepped_ahead) [] [] f fd) : FnB false P w K mg base CX0 7 f fd n_stepped_ahead (spO K cl m_stepped_ahead) := fn_O F sc_stepped_ahead (cl := cl) (bd_stepped_ahead B Q h_check_orders h_check_step h_ahead_of)
theorem ok_stepped_ahead (B : Bs mg) (Q : KG w K cl mg)
    (h_check_orders : FnG false P w K mg base "check_orders" 6 n_check_orders (spP K cl m_check_orders))
    (h_check_step : FnG false P w K mg base "check_step" 4 n_check_step (spP K cl m_check_step))
    (h_ahead_of : FnG false P w K mg base "ahead_of" 4 n_ahead_of (spO K cl m_ahead_of)) {f : Addr} {fd : FuncData} (F : FunD K "stepped_ahead" "stepped_ahead" (defArgs s_stepped_ahead) (defBody s_stepped_ahead) (defScope s_stepped_ahead) [] [] f fd) (hm : mg "stepped_ahead" = some (.ref f)) : FnG false P w K mg base "stepped_ahead" 7 n_stepped_ahead (spO K cl m_stepped_ahead) :=
  ⟨⟨f, fd, fo_stepped_ahead B Q h_check_orders h_check_step h_ahead_of F, hm, F.kp, F.bindsN fun _ _ _ _ _ _ us hl => match us, hl with | [_, _, _], _ => rfl⟩⟩
abbrev s__law_cell : Stmt := (top 39)
abbrev n__law_cell : List Str := [("_law_script" : Str), ("_law_index" : Str)]
abbrev N__law_cell : List Str := [("_law_script" : Str), ("_law_index" : Str)]
theorem sc__law_cell : FnScope N__law_cell n__law_cell (defScope s__law_cell) := ⟨rfl, rfl, rfl, by decide +kernel, rfl, by decide +kernel, by decide +kernel⟩
theorem bd__law_cell (B : Bs mg) (Q : KG w K cl mg) : Body false P w K cl mg base N__law_cell (defScope s__law_cell) 0 (defBody s__law_cell) mb__law_cell := by
  intro X h1 h2 h3 h4 h5 C
  subst h1 h2 h3 h4 h5
  exact (ss_cons (s_if (eft_et (et_cmp op_lt rc_lt (ev_v (C.v (i := 1) (by decide +kernel) rfl)) (ev_fl fl_len (ev_B call_lenD' rdl_len (C.g (x := "len") (by decide +kernel)) (B.len_) (by decide +kernel) (ea_cons (ev_v (C.v (i := 0) (by decide +kernel) rfl)) ea_nil) (by decide +kernel) (by decide +kernel))) (nomark _))) (ss_one (s_ret (ev_ix (ev_v (C.v (i := 0) (by decide +kernel) rfl)) (ev_v (C.v (i := 1) (by decide +kernel) rfl)) (fun _ _ => rfl)))) ss_nil)
    (ss_one (s_ret (ev_bin op_mod rd_mod (ev_fl fl_sum (ev_B (cr_sum C.calm) rdl_sum (C.g (x := "sum") (by decide +kernel)) (B.sum_) (by decide +kernel) (ea_cons (ev_of_eo (eo_cut (ev_v (C.v (i := 0) (by decide +kernel) rfl)) ep_none (ep_some ev_int))) ea_nil) (by decide +kernel) (by decide +kernel))) ev_int))))
theorem fo__law_cell (B : Bs mg) (Q : KG w K cl mg) {f : Addr} {fd : FuncData} (F : FunD K "_law_cell" "_law_cell" (defArgs s__law_cell) (defBody s__law_cell) (defScope s__law_cell) [] [] f fd) : FnB false P w K mg base CX0 1 f fd n__law_cell (spP K cl m__law_cell) := fn_P F sc__law_cell (cl := cl) (bd__law_cell B Q )
theorem ok__law_cell (B : Bs mg) (Q : KG w K cl mg) {f : Addr} {fd : FuncData} (F : FunD K "_law_cell" "_law_cell" (defArgs s__law_cell) (defBody s__law_cell) (defScope s__law_cell) [] [] f fd) (hm : mg "_law_cell" = some (.ref f)) : FnG false P w K mg base "_law_cell" 1 n__law_cell (spP K cl m__law_cell) :=
  ⟨⟨f, fd, fo__law_cell B Q  F, hm, F.kp, F.bindsN fun _ _ _ _ _ _ us hl => match us, hl with | [_, _], _ => rfl⟩⟩
abbrev s__law_generator : Stmt := (top 40)
abbrev n__law_generator : List Str := [("_law_script" : Str), ("_law_index" : Str)]
abbrev N__law_generator : List Str := [("_law_script" : Str), ("_law_index" : Str), ("_law_seed" : Str)]
theorem sc__law_generator : FnScope N__law_generator n__law_generator (defScope s__law_generator) := ⟨rfl, rfl, rfl, by decide +kernel, rfl, by decide +kernel, by decide +kernel⟩
theorem bd__law_generator (B : Bs mg) (Q : KG w K cl mg)
    (h__law_cell : FnG false P w K mg base "_law_cell" 1 n__law_cell (spP K cl m__law_cell)) : Body false P w K cl mg base N__law_generator (defScope s__law_generator) 1 (defBody s__law_generator) mb__law_generator := by
  intro X h1 h2 h3 h4 h5 C
  subst h1 h2 h3 h4 h5
  exact (ss_cons (s_set (C.l (i := 2) (by decide +kernel) rfl) (ef_ev (ev_call h__law_cell (fun z => nomatch z) C.rm (C.g (x := "_law_cell") (by decide +kernel)) (ea_cons (ev_v (C.v (i := 0) (by decide +kernel) rfl)) (ea_cons (ev_v (C.v (i := 1) (by decide +kernel) rfl)) ea_nil)) (by decide +kernel))))
    (ss_one (s_retO (eo_lst (ea_cons (ev_bin op_mod rd_mod (ev_fl fl_int (ev_Ty call_int1 rdl_int (C.g (x := "int") (by decide +kernel)) (B.int_) (by decide +kernel) (ea_cons (ev_fl fl_max (ev_B (call_max2 C.calm) rdl_max (C.g (x := "max") (by decide +kernel)) (B.max_) (by decide +kernel) (ea_cons (ev_bin op_sub rd_sub (ev_v (C.v (i := 2) (by decide +kernel) rfl)) (ev_bin op_powD rd_pow ev_int ev_int)) (ea_cons ev_int ea_nil)) (by decide +kernel) (by decide +kernel))) ea_nil) (by decide +kernel) (by decide +kernel))) (ev_bin op_powD rd_pow (ev_bin op_powD rd_pow ev_int ev_int) ev_int)) (ea_cons (ev_bin op_mod rd_mod (ev_fl fl_int (ev_Ty call_int1 rdl_int (C.g (x := "int") (by decide +kernel)) (B.int_) (by decide +kernel) (ea_cons (ev_v (C.v (i := 2) (by decide +kernel) rfl)) ea_nil) (by decide +kernel) (by decide +kernel))) ev_int) (ea_cons (ev_bin op_mulD rd_mul ev_int (ev_v (C.v (i := 1) (by decide +kernel) rfl))) ea_nil)))))))
theorem fo__law_generator (B : Bs mg) (Q : KG w K cl mg)
    (h__law_cell : FnG false P w K mg base "_law_cell" 1 n__law_cell (spP K cl m__law_cell)) {f : Addr} {fd : FuncData} (F : FunD K "_law_generator" "_law_generator" (defArgs s__law_generator) (defBody s__law_generator) (defScope s__law_generator) [] [] f fd) : FnB false P w K mg base CX0 2 f fd n__law_generator (spO K cl m__law_generator) := fn_O F sc__law_generator (cl := cl) (bd__law_generator B Q h__law_cell)
theorem ok__law_generator (B : Bs mg) (Q : KG w K cl mg)
    (h__law_cell : FnG false P w K mg base "_law_cell" 1 n__law_cell (spP K cl m__law_cell)) {f : Addr} {fd : FuncData} (F : FunD K "_law_generator" "_law_generator" (defArgs s__law_generator) (defBody s__law_generator) (defScope s__law_generator) [] [] f fd) (hm : mg "_law_generator" = some (.ref f)) : FnG false P w K mg base "_law_generator" 2 n__law_generator (spO K cl m__law_generator) :=
  ⟨⟨f, fd, fo__law_generator B Q h__law_cell F, hm, F.kp, F.bindsN fun _ _ _ _ _ _ us hl => match us, hl with | [_, _], _ => rfl⟩⟩
abbrev s_law : Stmt := (top 55)
abbrev n_law : List Str := [("_law_script" : Str)]
abbrev N_law : List Str := [("_law_script" : Str), ("_law_index" : Str), ("_law_mirror" : Str), ("_law_ring" : Str), ("_law_two" : Str), ("_law_great" : Str)]
theorem sc_law : FnScope N_law n_law (defScope s_law) := ⟨rfl, rfl, rfl, by decide +kernel, rfl, by decide +kernel, by decide +kernel⟩
theorem bd_law (B : Bs mg) (Q : KG w K cl mg)
    (h__law_right : FnG true P w K mg base "_law_right" 8 n__law_right (spF K cl m__law_right))
    (h__law_generator : FnG false P w K mg base "_law_generator" 2 n__law_generator (spO K cl m__law_generator))
    (h_Kind___init__ : MkG P w K cl mg base "Kind" 4 n_Kind___init__ m_Kind___init__)
    (h_opposite : FnG false P w K mg base "opposite" 7 n_opposite (spO K cl m_opposite))
    (h_stepped_ahead : FnG false P w K mg base "stepped_ahead" 7 n_stepped_ahead (spO K cl m_stepped_ahead))
    (h_stepped : FnG false P w K mg base "stepped" 7 n_stepped (spO K cl m_stepped))
    (h_product : FnG false P w K mg base "product" 7 n_product (spO K cl m_product)) : Body true P w K cl mg base N_law (defScope s_law) 8 (defBody s_law) mb_law := by
  intro X h1 h2 h3 h4 h5 C
  subst h1 h2 h3 h4 h5
  exact (ss_cons (s_for C.xe C.calm (efi_ei (ei_rg1 (C.g (x := "range") (by decide +kernel)) B.range_ ev_int)) (st_name (C.l (i := 1) (by decide +kernel) rfl)) (ss_one (s_if (eft_et (et_not (et_val (ev_callNew h__law_right (fun _ => C.gd rfl) C.rm (C.g (x := "_law_right") (by decide +kernel)) (eo_call h__law_generator (fun z => nomatch z) C.rm (C.g (x := "_law_generator") (by decide +kernel)) (ea_cons (ev_v (C.v (i := 0) (by decide +kernel) rfl)) (ea_cons (ev_v (C.v (i := 1) (by decide +kernel) rfl)) ea_nil)) (by decide +kernel)) ea_nil (by decide +kernel))))) (ss_one (s_ret ev_bl)) ss_nil)))
    (ss_cons (s_asg (ef_ev (ev_tup (ea_cons (ev_make h_Kind___init__ C.rm (C.g (x := "Kind") (by decide +kernel)) (ea_cons ev_str (ea_cons ev_int ea_nil)) (by decide +kernel)) (ea_cons (ev_make h_Kind___init__ C.rm (C.g (x := "Kind") (by decide +kernel)) (ea_cons ev_str (ea_cons ev_int ea_nil)) (by decide +kernel)) (ea_cons (ev_make h_Kind___init__ C.rm (C.g (x := "Kind") (by decide +kernel)) (ea_cons ev_str (ea_cons ev_int ea_nil)) (by decide +kernel)) (ea_cons (ev_of_eo (eo_lst (ea_cons (ev_un un_neg rd_neg ev_int) (ea_cons ev_int ea_nil)))) ea_nil)))))) (st_tup C.calm (sts_cons (st_name (C.l (i := 2) (by decide +kernel) rfl)) (sts_cons (st_name (C.l (i := 3) (by decide +kernel) rfl)) (sts_cons (st_name (C.l (i := 4) (by decide +kernel) rfl)) (sts_cons (st_name (C.l (i := 5) (by decide +kernel) rfl)) sts_nil))))))
    (ss_cons (s_if (eft_et (et_pw (ew_or (et_cmp (op_neD C.un) rc_ne (ev_of_eo (eo_call h_opposite (fun z => nomatch z) C.rm (C.g (x := "opposite") (by decide +kernel)) (ea_cons (ev_v (C.v (i := 4) (by decide +kernel) rfl)) (ea_cons (ev_v (C.v (i := 5) (by decide +kernel) rfl)) ea_nil)) (by decide +kernel))) (ev_of_eo (eo_lst (ea_cons ev_int (ea_cons (ev_un un_neg rd_neg ev_int) ea_nil)))) (nomark _)) (ew_or1 (et_cmp (op_neD C.un) rc_ne (ev_v (C.v (i := 5) (by decide +kernel) rfl)) (ev_of_eo (eo_lst (ea_cons (ev_un un_neg rd_neg ev_int) (ea_cons ev_int ea_nil)))) (nomark _)))))) (ss_one (s_ret ev_bl)) ss_nil)
    (ss_cons (s_if (eft_et (et_pw (ew_or (et_cmp (op_neD C.un) rc_ne (ev_of_eo (eo_call h_product (fun z => nomatch z) C.rm (C.g (x := "product") (by decide +kernel)) (ea_cons (ev_v (C.v (i := 4) (by decide +kernel) rfl)) (ea_cons (ev_v (C.v (i := 5) (by decide +kernel) rfl)) (ea_cons (ev_v (C.v (i := 5) (by decide +kernel) rfl)) ea_nil))) (by decide +kernel))) (ev_of_eo (eo_lst (ea_cons (ev_un un_neg rd_neg ev_int) (ea_cons ev_int ea_nil)))) (nomark _)) (ew_or (et_cmp (op_neD C.un) rc_ne (ev_of_eo (eo_call h_stepped (fun z => nomatch z) C.rm (C.g (x := "stepped") (by decide +kernel)) (ea_cons (ev_v (C.v (i := 4) (by decide +kernel) rfl)) (ea_cons (ev_v (C.v (i := 5) (by decide +kernel) rfl)) (ea_cons ev_int ea_nil))) (by decide +kernel))) (ev_of_eo (eo_lst (ea_cons ev_int (ea_cons (ev_un un_neg rd_neg ev_int) ea_nil)))) (nomark _)) (ew_or1 (et_cmp (op_neD C.un) rc_ne (ev_of_eo (eo_call h_stepped_ahead (fun z => nomatch z) C.rm (C.g (x := "stepped_ahead") (by decide +kernel)) (ea_cons (ev_v (C.v (i := 4) (by decide +kernel) rfl)) (ea_cons (ev_v (C.v (i := 5) (by decide +kernel) rfl)) (ea_cons ev_int ea_nil))) (by decide +kernel))) (ev_of_eo (eo_lst (ea_cons (ev_un un_neg rd_neg ev_int) (ea_cons ev_int ea_nil)))) (nomark _))))))) (ss_one (s_ret ev_bl)) ss_nil)
    (ss_cons (s_if (eft_et (et_pw (ew_or (et_cmp (op_neD C.un) rc_ne (ev_of_eo (eo_call h_opposite (fun z => nomatch z) C.rm (C.g (x := "opposite") (by decide +kernel)) (ea_cons (ev_v (C.v (i := 2) (by decide +kernel) rfl)) (ea_cons (ev_of_eo (eo_lst (ea_cons (ev_un un_neg rd_neg ev_int) (ea_cons ev_int ea_nil)))) ea_nil)) (by decide +kernel))) (ev_of_eo (eo_lst (ea_cons ev_int (ea_cons (ev_un un_neg rd_neg ev_int) ea_nil)))) (nomark _)) (ew_or1 (et_cmp (op_neD C.un) rc_ne (ev_of_eo (eo_call h_product (fun z => nomatch z) C.rm (C.g (x := "product") (by decide +kernel)) (ea_cons (ev_v (C.v (i := 2) (by decide +kernel) rfl)) (ea_cons (ev_of_eo (eo_lst (ea_cons (ev_un un_neg rd_neg ev_int) (ea_cons ev_int ea_nil)))) (ea_cons (ev_of_eo (eo_lst (ea_cons (ev_un un_neg rd_neg ev_int) (ea_cons ev_int ea_nil)))) ea_nil))) (by decide +kernel))) (ev_of_eo (eo_lst (ea_cons (ev_un un_neg rd_neg ev_int) (ea_cons (ev_un un_neg rd_neg ev_int) ea_nil)))) (nomark _)))))) (ss_one (s_ret ev_bl)) ss_nil)
    (ss_one (s_ret (ev_and (ev_cmp (op_eqD C.un) rc_eq (ev_of_eo (eo_call h_product (fun z => nomatch z) C.rm (C.g (x := "product") (by decide +kernel)) (ea_cons (ev_v (C.v (i := 3) (by decide +kernel) rfl)) (ea_cons (ev_of_eo (eo_lst (ea_cons (ev_un un_neg rd_neg ev_int) (ea_cons ev_int (ea_cons ev_int ea_nil))))) (ea_cons (ev_of_eo (eo_lst (ea_cons ev_int (ea_cons ev_int (ea_cons ev_int ea_nil))))) ea_nil))) (by decide +kernel))) (ev_of_eo (eo_lst (ea_cons ev_int (ea_cons (ev_un un_neg rd_neg ev_int) (ea_cons ev_int ea_nil))))) (nomark _)) (ev_one (ev_cmp (op_eqD C.un) rc_eq (ev_of_eo (eo_call h_opposite (fun z => nomatch z) C.rm (C.g (x := "opposite") (by decide +kernel)) (ea_cons (ev_v (C.v (i := 3) (by decide +kernel) rfl)) (ea_cons (ev_of_eo (eo_lst (ea_cons ev_int (ea_cons (ev_un un_neg rd_neg ev_int) (ea_cons ev_int ea_nil))))) ea_nil)) (by decide +kernel))) (ev_of_eo (eo_lst (ea_cons (ev_un un_neg rd_neg ev_int) (ea_cons ev_int (ea_cons ev_int ea_nil))))) (nomark _)))))))))))
theorem fo_law (B : Bs mg) (Q : KG w K cl mg)
    (h__law_right : FnG true P w K mg base "_law_right" 8 n__law_right (spF K cl m__law_right))
    (h__law_generator : FnG false P w K mg base "_law_generator" 2 n__law_generator (spO K cl m__law_generator))
    (h_Kind___init__ : MkG P w K cl mg base "Kind" 4 n_Kind___init__ m_Kind___init__)
    (h_opposite : FnG false P w K mg base "opposite" 7 n_opposite (spO K cl m_opposite))
    (h_stepped_ahead : FnG false P w K mg base "stepped_ahead" 7 n_stepped_ahead (spO K cl m_stepped_ahead))
    (h_stepped : FnG false P w K mg base "stepped" 7 n_stepped (spO K cl m_stepped))
    (h_product : FnG false P w K mg base "product" 7 n_product (spO K cl m_product)) {f : Addr} {fd : FuncData} (F : FunD K "law" "law" (defArgs s_law) (defBody s_law) (defScope s_law) [] [] f fd) : FnB true P w K mg base CX0 9 f fd n_law (spP K cl m_law) := fn_P F sc_law (cl := cl) (bd_law B Q h__law_right h__law_generator h_Kind___init__ h_opposite h_stepped_ahead h_stepped h_product)
theorem ok_law (B : Bs mg) (Q : KG w K cl mg)
    (h__law_right : FnG true P w K mg base "_law_right" 8 n__law_right (spF K cl m__law_right))
    (h__law_generator : FnG false P w K mg base "_law_generator" 2 n__law_generator (spO K cl m__law_generator))
    (h_Kind___init__ : MkG P w K cl mg base "Kind" 4 n_Kind___init__ m_Kind___init__)
    (h_opposite : FnG false P w K mg base "opposite" 7 n_opposite (spO K cl m_opposite))
    (h_stepped_ahead : FnG false P w K mg base "stepped_ahead" 7 n_stepped_ahead (spO K cl m_stepped_ahead))
    (h_stepped : FnG false P w K mg base "stepped" 7 n_stepped (spO K cl m_stepped))
    (h_product : FnG false P w K mg base "product" 7 n_product (spO K cl m_product)) {f : Addr} {fd : FuncData} (F : FunD K "law" "law" (defArgs s_law) (defBody s_law) (defScope s_law) [] [] f fd) (hm : mg "law" = some (.ref f)) : FnG true P w K mg base "law" 9 n_law (spP K cl m_law) :=
  ⟨⟨f, fd, fo_law B Q h__law_right h__law_generator h_Kind___init__ h_opposite h_stepped_ahead h_stepped h_product F, hm, F.kp, F.bindsN fun _ _ _ _ _ _ us hl => match us, hl with | [_], _ => rfl⟩⟩
end
end k04

namespace Lay
open PySem PySem.Spec PyProof.Rows L2
open Evl (Ex)
/-! ### facts that the head tells -/
def clK (K : Fg) : Str → Addr := fun c => He.ga K c
def clsB (K : Fg) (C : Addr) : Bool :=
  decide (PySem.W.findIn K (.ref C) "__class__" = some (some (.builtin "object.__class__"))) &&
  (decide (PySem.W.specialIn K (.builtin "object.__class__") "__get__" = some (some (.builtin "getset_descriptor.__get__"))) &&
  (decide (PySem.W.takesIn K (.builtin "object.__class__") = some true) &&
  (decide (PySem.W.mroIn K C (.type "object") = some true) &&
  (decide (PySem.W.kitOne K (.ref C) (.ref C) = some true) &&
  (tyNames.all (fun t => decide (PySem.W.kitOne K (.type t) (.ref C) = some false)) && tyNames.all (fun t => decide (PySem.W.subIn K (.type t) (.ref C) = some false)))))))
theorem clsG_of {K : Fg} {C : Addr} (c : Cls K C) (h : clsB K C = true) : ClsG K C := by
  unfold clsB at h
  simp only [Bool.and_eq_true, decide_eq_true_eq, List.all_eq_true] at h
  obtain ⟨h1, h2, h3, h4, h5, h6, h7⟩ := h
  exact ⟨c, h1, h2, h3, h4, h5, h6, h7⟩
def tupAt (K : Fg) (a : Addr) (x y : Int) : Bool := match K.lookup a with
  | some ⟨.type c, _, .seq its _, _⟩ => decide (c = "tuple") && (decide (its.size ≤ sizeLine) && He.relAll [.int x, .int y] its.toList)
  | _ => false
theorem tupAt_ok {K : Fg} {a : Addr} {x y : Int} (h : tupAt K a x y = true) (H : Hp) : SqT K H a [.int x, .int y] := by
  unfold tupAt at h
  split at h
  · next c od its n sl q =>
    obtain ⟨h1, h2⟩ := He.ba h
    obtain ⟨h3, h4⟩ := He.ba h2
    exact .inr ⟨_, its, n, q, congrArg Value.type (of_decide_eq_true h1), rfl, of_decide_eq_true h3, He.relAll_ok h4⟩
  · cases h
def bndB1 (K : Fg) (z : Str) (x y : Int) : Bool := match PySem.W.nsIn K (He.ga K "BOUNDS") z with
  | some (some (.ref t)) => tupAt K t x y
  | _ => false
theorem bndB1_ok {K : Fg} {z : Str} {x y : Int} (h : bndB1 K z x y = true) : ∃ t, PySem.W.nsIn K (He.ga K "BOUNDS") z = some (some (.ref t)) ∧ ∀ H, SqT K H t [.int x, .int y] := by
  unfold bndB1 at h
  split at h
  · next t q => exact ⟨t, q, tupAt_ok h⟩
  · cases h
def exK (K : Fg) : Bool := clsB K (He.ga K "Kind") && (bndB1 K "plain" 1 7 && (bndB1 K "mirror" 1 5 && bndB1 K "ring" 2 5))
def tsK : List He.Tab := [(fun K => He.ga K "BOUNDS", ["plain", "mirror", "ring"])]
theorem kg_of {w : World} {K : Fg} {mg : Str → Option Value} (c : Cls K (He.ga K "Kind")) (h : exK K = true) (mgK : mg "Kind" = some (.ref (He.ga K "Kind"))) (na1 : NoAttr K (He.ga K "Kind") "_name") (na2 : NoAttr K (He.ga K "Kind") "_size") (mgB : mg "BOUNDS" = some (.ref (He.ga K "BOUNDS"))) (t : ∃ es n, KDict K w (He.ga K "BOUNDS") es n) : KG w K (clK K) mg := by
  obtain ⟨h1, h2⟩ := He.ba h
  obtain ⟨h2, h3⟩ := He.ba h2
  obtain ⟨h3, h4⟩ := He.ba h3
  obtain ⟨es, n, t⟩ := t
  refine ⟨clsG_of c h1, mgK, na1, na2, ⟨_, es, n, mgB, t, fun z a b hz => ?_⟩⟩
  unfold bndI at hz
  split at hz
  · next e => cases hz; rw [e]; exact bndB1_ok h2
  · split at hz
    · next e => cases hz; rw [e]; exact bndB1_ok h3
    · split at hz
      · next e => cases hz; rw [e]; exact bndB1_ok h4
      · cases hz
def freeNames : List Str := ["len", "int", "abs", "max", "min", "sum", "sorted", "list", "tuple", "range", "enumerate", "zip", "reversed", "isinstance", "repr", "bool", "str"]
theorem bs_of {mg : Str → Option Value} (h : ∀ x ∈ freeNames, mg x = none) : Bs mg :=
  ⟨h _ (by decide), h _ (by decide), h _ (by decide), h _ (by decide), h _ (by decide), h _ (by decide), h _ (by decide), h _ (by decide), h _ (by decide), h _ (by decide), h _ (by decide), h _ (by decide), h _ (by decide), h _ (by decide), h _ (by decide), h _ (by decide), h _ (by decide)⟩
theorem cls_of {K : Fg} {x : Str} (c : (He.Fa.cls x).ok K = true) : Cls K (He.ga K x) := He.cls_ok c
end Lay

namespace k04
open PySem PySem.Spec PyProof.Rows L2 Lay Mi
open Evl (Ex)
def d_is_whole : He.DefD := ⟨("is_whole", none), "is_whole", "is_whole", defArgs s_is_whole, defBody s_is_whole, defScope s_is_whole, [], []⟩
def d_is_between : He.DefD := ⟨("is_between", none), "is_between", "is_between", defArgs s_is_between, defBody s_is_between, defScope s_is_between, [], []⟩
def d_check_number : He.DefD := ⟨("check_number", none), "check_number", "check_number", defArgs s_check_number, defBody s_check_number, defScope s_check_number, [], []⟩
def d_Kind___init__ : He.DefD := ⟨("Kind", some "__init__"), "__init__", "Kind.__init__", defArgs s_Kind___init__, defBody s_Kind___init__, defScope s_Kind___init__, [], []⟩
def d__law_hash : He.DefD := ⟨("_law_hash", none), "_law_hash", "_law_hash", defArgs s__law_hash, defBody s__law_hash, defScope s__law_hash, [], []⟩
def d__law_random : He.DefD := ⟨("_law_random", none), "_law_random", "_law_random", defArgs s__law_random, defBody s__law_random, defScope s__law_random, [], []⟩
def d__law_kind : He.DefD := ⟨("_law_kind", none), "_law_kind", "_law_kind", defArgs s__law_kind, defBody s__law_kind, defScope s__law_kind, [], []⟩
def d__law_start : He.DefD := ⟨("_law_start", none), "_law_start", "_law_start", defArgs s__law_start, defBody s__law_start, defScope s__law_start, [], []⟩
def d__law_item : He.DefD := ⟨("_law_item", none), "_law_item", "_law_item", defArgs s__law_item, defBody s__law_item, defScope s__law_item, [], []⟩
def d__law_turned : He.DefD := ⟨("_law_turned", none), "_law_turned", "_law_turned", defArgs s__law_turned, defBody s__law_turned, defScope s__law_turned, [], []⟩
def d__law_stepped : He.DefD := ⟨("_law_stepped", none), "_law_stepped", "_law_stepped", defArgs s__law_stepped, defBody s__law_stepped, defScope s__law_stepped, [], []⟩
def d__law_made : He.DefD := ⟨("_law_made", none), "_law_made", "_law_made", defArgs s__law_made, defBody s__law_made, defScope s__law_made, [], []⟩
def d_check_kind : He.DefD := ⟨("check_kind", none), "check_kind", "check_kind", defArgs s_check_kind, defBody s_check_kind, defScope s_check_kind, [], []⟩
def d_Kind_size : He.DefD := ⟨("Kind", some "size"), "size", "Kind.size", defArgs s_Kind_size, defBody s_Kind_size, defScope s_Kind_size, [], []⟩
def d_Kind_name : He.DefD := ⟨("Kind", some "name"), "name", "Kind.name", defArgs s_Kind_name, defBody s_Kind_name, defScope s_Kind_name, [], []⟩
def d_is_order_list : He.DefD := ⟨("is_order_list", none), "is_order_list", "is_order_list", defArgs s_is_order_list, defBody s_is_order_list, defScope s_is_order_list, [], []⟩
def d_crossings_between : He.DefD := ⟨("crossings_between", none), "crossings_between", "crossings_between", defArgs s_crossings_between, defBody s_crossings_between, defScope s_crossings_between, [], []⟩
def d_crossings_of : He.DefD := ⟨("crossings_of", none), "crossings_of", "crossings_of", defArgs s_crossings_of, defBody s_crossings_of, defScope s_crossings_of, [], []⟩
def d_is_let_order : He.DefD := ⟨("is_let_order", none), "is_let_order", "is_let_order", defArgs s_is_let_order, defBody s_is_let_order, defScope s_is_let_order, [], []⟩
def d_check_order : He.DefD := ⟨("check_order", none), "check_order", "check_order", defArgs s_check_order, defBody s_check_order, defScope s_check_order, [], []⟩
def d_check_orders : He.DefD := ⟨("check_orders", none), "check_orders", "check_orders", defArgs s_check_orders, defBody s_check_orders, defScope s_check_orders, [], []⟩
def d_item_at : He.DefD := ⟨("item_at", none), "item_at", "item_at", defArgs s_item_at, defBody s_item_at, defScope s_item_at, [], []⟩
def d_product_of : He.DefD := ⟨("product_of", none), "product_of", "product_of", defArgs s_product_of, defBody s_product_of, defScope s_product_of, [], []⟩
def d_product : He.DefD := ⟨("product", none), "product", "product", defArgs s_product, defBody s_product, defScope s_product, [], []⟩
def d_Kind_steps : He.DefD := ⟨("Kind", some "steps"), "steps", "Kind.steps", defArgs s_Kind_steps, defBody s_Kind_steps, defScope s_Kind_steps, [], []⟩
def d_check_step : He.DefD := ⟨("check_step", none), "check_step", "check_step", defArgs s_check_step, defBody s_check_step, defScope s_check_step, [], []⟩
def d_by_step : He.DefD := ⟨("by_step", none), "by_step", "by_step", defArgs s_by_step, defBody s_by_step, defScope s_by_step, [], []⟩
def d_stepped : He.DefD := ⟨("stepped", none), "stepped", "stepped", defArgs s_stepped, defBody s_stepped, defScope s_stepped, [], []⟩
def d_opposite_of : He.DefD := ⟨("opposite_of", none), "opposite_of", "opposite_of", defArgs s_opposite_of, defBody s_opposite_of, defScope s_opposite_of, [], []⟩
def d_opposite : He.DefD := ⟨("opposite", none), "opposite", "opposite", defArgs s_opposite, defBody s_opposite, defScope s_opposite, [], []⟩
def d_crossings : He.DefD := ⟨("crossings", none), "crossings", "crossings", defArgs s_crossings, defBody s_crossings, defScope s_crossings, [], []⟩
def d__law_many : He.DefD := ⟨("_law_many", none), "_law_many", "_law_many", defArgs s__law_many, defBody s__law_many, defScope s__law_many, [], []⟩
def d__law_row : He.DefD := ⟨("_law_row", none), "_law_row", "_law_row", defArgs s__law_row, defBody s__law_row, defScope s__law_row, [], []⟩
def d__law_product : He.DefD := ⟨("_law_product", none), "_law_product", "_law_product", defArgs s__law_product, defBody s__law_product, defScope s__law_product, [], []⟩
def d_is_crossed : He.DefD := ⟨("is_crossed", none), "is_crossed", "is_crossed", defArgs s_is_crossed, defBody s_is_crossed, defScope s_is_crossed, [], []⟩
def d_falls_of : He.DefD := ⟨("falls_of", none), "falls_of", "falls_of", defArgs s_falls_of, defBody s_falls_of, defScope s_falls_of, [], []⟩
def d_heads_of : He.DefD := ⟨("heads_of", none), "heads_of", "heads_of", defArgs s_heads_of, defBody s_heads_of, defScope s_heads_of, [], []⟩
def d_heads : He.DefD := ⟨("heads", none), "heads", "heads", defArgs s_heads, defBody s_heads, defScope s_heads, [], []⟩
def d_falls : He.DefD := ⟨("falls", none), "falls", "falls", defArgs s_falls, defBody s_falls, defScope s_falls, [], []⟩
def d__law_is_crossed : He.DefD := ⟨("_law_is_crossed", none), "_law_is_crossed", "_law_is_crossed", defArgs s__law_is_crossed, defBody s__law_is_crossed, defScope s__law_is_crossed, [], []⟩
def d__law_falls : He.DefD := ⟨("_law_falls", none), "_law_falls", "_law_falls", defArgs s__law_falls, defBody s__law_falls, defScope s__law_falls, [], []⟩
def d__law_least : He.DefD := ⟨("_law_least", none), "_law_least", "_law_least", defArgs s__law_least, defBody s__law_least, defScope s__law_least, [], []⟩
def d__law_opposite : He.DefD := ⟨("_law_opposite", none), "_law_opposite", "_law_opposite", defArgs s__law_opposite, defBody s__law_opposite, defScope s__law_opposite, [], []⟩
def d_Kind_start : He.DefD := ⟨("Kind", some "start"), "start", "Kind.start", defArgs s_Kind_start, defBody s_Kind_start, defScope s_Kind_start, [], []⟩
def d__law_right : He.DefD := ⟨("_law_right", none), "_law_right", "_law_right", defArgs s__law_right, defBody s__law_right, defScope s__law_right, [], []⟩
def d_ahead_of : He.DefD := ⟨("ahead_of", none), "ahead_of", "ahead_of", defArgs s_ahead_of, defBody s_ahead_of, defScope s_ahead_of, [], []⟩
def d_stepped_ahead : He.DefD := ⟨("stepped_ahead", none), "stepped_ahead", "stepped_ahead", defArgs s_stepped_ahead, defBody s_stepped_ahead, defScope s_stepped_ahead, [], []⟩
def d__law_cell : He.DefD := ⟨("_law_cell", none), "_law_cell", "_law_cell", defArgs s__law_cell, defBody s__law_cell, defScope s__law_cell, [], []⟩
def d__law_generator : He.DefD := ⟨("_law_generator", none), "_law_generator", "_law_generator", defArgs s__law_generator, defBody s__law_generator, defScope s__law_generator, [], []⟩
def d_law : He.DefD := ⟨("law", none), "law", "law", defArgs s_law, defBody s_law, defScope s_law, [], []⟩
def fn : List He.DefD := [d_is_whole, d_is_between, d_check_number, d_Kind___init__, d__law_hash, d__law_random, d__law_kind, d__law_start, d__law_item, d__law_turned, d__law_stepped, d__law_made, d_check_kind, d_Kind_size, d_Kind_name, d_is_order_list, d_crossings_between, d_crossings_of, d_is_let_order, d_check_order, d_check_orders, d_item_at, d_product_of, d_product, d_Kind_steps, d_check_step, d_by_step, d_stepped, d_opposite_of, d_opposite, d_crossings, d__law_many, d__law_row, d__law_product, d_is_crossed, d_falls_of, d_heads_of, d_heads, d_falls, d__law_is_crossed, d__law_falls, d__law_least, d__law_opposite, d_Kind_start, d__law_right, d_ahead_of, d_stepped_ahead, d__law_cell, d__law_generator, d_law]
def fa : List He.Fa := [.free "len", .free "int", .free "abs", .free "max", .free "min", .free "sum", .free "sorted", .free "list", .free "tuple", .free "range", .free "enumerate", .free "zip", .free "reversed", .free "isinstance", .free "repr", .free "bool", .free "str", .cls "Kind", .noat "Kind" "_name", .noat "Kind" "_size", .glo "Kind", .glo "BOUNDS", .glo "is_whole", .glo "is_between", .glo "check_number", .mkr "Kind", .glo "_law_hash", .glo "_law_random", .glo "_law_kind", .glo "_law_start", .glo "_law_item", .glo "_law_turned", .glo "_law_stepped", .glo "_law_made", .glo "check_kind", .meth "Kind" "size", .meth "Kind" "name", .glo "is_order_list", .glo "crossings_between", .glo "crossings_of", .int "MOST_CROSSINGS" 60, .glo "is_let_order", .glo "check_order", .glo "check_orders", .glo "item_at", .glo "product_of", .glo "product", .meth "Kind" "steps", .glo "check_step", .glo "by_step", .glo "stepped", .glo "opposite_of", .glo "opposite", .glo "crossings", .glo "_law_many", .glo "_law_row", .glo "_law_product", .glo "is_crossed", .glo "falls_of", .glo "heads_of", .glo "heads", .glo "falls", .glo "_law_is_crossed", .glo "_law_falls", .glo "_law_least", .glo "_law_opposite", .meth "Kind" "start", .glo "_law_right", .glo "ahead_of", .glo "stepped_ahead", .glo "_law_cell", .glo "_law_generator", .glo "law"]
def loose0 : List Str := ["SeamError", "InvalidKind", "InvalidOrder", "InvalidNumber", "BOUNDS", "MOST_CROSSINGS", "is_whole", "is_between", "check_number", "Kind", "check_kind", "check_step", "is_crossed", "by_step", "item_at", "product_of", "opposite_of", "ahead_of", "falls_of", "heads_of", "crossings_of", "crossings_between", "is_order_list", "is_let_order", "check_order", "check_orders", "crossings", "falls", "heads", "stepped"]
def loose1 : List Str := ["stepped_ahead", "opposite", "product", "_law_hash", "_law_random", "_law_cell", "_law_generator", "_law_kind", "_law_many", "_law_start", "_law_item", "_law_turned", "_law_stepped", "_law_is_crossed", "_law_falls", "_law_product", "_law_least", "_law_made", "_law_opposite", "_law_row", "_law_right"]
def loose : List Str := loose0 ++ loose1
abbrev R : PySem.W.OpenRow := PySem.W.OpenLaw.row PySem.Challenge.rw_seamlayers_k04_whole_products_and_opposi
abbrev hk : PySem.W.Hook := He.hookX 5 fa fn tsK [] exK
def ob (s : PySem.W.SharedT) : He.AlX := He.obsX 5 fa fn tsK [] exK (HandSHeadRun.getT s)
theorem ob_eq (s : PySem.W.SharedT) : ob s = hk.obs s.abs := He.obsX_eq (s := s.abs) (HandSHeadRun.getT_eq s)
theorem run (w : World) : HandSHeadRun.RunEq R (PySem.W.view R.prog [55]) hk ob 4860 loose w :=
  PySem.W.byRow2 "special-get-raises" (P := fun w => HandSHeadRun.RunEq R (PySem.W.view R.prog [55]) hk ob 4860 loose w) (fun w os => by kernel_rfl) (fun w os => by kernel_rfl) w
theorem facts {P : Program} {w : World} {K : PySem.W.Frag} {h : Heap} {mg : Str → Option Value} {f : Addr} (X : K.In h) (G : h.Ns mainGlobals mg) (hfa : mg ("law" : Str) = some (.ref f)) (c : He.SaysX fa fn tsK [] exK w h K) :
    ∃ fd : FuncData, (∀ (s : Shared) (v : Value), BindsTo s fd ⟨[v], []⟩ [("_law_script", v)]) ∧ ∀ base : Heap, K.In base → base.Ns mainGlobals mg → FnB true P w K mg base CX0 9 f fd n_law (spP K (clK K) m_law) := by
  have B : Bs mg := ⟨He.free_ok X G (c.t.d.fact 0 (f := .free "len") rfl), He.free_ok X G (c.t.d.fact 1 (f := .free "int") rfl), He.free_ok X G (c.t.d.fact 2 (f := .free "abs") rfl), He.free_ok X G (c.t.d.fact 3 (f := .free "max") rfl), He.free_ok X G (c.t.d.fact 4 (f := .free "min") rfl), He.free_ok X G (c.t.d.fact 5 (f := .free "sum") rfl), He.free_ok X G (c.t.d.fact 6 (f := .free "sorted") rfl), He.free_ok X G (c.t.d.fact 7 (f := .free "list") rfl), He.free_ok X G (c.t.d.fact 8 (f := .free "tuple") rfl), He.free_ok X G (c.t.d.fact 9 (f := .free "range") rfl), He.free_ok X G (c.t.d.fact 10 (f := .free "enumerate") rfl), He.free_ok X G (c.t.d.fact 11 (f := .free "zip") rfl), He.free_ok X G (c.t.d.fact 12 (f := .free "reversed") rfl), He.free_ok X G (c.t.d.fact 13 (f := .free "isinstance") rfl), He.free_ok X G (c.t.d.fact 14 (f := .free "repr") rfl), He.free_ok X G (c.t.d.fact 15 (f := .free "bool") rfl), He.free_ok X G (c.t.d.fact 16 (f := .free "str") rfl)⟩
  have Q : KG w K (clK K) mg := kg_of (He.cls_ok (c.t.d.fact 17 (f := .cls "Kind") rfl)) c.more (He.glo_ok X G (c.t.d.fact 20 (f := .glo "Kind") rfl)) (He.noat_ok (c.t.d.fact 18 (f := .noat "Kind" "_name") rfl)) (He.noat_ok (c.t.d.fact 19 (f := .noat "Kind" "_size") rfl)) (He.glo_ok X G (c.t.d.fact 21 (f := .glo "BOUNDS") rfl)) (c.t.tab 0)
  obtain ⟨fd_is_whole, F_is_whole⟩ := c.t.d.def_ 0 (d := d_is_whole) rfl
  obtain ⟨fd_is_between, F_is_between⟩ := c.t.d.def_ 1 (d := d_is_between) rfl
  obtain ⟨fd_check_number, F_check_number⟩ := c.t.d.def_ 2 (d := d_check_number) rfl
  obtain ⟨fd_Kind___init__, F_Kind___init__⟩ := c.t.d.def_ 3 (d := d_Kind___init__) rfl
  obtain ⟨fd__law_hash, F__law_hash⟩ := c.t.d.def_ 4 (d := d__law_hash) rfl
  obtain ⟨fd__law_random, F__law_random⟩ := c.t.d.def_ 5 (d := d__law_random) rfl
  obtain ⟨fd__law_kind, F__law_kind⟩ := c.t.d.def_ 6 (d := d__law_kind) rfl
  obtain ⟨fd__law_start, F__law_start⟩ := c.t.d.def_ 7 (d := d__law_start) rfl
  obtain ⟨fd__law_item, F__law_item⟩ := c.t.d.def_ 8 (d := d__law_item) rfl
  obtain ⟨fd__law_turned, F__law_turned⟩ := c.t.d.def_ 9 (d := d__law_turned) rfl
  obtain ⟨fd__law_stepped, F__law_stepped⟩ := c.t.d.def_ 10 (d := d__law_stepped) rfl
  obtain ⟨fd__law_made, F__law_made⟩ := c.t.d.def_ 11 (d := d__law_made) rfl
  obtain ⟨fd_check_kind, F_check_kind⟩ := c.t.d.def_ 12 (d := d_check_kind) rfl
  obtain ⟨fd_Kind_size, F_Kind_size⟩ := c.t.d.def_ 13 (d := d_Kind_size) rfl
  obtain ⟨fd_Kind_name, F_Kind_name⟩ := c.t.d.def_ 14 (d := d_Kind_name) rfl
  obtain ⟨fd_is_order_list, F_is_order_list⟩ := c.t.d.def_ 15 (d := d_is_order_list) rfl
  obtain ⟨fd_crossings_between, F_crossings_between⟩ := c.t.d.def_ 16 (d := d_crossings_between) rfl
  obtain ⟨fd_crossings_of, F_crossings_of⟩ := c.t.d.def_ 17 (d := d_crossings_of) rfl
  obtain ⟨fd_is_let_order, F_is_let_order⟩ := c.t.d.def_ 18 (d := d_is_let_order) rfl
  obtain ⟨fd_check_order, F_check_order⟩ := c.t.d.def_ 19 (d := d_check_order) rfl
  obtain ⟨fd_check_orders, F_check_orders⟩ := c.t.d.def_ 20 (d := d_check_orders) rfl
  obtain ⟨fd_item_at, F_item_at⟩ := c.t.d.def_ 21 (d := d_item_at) rfl
  obtain ⟨fd_product_of, F_product_of⟩ := c.t.d.def_ 22 (d := d_product_of) rfl
  obtain ⟨fd_product, F_product⟩ := c.t.d.def_ 23 (d := d_product) rfl
  obtain ⟨fd_Kind_steps, F_Kind_steps⟩ := c.t.d.def_ 24 (d := d_Kind_steps) rfl
  obtain ⟨fd_check_step, F_check_step⟩ := c.t.d.def_ 25 (d := d_check_step) rfl
  obtain ⟨fd_by_step, F_by_step⟩ := c.t.d.def_ 26 (d := d_by_step) rfl
  obtain ⟨fd_stepped, F_stepped⟩ := c.t.d.def_ 27 (d := d_stepped) rfl
  obtain ⟨fd_opposite_of, F_opposite_of⟩ := c.t.d.def_ 28 (d := d_opposite_of) rfl
  obtain ⟨fd_opposite, F_opposite⟩ := c.t.d.def_ 29 (d := d_opposite) rfl
  obtain ⟨fd_crossings, F_crossings⟩ := c.t.d.def_ 30 (d := d_crossings) rfl
  obtain ⟨fd__law_many, F__law_many⟩ := c.t.d.def_ 31 (d := d__law_many) rfl
  obtain ⟨fd__law_row, F__law_row⟩ := c.t.d.def_ 32 (d := d__law_row) rfl
  obtain ⟨fd__law_product, F__law_product⟩ := c.t.d.def_ 33 (d := d__law_product) rfl
  obtain ⟨fd_is_crossed, F_is_crossed⟩ := c.t.d.def_ 34 (d := d_is_crossed) rfl
  obtain ⟨fd_falls_of, F_falls_of⟩ := c.t.d.def_ 35 (d := d_falls_of) rfl
  obtain ⟨fd_heads_of, F_heads_of⟩ := c.t.d.def_ 36 (d := d_heads_of) rfl
  obtain ⟨fd_heads, F_heads⟩ := c.t.d.def_ 37 (d := d_heads) rfl
  obtain ⟨fd_falls, F_falls⟩ := c.t.d.def_ 38 (d := d_falls) rfl
  obtain ⟨fd__law_is_crossed, F__law_is_crossed⟩ := c.t.d.def_ 39 (d := d__law_is_crossed) rfl
  obtain ⟨fd__law_falls, F__law_falls⟩ := c.t.d.def_ 40 (d := d__law_falls) rfl
  obtain ⟨fd__law_least, F__law_least⟩ := c.t.d.def_ 41 (d := d__law_least) rfl
  obtain ⟨fd__law_opposite, F__law_opposite⟩ := c.t.d.def_ 42 (d := d__law_opposite) rfl
  obtain ⟨fd_Kind_start, F_Kind_start⟩ := c.t.d.def_ 43 (d := d_Kind_start) rfl
  obtain ⟨fd__law_right, F__law_right⟩ := c.t.d.def_ 44 (d := d__law_right) rfl
  obtain ⟨fd_ahead_of, F_ahead_of⟩ := c.t.d.def_ 45 (d := d_ahead_of) rfl
  obtain ⟨fd_stepped_ahead, F_stepped_ahead⟩ := c.t.d.def_ 46 (d := d_stepped_ahead) rfl
  obtain ⟨fd__law_cell, F__law_cell⟩ := c.t.d.def_ 47 (d := d__law_cell) rfl
  obtain ⟨fd__law_generator, F__law_generator⟩ := c.t.d.def_ 48 (d := d__law_generator) rfl
  obtain ⟨fd_law, F_law⟩ := c.t.d.def_ 49 (d := d_law) rfl
  have e := hfa.symm.trans (He.glo_ok X G (c.t.d.fact 72 (f := .glo "law") rfl))
  cases e
  have b := FunD.bindsA (ps := ["_law_script"]) F_law fun _ _ _ _ _ _ us hl => match us, hl with | [_], _ => rfl
  refine ⟨fd_law, fun s v => b s [v] rfl, fun base _ _ => ?_⟩
  have h_is_whole := ok_is_whole (P := P) (w := w) (cl := clK K) (base := base) B Q  F_is_whole (He.glo_ok X G (c.t.d.fact 22 (f := .glo "is_whole") rfl))
  have h_is_between := ok_is_between (P := P) (w := w) (cl := clK K) (base := base) B Q h_is_whole F_is_between (He.glo_ok X G (c.t.d.fact 23 (f := .glo "is_between") rfl))
  have h_check_number := ok_check_number (P := P) (w := w) (cl := clK K) (base := base) B Q h_is_between F_check_number (He.glo_ok X G (c.t.d.fact 24 (f := .glo "check_number") rfl))
  have h_Kind___init__ := ok_Kind___init__ (P := P) (w := w) (cl := clK K) (base := base) B Q h_check_number F_Kind___init__ (He.mkr_ok (c.t.d.fact 25 (f := .mkr "Kind") rfl))
  have h__law_hash := ok__law_hash (P := P) (w := w) (cl := clK K) (base := base) B Q  F__law_hash (He.glo_ok X G (c.t.d.fact 26 (f := .glo "_law_hash") rfl))
  have h__law_random := ok__law_random (P := P) (w := w) (cl := clK K) (base := base) B Q h__law_hash F__law_random (He.glo_ok X G (c.t.d.fact 27 (f := .glo "_law_random") rfl))
  have h__law_kind := ok__law_kind (P := P) (w := w) (cl := clK K) (base := base) B Q h__law_random F__law_kind (He.glo_ok X G (c.t.d.fact 28 (f := .glo "_law_kind") rfl))
  have h__law_start := ok__law_start (P := P) (w := w) (cl := clK K) (base := base) B Q  F__law_start (He.glo_ok X G (c.t.d.fact 29 (f := .glo "_law_start") rfl))
  have h__law_item := ok__law_item (P := P) (w := w) (cl := clK K) (base := base) B Q  F__law_item (He.glo_ok X G (c.t.d.fact 30 (f := .glo "_law_item") rfl))
  have h__law_turned := ok__law_turned (P := P) (w := w) (cl := clK K) (base := base) B Q  F__law_turned (He.glo_ok X G (c.t.d.fact 31 (f := .glo "_law_turned") rfl))
  have h__law_stepped := ok__law_stepped (P := P) (w := w) (cl := clK K) (base := base) B Q h__law_start h__law_item h__law_turned F__law_stepped (He.glo_ok X G (c.t.d.fact 32 (f := .glo "_law_stepped") rfl))
  have h__law_made := ok__law_made (P := P) (w := w) (cl := clK K) (base := base) B Q h__law_start h__law_stepped F__law_made (He.glo_ok X G (c.t.d.fact 33 (f := .glo "_law_made") rfl))
  have h_check_kind := ok_check_kind (P := P) (w := w) (cl := clK K) (base := base) B Q  F_check_kind (He.glo_ok X G (c.t.d.fact 34 (f := .glo "check_kind") rfl))
  have h_Kind_size := ok_Kind_size (P := P) (w := w) (cl := clK K) (base := base) B Q  F_Kind_size (He.meth_ok (c.t.d.fact 35 (f := .meth "Kind" "size") rfl))
  have h_Kind_name := ok_Kind_name (P := P) (w := w) (cl := clK K) (base := base) B Q  F_Kind_name (He.meth_ok (c.t.d.fact 36 (f := .meth "Kind" "name") rfl))
  have h_is_order_list := ok_is_order_list (P := P) (w := w) (cl := clK K) (base := base) B Q h_Kind_size h_is_whole h_Kind_name F_is_order_list (He.glo_ok X G (c.t.d.fact 37 (f := .glo "is_order_list") rfl))
  have h_crossings_between := ok_crossings_between (P := P) (w := w) (cl := clK K) (base := base) B Q h_Kind_name F_crossings_between (He.glo_ok X G (c.t.d.fact 38 (f := .glo "crossings_between") rfl))
  have h_crossings_of := ok_crossings_of (P := P) (w := w) (cl := clK K) (base := base) B Q h_crossings_between h_Kind_name F_crossings_of (He.glo_ok X G (c.t.d.fact 39 (f := .glo "crossings_of") rfl))
  have gi_MOST_CROSSINGS : ∃ t, mg "MOST_CROSSINGS" = some (.int 60 t) := He.int_ok X G (c.t.d.fact 40 (f := .int "MOST_CROSSINGS" 60) rfl)
  have h_is_let_order := ok_is_let_order (P := P) (w := w) (cl := clK K) (base := base) B Q h_crossings_of gi_MOST_CROSSINGS h_is_order_list F_is_let_order (He.glo_ok X G (c.t.d.fact 41 (f := .glo "is_let_order") rfl))
  have h_check_order := ok_check_order (P := P) (w := w) (cl := clK K) (base := base) B Q h_is_let_order F_check_order (He.glo_ok X G (c.t.d.fact 42 (f := .glo "check_order") rfl))
  have h_check_orders := ok_check_orders (P := P) (w := w) (cl := clK K) (base := base) B Q h_check_kind h_check_order F_check_orders (He.glo_ok X G (c.t.d.fact 43 (f := .glo "check_orders") rfl))
  have h_item_at := ok_item_at (P := P) (w := w) (cl := clK K) (base := base) B Q h_Kind_name F_item_at (He.glo_ok X G (c.t.d.fact 44 (f := .glo "item_at") rfl))
  have h_product_of := ok_product_of (P := P) (w := w) (cl := clK K) (base := base) B Q h_item_at F_product_of (He.glo_ok X G (c.t.d.fact 45 (f := .glo "product_of") rfl))
  have h_product := ok_product (P := P) (w := w) (cl := clK K) (base := base) B Q h_check_orders h_product_of F_product (He.glo_ok X G (c.t.d.fact 46 (f := .glo "product") rfl))
  have h_Kind_steps := ok_Kind_steps (P := P) (w := w) (cl := clK K) (base := base) B Q  F_Kind_steps (He.meth_ok (c.t.d.fact 47 (f := .meth "Kind" "steps") rfl))
  have h_check_step := ok_check_step (P := P) (w := w) (cl := clK K) (base := base) B Q h_check_number h_Kind_steps F_check_step (He.glo_ok X G (c.t.d.fact 48 (f := .glo "check_step") rfl))
  have h_by_step := ok_by_step (P := P) (w := w) (cl := clK K) (base := base) B Q h_Kind_name F_by_step (He.glo_ok X G (c.t.d.fact 49 (f := .glo "by_step") rfl))
  have h_stepped := ok_stepped (P := P) (w := w) (cl := clK K) (base := base) B Q h_check_orders h_check_step h_by_step F_stepped (He.glo_ok X G (c.t.d.fact 50 (f := .glo "stepped") rfl))
  have h_opposite_of := ok_opposite_of (P := P) (w := w) (cl := clK K) (base := base) B Q h_Kind_name F_opposite_of (He.glo_ok X G (c.t.d.fact 51 (f := .glo "opposite_of") rfl))
  have h_opposite := ok_opposite (P := P) (w := w) (cl := clK K) (base := base) B Q h_check_orders h_opposite_of F_opposite (He.glo_ok X G (c.t.d.fact 52 (f := .glo "opposite") rfl))
  have h_crossings := ok_crossings (P := P) (w := w) (cl := clK K) (base := base) B Q h_check_orders h_crossings_of F_crossings (He.glo_ok X G (c.t.d.fact 53 (f := .glo "crossings") rfl))
  have h__law_many := ok__law_many (P := P) (w := w) (cl := clK K) (base := base) B Q  F__law_many (He.glo_ok X G (c.t.d.fact 54 (f := .glo "_law_many") rfl))
  have h__law_row := ok__law_row (P := P) (w := w) (cl := clK K) (base := base) B Q h__law_many h__law_random F__law_row (He.glo_ok X G (c.t.d.fact 55 (f := .glo "_law_row") rfl))
  have h__law_product := ok__law_product (P := P) (w := w) (cl := clK K) (base := base) B Q h__law_item F__law_product (He.glo_ok X G (c.t.d.fact 56 (f := .glo "_law_product") rfl))
  have h_is_crossed := ok_is_crossed (P := P) (w := w) (cl := clK K) (base := base) B Q h_Kind_name F_is_crossed (He.glo_ok X G (c.t.d.fact 57 (f := .glo "is_crossed") rfl))
  have h_falls_of := ok_falls_of (P := P) (w := w) (cl := clK K) (base := base) B Q h_Kind_steps h_is_crossed F_falls_of (He.glo_ok X G (c.t.d.fact 58 (f := .glo "falls_of") rfl))
  have h_heads_of := ok_heads_of (P := P) (w := w) (cl := clK K) (base := base) B Q h_falls_of h_opposite_of F_heads_of (He.glo_ok X G (c.t.d.fact 59 (f := .glo "heads_of") rfl))
  have h_heads := ok_heads (P := P) (w := w) (cl := clK K) (base := base) B Q h_check_orders h_heads_of F_heads (He.glo_ok X G (c.t.d.fact 60 (f := .glo "heads") rfl))
  have h_falls := ok_falls (P := P) (w := w) (cl := clK K) (base := base) B Q h_check_orders h_falls_of F_falls (He.glo_ok X G (c.t.d.fact 61 (f := .glo "falls") rfl))
  have h__law_is_crossed := ok__law_is_crossed (P := P) (w := w) (cl := clK K) (base := base) B Q h__law_item h__law_turned F__law_is_crossed (He.glo_ok X G (c.t.d.fact 62 (f := .glo "_law_is_crossed") rfl))
  have h__law_falls := ok__law_falls (P := P) (w := w) (cl := clK K) (base := base) B Q h__law_many h__law_is_crossed F__law_falls (He.glo_ok X G (c.t.d.fact 63 (f := .glo "_law_falls") rfl))
  have h__law_least := ok__law_least (P := P) (w := w) (cl := clK K) (base := base) B Q h__law_falls h__law_stepped F__law_least (He.glo_ok X G (c.t.d.fact 64 (f := .glo "_law_least") rfl))
  have h__law_opposite := ok__law_opposite (P := P) (w := w) (cl := clK K) (base := base) B Q h__law_made h__law_least F__law_opposite (He.glo_ok X G (c.t.d.fact 65 (f := .glo "_law_opposite") rfl))
  have h_Kind_start := ok_Kind_start (P := P) (w := w) (cl := clK K) (base := base) B Q  F_Kind_start (He.meth_ok (c.t.d.fact 66 (f := .meth "Kind" "start") rfl))
  have hk_product_0_other_one_kind : FnK P w K mg base "product" 7 n_product (spO K (clK K) m_product) 0 [("other" : Str), ("one" : Str), ("kind" : Str)] [2, 1, 0] := ⟨⟨_, fd_product, (fo_product B Q h_check_orders h_product_of F_product).ok, He.glo_ok X G (c.t.d.fact 46 (f := .glo "product") rfl), F_product.kp, kb_of F_product 0 [2, 1, 0] fun _ _ _ _ _ _ us ws h1 h2 => match us, ws, h1, h2 with | [], [_, _, _], _, _ => rfl⟩⟩
  have hk_opposite_0_order_kind : FnK P w K mg base "opposite" 7 n_opposite (spO K (clK K) m_opposite) 0 [("order" : Str), ("kind" : Str)] [1, 0] := ⟨⟨_, fd_opposite, (fo_opposite B Q h_check_orders h_opposite_of F_opposite).ok, He.glo_ok X G (c.t.d.fact 52 (f := .glo "opposite") rfl), F_opposite.kp, kb_of F_opposite 0 [1, 0] fun _ _ _ _ _ _ us ws h1 h2 => match us, ws, h1, h2 with | [], [_, _], _, _ => rfl⟩⟩
  have h__law_right := ok__law_right (P := P) (w := w) (cl := clK K) (base := base) B Q h__law_kind h__law_row h_Kind___init__ h__law_made h_product h_stepped hk_product_0_other_one_kind h__law_product h_opposite hk_opposite_0_order_kind h__law_opposite h_Kind_start h_crossings h_heads h_falls F__law_right (He.glo_ok X G (c.t.d.fact 67 (f := .glo "_law_right") rfl))
  have h_ahead_of := ok_ahead_of (P := P) (w := w) (cl := clK K) (base := base) B Q h_product_of h_by_step h_Kind_start F_ahead_of (He.glo_ok X G (c.t.d.fact 68 (f := .glo "ahead_of") rfl))
  have h_stepped_ahead := ok_stepped_ahead (P := P) (w := w) (cl := clK K) (base := base) B Q h_check_orders h_check_step h_ahead_of F_stepped_ahead (He.glo_ok X G (c.t.d.fact 69 (f := .glo "stepped_ahead") rfl))
  have h__law_cell := ok__law_cell (P := P) (w := w) (cl := clK K) (base := base) B Q  F__law_cell (He.glo_ok X G (c.t.d.fact 70 (f := .glo "_law_cell") rfl))
  have h__law_generator := ok__law_generator (P := P) (w := w) (cl := clK K) (base := base) B Q h__law_cell F__law_generator (He.glo_ok X G (c.t.d.fact 71 (f := .glo "_law_generator") rfl))
  exact fo_law (P := P) (w := w) (cl := clK K) (base := base) B Q h__law_right h__law_generator h_Kind___init__ h_opposite h_stepped_ahead h_stepped h_product F_law
end k04
open PySem PySem.W PySem.Calls PyProof.Rows
theorem k04_holds (main : ∀ ns : List Int, ns.length ≤ 63 → Mi.m_law [.scr ns] = some (.bl true)) : PySem.Challenge.rw_seamlayers_k04_whole_products_and_opposi.Holds := by
  w_on; o_law
  refine HandSHeadRun.head_any (r := OpenLaw.row PySem.Challenge.rw_seamlayers_k04_whole_products_and_opposi) (q := view (OpenLaw.row PySem.Challenge.rw_seamlayers_k04_whole_products_and_opposi).prog [55]) (H := k04.hk) (ob := k04.ob) (M := 4860) (loose := k04.loose) (d := HandSHeadRun.topDef (OpenLaw.row PySem.Challenge.rw_seamlayers_k04_whole_products_and_opposi).prog 55) (kwd := []) k04.ob_eq
    (by kernel_rfl) (fun s => by kernel_rfl) k04.run (by kernel_rfl) (by kernel_rfl) (by kernel_rfl) (by rfl) (by first | assumption | decide +kernel) (by decide +kernel) ⟨rfl, rfl, rfl, rfl, rfl, by decide +kernel⟩ ?hw ?hc
  case hw => w_witness2
  case hc =>
    refine Lay.walk_B (gb := true) (l := PySem.Challenge.rw_seamlayers_k04_whole_products_and_opposi) (n := 63) (lv := 9) (x := "_law_script") (CX := L2.CX0) rfl (by decide) (by kernel_rfl) ⟨rfl, by decide, by decide⟩ ?F (fun _ _ _ _ z => z)
    intro w mg fa h Y G hmg0
    obtain ⟨K, KX, c⟩ := Y
    have hmg : mg ("law" : PySem.Str) = some (.ref fa) := by
      have e : (HandSHeadRun.topDef (OpenLaw.row PySem.Challenge.rw_seamlayers_k04_whole_products_and_opposi).prog 55).name = ("law" : PySem.Str) := by kernel_rfl
      rw [← e]
      exact hmg0
    obtain ⟨fd, hb, hF⟩ := k04.facts (P := (PySem.Challenge.rw_seamlayers_k04_whole_products_and_opposi).prog) (w := w) KX G hmg c
    refine ⟨K, fd, Lay.spP K (Lay.clK K) Mi.m_law, KX, hb, fun H a ns hl _ hS => ?_, hF⟩
    exact ⟨[], [.scr ns], .bl true, main ns hl, fun _ z => by simp at z, Lay.Reps.cons (Lay.rep_scr.2 ⟨a, rfl, by rw [Lay.hid_nil]; exact hS⟩) Lay.Reps.nil, fun v H' _ r => Lay.rep_bl.1 r⟩


theorem PySem.Challenge.cw_seamlayers_k04_whole_products_and_opposi_holds : PySem.Challenge.rw_seamlayers_k04_whole_products_and_opposi.Holds := by
  exact k04_holds k04.law_true
