import PyProof.Rows.All
import Wide.All
import OpenK.AllK
import Wide.FinOn
import HandS.ForMost
import HandS.ForExc
import HandS.Flow
import HandS.Style
import HandS.Rev
import HandS.RevTup
import HandS.More
import HandS.Defaults
import HandS.Conv
import HandS.Head0
import HandS.Head1
import HandS.Head2
import HandS.HeadEnd
import HandS.HeadHook1
import HandS.HeadHook2
import PySem.Challenge.RW_nestprops_k28_depths_and_reversed_script
set_option Elab.async false
set_option linter.all false
set_option maxRecDepth 100000
set_option maxHeartbeats 4000000
namespace NP
open PySem PySem.Spec PyProof.Rows L2

/-! ### a def that runs where no repr is under way -/
structure FnG (P : Program) (w : World) (K : PySem.W.Frag) (mg : Str → Option Value) (base : Heap) (CX : CXT) (k : Nat) (f : Addr) (fd : FuncData) (ps : List Str) (sp : Sp) : Prop where
  len : ∀ vs H Q E, sp vs H Q E → vs.length = ps.length
  run : ∀ (A : Around) (out : List Env) (s : Shared) (H : Hp) (args : Args) (us : List Value) (vs : List V) (Q : VK) (E : XK), A.guards = some [] → Room k A →
    Env0 P w K mg base A out s H → BindsTo s fd args (ps.zip us) → Vals vs us → sp vs H Q E → codeAny (model P w) A (.call (.ref f) args) (CR CX out P w H s Q E) s
theorem FnG.of {P : Program} {w : World} {K : PySem.W.Frag} {mg : Str → Option Value} {base : Heap} {CX : CXT} {k : Nat} {f : Addr} {fd : FuncData} {ps : List Str} {sp : Sp}
    (F : FnOk P w K mg base CX k f fd ps sp) : FnG P w K mg base CX k f fd ps sp :=
  ⟨F.len, fun A out s H args us vs Q E _ hr he hb hv hs => F.run A out s H args us vs Q E hr he hb hv hs⟩
theorem FnG.mono {P : Program} {w : World} {K : PySem.W.Frag} {mg : Str → Option Value} {base : Heap} {CX : CXT} {j k : Nat} {f : Addr} {fd : FuncData} {ps : List Str} {sp : Sp}
    (F : FnG P w K mg base CX j f fd ps sp) (h : j ≤ k) : FnG P w K mg base CX k f fd ps sp :=
  ⟨F.len, fun A out s H args us vs Q E hg hr => F.run A out s H args us vs Q E hg (hr.mono h)⟩

section
variable {P : Program} {w : World} {K : PySem.W.Frag} {mg : Str → Option Value} {base : Heap} {x qual : Str} {params : Arguments} {body : List Stmt} {scope : Scope} {dvs : List V} {kws : List (Str × V)} {f : Addr} {fd : FuncData}
/-- a def's rule, its body known to run where no repr is under way -/
theorem okG {CX : CXT} {N ps : List Str} {k : Nat} {sp : Sp} (F : FunD K x qual params body scope dvs kws f fd) (S : FnScope N ps scope) (len : ∀ vs H Q E, sp vs H Q E → vs.length = ps.length)
    (go : ∀ (cdv : Value) (A : Around) (out : List Env) (s : Shared) (H : Hp) (vs : List V) (Q : VK) (E : XK), (A.deeper (envOfC qual scope s.heap.objs.size f cdv)).guards = some [] →
      Room k (A.deeper (envOfC qual scope s.heap.objs.size f cdv)) → sp vs H Q E →
      ∃ t, PSs (cxOf CX P w K mg base N qual scope f cdv A out s H E) body t ∧ t { nx := fun _ H' => Q .non H', rt := Q } (start N vs) H) : FnG P w K mg base CX (k + 1) f fd ps sp := by
  obtain ⟨oc, od, dV, kV, doc, pm, an, cdv, ct, osl, rfl, lk, hcd, _, _⟩ := F.ex
  refine ⟨len, ?_⟩
  intro A out s H args us vs Q E hg hr e0 hb hv hsp
  have here : ∀ b o, base.get? b = some o → s.heap.get? b = some o := fun b o e => (e0.bs b o e).1
  have KX := e0.mod.kin.keeps here
  refine codeAny_call_function hr.depth (KX _ _ lk) rfl S.co S.gen rfl (PySem.W.codeRec_of KX hcd) (hb _ _ _ _ ?_)
  refine wpAny_newFunctionEnv_cells S.kind ?_ ?_
  · rintro ⟨n, u⟩ hy
    cases S.par n (List.of_mem_zip hy).1 with
    | inl q => exact Or.inl q
    | inr q => exact Or.inr ⟨q, PySem.W.cellsFrom_some _ _ _ (Or.inl q)⟩
  · rintro env rfl s1 ic
    refine ⟨(e0.mod.nolimit.keeps here).keeps ic.toInCall.keep, codeAny_func ?_⟩
    obtain ⟨t, ht, hq⟩ := go cdv A out s H vs Q E hg (hr.deeper _) hsp
    have J0 := inv_start (CX := CX) (E := E) S hr.hd e0 (len _ _ _ _ hsp) hv ic
    refine wpAny_mono (ht.run [] s1 _ H _ J0 hq) ?_ (fun _ _ z => z)
    rintro fl s' hs
    cases fl with
    | next =>
      obtain ⟨σ', H', J, q⟩ := hs
      exact ⟨V.non, H', J.os, J.bare, J.base, J.hok, rfl, q⟩
    | ret u =>
      obtain ⟨v, σ', H', J, rv, q⟩ := hs
      exact ⟨v, H', J.os, J.bare, J.base, J.hok, rv, q⟩
    | brk => exact hs.elim fun _ z => z.elim fun _ z => z.2.elim
    | cont => exact hs.elim fun _ z => z.elim fun _ z => z.2.elim
end

section
variable {X : Cx} {CX : CXT} {k : Nat} {f : Addr} {fd : FuncData} {ps : List Str} {sp : Sp} {dvs : List V} {ds : List Value} {E : XK} {x : Str} {p pos : Pos} {e : Expr} {es : List Expr} {t : TA}
theorem runG {pins : List (Addr × Obj)} {σ : L2.St} {H : Hp} {s : Shared} {Q : VK} {us : List Value} {vs : List V} (F : FnG X.prog X.w X.K X.mg X.base CX k f fd ps sp) (hg : X.A.guards = some []) (hr : Room k X.A) (hb : Binds X.K fd ps ds) (hd : Vals dvs ds)
    (hx : Passes CX X E) (I : Inv X pins σ H s) (r : Vals vs us) (h : sp (vs ++ dvs) H Q E) : wpAny (model X.prog X.w) X.A (call (.ref f) us) (EP X pins σ Q) X.xe s := by
  have rr := r.append hd
  have hl := (rr.length).symm.trans (F.len _ _ _ _ h)
  refine wpAny_call (codeAny_mono (F.run X.A X.stack s H ⟨us, []⟩ _ _ Q E hg hr I.env0 (hb s us I.kIn hl) rr h) ?_)
  rintro (er | fl) s' hq
  · exact hx pins σ H s er s' I hq
  · cases fl with
    | ret u => exact I.after hq
    | _ => exact hq.elim
/-- f(a, ..) of such a def -/
theorem pe_callG (F : FnG X.prog X.w X.K X.mg X.base CX k f fd ps sp) (hgd : X.A.guards = some []) (hr : Room k X.A) (hg : Gl X x) (hm : X.mg x = some (.ref f)) (hk : PySem.W.keepIn X.K (.ref f) = true) (hb : Binds X.K fd ps ds) (hd : Vals dvs ds)
    (hx : Passes CX X E) (ha : PA X (e :: es) t) (hdb : (x == ("__debug__" : Str)) = false := by decide) (he : starEach (e :: es) X.env = (false, eval e X.env) :: starEach es X.env := by rfl)
    (hpl : (backTo pos (starEach es X.env)).any (·.1) = false := by rfl) : PE X (.Call (.Name x p) (e :: es) [] pos) (tCall sp dvs E t) := by
  constructor
  intro pins s σ H Q I h
  refine wpAny_Call_Name_kw (ld_glob I hg hm (PySem.W.callWith_K (h₀ := X.base) I.ok.mod.kin hk (thn (ha.run pos pins s σ H _ I h) ?_) he hpl) hdb)
  rintro us s1 ⟨vs, H1, I1, r, q⟩
  exact ⟨I1.kIn, runG F hgd hr hb hd hx I1 r q⟩
end

/-! ### the law's own call, by such a def -/
theorem law_callG {P : Program} {w : World} {K : PySem.W.Frag} {mg mb : Str → Option Value} {k : Nat} {fa a : Addr} {fd : FuncData} {x : Str} {sp : Sp} {s1 : Shared} {us : List Value} {ns : List Int}
    (KX : K.In s1.heap) (hns : s1.heap.Ns mainGlobals mg) (hb : s1.heap.Ns builtinsNs mb) (hbb : ∀ y : Str, y ≠ "__name__" → mb y = bootBuiltins y) (hlim : s1.heap.NoLimit) (hg : s1.gens = #[])
    (ha : s1.heap.get? a = some { cls := .type "list", data := .seq us.toArray }) (hi : IntsAre us ns) (hl : ns.length ≤ sizeLine) (hr : Room k callerA)
    (F : ∀ base : Heap, K.In base → base.Ns mainGlobals mg → FnG P w K mg base CX0 k fa fd [x] sp) (hbind : ∀ (s : Shared) (u : Value), BindsTo s fd ⟨[u], []⟩ [(x, u)])
    (hsp : ∀ H : Hp, SqL K H a (ns.map V.int) → (∀ b, H b = none ∨ ∃ o xs, H b = some (.frz o (.lst xs))) → sp [.ref a] H (fun v _ => v = .bl true) E0) :
    codeAny (model P w) callerA (.call (.ref fa) ⟨[.ref a], []⟩) (fun r s' => r = .ok (.ret (.bool true)) ∧ OldK s1.heap s'.heap ∧ s'.os = s1.os ∧ AllBare s'.gens) s1 := by
  have hsz : us.length ≤ sizeLine := by rw [hi.length]; exact hl
  have rv : Vals (ns.map V.int) us := vals_ints hi
  -- over an abstract heap that knows the script alone, or nothing
  have main : ∀ H : Hp, (∀ b, H b = none ∨ (b = a ∧ K.lookup a = none ∧ H b = some (.frz { cls := .type "list", data := .seq us.toArray } (.lst (ns.map V.int))))) → SqL K H a (ns.map V.int) →
      codeAny (model P w) callerA (.call (.ref fa) ⟨[.ref a], []⟩) (fun r s' => r = .ok (.ret (.bool true)) ∧ OldK s1.heap s'.heap ∧ s'.os = s1.os ∧ AllBare s'.gens) s1 := by
    intro H hH hS
    have ok : HOk P w H s1.heap := by
      intro b o e
      rcases hH b with z | ⟨rfl, _, z⟩
      · rw [z] at e; cases e
      · rw [z] at e
        cases e
        exact ⟨ha, by rw [List.length_map]; exact hl, us, _, rv, ha⟩
    have dat : ∀ {b : Addr} {o : Obj} {es : Array DictEntry} {ep : Nat}, s1.heap.get? b = some o → o.data = .dict es ep → H b = none := by
      intro b o es ep e d
      rcases hH b with z | ⟨rfl, _, z⟩
      · exact z
      · rw [ha] at e
        cases e
        cases (show Data.seq us.toArray _ = Data.dict es ep from d)
    have lay : ∀ {b : Addr} {m : Str → Option Value}, s1.heap.Ns b m → (hidT s1.heap H).Ns b m := by
      rintro b m ⟨o, es, ep, e, d, r⟩
      exact ⟨o, es, ep, hidT_get e (dat e d), d, r⟩
    have inK : K.In (hidT s1.heap H) := by
      intro b o e
      refine hidT_get (KX b o e) ?_
      rcases hH b with z | ⟨rfl, z, _⟩
      · exact z
      · rw [z] at e; cases e
    have md : Mod K mg (hidT s1.heap H) := ⟨inK, lay hns, ⟨mb, lay hb, hbb⟩, hlim.elim fun mc z => ⟨mc, lay z.1, z.2⟩⟩
    have e0 : Env0 P w K mg (hidT s1.heap H) callerA [] s1 H := by
      refine ⟨rfl, md, fun b o e => of_hidT e, Nat.le_of_eq (hidT_size _ _), trivial, ?_, ok, .of_eq hg⟩
      intro b hb
      cases hb
    have frz : ∀ b, H b = none ∨ ∃ o xs, H b = some (.frz o (.lst xs)) := fun b => (hH b).imp id fun z => ⟨_, _, z.2.2⟩
    refine codeAny_mono ((F _ inK (lay hns)).run callerA [] s1 H ⟨[.ref a], []⟩ [.ref a] [.ref a] _ _ rfl hr e0 (hbind s1 (.ref a)) (.cons rfl .nil) (hsp H hS frz)) ?_
    rintro (er | fl) s' h
    · exact h.elim
    · cases fl with
      | ret u =>
        obtain ⟨v, H', os, bare, un, ok', rr, q⟩ := h
        obtain rfl : v = .bl true := q
        obtain rfl : u = Value.bool true := rr
        refine ⟨rfl, OldK.of_keep ?_, os, bare⟩
        intro b o e
        rcases hH b with z | ⟨rfl, _, z⟩
        · exact un.keep b o e z (by intro y; cases y) (by intro y; cases y)
        · have e1 := (ok b _ z).1
          have e2 := (ok' b _ (un.frzs b _ _ z)).1
          rw [e] at e1
          cases e1
          exact e2
      | _ => exact h.elim
  cases hk : K.lookup a with
  | none =>
    refine main (fun b => if b = a then some (.frz { cls := .type "list", data := .seq us.toArray } (.lst (ns.map V.int))) else none) ?_ (Or.inl (Or.inr ⟨_, if_pos rfl⟩))
    intro b
    by_cases hb : b = a
    · exact Or.inr ⟨hb, hk, if_pos hb⟩
    · exact Or.inl (if_neg hb)
  | some o =>
    have e := KX a o hk
    rw [ha] at e
    cases e
    refine main (fun _ => none) (fun _ => Or.inl rfl) (Or.inr ⟨_, us.toArray, _, hk, rfl, rfl, rfl, ?_, ?_⟩)
    · rw [List.size_toArray]; exact hsz
    · simpa using rv

theorem walkG {l : PySem.W.OpenLaw} {n k : Nat} {q : Program} {loose : List Str} {XP : (Str → Option Value) → Heap → Prop} {YP : World → Heap → Prop} {d : DefRec} {x : Str}
    (hn : l.most = some n) (hn2 : n ≤ sizeLine) (hdf : d.params.defaults = []) (hr : Room k callerA)
    (F : ∀ (w : World) (mg : Str → Option Value) (fa : Addr) (h : Heap), YP w h → h.Ns mainGlobals mg → mg d.name = some (.ref fa) →
      ∃ (K : PySem.W.Frag) (fd : FuncData) (sp : Sp), K.In h ∧ (∀ (s : Shared) (u : Value), BindsTo s fd ⟨[u], []⟩ [(x, u)]) ∧
        (∀ (H : Hp) (a : Addr) (ns : List Int), ns.length ≤ n → (∀ b, H b = none ∨ ∃ o xs, H b = some (.frz o (.lst xs))) → SqL K H a (ns.map V.int) → sp [.ref a] H (fun v _ => v = .bl true) E0) ∧
        ∀ base : Heap, K.In base → base.Ns mainGlobals mg → FnG l.prog w K mg base CX0 k fa fd [x] sp) :
    PySem.W.WalkO q loose XP YP l.row.toRowW d [] (fun f vs => PySem.call f vs) := by
  refine Att.attach_call hn hdf ?_
  intro w s0 s1 mg mb fa o pm cd doc a us ns G Y ho hd hcd hmg hobj hints hlen hg
  obtain ⟨K, fd, sp, KX, hb, hsp, hF⟩ := F w mg fa _ Y G.T.g hmg
  exact law_callG KX G.T.g G.T.b G.T.builtins G.T.nolimit hg hobj hints (Nat.le_trans hlen hn2) hr hF hb (fun H hS hO => hsp H a ns hlen hO hS)
end NP
set_option Elab.async false
set_option linter.all false
set_option maxRecDepth 100000
set_option maxHeartbeats 4000000
namespace NP
open PySem PySem.Spec PyProof.Rows L2

/-! ### first, *rest = a tuple -/
theorem walks_from {prog : Program} {w : World} {A : Around} {I : Addr} {fp wr : List Addr} {n : Nat} {P : Nat → Value → Prop} {T : Nat → Heap → Prop} (W : Walks prog w A I fp wr n P T) (k : Nat) (hk : k ≤ n) :
    Walks prog w A I fp wr (n - k) (fun i => P (k + i)) (fun i => T (k + i)) where
  sub := W.sub
  frame := fun i h h' => W.frame (k + i) h h'
  item := fun i s Q E hi st hQ => W.item (k + i) s Q E (by omega) st hQ
  done := fun s Q E st hQ => W.done s Q E (by have e : k + (n - k) = n := by omega
                                              rw [e] at st; exact st) hQ
  self := fun i s Q E st hQ => W.self (k + i) s Q E st hQ
section
variable {prog : Program} {w : World} {A : Around} {E : Value → Shared → Prop} {s : Shared}
theorem unpack_star {t : Addr} {u : Value} {us : List Value} {Q : List Value → Shared → Prop} (hh : A.handled = none) (ht : IsTup s.heap t (u :: us).toArray) (hz : (u :: us).length ≤ sizeLine)
    (hQ : ∀ h' tk, Heap.ExtBut s.heap.objs.size s.heap h' → Q [u, .ref h'.objs.size] { s with heap := h'.push { cls := .type "list", data := .seq us.toArray }, toks := tk }) :
    wpAny (model prog w) A (unpackItems (.ref t) 2 (some 1)) Q E s := by
  have hlt : t ≠ s.heap.objs.size := ht.elim fun o z => Nat.ne_of_lt (Heap.lt_size z.1)
  unfold unpackItems notIterableAtAll
  refine wpAny_bind (wpAny_bind (wpAny_specialOf ht.typeIs slot_tuple_iter.lookup (wpAny_pure ?_)))
  simp only [Bool.false_eq_true, if_false]
  refine wpAny_bind (wpAny_holding (iter_tuple ht ?_))
  refine wpAny_bind (wpAny_holding (draw_tuple hlt 1 0 _ _ ⟨_, Heap.get?_push_size _ rfl, rfl, rfl⟩ (ht.push _) (by simp) ?_))
  intro h1 hit hs
  have e1 : ((u :: us).toArray.toList.drop 0).take 1 = [u] := by simp
  rw [e1]
  have ht1 : IsTup h1 t (u :: us).toArray := (ht.push _).extBut hs.extBut hlt
  rw [if_neg (by simp)]
  have tupl : ∀ {h : Heap} {its : Array Value}, IsTup h t its → h.IsTuple t its := fun z => z
  have W := (walks_from (Walks.tuple (prog := prog) (w := w) (A := A.in1) hh s.heap.objs.size t hlt (u :: us).toArray) 1 (by simp)).toS
  refine wpAny_bind (wpAny_holding (wpAny_collect_iter (s := { s with heap := h1 }) (T := "tuple_iterator") (.inr (.inr (.inr rfl))) W (fun i s' z => z.1.typeIs) ⟨hit, tupl ht1⟩ ?_ (by simp) ?_ (by simp at hz ⊢; omega)))
  · intro b hb
    have hb' : b = s.heap.objs.size ∨ b = t := by simpa using hb
    rcases hb' with rfl | rfl
    · obtain ⟨o, ho, _⟩ := hit
      exact Heap.lt_size ho
    · obtain ⟨o, ho, _⟩ := ht1
      exact Heap.lt_size ho
  · intro s' acc mv hacc
    have ea : acc.toList = us := by
      apply List.ext_getElem?
      intro i
      have hs : acc.size = us.length := by have := hacc.1; simpa using this
      by_cases hi : i < us.length
      · have ha : acc[i]? = some acc[i] := by simp [hs, hi]
        have hp : (u :: us).toArray[1 + i]? = some acc[i] := hacc.2 i _ ha
        rw [Array.getElem?_toList, ha, ← hp, Nat.add_comm 1 i]
        simp
      · rw [List.getElem?_eq_none (by simp [hs]; omega), List.getElem?_eq_none (by omega)]
    rw [ea]
    simp only [Nat.sub_self, Nat.not_lt_zero, if_false, Nat.sub_zero, List.take_length, List.drop_length]
    refine wpAny_bind (wpAny_newList ?_ (by simp at hz; omega))
    obtain ⟨hh2, gg, dd, tt, oo⟩ := s'
    obtain ⟨k1, k2, k3, k4, k5⟩ := mv
    dsimp only at k1 k2 k3 k4 k5
    subst k2 k3 k4
    refine wpAny_pure (hQ hh2 tt ?_)
    intro b o hb e
    exact k1 b o (by simpa using hb) (hs.extBut b o hb (Heap.get?_push_of_some _ e))
end
section
variable {X : Cx} {pos : Pos}
/-- (x, *y): the first item and a new list of the rest -/
def gStar (K : PySem.W.Frag) (g1 g2 : TG) : TG := fun v σ H Q => ∃ a x xs, v = .ref a ∧ SqT K H a (x :: xs) ∧ ∀ p, H p = none → g1 x σ (upd H p (.lst xs)) fun σ1 H1 => g2 (.ref p) σ1 H1 Q
theorem pg_star {e1 e2 : Expr} {k : Nat} {g1 g2 : TG} {p2 : Pos} (hc : X.calm = true) (h1 : PG X e1 g1) (h2 : PG X e2 g2)
    (he : assignEach [e1, .Starred e2 p2] X.env = [(false, assign e1 X.env), (true, assign e2 X.env)] := by rfl) : PG X (.Tuple [e1, .Starred e2 p2] k pos) (gStar X.K g1 g2) := by
  constructor
  intro pins s σ H v u Q I r hw
  obtain ⟨a, x, xs, rfl, hq, hw⟩ := hw
  obtain rfl : u = .ref a := r
  obtain ⟨its, rv, ht, hz⟩ := I.tuple hq
  cases rv with
  | @cons _ u1 _ us r1 rs =>
  rw [assign_Tuple]
  refine wpAny_bind (wpAny_standAt ?_)
  unfold unpack
  rw [he]
  refine wpAny_bind (wpAny_holding ?_)
  show wpAny _ _ (unpackItems (.ref a) 2 (some 1)) _ _ _
  refine unpack_star (I.ok.hd hc) ht (by rw [← (Paired.cons r1 rs : Vals (x :: xs) (u1 :: us)).length]; exact hz) ?_
  intro h' tk hx
  have I1 : Inv X pins σ H { s with heap := h', toks := tk } := I.kept (t' := tk) fun b o e => hx b o (Nat.ne_of_lt (Heap.lt_size e)) e
  have hf : H h'.objs.size = none := I1.hok.fresh (Nat.le_refl _)
  have I2 : Inv X pins σ (upd H h'.objs.size (.lst xs)) { s with heap := h'.push { cls := .type "list", data := .seq us.toArray }, toks := tk } :=
    I1.laid (t' := tk) (fun b o e => Heap.get?_push_of_some _ e) (Nat.le_refl _) ⟨Nat.le_of_succ_le hz, us, 0, rs, Heap.get?_push_size _ rfl⟩
  show wpAny _ _ (assignInOrder [assign e1 X.env, assign e2 X.env] [u1, .ref h'.objs.size]) _ _ _
  refine assignInOrder_cons (thn (h1.run pins _ σ _ x u1 _ I2 r1 (hw _ hf)) ?_)
  rintro _ s2 ⟨σ2, H2, I3, q⟩
  refine assignInOrder_cons (thn (h2.run pins s2 σ2 H2 (.ref h'.objs.size) _ _ I3 rfl q) ?_)
  rintro _ s3 q3
  exact assignInOrder_nil q3
end

/-! ### list(reversed(a list)) -/
section
variable {prog : Program} {w : World} {A : Around} {E : Value → Shared → Prop} {s : Shared}
theorem call_list_rev {it l : Addr} {items : Array Value} {Q : Value → Shared → Prop} (hh : A.handled = none) (hit : s.heap.IsRevIter it l ((items.size : Int) - 1)) (hl : s.heap.IsList l items) (hne : l ≠ it) (hn : items.size ≤ sizeLine)
    (hQ : ∀ (h' : Heap) (tk : Nat) (acc : Array Value) (c : Nat), (∀ b o, b ≠ it → s.heap.get? b = some o → h'.get? b = some o) → ItemsOf (fun i v => items[items.size - 1 - i]? = some v) acc items.size →
      h'.get? s.heap.objs.size = some { cls := .type "list", dict := none, data := .seq acc c, slots := #[] } → Q (.ref s.heap.objs.size) { s with heap := h', toks := tk }) :
    wpAny (model prog w) A (call (.type "list") [.ref it]) Q E s := by
  refine callType_codes (Q₁ := fun obj s₁ => obj = .ref s.heap.objs.size ∧ s₁ = { s with heap := s.heap.push { cls := .type "list", data := .seq #[] } }) PySem.F.called_list (PySem.F.typeCall_list_1 _) PySem.F.entry_list_init
    (code_list_new _ ⟨rfl, rfl⟩) ?_
  rintro obj s1 ⟨rfl, rfl⟩
  obtain ⟨oi, hoi, _⟩ := id hit
  obtain ⟨ol, hol, _⟩ := id hl
  have ni : s.heap.objs.size ≠ it := Nat.ne_of_gt (Heap.lt_size hoi)
  have nl : s.heap.objs.size ≠ l := Nat.ne_of_gt (Heap.lt_size hol)
  have hS : (s.heap.push { cls := .type "list", data := .seq #[] }).get? s.heap.objs.size = some { cls := .type "list", data := .seq #[] } := Heap.get?_push_size _ rfl
  refine ⟨⟨_, hS, rfl⟩, PySem.F.args_list_init_2 _ _, ?_⟩
  show wpAny _ _ (do let old ← Builtin.List.listItems (.ref s.heap.objs.size)
                     Builtin.List.listUpdate (.ref s.heap.objs.size) (fun _ => #[])
                     letGo old.toList.reverse
                     Builtin.List.listExtendWith (.ref s.heap.objs.size) (.ref it) .none) _ _ _
  unfold Builtin.List.listItems
  refine wpAny_bind (wpAny_bind (wpAny_seqItems hS rfl (wpAny_pure ?_)))
  show wpAny _ _ (updateSeq s.heap.objs.size (fun _ => #[]) >>= fun _ => letGo (#[] : Array Value).toList.reverse >>= fun _ => Builtin.List.listExtendWith (.ref s.heap.objs.size) (.ref it) .none) _ _ _
  refine wpAny_bind (wpAny_updateSeq hS rfl (wpAny_bind (wpAny_letGo ?_)))
  have hS2 := Heap.get?_update_self (Obj.mapSeq (fun _ => (#[] : Array Value))) hS rfl
  have oth : ∀ b o, b ≠ s.heap.objs.size → s.heap.get? b = some o → ((s.heap.push { cls := .type "list", data := .seq #[] }).update s.heap.objs.size (Obj.mapSeq (fun _ => (#[] : Array Value)))).get? b = some o :=
    fun b o hb e => (Heap.get?_update_other _ _ (Ne.symm hb)).trans (Heap.get?_push_of_some _ e)
  generalize hH : (s.heap.push { cls := .type "list", data := .seq #[] }).update s.heap.objs.size (Obj.mapSeq (fun _ => (#[] : Array Value))) = hp at hS2 oth
  have hit1 : hp.IsRevIter it l ((items.size : Int) - 1) := hit.at fun o e => oth it o (Ne.symm ni) e
  have hl1 : hp.IsList l items := hl.at fun o e => oth l o (Ne.symm nl) e
  have hT : ({ s with heap := hp } : Shared).TypeIs (.ref it) "list_reverseiterator" := Heap.IsRevIter.typeIs (s := { s with heap := hp }) hit1
  have h1 : Builtin.List.listSameRef (.ref s.heap.objs.size) (.ref it) = false := by simp [Builtin.List.listSameRef, ni]
  unfold Builtin.List.listExtendWith
  refine wpAny_bind (wpAny_typeOf hT ?_)
  rw [if_neg (by rw [h1]; decide)]
  refine wpAny_bind (wpAny_pyIter_revIter (s := { s with heap := hp }) hit1 (wpAny_bind (wpAny_holding ?_)))
  unfold Builtin.List.listLengthHint
  refine wpAny_bind (wpAny_specialOf hT RT.nolen_lri ?_)
  show wpAny _ _ (specialOf (Value.ref it) (Str.ofString "__length_hint__") >>= _) _ _ _
  refine wpAny_bind (wpAny_specialOf hT RT.hint_lri ?_)
  generalize hid : ("list_reverseiterator.__length_hint__" : String) = id0
  wp_delta
  rw [show splitId id0 = some ("list_reverseiterator", "__length_hint__") from by subst hid; decide +kernel]
  subst hid
  refine wpAny_bind (wpAny_isInstance (b := true) hT (by rw [isSubtype_type]; kernel_rfl) (wpAny_pure ?_))
  rw [if_neg (by decide)]
  have W := (Walks.listRev (prog := prog) (w := w) (A := A.in1.in1) hh it l hne items).toS
  have hSf : s.heap.objs.size ∉ [it, l] := by simp only [List.mem_cons, List.not_mem_nil, or_false, not_or]; exact ⟨ni, nl⟩
  have e0 : ((items.size : Nat) : Int) - 1 - ((0 : Nat) : Int) = (items.size : Int) - 1 := by omega
  refine wpAny_pure ⟨plainId_quiet F.plain_extend_loop _, codeAny_extend_loopS W hn _ hSf _ items.size 0 _ _ _ rfl (Nat.zero_le _) ⟨Nat.zero_le _, by rw [e0]; exact hit1, hl1⟩ hS2 (ItemsOf.nil _) ?_⟩
  intro s' acc c mv hS' hacc
  obtain ⟨hh2, gg, dd, tt, oo⟩ := s'
  obtain ⟨k1, k2, k3, k4, k5⟩ := mv
  dsimp only at k1 k2 k3 k4 k5 hS'
  subst k2 k3 k4
  refine ⟨rfl, hQ hh2 tt acc c ?_ hacc hS'⟩
  intro b o hb e
  have hbs : b ≠ s.heap.objs.size := Nat.ne_of_lt (Heap.lt_size e)
  exact k1 b o (by simp only [List.mem_cons, List.not_mem_nil, or_false, not_or]; exact ⟨hbs, hb⟩) (oth b o hbs e)
end
def tListRev (K : PySem.W.Frag) (te : TE) : TE := fun σ H Q => te σ H fun v H1 => ∃ (a : Addr) (xs : List V), v = .ref a ∧ SqL K H1 a xs ∧ ∀ q, H1 q = none → Q (.ref q) (upd H1 q (.lst xs.reverse))
section
variable {X : Cx}
theorem pe_listRev {e : Expr} {te : TE} {p p2 pos pos2 : Pos} (hc : X.calm = true) (hg : Gl X "list") (hm : X.mg "list" = none) (hg2 : Gl X "reversed") (hm2 : X.mg "reversed" = none) (he : PE X e te)
    (hs : starEach [e] X.env = (false, eval e X.env) :: starEach [] X.env := by rfl)
    (hs2 : starEach [.Call (.Name "reversed" p2) [e] [] pos2] X.env = (false, eval (.Call (.Name "reversed" p2) [e] [] pos2) X.env) :: starEach [] X.env := by rfl) :
    PE X (.Call (.Name "list" p) [.Call (.Name "reversed" p2) [e] [] pos2] [] pos) (tListRev X.K te) := by
  constructor
  intro pins s σ H Q I h
  refine Call_ (ld_blt I hg hm boot_list (PyProof.Rows.callWith_type1 (args_cons (Call_ (ld_blt I hg2 hm2 PyProof.Rows.boot_reversed (PyProof.Rows.callWith_type1 (args_cons (thn (he.run pins s σ H _ I h) ?_) hs) hs rfl))) hs2) hs2 rfl))
  rintro u s1 ⟨v, H1, I1, r1, a, xs, rfl, hq, q⟩
  obtain rfl : u = Value.ref a := r1
  refine args_nil ?_
  obtain ⟨its, rv, pl, hz⟩ := I1.list hq
  have hl := pl.isList
  refine call_reversed_list hl (args_nil ?_)
  have k0 : ∀ b o, s1.heap.get? b = some o → (s1.heap.push (revObj a ((its.toArray.size : Int) - 1))).get? b = some o := fun b o e => Heap.get?_push_of_some _ e
  have I2 : Inv X pins σ H1 { s1 with heap := s1.heap.push (revObj a ((its.toArray.size : Int) - 1)) } := I1.kept (t' := s1.toks) k0
  obtain ⟨f0, f1, f2, f3, f4, f5⟩ := I1.fpOk (H' := H1) (b := s1.heap.objs.size) (Nat.le_refl _) (I1.hok.fresh (Nat.le_refl _))
  have hne : a ≠ s1.heap.objs.size := hl.elim fun ol z => Nat.ne_of_lt (Heap.lt_size z.1)
  have hn : its.toArray.size ≤ sizeLine := by rw [List.size_toArray, ← rv.length]; exact hz
  refine call_list_rev (s := { s1 with heap := s1.heap.push (revObj a ((its.toArray.size : Int) - 1)) }) (I1.ok.hd hc) ⟨_, Heap.get?_push_size _ rfl, rfl, rfl⟩ (hl.push _) hne hn ?_
  intro h' tk acc c hk hacc hS
  dsimp only at hk hS
  have nw : H1 (s1.heap.push (revObj a ((its.toArray.size : Int) - 1))).objs.size = none := I2.hok.fresh (Nat.le_refl _)
  have kk : ∀ b o, s1.heap.get? b = some o → h'.get? b = some o := fun b o e => hk b o (Nat.ne_of_lt (Heap.lt_size e)) (k0 b o e)
  have big : s1.heap.objs.size ≤ (s1.heap.push (revObj a ((its.toArray.size : Int) - 1))).objs.size := by simp [Heap.push]
  refine ⟨.ref _, upd H1 _ (.lst xs.reverse), I1.laid (t' := tk) kk big ?_, rfl, q _ nw⟩
  exact ⟨by rw [List.length_reverse]; exact hz, acc.toList, c, RT.vals_rev rv hacc, by rw [Array.toArray_toList]; exact hS⟩
end

/-! ### repr of data -/
def Shw (d : PyData) : Prop := d.showable = true ∧ d.hasDict = false ∧ d.shown.length ≤ sizeLine ∧ d.depth ≤ 60
def rRepr (K : PySem.W.Frag) : List V → Hp → VK → Prop := fun xs H Q => ∃ v d, xs = [v] ∧ Dp K H v d ∧ Shw d ∧ Q (.str d.shown) H
section
variable {X : Cx}
theorem call_repr (hg : X.A.guards = some []) (hu : X.A.units + 64 < cLine) : CallR X (.builtin "repr") (rRepr X.K) := by
  intro pins s σ H xs us Q I r h
  obtain ⟨v, d, rfl, hd, ⟨h1, h2, h3, h4⟩, q⟩ := h
  cases r with
  | @cons _ u _ us' ru rn =>
  cases rn
  obtain ⟨as, rd⟩ := Dp.reads I d v u hd ru
  cases hd with
  | non =>
    obtain rfl : u = Value.none := ru
    exact PySem.P.repr_of_none ⟨.str _, H, I.tok _, ⟨_, rfl⟩, q⟩
  | bl b =>
    obtain rfl : u = Value.bool b := ru
    exact PySem.P.repr_of_bool ⟨.str _, H, I.tok _, ⟨_, rfl⟩, q⟩
  | int i =>
    obtain ⟨t, rfl⟩ := ru
    exact PySem.P.repr_of_int (of_decide_eq_true h1) ⟨.str _, H, I.tok _, ⟨_, rfl⟩, q⟩
  | str x =>
    obtain ⟨t, rfl⟩ := ru
    exact PySem.P.repr_of_str ⟨.str _, H, I.tok _, ⟨_, rfl⟩, q⟩ h3
  | lst =>
    obtain rfl : u = Value.ref _ := ru
    exact repr_of_reads' rd h1 (PyData.noDict_hsm h2) hg (by omega) (fun _ _ e => e) (fun h' t tk hk => ⟨.str _, H, I.kept (t' := tk) hk, ⟨_, rfl⟩, q⟩) h3
  | tup =>
    obtain rfl : u = Value.ref _ := ru
    exact repr_of_reads' rd h1 (PyData.noDict_hsm h2) hg (by omega) (fun _ _ e => e) (fun h' t tk hk => ⟨.str _, H, I.kept (t' := tk) hk, ⟨_, rfl⟩, q⟩) h3
end
end NP
set_option Elab.async false
set_option linter.all false
set_option maxRecDepth 100000
set_option maxHeartbeats 4000000
namespace NP
open PySem PySem.Spec PyProof.Rows L2

/-! ### which objects may change -/
/-- out: the addresses that may change; av: those that no described value may lean on; ok: what holds of them -/
structure Gh where
  out : Addr → Prop
  av : Addr → Prop
  ok : Hp → Prop
  sub : ∀ {a : Addr}, out a → av a
  mu : ∀ {H : Hp} {a : Addr}, ok H → out a → Mut (H a)
  nn : ∀ {H : Hp} {a : Addr}, ok H → av a → H a ≠ Option.none
  keep : ∀ {H H' : Hp}, (∀ a, av a → H' a = H a) → ok H → ok H'
def Gh.none : Gh := ⟨fun _ => False, fun _ => False, fun _ => True, fun z => z, fun _ z => z.elim, fun _ z => z.elim, fun _ _ => trivial⟩
theorem Gh.free {G : Gh} {H : Hp} {p : Addr} (h : G.ok H) (n : H p = Option.none) : ¬ G.av p := fun z => G.nn h z n
theorem Gh.freeO {G : Gh} {H : Hp} {p : Addr} (h : G.ok H) (n : H p = Option.none) : ¬ G.out p := fun z => G.nn h (G.sub z) n
theorem mut_nn {x : Option HO} (h : Mut x) : x ≠ Option.none := by
  cases x with
  | none => exact h.elim
  | some o => intro z; cases z
/-- one more object may change -/
def Gh.add (G : Gh) (p : Addr) : Gh where
  out := fun a => G.out a ∨ a = p
  av := fun a => G.av a ∨ a = p
  ok := fun H => G.ok H ∧ Mut (H p)
  sub := fun z => z.imp G.sub id
  mu := fun h z => z.elim (G.mu h.1) (fun e => e ▸ h.2)
  nn := fun h z => z.elim (G.nn h.1) (fun e => e ▸ mut_nn h.2)
  keep := fun e h => ⟨G.keep (fun a z => e a (Or.inl z)) h.1, by rw [e p (Or.inr rfl)]; exact h.2⟩
/-- one more object is kept apart: it does not change, and nothing leans on it -/
def Gh.hold (G : Gh) (p : Addr) : Gh where
  out := G.out
  av := fun a => G.av a ∨ a = p
  ok := fun H => G.ok H ∧ Mut (H p)
  sub := fun z => Or.inl (G.sub z)
  mu := fun h z => G.mu h.1 z
  nn := fun h z => z.elim (G.nn h.1) (fun e => e ▸ mut_nn h.2)
  keep := fun e h => ⟨G.keep (fun a z => e a (Or.inl z)) h.1, by rw [e p (Or.inr rfl)]; exact h.2⟩
def Le (G : Gh) (H H' : Hp) : Prop := G.ok H ∧ G.ok H' ∧ ∀ a o, H a = some o → ¬ G.out a → H' a = some o
section
variable {G : Gh} {H H1 H2 H' : Hp} {p : Addr} {o : HO}
theorem Le.refl (h : G.ok H) : Le G H H := ⟨h, h, fun _ _ e _ => e⟩
theorem Le.l (h : Le G H H1) : Le G H H := Le.refl h.1
theorem Le.r (h : Le G H H1) : Le G H1 H1 := Le.refl h.2.1
theorem Le.trans (a : Le G H H1) (b : Le G H1 H2) : Le G H H2 := ⟨a.1, b.2.1, fun x o e n => b.2.2 x o (a.2.2 x o e n) n⟩
theorem ok_new (h : G.ok H) (n : H p = Option.none) : G.ok (upd H p o) := G.keep (fun a z => upd_ne (fun e => G.free h n (e ▸ z))) h
theorem Le.new (a : Le G H H1) (n : H1 p = Option.none) : Le G H (upd H1 p o) :=
  ⟨a.1, ok_new a.2.1 n, fun x u e z => by have e1 := a.2.2 x u e z
                                          rw [upd_ne (ne_of_none e1 n)]; exact e1⟩
theorem Le.same (h : G.ok H) (s : Same H H') (k : G.ok H') : Le G H H' := ⟨h, k, fun a o e _ => s a o e⟩
theorem Le.fresh (a : Le G H H1) (n : H1 p = Option.none) : H p = Option.none := by
  cases q : H p with
  | none => rfl
  | some u => rw [a.2.2 p u q (Gh.freeO a.2.1 n)] at n; cases n
/-- a new object that may change from now on -/
theorem add_ok (h : G.ok H) (n : H p = Option.none) (m : Mut (some o)) : (G.add p).ok (upd H p o) := ⟨ok_new h n, by rw [upd_same]; exact m⟩
/-- it changes -/
theorem Le.set (a : Le (G.add p) H H1) (np : ¬ G.av p) (m : Mut (some o)) : Le (G.add p) H (upd H1 p o) :=
  ⟨a.1, ⟨G.keep (fun x z => upd_ne (fun e => np (e ▸ z))) a.2.1.1, by rw [upd_same]; exact m⟩, fun x u e z => by
    rw [upd_ne (fun q => z (Or.inr q))]; exact a.2.2 x u e z⟩
theorem Le.drop (a : Le (G.add p) H1 H2) (b : Le G H H') (n : H' p = Option.none) (e : H1 = upd H' p o) : Le G H H2 := by
  subst e
  refine ⟨b.1, a.2.1.1, fun x u q z => ?_⟩
  have e1 := b.2.2 x u q z
  have np : x ≠ p := ne_of_none e1 n
  exact a.2.2 x u (by rw [upd_ne np]; exact e1) (fun y => y.elim z np)
/-- while it is kept apart -/
theorem Le.hold (a : Le (G.add p) H H1) : (G.hold p).ok H1 := a.2.1
theorem Le.unhold (a : Le (G.hold p) H H1) : Le (G.add p) H H1 := ⟨a.1, a.2.1, fun x o e z => a.2.2 x o e (fun y => z (Or.inl y))⟩
theorem Le.held (a : Le (G.hold p) H H1) (np : ¬ G.av p) (e : H p = some o) : H1 p = some o := a.2.2 p o e (fun z => np (G.sub z))
end

/-! ### what a value stands for -/
structure Rp (α : Type) where
  is : Gh → Hp → V → α → Prop
  mono : ∀ {G : Gh} {H H' : Hp} {v : V} {a : α}, Le G H H' → is G H v a → is G H' v a
  wk : ∀ {G G' : Gh} {H : Hp} {v : V} {a : α}, (∀ x, G.av x → G'.av x) → is G' H v a → is G H v a
  add : ∀ {G G' : Gh} {H : Hp} {v : V} {a : α} {p : Addr} {o : HO}, H p = Option.none → (∀ x, G'.av x → G.av x ∨ x = p) → is G H v a → is G' (upd H p o) v a
def rInt : Rp Int := ⟨fun _ _ v i => v = .int i, fun _ h => h, fun _ h => h, fun _ _ h => h⟩
def rBl : Rp Bool := ⟨fun _ _ v i => v = .bl i, fun _ h => h, fun _ h => h, fun _ _ h => h⟩
def rStr : Rp Str := ⟨fun _ _ v i => v = .str i, fun _ h => h, fun _ h => h, fun _ _ h => h⟩
def rNon : Rp Unit := ⟨fun _ _ v _ => v = .non, fun _ h => h, fun _ h => h, fun _ _ h => h⟩
theorem pmap {α β : Type} {F F' : α → β → Prop} {xs : List α} {ys : List β} (h : Paired F xs ys) (f : ∀ a b, F a b → F' a b) : Paired F' xs ys := Paired.mapP h f
theorem rd_up {H : Hp} {p b : Addr} {o u : HO} (n : H p = Option.none) (r : Rd H b u) : Rd (upd H p o) b u := by
  rcases r with r | ⟨x, r⟩
  · exact Or.inl (by rw [upd_ne (ne_of_none r n)]; exact r)
  · exact Or.inr ⟨x, by rw [upd_ne (ne_of_none r n)]; exact r⟩
theorem sqt_up {K : PySem.W.Frag} {H : Hp} {p b : Addr} {o : HO} {xs : List V} (n : H p = Option.none) (r : SqT K H b xs) : SqT K (upd H p o) b xs := r.imp (rd_up n) id
theorem sql_up {K : PySem.W.Frag} {H : Hp} {p b : Addr} {o : HO} {xs : List V} (n : H p = Option.none) (r : SqL K H b xs) : SqL K (upd H p o) b xs := r.imp (rd_up n) id
theorem Le.tup {G : Gh} {H H' : Hp} {a : Addr} {xs : List V} (l : Le G H H') (h : H a = some (.tup xs)) : H' a = some (.tup xs) :=
  l.2.2 a _ h (fun z => by have := G.mu l.1 z; rw [h] at this; exact this)
theorem Le.frz {G : Gh} {H H' : Hp} {a : Addr} {ob : Obj} {u : HO} (l : Le G H H') (h : H a = some (.frz ob u)) : H' a = some (.frz ob u) :=
  l.2.2 a _ h (fun z => by have := G.mu l.1 z; rw [h] at this; exact this)
theorem Le.sqt {K : PySem.W.Frag} {G : Gh} {H H' : Hp} {a : Addr} {xs : List V} (l : Le G H H') (h : SqT K H a xs) : SqT K H' a xs := by
  rcases h with (h | ⟨o, h⟩) | h
  · exact Or.inl (Or.inl (l.tup h))
  · exact Or.inl (Or.inr ⟨o, l.frz h⟩)
  · exact Or.inr h
/-- a tuple of A's -/
def rTup (K : PySem.W.Frag) {α : Type} (A : Rp α) : Rp (List α) where
  is := fun G H v as => ∃ t xs, v = .ref t ∧ SqT K H t xs ∧ Paired (A.is G H) xs as
  mono := fun l ⟨t, xs, e, h, p⟩ => ⟨t, xs, e, l.sqt h, pmap p fun _ _ q => A.mono l q⟩
  wk := fun w ⟨t, xs, e, h, p⟩ => ⟨t, xs, e, h, pmap p fun _ _ q => A.wk w q⟩
  add := fun n m ⟨t, xs, e, h, p⟩ => ⟨t, xs, e, sqt_up n h, pmap p fun _ _ q => A.add n m q⟩
/-- a tracked list of A's -/
def rLst {α : Type} (A : Rp α) : Rp (List α) where
  is := fun G H v as => ∃ t xs, v = .ref t ∧ H t = some (.lst xs) ∧ ¬ G.av t ∧ Paired (A.is G H) xs as
  mono := fun {G} _ _ _ _ l ⟨t, xs, e, h, n, p⟩ => ⟨t, xs, e, l.2.2 _ _ h (fun z => n (G.sub z)), n, pmap p fun _ _ q => A.mono l q⟩
  wk := fun w ⟨t, xs, e, h, n, p⟩ => ⟨t, xs, e, h, fun z => n (w t z), pmap p fun _ _ q => A.wk w q⟩
  add := fun m k ⟨t, xs, e, h, n, p⟩ => ⟨t, xs, e, by rw [upd_ne (ne_of_none h m)]; exact h, fun z => (k t z).elim n (ne_of_none h m), pmap p fun _ _ q => A.add m k q⟩
/-- a list (tracked or frozen) or a tuple of A's -/
def rSeq (K : PySem.W.Frag) {α : Type} (A : Rp α) : Rp (List α) where
  is := fun G H v as => ∃ t xs, v = .ref t ∧ ((H t = some (.lst xs) ∧ ¬ G.av t) ∨ (∃ o, H t = some (.frz o (.lst xs))) ∨ SqT K H t xs) ∧ Paired (A.is G H) xs as
  mono := fun {G} _ _ _ _ l ⟨t, xs, e, h, p⟩ => ⟨t, xs, e, h.imp (fun z => ⟨l.2.2 _ _ z.1 (fun y => z.2 (G.sub y)), z.2⟩) (fun z => z.imp (fun ⟨o, z⟩ => ⟨o, l.frz z⟩) l.sqt), pmap p fun _ _ q => A.mono l q⟩
  wk := fun w ⟨t, xs, e, h, p⟩ => ⟨t, xs, e, h.imp (fun z => ⟨z.1, fun y => z.2 (w t y)⟩) id, pmap p fun _ _ q => A.wk w q⟩
  add := fun m k ⟨t, xs, e, h, p⟩ => ⟨t, xs, e, h.imp (fun z => ⟨by rw [upd_ne (ne_of_none z.1 m)]; exact z.1, fun y => (k t y).elim z.2 (ne_of_none z.1 m)⟩)
    (fun z => z.imp (fun ⟨o, z⟩ => ⟨o, by rw [upd_ne (ne_of_none z m)]; exact z⟩) (sqt_up m)), pmap p fun _ _ q => A.add m k q⟩
/-- a pair of two kinds -/
def rPair (K : PySem.W.Frag) {α β : Type} (A : Rp α) (B : Rp β) : Rp (α × β) where
  is := fun G H v ab => ∃ t x y, v = .ref t ∧ SqT K H t [x, y] ∧ A.is G H x ab.1 ∧ B.is G H y ab.2
  mono := fun l ⟨t, x, y, e, h, p, q⟩ => ⟨t, x, y, e, l.sqt h, A.mono l p, B.mono l q⟩
  wk := fun w ⟨t, x, y, e, h, p, q⟩ => ⟨t, x, y, e, h, A.wk w p, B.wk w q⟩
  add := fun n m ⟨t, x, y, e, h, p, q⟩ => ⟨t, x, y, e, sqt_up n h, A.add n m p, B.add n m q⟩
/-- held apart and free to change: the same to a value -/
theorem Rp.h2a {α : Type} (A : Rp α) {G : Gh} {H : Hp} {p : Addr} {v : V} {a : α} (h : A.is (G.hold p) H v a) : A.is (G.add p) H v a := A.wk (G' := G.hold p) (fun _ (z : G.av _ ∨ _ = p) => z) h
theorem Rp.a2h {α : Type} (A : Rp α) {G : Gh} {H : Hp} {p : Addr} {v : V} {a : α} (h : A.is (G.add p) H v a) : A.is (G.hold p) H v a := A.wk (G' := G.add p) (fun _ (z : G.av _ ∨ _ = p) => z) h
theorem Rp.off {α : Type} (A : Rp α) {G : Gh} {H : Hp} {p : Addr} {v : V} {a : α} (h : A.is (G.add p) H v a) : A.is G H v a := A.wk (fun _ z => Or.inl z) h
theorem Rp.on {α : Type} (A : Rp α) {G : Gh} {H : Hp} {p : Addr} {v : V} {a : α} {o : HO} (n : H p = Option.none) (h : A.is G H v a) : A.is (G.add p) (upd H p o) v a := A.add n (fun _ z => z) h
theorem rSeq.sq {K : PySem.W.Frag} {α : Type} {A : Rp α} {G : Gh} {H : Hp} {v : V} {as : List α} (h : (rSeq K A).is G H v as) : ∃ t xs, v = .ref t ∧ (SqL K H t xs ∨ SqT K H t xs) ∧ Paired (A.is G H) xs as := by
  obtain ⟨t, xs, e, h, p⟩ := h
  refine ⟨t, xs, e, ?_, p⟩
  rcases h with z | ⟨o, z⟩ | z
  · exact Or.inl (SqL.of z.1)
  · exact Or.inl (Or.inl (Or.inr ⟨o, z⟩))
  · exact Or.inr z
theorem seq_tup {K : PySem.W.Frag} {α : Type} {A : Rp α} {G : Gh} {H : Hp} {v : V} {as : List α} (h : (rTup K A).is G H v as) : (rSeq K A).is G H v as := let ⟨t, xs, e, h, p⟩ := h; ⟨t, xs, e, Or.inr (Or.inr h), p⟩
theorem seq_lst {K : PySem.W.Frag} {α : Type} {A : Rp α} {G : Gh} {H : Hp} {v : V} {as : List α} (h : (rLst A).is G H v as) : (rSeq K A).is G H v as := let ⟨t, xs, e, h, n, p⟩ := h; ⟨t, xs, e, Or.inl ⟨h, n⟩, p⟩
/-- scalars written out -/
theorem paired_str {G : Gh} {H : Hp} : ∀ {xs : List V} {as : List Str}, Paired (rStr.is G H) xs as → xs = as.map V.str
  | _, _, .nil => rfl
  | _, _, .cons e t => by rw [List.map_cons, ← paired_str t, show _ = _ from e]
theorem str_paired {G : Gh} {H : Hp} : ∀ (as : List Str), Paired (rStr.is G H) (as.map V.str) as
  | [] => .nil
  | _ :: t => .cons rfl (str_paired t)
theorem paired_int {G : Gh} {H : Hp} : ∀ {xs : List V} {as : List Int}, Paired (rInt.is G H) xs as → xs = as.map V.int
  | _, _, .nil => rfl
  | _, _, .cons e t => by rw [List.map_cons, ← paired_int t, show _ = _ from e]
theorem paired_bl {G : Gh} {H : Hp} : ∀ {xs : List V} {as : List Bool}, Paired (rBl.is G H) xs as → xs = as.map V.bl
  | _, _, .nil => rfl
  | _, _, .cons e t => by rw [List.map_cons, ← paired_bl t, show _ = _ from e]
theorem paired_get {α β : Type} {F : α → β → Prop} : ∀ {xs : List α} {as : List β} {i : Nat} {x : α}, Paired F xs as → xs[i]? = some x → ∃ a, as[i]? = some a ∧ F x a
  | _, _, _, _, .nil, e => by simp at e
  | _, _, 0, _, .cons q _, e => by simp at e; subst e; exact ⟨_, rfl, q⟩
  | _, _, i + 1, _, .cons _ t, e => by
    obtain ⟨a, h1, h2⟩ := paired_get (i := i) t (by simpa using e)
    exact ⟨a, by simpa using h1, h2⟩
theorem paired_get' {α β : Type} {F : α → β → Prop} : ∀ {xs : List α} {as : List β} {i : Nat} {a : β}, Paired F xs as → as[i]? = some a → ∃ x, xs[i]? = some x ∧ F x a
  | _, _, _, _, .nil, e => by simp at e
  | _, _, 0, _, .cons q _, e => by simp at e; subst e; exact ⟨_, rfl, q⟩
  | _, _, i + 1, _, .cons _ t, e => by
    obtain ⟨a, h1, h2⟩ := paired_get' (i := i) t (by simpa using e)
    exact ⟨a, by simpa using h1, h2⟩
theorem paired_app {α β : Type} {F : α → β → Prop} : ∀ {xs ys : List α} {as bs : List β}, Paired F xs as → Paired F ys bs → Paired F (xs ++ ys) (as ++ bs)
  | _, _, _, _, .nil, h => h
  | _, _, _, _, .cons q t, h => .cons q (paired_app t h)
theorem paired_len {α β : Type} {F : α → β → Prop} {xs : List α} {as : List β} (h : Paired F xs as) : xs.length = as.length := Paired.length h
theorem paired_rev {α β : Type} {F : α → β → Prop} : ∀ {xs : List α} {as : List β}, Paired F xs as → Paired F xs.reverse as.reverse
  | _, _, .nil => .nil
  | _, _, .cons q t => by rw [List.reverse_cons, List.reverse_cons]; exact paired_app (paired_rev t) (.cons q .nil)
theorem paired_take {α β : Type} {F : α → β → Prop} : ∀ {xs : List α} {as : List β} (n : Nat), Paired F xs as → Paired F (xs.take n) (as.take n)
  | _, _, 0, _ => by simp only [List.take_zero]; exact .nil
  | _, _, _ + 1, .nil => .nil
  | _, _, n + 1, .cons q t => .cons q (paired_take n t)
theorem paired_drop {α β : Type} {F : α → β → Prop} : ∀ {xs : List α} {as : List β} (n : Nat), Paired F xs as → Paired F (xs.drop n) (as.drop n)
  | _, _, 0, h => h
  | _, _, _ + 1, .nil => .nil
  | _, _, n + 1, .cons _ t => paired_drop n t
theorem paired_erase {α β : Type} {F : α → β → Prop} : ∀ {xs : List α} {as : List β} (n : Nat), Paired F xs as → Paired F (xs.eraseIdx n) (as.eraseIdx n)
  | _, _, _, .nil => .nil
  | _, _, 0, .cons q t => t
  | _, _, n + 1, .cons q t => .cons q (paired_erase n t)

/-! ### the weakest preconditions themselves -/
def W (X : Cx) (e : Expr) : TE := fun σ H Q => ∀ (pins : List (Addr × Obj)) (s : Shared), Inv X pins σ H s → wpAny (model X.prog X.w) X.A (eval e X.env) (L2.EP X pins σ Q) X.xe s
def WT (X : Cx) (e : Expr) : TT := fun σ H Q => ∀ (pins : List (Addr × Obj)) (s : Shared), Inv X pins σ H s → wpAny (model X.prog X.w) X.A (isTrue e X.env (eval e X.env)) (TP X pins σ Q) X.xe s
def WA (X : Cx) (es : List Expr) : TA := fun σ H Q => ∀ (pos : Pos) (pins : List (Addr × Obj)) (s : Shared), Inv X pins σ H s → wpAny (model X.prog X.w) X.A (spliced (backTo pos (starEach es X.env))) (AP X pins σ Q) X.xe s
def WS (X : Cx) (st : Stmt) : TS := fun D σ H => ∀ (pins : List (Addr × Obj)) (s : Shared), Inv X pins σ H s → wpAny (model X.prog X.w) X.A (exec st X.env) (SP X pins D) X.xe s
def WSs (X : Cx) (st : List Stmt) : TS := fun D σ H => ∀ (pins : List (Addr × Obj)) (s : Shared), Inv X pins σ H s → wpAny (model X.prog X.w) X.A (execs st X.env) (SP X pins D) X.xe s
section
variable {X : Cx} {e a b : Expr} {es : List Expr} {st : Stmt} {sts : List Stmt} {σ : L2.St} {H : Hp} {Q : VK} {pos : Pos} {D : Ends}
theorem W.pe : PE X e (W X e) := ⟨fun pins s _ _ _ I q => q pins s I⟩
theorem WT.pt : PT X e (WT X e) := ⟨fun pins s _ _ _ I q => q pins s I⟩
theorem WA.pa : PA X es (WA X es) := ⟨fun pos pins s _ _ _ I q => q pos pins s I⟩
theorem WS.ps : PS X st (WS X st) := ⟨fun pins s _ _ _ I q => q pins s I⟩
theorem WSs.pss : PSs X sts (WSs X sts) := ⟨fun pins s _ _ _ I q => q pins s I⟩
theorem W.of {t : TE} (h : PE X e t) (q : t σ H Q) : W X e σ H Q := fun pins s I => h.run pins s σ H Q I q
theorem WT.of {t : TT} {Q : Bool → Hp → Prop} (h : PT X e t) (q : t σ H Q) : WT X e σ H Q := fun pins s I => h.run pins s σ H Q I q
theorem WA.of {t : TA} {Q : List V → Hp → Prop} (h : PA X es t) (q : t σ H Q) : WA X es σ H Q := fun pos pins s I => h.run pos pins s σ H Q I q
theorem WS.of {t : TS} (h : PS X st t) (q : t D σ H) : WS X st D σ H := fun pins s I => h.run pins s σ H D I q
theorem WSs.of {t : TS} (h : PSs X sts t) (q : t D σ H) : WSs X sts D σ H := fun pins s I => h.run pins s σ H D I q

/-! blocks and statements -/
theorem w_nil (q : D.nx σ H) : WSs X [] D σ H := WSs.of pss_nil q
theorem w_cons (q : WS X st { D with nx := WSs X sts D } σ H) : WSs X (st :: sts) D σ H := WSs.of (pss_cons WS.ps WSs.pss) q
theorem w_one (q : WS X st D σ H) : WSs X [st] D σ H := WSs.of (pss_one WS.ps) q
theorem w_set (i : Nat) {x : Str} {pos' : Pos} (hN : X.N.Nodup) (q : W X e σ H fun v H1 => D.nx (σ.set i (some v)) H1) (hi : X.N[i]? = some x := by rfl) (hx : Loc X.env.scope x := by first | exact Or.inl rfl | exact Or.inr rfl)
    (hs : swapsWith e (some (.Name x pos')) pos.line X.env = pure false := by rfl) (hf : X.fn x = true ∨ X.env.scope.names.lookup x = some .local := by first | exact .inl rfl | exact .inr rfl | assumption) : WS X (.Assign [.Name x pos'] e pos) D σ H :=
  WS.of (ps_set hN hi hx W.pe hs hf) q
theorem w_ret (q : W X e σ H D.rt) : WS X (.Return (some e) pos) D σ H := WS.of (ps_ret W.pe) q
theorem w_expr (q : W X e σ H fun _ H1 => D.nx σ H1) (hs : swapsWith e none pos.line X.env = pure false := by rfl) : WS X (.Expr e pos) D σ H := WS.of (ps_expr W.pe hs) q
theorem w_if {c : Expr} {ss ts : List Stmt} (q : WT X c σ H fun k H1 => if k = true then WSs X ss D σ H1 else WSs X ts D σ H1) : WS X (.If c ss ts pos) D σ H := WS.of (ps_if WT.pt WSs.pss WSs.pss) q
theorem w_asg {tg : Expr} {g : TG} (hg : PG X tg g) (q : W X e σ H fun v H1 => g v σ H1 D.nx) (hs : swapsWithSole [tg] e pos.line X.env = pure false := by rfl) (hw : swappedStores [tg] e X.env = pure none := by rfl)
    (h1 : (assignEach [tg] X.env).map (·.2) = [assign tg X.env] := by rfl) : WS X (.Assign [tg] e pos) D σ H := WS.of (ps_asg W.pe hg hs hw h1) q

/-! expressions -/
theorem w_var (i : Nat) {x : Str} {v : V} (h : σ[i]? = some (some v)) (q : Q v H) (hN : X.N[i]? = some x := by rfl) (hv : Vis X.env.scope x := by first | exact Or.inl rfl | exact Or.inr (Or.inl rfl) | exact Or.inr (Or.inr rfl))
    (hd : (x == ("__debug__" : Str)) = false := by decide) (hcd : (x == ("__classdict__" : Str)) = false := by decide) : W X (.Name x pos) σ H Q := W.of (pe_var hN hv hd hcd) ⟨v, h, q⟩
theorem w_int {i : Int} {j : Nat} (q : Q (.int i) H) : W X (.Constant (.int i) j pos) σ H Q := W.of pe_int q
theorem w_str {x : Str} {j : Nat} (q : Q (.str x) H) : W X (.Constant (.str x) j pos) σ H Q := W.of pe_str q
theorem w_bl {x : Bool} {j : Nat} (q : Q (.bl x) H) : W X (.Constant (.bool x) j pos) σ H Q := W.of pe_bl q
theorem w_non {j : Nat} (q : Q .non H) : W X (.Constant .none j pos) σ H Q := W.of pe_non q
theorem w_op {op : Operator} {r : R2} (ho : OpR X (binaryOp op) r) (q : W X a σ H fun x H1 => W X b σ H1 fun y H2 => r x y H2 Q) : W X (.BinOp a op b pos) σ H Q := W.of (pe_op ho W.pe W.pe) q
theorem w_cmp {op : CmpOp} {r : R2} (ho : OpR X (compareOp op) r) (q : W X a σ H fun x H1 => W X b σ H1 fun y H2 => r x y H2 Q) (hm : behindInMarks op b = false := by first | exact nomark _ | rfl) : W X (.Compare a [op] [b] pos) σ H Q :=
  W.of (pe_cmpR ho W.pe W.pe hm) q
theorem w_tup {k : Nat} (q : WA X es σ H fun xs H1 => xs.length ≤ sizeLine ∧ ∀ p, H1 p = none → Q (.ref p) (upd H1 p (.tup xs))) : W X (.Tuple es k pos) σ H Q := W.of (pe_tup WA.pa) q
theorem w_lst (q : WA X es σ H fun xs H1 => xs.length ≤ sizeLine ∧ ∀ p, H1 p = none → Q (.ref p) (upd H1 p (.lst xs))) : W X (.List es pos) σ H Q := W.of (pe_lst WA.pa) q
theorem w_anil {Q : List V → Hp → Prop} (q : Q [] H) : WA X [] σ H Q := WA.of pa_nil q
theorem w_acons {Q : List V → Hp → Prop} (q : W X e σ H fun x H1 => WA X es σ H1 fun xs H2 => Q (x :: xs) H2) (hs : starEach (e :: es) X.env = (false, eval e X.env) :: starEach es X.env := by rfl) : WA X (e :: es) σ H Q := WA.of (pa_cons W.pe WA.pa hs) q
theorem w_if1 {c : Expr} (q : WT X c σ H fun k H1 => if k = true then W X a σ H1 Q else W X b σ H1 Q) : W X (.IfExp c a b pos) σ H Q := W.of (pe_ifExp WT.pt W.pe W.pe) q
/-! tests -/
theorem t_val {Q : Bool → Hp → Prop} (q : W X e σ H fun x H1 => ∃ c, x = .bl c ∧ Q c H1) (he : ∀ whole, isTrue e X.env whole = (do let v ← whole; standAt e.pos; holding [v] (truthy v)) := by intro _; rfl) : WT X e σ H Q := WT.of (pt_val W.pe he) q
theorem t_cmp {Q : Bool → Hp → Prop} {op : CmpOp} {r : R2} (ho : OpR X (compareOp op) r) (q : W X a σ H fun x H1 => W X b σ H1 fun y H2 => r x y H2 fun z H3 => ∃ c, z = .bl c ∧ Q c H3)
    (hm : behindInMarks op b = false := by first | exact nomark _ | rfl) : WT X (.Compare a [op] [b] pos) σ H Q := WT.of (pt_cmpR ho W.pe W.pe hm) q
theorem t_not {Q : Bool → Hp → Prop} (q : WT X a σ H fun c H1 => Q (!c) H1) : WT X (.UnaryOp .Not a pos) σ H Q := WT.of (pt_not WT.pt) q
theorem t_and {Q : Bool → Hp → Prop} (q : WT X a σ H fun c H1 => if c = true then WT X b σ H1 Q else Q false H1) : WT X (.BoolOp .And [a, b] pos) σ H Q := WT.of (PW.pt (pw_and WT.pt (pw_and1 WT.pt))) q
theorem t_or {Q : Bool → Hp → Prop} (q : WT X a σ H fun c H1 => if c = true then Q true H1 else WT X b σ H1 Q) : WT X (.BoolOp .Or [a, b] pos) σ H Q := WT.of (PW.pt (pw_or WT.pt (pw_or1 WT.pt))) q
theorem t_or3 {c : Expr} {Q : Bool → Hp → Prop} (q : WT X a σ H fun k H1 => if k = true then Q true H1 else WT X b σ H1 fun k H2 => if k = true then Q true H2 else WT X c σ H2 Q) : WT X (.BoolOp .Or [a, b, c] pos) σ H Q :=
  WT.of (PW.pt (pw_or WT.pt (pw_or WT.pt (pw_or1 WT.pt)))) q
theorem t_and3 {c : Expr} {Q : Bool → Hp → Prop} (q : WT X a σ H fun k H1 => if k = true then (WT X b σ H1 fun k H2 => if k = true then WT X c σ H2 Q else Q false H2) else Q false H1) : WT X (.BoolOp .And [a, b, c] pos) σ H Q :=
  WT.of (PW.pt (pw_and WT.pt (pw_and WT.pt (pw_and1 WT.pt)))) q
/-! calls of built-ins by name -/
theorem w_callB {id : String} {x : Str} {r : List V → Hp → VK → Prop} {p : Pos} (hc : CallR X (.builtin id) r) (hm : X.mg x = none) (hv : bootBuiltins x = some (.builtin id)) (q : WA X (e :: es) σ H fun vs H1 => r vs H1 Q) (hg : Gl X x := by rfl) (hn : x ≠ "__name__" := by decide)
    (hdb : (x == ("__debug__" : Str)) = false := by decide) (he : starEach (e :: es) X.env = (false, eval e X.env) :: starEach es X.env := by rfl) (hpl : (backTo pos (starEach es X.env)).any (·.1) = false := by rfl) : W X (.Call (.Name x p) (e :: es) [] pos) σ H Q :=
  W.of (pe_callB hc hg hm hv WA.pa hn hdb he hpl) q
theorem w_callTy {T : String} {x : Str} {r : List V → Hp → VK → Prop} {p : Pos} (hc : CallR X (.type T) r) (hm : X.mg x = none) (hv : bootBuiltins x = some (.type T)) (q : WA X (e :: es) σ H fun vs H1 => r vs H1 Q) (hg : Gl X x := by rfl) (hn : x ≠ "__name__" := by decide)
    (hdb : (x == ("__debug__" : Str)) = false := by decide) (he : starEach (e :: es) X.env = (false, eval e X.env) :: starEach es X.env := by rfl) (hpl : (backTo pos (starEach es X.env)).any (·.1) = false := by rfl) : W X (.Call (.Name x p) (e :: es) [] pos) σ H Q :=
  W.of (pe_callTy hc hg hm hv WA.pa hn hdb he hpl) q
theorem w_ix {r : R2} (hr : IxR X r) (q : W X a σ H fun x H1 => W X b σ H1 fun y H2 => r x y H2 Q) (hs : PlainIx b := by exact fun _ _ => rfl) : W X (.Subscript a b pos) σ H Q := W.of (pe_ix hr W.pe W.pe hs) q
end
end NP
set_option Elab.async false
set_option linter.all false
set_option maxRecDepth 100000
set_option maxHeartbeats 4000000
namespace NP
open PySem PySem.Spec PyProof.Rows L2

section
variable {X : Cx} {e a b o : Expr} {es : List Expr} {st : Stmt} {sts : List Stmt} {σ : L2.St} {H : Hp} {Q : VK} {pos apos cpos : Pos} {D : Ends}
/-! dicts -/
theorem w_dget (hu : X.A.units + 1 < cLine) (q : W X o σ H fun x H1 => W X e σ H1 fun y H2 => ∃ d v, x = .ref d ∧ DGet H2 d y (some v) ∧ Q v H2) (hs : NoSl e := by exact fun _ _ => rfl) : W X (.Subscript o e pos) σ H Q := W.of (pe_dget hu W.pe W.pe hs) q
theorem w_dput {pos' : Pos} (hu : X.A.units + 1 < cLine) (q : W X e σ H fun v H1 => W X o σ H1 fun x H2 => W X a σ H2 fun y H3 => ∃ d H4, x = .ref d ∧ DPut H3 d y v H4 ∧ D.nx σ H4)
    (hs : swapsWith e (some (.Subscript o a pos')) pos.line X.env = pure false := by rfl) : WS X (.Assign [.Subscript o a pos'] e pos) D σ H := WS.of (ps_dput hu W.pe W.pe W.pe hs) q
/-! methods of built-in types -/
theorem w_bm0 {T : String} {id : String} {name : Str} {r : V → List V → Hp → VK → Prop} (pa : PlainAttrs T) (slot : Slot T name id) (hty : typeOf (.builtin id) = pure (.type "method_descriptor")) (hm : MtR X id r) (q : W X o σ H fun x H1 => tyV X.K T x H1 ∧ r x [] H1 Q)
    (hbase : attributeBase o name X.env (eval o X.env) = eval o X.env := by rfl) (hline : (apos.endLine == cpos.line) = true := by rfl) : W X (.Call (.Attribute o name apos) [] [] cpos) σ H Q := W.of (pe_bm0 pa slot hty hm W.pe hbase hline) q
theorem w_bm {T : String} {id : String} {name : Str} {r : V → List V → Hp → VK → Prop} (pa : PlainAttrs T) (slot : Slot T name id) (hty : typeOf (.builtin id) = pure (.type "method_descriptor")) (hm : MtR X id r) (q : W X o σ H fun x H1 => tyV X.K T x H1 ∧ WA X (e :: es) σ H1 fun xs H2 => r x xs H2 Q)
    (hbase : attributeBase o name X.env (eval o X.env) = eval o X.env := by rfl)
    (hfew : ((backTo cpos (starEach (e :: es) X.env)).all (fun x => !x.1) && (backToKw cpos (keywordEach [] X.env)).all (fun x => x.1.isSome)
      && decide ((e :: es).length + ([] : List Keyword).length + (if ([] : List Keyword).isEmpty then 0 else 1) < 30)) = true := by rfl)
    (hline : (apos.endLine == cpos.line) = true := by rfl) (hs : starEach (e :: es) X.env = (false, eval e X.env) :: starEach es X.env := by rfl) (hplain : (backTo cpos (starEach es X.env)).any (·.1) = false := by rfl) :
    W X (.Call (.Attribute o name apos) (e :: es) [] cpos) σ H Q := W.of (pe_bm pa slot hty hm W.pe WA.pa hbase hfew hline hs hplain) q
/-- xs.append(e), the list tracked -/
theorem w_append {l : Addr} {xs : List V} (q : W X o σ H fun x H1 => x = .ref l ∧ H1 l = some (.lst xs) ∧ W X e σ H1 fun v H2 => ∃ ys, H2 l = some (.lst ys) ∧ ys.length < sizeLine ∧ D.nx σ (upd H2 l (.lst (ys ++ [v]))))
    (hs : swapsWith (.Call (.Attribute o "append" apos) [e] [] cpos) none pos.line X.env = pure false := by rfl)
    (hbase : attributeBase o "append" X.env (eval o X.env) = eval o X.env := by rfl)
    (hfew : ((backTo cpos (starEach [e] X.env)).all (fun x => !x.1) && (backToKw cpos (keywordEach [] X.env)).all (fun x => x.1.isSome)
      && decide ([e].length + ([] : List Keyword).length + (if ([] : List Keyword).isEmpty then 0 else 1) < 30)) = true := by rfl)
    (hline : (apos.endLine == cpos.line) = true := by rfl) (hs1 : starEach [e] X.env = (false, eval e X.env) :: starEach [] X.env := by rfl) (hplain : (backTo cpos (starEach [] X.env)).any (·.1) = false := by rfl) :
    WS X (.Expr (.Call (.Attribute o "append" apos) [e] [] cpos) pos) D σ H := by
  refine w_expr (w_bm PySem.F.plainAttrs_list PySem.F.slot_list_append PySem.F.type_list_append mt_append ?_ hbase hfew hline hs1 hplain) hs
  intro pins s I
  refine thn (q pins s I) ?_
  rintro u s1 ⟨x, H1, I1, r1, rfl, hl, q1⟩
  refine ⟨.ref l, H1, I1, r1, Or.inl ⟨rfl, xs, SqL.of hl⟩, WA.of (pa_cons W.pe pa_nil hs1) ?_⟩
  intro pins s I
  refine thn (q1 pins s I) ?_
  rintro u s1 ⟨x, H2, I2, r2, ys, hy, hz, q2⟩
  exact ⟨x, H2, I2, r2, l, ys, x, rfl, rfl, hy, hz, q2⟩
/-! loops -/
theorem w_while {c : Expr} {body : List Stmt} (hp : PassesOwn (model X.prog X.w) X.A X.env X.xe) (V : Nat → L2.St → Hp → Prop) (m0 : Nat) (h0 : V m0 σ H)
    (hs : ∀ m σ' H', V m σ' H' → WT X c σ' H' fun k H1 => if k = true then WSs X body { D with nx := fun σ2 H2 => ∃ m', m' < m ∧ V m' σ2 H2, ct := fun σ2 H2 => ∃ m', m' < m ∧ V m' σ2 H2, bk := D.nx } σ' H1 else D.nx σ' H1) :
    WS X (.While c body [] pos) D σ H := by
  refine WS.of (ps_while hp WT.pt WSs.pss) ⟨V, ⟨m0, h0⟩, ?_⟩
  intro m σ' H' hv pins s I
  refine wpAny_mono (hs m σ' H' hv pins s I) ?_ (fun _ _ z => z)
  rintro k s1 ⟨H1, I1, q1⟩
  refine ⟨H1, I1, ?_⟩
  cases k with
  | true => exact ⟨_, fun _ _ z => z, q1⟩
  | false => exact q1
/-- over a list that stays as it is -/
theorem w_forL {tg iter : Expr} {g : TG} {body : List Stmt} (hp : PassesOwn (model X.prog X.w) X.A X.env X.xe) (hc : X.calm = true) (hg : PG X tg g) {l : Addr} {xs : List V}
    (q : W X iter σ H fun x H1 => x = .ref l ∧ SqL X.K H1 l xs ∧ ∃ Pv : Nat → L2.St → Hp → Prop, Pv 0 σ H1 ∧ (∀ i σ' H', i ≤ xs.length → Pv i σ' H' → SqL X.K H' l xs) ∧
      (∀ i x σ' H', xs[i]? = some x → Pv i σ' H' → g x σ' H' fun σ2 H2 => WSs X body { D with nx := Pv (i + 1), ct := Pv (i + 1), bk := D.nx } σ2 H2) ∧ ∀ σ' H', Pv xs.length σ' H' → D.nx σ' H')
    (hs : ∀ x, foldedSetIterable iter X.env x = pure x := by intro _; rfl) : WS X (.For tg iter body [] pos) D σ H := by
  refine WS.of (ps_for hp hc (pi_list W.pe) hg WSs.pss hs) ?_
  intro pins s I
  refine thn (q pins s I) ?_
  rintro u s1 ⟨x, H1, I1, r1, rfl, hl, Pv, p0, p1, p2, p3⟩
  exact ⟨_, H1, I1, r1, l, rfl, ⟨xs, hl⟩, for_list Pv p0 p1 p2 p3⟩
theorem w_forT {tg iter : Expr} {g : TG} {body : List Stmt} (hp : PassesOwn (model X.prog X.w) X.A X.env X.xe) (hc : X.calm = true) (hg : PG X tg g) {l : Addr} {xs : List V}
    (q : W X iter σ H fun x H1 => x = .ref l ∧ SqT X.K H1 l xs ∧ ∃ Pv : Nat → L2.St → Hp → Prop, Pv 0 σ H1 ∧ (∀ i σ' H', i ≤ xs.length → Pv i σ' H' → SqT X.K H' l xs) ∧
      (∀ i x σ' H', xs[i]? = some x → Pv i σ' H' → g x σ' H' fun σ2 H2 => WSs X body { D with nx := Pv (i + 1), ct := Pv (i + 1), bk := D.nx } σ2 H2) ∧ ∀ σ' H', Pv xs.length σ' H' → D.nx σ' H')
    (hs : ∀ x, foldedSetIterable iter X.env x = pure x := by intro _; rfl) : WS X (.For tg iter body [] pos) D σ H := by
  refine WS.of (ps_for hp hc (pi_tup W.pe) hg WSs.pss hs) ?_
  intro pins s I
  refine thn (q pins s I) ?_
  rintro u s1 ⟨x, H1, I1, r1, rfl, hl, Pv, p0, p1, p2, p3⟩
  exact ⟨_, H1, I1, r1, l, rfl, ⟨xs, hl⟩, for_tup Pv p0 p1 p2 p3⟩
/-- over range(e) -/
theorem w_forR {tg : Expr} {p : Pos} {g : TG} {body : List Stmt} (hp : PassesOwn (model X.prog X.w) X.A X.env X.xe) (hc : X.calm = true) (hm : X.mg "range" = none) (hg : PG X tg g)
    (q : W X e σ H fun x H1 => ∃ n : Nat, x = .int n ∧ n < 2 ^ 62 ∧ ∃ Pv : Nat → L2.St → Hp → Prop, Pv 0 σ H1 ∧
      (∀ i σ' H', i < n → Pv i σ' H' → g (.int i) σ' H' fun σ2 H2 => WSs X body { D with nx := Pv (i + 1), ct := Pv (i + 1), bk := D.nx } σ2 H2) ∧ ∀ σ' H', Pv n σ' H' → D.nx σ' H')
    (hr : Gl X "range" := by rfl) (hs1 : starEach [e] X.env = [(false, eval e X.env)] := by rfl) (hs2 : starEach [e] X.env = (false, eval e X.env) :: starEach [] X.env := by rfl)
    (hs : ∀ x, foldedSetIterable (.Call (.Name "range" p) [e] [] pos) X.env x = pure x := by intro _; rfl) {pos' : Pos} : WS X (.For tg (.Call (.Name "range" p) [e] [] pos) body [] pos') D σ H := by
  refine WS.of (ps_for hp hc (pi_range1 hr hm (pa_cons W.pe pa_nil hs2) hs1) hg WSs.pss hs) ?_
  intro pins s I
  refine thn (q pins s I) ?_
  rintro u s1 ⟨x, H1, I1, r1, n, rfl, hn, Pv, p0, p2, p3⟩
  refine ⟨_, H1, I1, r1, n, rfl, by omega, by omega, ?_⟩
  have e1 : (n : Int).toNat = n := Int.toNat_natCast n
  rw [e1]
  refine for_range Pv p0 (fun i σ' H' hi pv => ?_) p3
  rw [Int.zero_add]
  exact p2 i σ' H' hi pv
/-- a, b = x, y: two locals -/
theorem w_par (i j : Nat) {x y : Str} {px py pt : Pos} {kt k2 : Nat} {pt2 : Pos} (hc : X.calm = true) (hN : X.N.Nodup) (q : WA X [a, b] σ H fun vs H1 => ∃ v w, vs = [v, w] ∧ D.nx ((σ.set i (some v)).set j (some w)) H1)
    (hi : X.N[i]? = some x := by rfl) (hj : X.N[j]? = some y := by rfl) (hij : i ≠ j := by decide) (hx : X.env.scope.names.lookup x = some .local := by rfl) (hy : X.env.scope.names.lookup y = some .local := by rfl)
    (hw : swappedStores [.Tuple [.Name x px, .Name y py] kt pt] (.Tuple [a, b] k2 pt2) X.env = pure (some [x, y]) := by rfl)
    (hs : swapsWithSole [.Tuple [.Name x px, .Name y py] kt pt] (.Tuple [a, b] k2 pt2) pos.line X.env = pure false := by rfl) : WS X (.Assign [.Tuple [.Name x px, .Name y py] kt pt] (.Tuple [a, b] k2 pt2) pos) D σ H :=
  WS.of (ps_par hc hN hi hj hij hx hy WA.pa hw hs) q
/-! calls of defs -/
def Cal (P : Program) (w : World) (K : PySem.W.Frag) (mg : Str → Option Value) (base : Heap) (CX : CXT) (k : Nat) (x : Str) (ps : List Str) (sp : Sp) : Prop :=
  ∃ f fd, FnG P w K mg base CX k f fd ps sp ∧ mg x = some (.ref f) ∧ PySem.W.keepIn K (.ref f) = true ∧ Binds K fd ps []
theorem w_call {k : Nat} {x : Str} {ps : List Str} {sp : Sp} {p : Pos} (C : Cal X.prog X.w X.K X.mg X.base CX0 k x ps sp) (hgd : X.A.guards = some []) (hr : Room k X.A) (q : WA X (e :: es) σ H fun vs H1 => sp vs H1 Q E0) (hg : Gl X x := by rfl)
    (hdb : (x == ("__debug__" : Str)) = false := by decide) (he : starEach (e :: es) X.env = (false, eval e X.env) :: starEach es X.env := by rfl) (hpl : (backTo pos (starEach es X.env)).any (·.1) = false := by rfl) :
    W X (.Call (.Name x p) (e :: es) [] pos) σ H Q := by
  obtain ⟨f, fd, F, hm, hk, hb⟩ := C
  refine W.of (pe_callG F hgd hr hg hm hk hb .nil pass0 WA.pa hdb he hpl) ?_
  intro pos pins s I
  refine thn (q pos pins s I) ?_
  rintro us s1 ⟨vs, H1, I1, r1, q1⟩
  exact ⟨vs, H1, I1, r1, (by show sp (vs ++ []) H1 Q E0; rw [List.append_nil]; exact q1)⟩
/-- a statement, what holds behind it, then the rest -/
theorem w_cut (M : L2.St → Hp → Prop) (q : WS X st { D with nx := M } σ H) (k : ∀ σ' H', M σ' H' → WSs X sts D σ' H') : WSs X (st :: sts) D σ H := by
  refine w_cons fun pins s I => wpAny_mono (q pins s I) ?_ (fun _ _ z => z)
  intro fl s' z
  cases fl with
  | next => exact z.elim fun σ' z => z.elim fun H' z => ⟨σ', H', z.1, k _ _ z.2⟩
  | ret u => exact z
  | brk => exact z
  | cont => exact z
/-! weakening -/
theorem W.mono {Q' : VK} (h : W X e σ H Q) (k : ∀ v H', Q v H' → Q' v H') : W X e σ H Q' := fun pins s I => thn (h pins s I) fun u s' ⟨v, H', I', r, q⟩ => ⟨v, H', I', r, k v H' q⟩
theorem WA.mono {Q Q' : List V → Hp → Prop} (h : WA X es σ H Q) (k : ∀ v H', Q v H' → Q' v H') : WA X es σ H Q' := fun pos pins s I => thn (h pos pins s I) fun u s' ⟨v, H', I', r, q⟩ => ⟨v, H', I', r, k v H' q⟩
theorem WT.mono {Q Q' : Bool → Hp → Prop} (h : WT X e σ H Q) (k : ∀ v H', Q v H' → Q' v H') : WT X e σ H Q' := fun pins s I => thn (h pins s I) fun u s' ⟨H', I', q⟩ => ⟨H', I', k _ H' q⟩
end
/-! ### a def by its body -/
section
variable {P : Program} {w : World} {K : PySem.W.Frag} {mg : Str → Option Value} {base : Heap} {x qual : Str} {st : Stmt} {dvs : List V} {kws : List (Str × V)} {f : Addr} {fd : FuncData}
theorem def_ok {N ps : List Str} {k : Nat} {sp : Sp} (F : FunD K x qual (defArgs st) (defBody st) (defScope st) dvs kws f fd) (S : FnScope N ps (defScope st)) (len : ∀ vs H Q E, sp vs H Q E → vs.length = ps.length)
    (go : ∀ (X : Cx) (vs : List V) (H : Hp) (Q : VK) (E : XK), (∃ cdv A out s, X = (cxOf CX0 P w K mg base N qual (defScope st) f cdv A out s H E).nox) → X.A.guards = some [] → Room k X.A → sp vs H Q E →
      WSs X (defBody st) { nx := fun _ H' => Q .non H', rt := Q } (start N vs) H) : FnG P w K mg base CX0 (k + 1) f fd ps sp :=
  okG F S len fun cdv A out s H vs Q E hg hr h => ⟨_, PSs.nox WSs.pss, go _ vs H Q E ⟨cdv, A, out, s, rfl⟩ hg hr h⟩
end
end NP
set_option Elab.async false
set_option linter.all false
set_option maxRecDepth 100000
set_option maxHeartbeats 4000000
namespace NP
open PySem PySem.Spec PyProof.Rows L2
/-! ### the source of draws -/
def dealKv (l : Addr) (s n : Int) : List (Key × V) := [(.inr "seed", .int s), (.inr "number", .int n), (.inr "left", .ref l)]
theorem s_sn : ¬ (("seed" : Str) = "number") := by decide +kernel
theorem s_sl : ¬ (("seed" : Str) = "left") := by decide +kernel
theorem s_nl : ¬ (("number" : Str) = "left") := by decide +kernel
theorem k_ne {x y : Str} (h : ¬ x = y) : ¬ ((Sum.inr x : Key) = Sum.inr y) := fun e => h (Sum.inr.inj e)
theorem deal_seed (l : Addr) (s n : Int) : valV (dealKv l s n) (Sum.inr "seed") = some (.int s) := valV_pos rfl
theorem deal_number (l : Addr) (s n : Int) : valV (dealKv l s n) (Sum.inr "number") = some (.int n) := (valV_neg (k_ne s_sn)).trans (valV_pos rfl)
theorem deal_left (l : Addr) (s n : Int) : valV (dealKv l s n) (Sum.inr "left") = some (.ref l) := (valV_neg (k_ne s_sl)).trans ((valV_neg (k_ne s_nl)).trans (valV_pos rfl))
theorem deal_put_number (l : Addr) (s n m : Int) : putK (dealKv l s n) (Sum.inr "number") (.int m) = dealKv l s m := by
  unfold putK
  rw [if_pos (by rw [valV_any, deal_number]; rfl)]
  unfold dealKv
  simp only [List.map_cons, List.map_nil]
  rw [if_neg (k_ne s_sn), if_pos trivial, if_neg (k_ne (Ne.symm s_nl))]
theorem deal_put_seed (l : Addr) (s n m : Int) : putK (dealKv l s n) (Sum.inr "seed") (.int m) = dealKv l m n := by
  unfold putK
  rw [if_pos (by rw [valV_any, deal_seed]; rfl)]
  unfold dealKv
  simp only [List.map_cons, List.map_nil]
  rw [if_pos trivial, if_neg (k_ne (Ne.symm s_sn)), if_neg (k_ne (Ne.symm s_sl))]
theorem deal_merge (l : Addr) (s n : Int) : mergeK [] (dealKv l s n) = dealKv l s n := by
  have e1 : putK ([] : List (Key × V)) (Sum.inr "seed") (V.int s) = [((Sum.inr "seed" : Key), V.int s)] := rfl
  have e2 : putK [((Sum.inr "seed" : Key), V.int s)] (Sum.inr "number") (V.int n) = [((Sum.inr "seed" : Key), V.int s), ((Sum.inr "number" : Key), V.int n)] := putK_new _ (by rw [valV_neg (k_ne s_sn)]; rfl)
  have e3 : putK [((Sum.inr "seed" : Key), V.int s), ((Sum.inr "number" : Key), V.int n)] (Sum.inr "left") (V.ref l) = dealKv l s n := putK_new _ (by rw [valV_neg (k_ne s_sl), valV_neg (k_ne s_nl)]; rfl)
  show putK (putK (putK ([] : List (Key × V)) (Sum.inr "seed") (V.int s)) (Sum.inr "number") (V.int n)) (Sum.inr "left") (V.ref l) = _
  rw [e1, e2, e3]
structure DealS (g l : Addr) (s n : Int) (left : List Int) (H : Hp) : Prop where
  d : H g = some (.dK (dealKv l s n))
  r : H l = some (.lst (left.map V.int))
  s0 : 0 ≤ s
  s1 : s < 2147483648
  n0 : 0 ≤ n
  p : ∀ x ∈ left, 0 ≤ x
def DealAt (g l : Addr) (H : Hp) : Prop := ∃ s n left, DealS g l s n left H
theorem DealS.ne {g l : Addr} {s n : Int} {left : List Int} {H : Hp} (d : DealS g l s n left H) : g ≠ l := ne_of d.d d.r (by intro z; cases z)
def Off (g l : Addr) (H H' : Hp) : Prop := ∀ a o, H a = some o → a ≠ g → a ≠ l → H' a = some o
theorem Off.refl (g l : Addr) (H : Hp) : Off g l H H := fun _ _ e _ _ => e
theorem Off.trans {g l : Addr} {H H1 H2 : Hp} (a : Off g l H H1) (b : Off g l H1 H2) : Off g l H H2 := fun x o e n m => b x o (a x o e n m) n m
theorem Off.g {g l : Addr} {H : Hp} {o : HO} : Off g l H (upd H g o) := fun x u e n _ => by rw [upd_ne n]; exact e
theorem Off.l {g l : Addr} {H : Hp} {o : HO} : Off g l H (upd H l o) := fun x u e _ n => by rw [upd_ne n]; exact e
/-- ghosts that let the source change -/
structure Deals (g l : Addr) (G : Gh) : Prop where
  out : ∀ a, a = g ∨ a = l → G.out a
  at_ : ∀ {H : Hp}, G.ok H → DealAt g l H
  step : ∀ {H H' : Hp}, G.ok H → DealAt g l H' → Off g l H H' → G.ok H'
def gDeal (g l : Addr) : Gh where
  out := fun a => a = g ∨ a = l
  av := fun a => a = g ∨ a = l
  ok := DealAt g l
  sub := fun z => z
  nn := fun {H a} h z => by
    obtain ⟨s, n, left, d⟩ := h
    rcases z with rfl | rfl
    · rw [d.d]; exact fun y => nomatch y
    · rw [d.r]; exact fun y => nomatch y
  mu := fun {H a} h z => by
    obtain ⟨s, n, left, d⟩ := h
    rcases z with rfl | rfl
    · rw [d.d]; trivial
    · rw [d.r]; trivial
  keep := fun {H H'} e h => by
    obtain ⟨s, n, left, d⟩ := h
    exact ⟨s, n, left, ⟨by rw [e g (Or.inl rfl)]; exact d.d, by rw [e l (Or.inr rfl)]; exact d.r, d.s0, d.s1, d.n0, d.p⟩⟩
theorem deals_base (g l : Addr) : Deals g l (gDeal g l) := ⟨fun _ z => z, fun h => h, fun _ h _ => h⟩
theorem Deals.add {g l p : Addr} {G : Gh} {H : Hp} (d : Deals g l G) (h : G.ok H) (n : H p = none) : Deals g l (G.add p) where
  out := fun a z => Or.inl (d.out a z)
  at_ := fun h => d.at_ h.1
  step := fun {H1 H2} h1 h2 h3 => by
    refine ⟨d.step h1.1 h2 h3, ?_⟩
    obtain ⟨s, m, left, dd⟩ := d.at_ h
    have pg : p ≠ g := fun e => by rw [e, dd.d] at n; cases n
    have pl : p ≠ l := fun e => by rw [e, dd.r] at n; cases n
    cases q : H1 p with
    | none => have := h1.2; rw [q] at this; exact this.elim
    | some o => have := h1.2; rw [q] at this; rw [h3 p o q pg pl]; exact this
theorem Deals.hold {g l p : Addr} {G : Gh} {H : Hp} (d : Deals g l G) (h : G.ok H) (n : H p = none) : Deals g l (G.hold p) where
  out := fun a z => d.out a z
  at_ := fun h => d.at_ h.1
  step := fun {H1 H2} h1 h2 h3 => (d.add h n).step h1 h2 h3
theorem Deals.le {g l : Addr} {G : Gh} {H H' : Hp} (d : Deals g l G) (h : G.ok H) (h2 : DealAt g l H') (h3 : Off g l H H') : Le G H H' :=
  ⟨h, d.step h h2 h3, fun a o e n => h3 a o e (fun z => n (d.out a (Or.inl z))) (fun z => n (d.out a (Or.inr z)))⟩
theorem dget_of {H : Hp} {a : Addr} {kvs : List (Key × V)} {x : Str} {v : V} (h : H a = some (.dK kvs)) (e : valV kvs (Sum.inr x) = some v) : DGet H a (.str x) (some v) := by
  have z := DGet.k (k := Sum.inr x) h
  rw [e] at z
  exact z
theorem ite_t {c : Bool} {A B : Prop} (h : c = true) (q : A) : if c = true then A else B := by rw [if_pos h]; exact q
theorem ite_f {c : Bool} {A B : Prop} (h : c = false) (q : B) : if c = true then A else B := by rw [if_neg (by rw [h]; decide)]; exact q
theorem ite_c {c : Bool} {A B : Prop} (h1 : c = true → A) (h2 : c = false → B) : if c = true then A else B := by
  cases c with
  | true => exact ite_t rfl (h1 rfl)
  | false => exact ite_f rfl (h2 rfl)
def spDraw : Sp := fun vs H Q _ => ∃ (g l : Addr) (many : Int), vs = [.ref g, .int many] ∧ DealAt g l H ∧ 0 < many ∧ many < 1073741824 ∧ ∀ (r : Int) H', 0 ≤ r → r < many → DealAt g l H' → Off g l H H' → Q (.int r) H'
end NP
set_option Elab.async false
set_option linter.all false
set_option maxRecDepth 100000
set_option maxHeartbeats 4000000
namespace NP
open PySem PySem.Spec PyProof.Rows L2
/-! ### what is walked -/
structure Feed (J : It) (OK : Hp → Prop) (xs : List V) : Prop where
  go : ∀ i H, OK H → i < xs.length → J.go i H
  yld : ∀ i H x H', OK H → i < xs.length → J.yld i H x H' → H' = H ∧ xs[i]? = some x
  stop : ∀ H, OK H → J.stop xs.length H
theorem feed_list {K : PySem.W.Frag} {a : Addr} {xs : List V} : Feed (Itl K a) (fun H => SqL K H a xs) xs where
  go := fun i H q h => ⟨xs, xs[i], q, by simp [h]⟩
  yld := fun i H x H' q _ y => ⟨y.1, y.2 xs q⟩
  stop := fun H q => ⟨xs, q, Nat.le_refl _⟩
theorem feed_tup {K : PySem.W.Frag} {a : Addr} {xs : List V} : Feed (Itt K a) (fun H => SqT K H a xs) xs where
  go := fun i H q h => ⟨xs, xs[i], q, by simp [h]⟩
  yld := fun i H x H' q _ y => ⟨y.1, y.2 xs q⟩
  stop := fun H q => ⟨xs, q, Nat.le_refl _⟩
/-- 0, 1, .. -/
def nats (n : Nat) : List Int := (List.range n).map fun (i : Nat) => (i : Int)
theorem nats_get {n i : Nat} (h : i < n) : (nats n)[i]? = some (i : Int) := by simp [nats, h]
theorem nats_len (n : Nat) : (nats n).length = n := by simp [nats]
theorem nats_mem {n : Nat} {i : Int} (h : i ∈ nats n) : 0 ≤ i ∧ i < n := by
  obtain ⟨k, hk, rfl⟩ := List.mem_map.mp h
  have := List.mem_range.mp hk
  omega
theorem feed_range {n : Nat} : Feed (Itr 0 n) (fun _ => True) ((nats n).map V.int) where
  go := fun i H _ h => by rw [List.length_map, nats_len] at h; exact h
  yld := fun i H x H' _ h y => by
    rw [List.length_map, nats_len] at h
    refine ⟨y.1, ?_⟩
    rw [List.getElem?_map, nats_get h, y.2, Int.zero_add]
    rfl
  stop := fun H _ => by rw [List.length_map, nats_len]; exact Nat.le_refl n
/-- the signs of a text -/
def signs (x : Str) : List Str := x.cps.toList.map fun c => (⟨#[c]⟩ : Str)
theorem feed_str {x : Str} : Feed (Its x) (fun _ => True) ((signs x).map V.str) where
  go := fun i H _ h => by
    rw [List.length_map, signs, List.length_map] at h
    exact h
  yld := fun i H v H' _ h y => by
    obtain ⟨e, c, hc, rfl⟩ := y
    refine ⟨e, ?_⟩
    rw [List.getElem?_map, signs, List.getElem?_map, Array.getElem?_toList, hc]
    rfl
  stop := fun H _ => by simp [signs, Its]
theorem int_paired {G : Gh} {H : Hp} : ∀ (as : List Int), Paired (rInt.is G H) (as.map V.int) as
  | [] => .nil
  | _ :: t => .cons rfl (int_paired t)
def WI (X : Cx) (tg iter : Expr) : TI := fun σ H R => ∀ (pins : List (Addr × Obj)) (s : Shared), Inv X pins σ H s →
  wpAny (model X.prog X.w) X.A (eval iter X.env) (fun v s1 => wpAny (model X.prog X.w) X.A (pyIter v) (PIE X pins σ tg R) X.xe s1) X.xe s
/-- R of every iterator that yields the values xs, which stand for as -/
def Fed (K : PySem.W.Frag) {α : Type} (A : Rp α) (as : List α) (G : Gh) (H1 : Hp) (R : It → Hp → Prop) : Prop :=
  ∀ J OK xs, Feed J OK xs → (∀ H', Le G H1 H' → OK H') → Paired (A.is G H1) xs as → R J H1
section
variable {X : Cx} {tg iter l e : Expr} {σ : L2.St} {H : Hp} {R : It → Hp → Prop}
theorem WI.pi : PI X tg iter (WI X tg iter) := ⟨fun pins s _ _ _ I q => q pins s I⟩
theorem WI.of {wi : TI} (h : PI X tg iter wi) (q : wi σ H R) : WI X tg iter σ H R := fun pins s I => h.run pins s σ H R I q
/-- a list or a tuple -/
theorem wi_seq {α : Type} (A : Rp α) (G : Gh) (q : W X l σ H fun x H1 => ∃ as, (rSeq X.K A).is G H1 x as ∧ Fed X.K A as G H1 R) : WI X tg l σ H R := by
  intro pins s I
  refine thn (q pins s I) ?_
  rintro u s1 ⟨x, H1, I1, r1, as, ⟨t, xs, rfl, h, p⟩, k⟩
  obtain rfl : u = Value.ref t := r1
  have fp : ∀ b ∈ [s1.heap.objs.size], FpOk X pins H1 b := by
    intro b hb
    obtain rfl : b = s1.heap.objs.size := by simpa using hb
    exact I1.fpOk (Nat.le_refl _) (I1.hok.fresh (Nat.le_refl _))
  have asL : SqL X.K H1 t xs → R (Itl X.K t) H1 → wpAny (model X.prog X.w) X.A (pyIter (.ref t)) (PIE X pins σ tg R) X.xe s1 := by
    intro hq hR
    obtain ⟨its, _, pl, _⟩ := I1.list hq
    exact wpAny_pyIter_list pl.isList ⟨_, [s1.heap.objs.size], _, _, H1, rfl, I1.kept (t' := s1.toks) (fun b o e => Heap.get?_push_of_some _ e), turn_list t _, ⟨_, Heap.get?_push_size _ rfl, rfl, rfl⟩, fp, hR⟩
  rcases h with ⟨hl, hn⟩ | ⟨o, hl⟩ | ht
  · exact asL (SqL.of hl) (k _ _ xs feed_list (fun H' le => SqL.of (le.2.2 t _ hl (fun z => hn (G.sub z)))) p)
  · exact asL (Or.inl (Or.inr ⟨o, hl⟩)) (k _ _ xs feed_list (fun H' le => Or.inl (Or.inr ⟨o, le.frz hl⟩)) p)
  · obtain ⟨its, _, pl, _⟩ := I1.tuple ht
    exact wpAny_pyIter_tuple (show s1.heap.IsTuple t its.toArray from pl) ⟨_, [s1.heap.objs.size], _, _, H1, rfl, I1.kept (t' := s1.toks) (fun b o e => Heap.get?_push_of_some _ e), turn_tuple t _, ⟨_, Heap.get?_push_size _ rfl, rfl, rfl⟩, fp,
      k _ _ xs feed_tup (fun H' le => le.sqt ht) p⟩
theorem wi_range {p pos : Pos} (G : Gh) (hm : X.mg "range" = none) (q : W X e σ H fun x H1 => ∃ n : Nat, x = .int n ∧ n < 2 ^ 62 ∧ Fed X.K rInt (nats n) G H1 R)
    (hr : Gl X "range" := by rfl) (hs1 : starEach [e] X.env = [(false, eval e X.env)] := by rfl) (hs2 : starEach [e] X.env = (false, eval e X.env) :: starEach [] X.env := by rfl) : WI X tg (.Call (.Name "range" p) [e] [] pos) σ H R := by
  refine WI.of (pi_range1 hr hm (pa_cons W.pe pa_nil hs2) hs1) ?_
  intro pins s I
  refine thn (q pins s I) ?_
  rintro u s1 ⟨x, H1, I1, r1, n, rfl, hn, k⟩
  refine ⟨_, H1, I1, r1, n, rfl, by omega, by omega, ?_⟩
  have e1 : (n : Int).toNat = n := Int.toNat_natCast n
  rw [e1]
  exact k _ _ _ feed_range (fun _ _ => trivial) (int_paired _)
theorem wi_rangeT {p pos : Pos} (hm : X.mg "range" = none) (q : W X e σ H fun x H1 => ∃ n : Nat, x = .int n ∧ n < 2 ^ 62 ∧ ∀ J, Feed J (fun _ => True) ((nats n).map V.int) → R J H1)
    (hr : Gl X "range" := by rfl) (hs1 : starEach [e] X.env = [(false, eval e X.env)] := by rfl) (hs2 : starEach [e] X.env = (false, eval e X.env) :: starEach [] X.env := by rfl) : WI X tg (.Call (.Name "range" p) [e] [] pos) σ H R := by
  refine WI.of (pi_range1 hr hm (pa_cons W.pe pa_nil hs2) hs1) ?_
  intro pins s I
  refine thn (q pins s I) ?_
  rintro u s1 ⟨x, H1, I1, r1, n, rfl, hn, k⟩
  refine ⟨_, H1, I1, r1, n, rfl, by omega, by omega, ?_⟩
  have e1 : (n : Int).toNat = n := Int.toNat_natCast n
  rw [e1]
  exact k _ feed_range
theorem wi_str (G : Gh) (q : W X e σ H fun x H1 => ∃ z : Str, x = .str z ∧ Fed X.K rStr (signs z) G H1 R) : WI X tg e σ H R := by
  refine WI.of (pi_str W.pe) ?_
  intro pins s I
  refine thn (q pins s I) ?_
  rintro u s1 ⟨x, H1, I1, r1, z, rfl, k⟩
  exact ⟨_, H1, I1, r1, z, rfl, k _ _ _ feed_str (fun _ _ => trivial) (str_paired _)⟩
end
section
variable {X : Cx} {tg iter e : Expr} {σ : L2.St} {H : Hp} {D : Ends} {pos : Pos} {Q : VK}
/-- for: a word of the turn -/
theorem w_for {g : TG} {body : List Stmt} (hp : PassesOwn (model X.prog X.w) X.A X.env X.xe) (hc : X.calm = true) (hg : PG X tg g)
    (q : WI X tg iter σ H fun J H1 => ∃ OK xs, Feed J OK xs ∧ ∃ Pv : Nat → L2.St → Hp → Prop, Pv 0 σ H1 ∧ (∀ i σ' H', Pv i σ' H' → OK H') ∧
      (∀ i x σ' H', xs[i]? = some x → Pv i σ' H' → g x σ' H' fun σ2 H2 => WSs X body { D with nx := Pv (i + 1), ct := Pv (i + 1), bk := D.nx } σ2 H2) ∧ ∀ σ' H', Pv xs.length σ' H' → D.nx σ' H')
    (hs : ∀ x, foldedSetIterable iter X.env x = pure x := by intro _; rfl) : WS X (.For tg iter body [] pos) D σ H := by
  refine WS.of (ps_for hp hc WI.pi hg WSs.pss hs) ?_
  intro pins s I
  refine thn (q pins s I) fun u s1 z => thn z ?_
  rintro itv s2 ⟨it, fp, tn, J, H', e1, I1, T, t0, f1, OK, xs, F, Pv, p0, p1, p2, p3⟩
  refine ⟨it, fp, tn, J, H', e1, I1, T, t0, f1, fun i m σ H => m = xs.length - i ∧ i ≤ xs.length ∧ Pv i σ H, ⟨xs.length, by simp, Nat.zero_le _, p0⟩, ?_⟩
  rintro i m σ' H2 ⟨rfl, hi, pv⟩
  have ok := p1 i σ' H2 pv
  by_cases hlt : i < xs.length
  · refine Or.inr ⟨F.go i H2 ok hlt, Pv (i + 1), fun σ3 H3 z => ⟨xs.length - (i + 1), by omega, rfl, hlt, z⟩, fun x H3 y => ?_⟩
    obtain ⟨rfl, hx⟩ := F.yld i H2 x H3 ok hlt y
    exact p2 i x σ' _ hx pv
  · obtain rfl : i = xs.length := by omega
    exact Or.inl ⟨F.stop H2 ok, p3 σ' H2 pv⟩
/-- the blocks of a comprehension -/
def Blk (X : Cx) (scope : Scope) (X' : Cx) : Prop := ∃ (s : Shared) (H : Hp) (C : Addr) (cl : List (Str × Addr)) (fp : List Addr), X' = X.blk s H scope (compEnvC scope cl C X.env) fp
def WTs (X : Cx) (ifs : List Expr) : TT := fun σ H Q => match ifs with
  | [] => Q true H
  | [c] => WT X c σ H Q
  | _ => False
theorem WTs.pts {X : Cx} {ifs : List Expr} : PTs X ifs (WTs X ifs) := by
  match ifs with
  | [] => exact pts_nil
  | [c] => exact pts_one WT.pt
  | _ :: _ :: _ => exact ⟨fun _ _ _ _ _ _ h => h.elim⟩
def blkT (X : Cx) (scope : Scope) (elt : Expr) : TE := fun σ H Q => ∀ X2, Blk X scope X2 → W X2 elt σ H Q
def blkTs (X : Cx) (scope : Scope) (ifs : List Expr) : TT := fun σ H Q => ∀ X1, Blk X scope X1 → WTs X1 ifs σ H Q
theorem blkT_pe {elt : Expr} {scope : Scope} (s : Shared) (H : Hp) (C : Addr) (cl : List (Str × Addr)) (fp : List Addr) : PE (X.blk s H scope (compEnvC scope cl C X.env) fp) elt (blkT X scope elt) := ⟨fun pins s' σ H' Q I z => z _ ⟨s, H, C, cl, fp, rfl⟩ pins s' I⟩
theorem blkTs_pts {ifs : List Expr} {scope : Scope} (s : Shared) (H : Hp) (C : Addr) (cl : List (Str × Addr)) (fp : List Addr) : PTs (X.blk s H scope (compEnvC scope cl C X.env) fp) ifs (blkTs X scope ifs) :=
  ⟨fun pins s' σ H' Q I z => WTs.pts.run pins s' σ H' Q I (z _ ⟨s, H, C, cl, fp, rfl⟩)⟩
theorem lc0 {elt : Expr} {ifs : List Expr} {scope : Scope} {vs : List Nat} {g : TG}
    (q : WI X tg iter σ H fun J H1 => ∀ D, H1 D = none → ∃ OK xs, Feed J OK xs ∧ ∃ Pv : Nat → Hp → Prop, Pv 0 (upd H1 D (.lst [])) ∧ (∀ i H', Pv i H' → OK H') ∧
      (∀ i x H', xs[i]? = some x → Pv i H' → g x (wipe σ vs) H' fun σ2 H2 => wipe σ2 vs = wipe σ vs ∧ blkTs X scope ifs σ2 H2 fun b H3 =>
        if b = true then blkT X scope elt σ2 H3 fun y H4 => ∃ acc, H4 D = some (.lst acc) ∧ acc.length < sizeLine ∧ Pv (i + 1) (upd H4 D (.lst (acc ++ [y]))) else Pv (i + 1) H3) ∧ ∀ H', Pv xs.length H' → Q (.ref D) H') :
    tLc (WI X tg iter) g (blkTs X scope ifs) (blkT X scope elt) vs σ H Q := by
  intro pins s I
  refine thn (q pins s I) fun u s1 z => thn z ?_
  rintro itv s2 ⟨it, fp, tn, J, H', e1, I1, T, t0, f1, k⟩
  refine ⟨it, fp, tn, J, H', e1, I1, T, t0, f1, fun D hD => ?_⟩
  obtain ⟨OK, xs, F, Pv, p0, p1, p2, p3⟩ := k D hD
  refine ⟨fun i m H => m = xs.length - i ∧ i ≤ xs.length ∧ Pv i H, ⟨xs.length, by simp, Nat.zero_le _, p0⟩, ?_⟩
  rintro i m H2 ⟨rfl, hi, pv⟩
  have ok := p1 i H2 pv
  by_cases hlt : i < xs.length
  · refine Or.inr ⟨F.go i H2 ok hlt, Pv (i + 1), fun H3 z => ⟨xs.length - (i + 1), by omega, rfl, hlt, z⟩, fun x H3 y => ?_⟩
    obtain ⟨rfl, hx⟩ := F.yld i H2 x H3 ok hlt y
    exact p2 i x _ hx pv
  · obtain rfl : i = xs.length := by omega
    exact Or.inl ⟨F.stop H2 ok, p3 H2 pv⟩
end
/-! ### comprehensions by what they hold -/
/-- bs comes of as: each item is skipped (S) or gives one (R) -/
inductive LC {α β : Type} (S : α → Prop) (R : α → β → Prop) : List α → List β → Prop
  | nil : LC S R [] []
  | skip {as bs a} : LC S R as bs → S a → LC S R (as ++ [a]) bs
  | take {as bs a b} : LC S R as bs → R a b → LC S R (as ++ [a]) (bs ++ [b])
theorem LC.len {α β : Type} {S : α → Prop} {R : α → β → Prop} {as : List α} {bs : List β} (h : LC S R as bs) : bs.length ≤ as.length := by
  induction h with
  | nil => exact Nat.le_refl _
  | skip _ _ ih => simp; omega
  | take _ _ ih => simp; omega
theorem LC.eq {α β : Type} {t : α → Bool} {f : α → β} {as : List α} {bs : List β} (h : LC (fun a => t a = false) (fun a b => t a = true ∧ b = f a) as bs) : bs = (as.filter t).map f := by
  induction h with
  | nil => rfl
  | skip _ h ih => rw [ih]; simp [h]
  | take _ h ih => rw [ih, h.2]; simp [h.1]
theorem LC.map {α β : Type} {f : α → β} {as : List α} {bs : List β} (h : LC (fun _ => False) (fun a b => b = f a) as bs) : bs = as.map f := by
  induction h with
  | nil => rfl
  | skip _ h ih => exact h.elim
  | take _ h ih => rw [ih, h]; simp
theorem take_snoc {α : Type} {l : List α} {i : Nat} {x : α} (h : l[i]? = some x) : l.take (i + 1) = l.take i ++ [x] := by
  obtain ⟨hi, rfl⟩ := List.getElem?_eq_some_iff.mp h
  exact List.take_succ_eq_append_getElem hi
section
variable {X : Cx} {iter : Expr} {σ : L2.St} {H : Hp} {pos : Pos} {Q : VK}
/-- [elt for x in iter if ..] with one name: in a turn the list D that is made is held apart -/
def LcQ {α β : Type} (X : Cx) (A : Rp α) (B : Rp β) (G : Gh) (S : α → Prop) (R : α → β → Prop) (j : Nat) (elt : Expr) (ifs : List Expr) (scope : Scope) (σ : L2.St) (Q : VK) : It → Hp → Prop := fun J H1 =>
  G.ok H1 ∧ ∃ (OK : Hp → Prop) (xs : List V) (as : List α), Feed J OK xs ∧ (∀ H', Le G H1 H' → OK H') ∧ Paired (A.is G H1) xs as ∧ as.length ≤ 100000 ∧ ∀ D, H1 D = none →
      (∀ (i : Nat) (a : α) (v : V) (H' : Hp), as[i]? = some a → Le (G.add D) (upd H1 D (.lst [])) H' → A.is (G.hold D) H' v a → ∀ X1, Blk X scope X1 → WTs X1 ifs ((σ.set j none).set j (some v)) H' fun b H2 => Le (G.hold D) H' H2 ∧
        if b = true then ∀ X2, Blk X scope X2 → W X2 elt ((σ.set j none).set j (some v)) H2 fun y H3 => Le (G.hold D) H2 H3 ∧ ∃ b, B.is (G.hold D) H3 y b ∧ R a b else S a) ∧
      ∀ bs H', LC S R as bs → Le G H1 H' → (rLst B).is G H' (.ref D) bs → Q (.ref D) H'
theorem lc1 {α β : Type} {A : Rp α} {B : Rp β} {G : Gh} {S : α → Prop} {R : α → β → Prop} {j : Nat} {elt : Expr} {ifs : List Expr} {scope : Scope} {x : Str} {px : Pos}
    (q : WI X (.Name x px) iter σ H (LcQ X A B G S R j elt ifs scope σ Q)) : tLc (WI X (.Name x px) iter) (gName j) (blkTs X scope ifs) (blkT X scope elt) [j] σ H Q := by
  refine lc0 ?_
  intro pins s I
  refine thn (q pins s I) fun u s1 z => thn z ?_
  rintro itv s2 ⟨it, fp, tn, J, H1, e1, I1, T, t0, f1, gok, OK, xs, as, F, k1, k2, kz, k3⟩
  refine ⟨it, fp, tn, J, H1, e1, I1, T, t0, f1, fun D hD => ?_⟩
  obtain ⟨k4, k5⟩ := k3 D hD
  have nD : ¬ G.av D := G.free gok hD
  have leA : Le (G.add D) (upd H1 D (.lst [])) (upd H1 D (.lst [])) := Le.refl (add_ok gok hD trivial)
  have toG : ∀ {H'}, Le (G.add D) (upd H1 D (.lst [])) H' → Le G H1 H' := fun le => le.drop (Le.refl gok) hD rfl
  refine ⟨OK, xs, F, fun i H' => Le (G.add D) (upd H1 D (.lst [])) H' ∧ ∃ ys bs, LC S R (as.take i) bs ∧ H' D = some (.lst ys) ∧ Paired (B.is (G.add D) H') ys bs, ⟨leA, [], [], by simp only [List.take_zero]; exact .nil, upd_same, .nil⟩, fun i H' pv => k1 H' (toG pv.1), ?_, ?_⟩
  · rintro i v H' hx ⟨le, ys, bs, lc, hy, hb⟩
    obtain ⟨a, ha, hav⟩ := paired_get k2 hx
    refine ⟨?_, fun X1 hX1 => ?_⟩
    · show ((((σ.set j none).set j (some v)).set j none)) = σ.set j none
      simp
    · have z := k4 i a v H' ha le (A.a2h (A.mono le (A.on hD hav))) X1 hX1
      have ext : ∀ {H2}, Le (G.hold D) H' H2 → Le (G.add D) (upd H1 D (.lst [])) H2 ∧ H2 D = some (.lst ys) ∧ Paired (B.is (G.add D) H2) ys bs := fun l2 =>
        ⟨le.trans l2.unhold, l2.held nD hy, pmap hb fun _ _ q => B.mono l2.unhold q⟩
      have conv : ∀ (b : Bool) H2, (Le (G.hold D) H' H2 ∧ if b = true then ∀ X2, Blk X scope X2 → W X2 elt ((σ.set j none).set j (some v)) H2 fun y H3 => Le (G.hold D) H2 H3 ∧ ∃ b, B.is (G.hold D) H3 y b ∧ R a b else S a) →
          if b = true then ∀ X2, Blk X scope X2 → W X2 elt ((σ.set j none).set j (some v)) H2 fun y H4 => ∃ acc, H4 D = some (.lst acc) ∧ acc.length < sizeLine ∧ (Le (G.add D) (upd H1 D (.lst [])) (upd H4 D (.lst (acc ++ [y]))) ∧ ∃ ys bs, LC S R (as.take (i + 1)) bs ∧ (upd H4 D (.lst (acc ++ [y]))) D = some (.lst ys) ∧ Paired (B.is (G.add D) (upd H4 D (.lst (acc ++ [y])))) ys bs)
          else (Le (G.add D) (upd H1 D (.lst [])) H2 ∧ ∃ ys bs, LC S R (as.take (i + 1)) bs ∧ H2 D = some (.lst ys) ∧ Paired (B.is (G.add D) H2) ys bs) := by
        rintro b H2 ⟨l2, z⟩
        obtain ⟨m1, m2, m3⟩ := ext l2
        cases b with
        | false => exact ⟨m1, ys, bs, by rw [take_snoc ha]; exact .skip lc z, m2, m3⟩
        | true =>
          intro X2 hX2
          refine (z X2 hX2).mono ?_
          rintro y H3 ⟨l3, b, hby, hr⟩
          obtain ⟨n1, n2, n3⟩ := ext (l2.trans l3)
          have st : Le (G.add D) H3 (upd H3 D (.lst (ys ++ [y]))) := (Le.refl n1.2.1).set nD trivial
          refine ⟨ys, n2, ?_, n1.set nD trivial, ys ++ [y], bs ++ [b], by rw [take_snoc ha]; exact .take lc hr, upd_same, ?_⟩
          · have h1 := lc.len
            have h2 := paired_len n3
            have h3 : (as.take i).length ≤ as.length := by rw [List.length_take]; exact Nat.min_le_right _ _
            have h4 : (100000 : Nat) < sizeLine := by decide
            omega
          · exact paired_app (pmap n3 fun _ _ q => B.mono st q) (.cons (B.mono st (B.h2a hby)) .nil)
      match ifs, z with
      | [], z => exact conv true H' z
      | [c], z => exact WT.mono z (fun b H2 q => conv b H2 q)
      | _ :: _ :: _, z => exact z.elim
  · rintro H' ⟨le, ys, bs, lc, hy, hb⟩
    rw [paired_len k2, List.take_length] at lc
    exact k5 bs H' lc (toG le) ⟨D, ys, rfl, hy, nD, pmap hb fun _ _ q => B.off q⟩
theorem w_lc {α β : Type} (A : Rp α) (B : Rp β) (G : Gh) (S : α → Prop) (R : α → β → Prop) (j : Nat) {elt : Expr} {ifs : List Expr} {scope : Scope} {x : Str} {px : Pos} (hc : X.calm = true) (hN : X.N.Nodup) (ok : BlkOk X.N X.env.scope scope [(x, j)])
    (q : WI X (.Name x px) iter σ H (LcQ X A B G S R j elt ifs scope σ Q))
    (hg : ∀ (s : Shared) (H : Hp) (C : Addr) (cl : List (Str × Addr)) (fp : List Addr), PG (X.blk s H scope (compEnvC scope cl C X.env) fp) (.Name x px) (gName j) := by (intros; exact pg_name (by assumption) rfl (Or.inl rfl)))
    (hs : ∀ x, foldedSetIterable iter X.env x = pure x := by intro _; rfl) : W X (.ListComp elt [⟨.Name x px, iter, ifs, 0⟩] scope pos) σ H Q :=
  W.of (pe_lc hc hN WI.pi ok hg blkTs_pts blkT_pe hs) (lc1 q)
/-- y = [elt for x in iter if ..] on one line, y a local -/
theorem w_setLc {α β : Type} (y0 : Nat) (A : Rp α) (B : Rp β) (G : Gh) (S : α → Prop) (R : α → β → Prop) (j : Nat) {elt : Expr} {ifs : List Expr} {scope : Scope} {x y : Str} {px py spos : Pos} {D : Ends} (hc : X.calm = true) (hN : X.N.Nodup) (ok : BlkOk X.N X.env.scope scope [(x, j)])
    (q : WI X (.Name x px) iter σ H (LcQ X A B G S R j elt ifs scope σ fun v H1 => D.nx (σ.set y0 (some v)) H1))
    (ha : (scope.names.any fun (n, k) => n == y && (k == .local || k == .cell)) = false := by decide +kernel)
    (hy : X.N[y0]? = some y := by rfl) (hyl : X.env.scope.names.lookup y = some .local := by rfl) (hk : X.env.scope.kind = .function := by rfl) (hl : (py.line == pos.line) = true := by rfl)
    (hg : ∀ (s : Shared) (H : Hp) (C : Addr) (cl : List (Str × Addr)) (fp : List Addr), PG (X.blk s H scope (compEnvC scope cl C X.env) fp) (.Name x px) (gName j) := by (intros; exact pg_name (by assumption) rfl (Or.inl rfl)))
    (hs : ∀ x, foldedSetIterable iter X.env x = pure x := by intro _; rfl) : WS X (.Assign [.Name y py] (.ListComp elt [⟨.Name x px, iter, ifs, 0⟩] scope pos) spos) D σ H :=
  WS.of (ps_setLc hc hN hy hyl (sw_true hk hyl hl ha) WI.pi ok hg blkTs_pts blkT_pe hs) (lc1 q)
end

/-! ### promises of the law's own helpers -/
/-- a drawn order of the items -/
def spMixed (K : PySem.W.Frag) : Sp := fun vs H Q _ => ∃ (g l : Addr) (v : V) (α : Type) (A : Rp α) (G : Gh) (as : List α), vs = [.ref g, v] ∧ Deals g l G ∧ G.ok H ∧ (rSeq K A).is G H v as ∧ as.length ≤ 100000 ∧
  ∀ (bs : List α) (p : Addr) H', bs.Perm as → Le G H H' → H p = none → (rLst A).is G H' (.ref p) bs → Q (.ref p) H'
theorem perm_erase {α : Type} {l : List α} {i : Nat} {x : α} (h : l[i]? = some x) : l.Perm (x :: l.eraseIdx i) := by
  induction l generalizing i with
  | nil => simp at h
  | cons y t ih =>
    cases i with
    | zero => simp at h; subst h; exact List.Perm.refl _
    | succ i => exact ((ih (by simpa using h)).cons y).trans (List.Perm.swap x y _)
end NP
set_option Elab.async false
set_option linter.all false
set_option maxRecDepth 100000
set_option maxHeartbeats 4000000
namespace NP
open PySem PySem.Spec PyProof.Rows L2
/-! ### texts by their codes -/
def cl (x : Str) : List Nat := x.cps.toList
theorem cl_ext {x y : Str} (h : cl x = cl y) : x = y := by
  obtain ⟨a⟩ := x
  obtain ⟨b⟩ := y
  have : a = b := Array.toList_inj.mp h
  rw [this]
theorem cl_append (x y : Str) : cl (x ++ y) = cl x ++ cl y := by
  show (x.cps ++ y.cps).toList = _
  exact Array.toList_append
theorem cl_len (x : Str) : x.length = (cl x).length := by
  show x.cps.size = x.cps.toList.length
  simp
theorem cl_one (c : Nat) : cl ⟨#[c]⟩ = [c] := rfl
theorem cl_cut (z : Str) (lo hi : Option Int) : cl (cutS z lo hi) = ((cl z).drop (HT.sIx z.length 0 lo)).take (HT.sIx z.length z.length hi - HT.sIx z.length 0 lo) := by
  unfold cutS cl
  simp
theorem cl_to (z : Str) (k : Nat) : cl (cutS z none (some (k : Int))) = (cl z).take k := by
  rw [cl_cut, HT.sIx_none, HT.sIx_nat, List.drop_zero, Nat.sub_zero]
  rw [cl_len, ← List.take_length (l := cl z), List.take_take]
  simp
theorem cl_from (z : Str) (k : Nat) : cl (cutS z (some (k : Int)) none) = (cl z).drop k := by
  rw [cl_cut, HT.sIx_none, HT.sIx_nat]
  rw [List.take_of_length_le (by rw [List.length_drop, cl_len]; omega)]
  by_cases h : k ≤ z.length
  · rw [Nat.min_eq_left h]
  · rw [Nat.min_eq_right (by omega), cl_len, List.drop_length, List.drop_eq_nil_of_le (by rw [← cl_len]; omega)]
theorem foldl_cl (l : List Str) (acc : Array Nat) : (l.foldl (fun acc (p : Str) => acc ++ (Str.empty).cps ++ p.cps) acc).toList = acc.toList ++ (l.map cl).flatten := by
  induction l generalizing acc with
  | nil => simp
  | cons x t ih => rw [List.foldl_cons, ih]; simp [cl, Str.empty]
theorem cl_join (l : List Str) : cl (Txt.join Str.empty l) = (l.map cl).flatten := by
  show ((l.drop 1).foldl (fun acc p => acc ++ (Str.empty).cps ++ p.cps) (l.headD Str.empty).cps).toList = _
  rw [foldl_cl]
  cases l with
  | nil => rfl
  | cons x t => simp [cl]
theorem str_nil : (("" : Str)) = Str.empty := by decide +kernel
theorem cl_join0 (l : List Str) : cl (Txt.join ("" : Str) l) = (l.map cl).flatten := by rw [str_nil]; exact cl_join l
theorem cl_mul01 (x : Str) (n : Int) (h : n = 0 ∨ n = 1) : cl (Txt.mul x n) = if n = 1 then cl x else [] := by
  rcases h with rfl | rfl
  · rfl
  · rfl
section
variable {X : Cx}
/-- text * (0 or 1) -/
theorem op_mulS : OpR X (binaryOp .Mult) (fun x y H Q => ∃ (z : Str) (n : Int), x = .str z ∧ y = .int n ∧ (n = 0 ∨ n = 1) ∧ Q (.str (Txt.mul z n)) H) := by
  intro pins s σ H x y v u Q I rx ry h
  obtain ⟨z, n, rfl, rfl, hn, q⟩ := h
  obtain ⟨t, rfl⟩ := rx
  obtain ⟨t', rfl⟩ := ry
  refine SB.mul ?_ fun t2 k => ⟨.str _, H, I.tok _, ⟨_, rfl⟩, q⟩
  rcases hn with rfl | rfl
  · exact ⟨by decide, fun h => absurd (by decide) h, fun h => absurd (by decide) h⟩
  · exact ⟨by decide, fun _ h => (by cases h), fun _ h => (by cases h)⟩
end
section
variable {X : Cx} {e o : Expr} {σ : L2.St} {H : Hp} {Q : VK} {pos apos : Pos}
theorem w_join (q : W X o σ H fun x H1 => ∃ a, x = .str a ∧ W X e σ H1 fun y H2 => ∃ p, ∃ ys : List Str, y = .ref p ∧ (SqL X.K H2 p (ys.map V.str) ∨ SqT X.K H2 p (ys.map V.str)) ∧ (ys.map (·.length)).sum + ys.length * a.length ≤ 16777216 ∧ Q (.str (Txt.join a ys)) H2)
    (hs : starEach [e] X.env = [(false, eval e X.env)] := by rfl) (hbase : attributeBase o "join" X.env (eval o X.env) = eval o X.env := by rfl) (hline : (apos.endLine == pos.line) = true := by rfl) :
    W X (.Call (.Attribute o "join" apos) [e] [] pos) σ H Q := by
  refine W.of (pe_join W.pe W.pe hs hbase hline) (q.mono ?_)
  rintro x H1 ⟨a, rfl, q1⟩
  exact ⟨⟨a, rfl⟩, q1.mono fun y H2 ⟨p, ys, e1, h1, h2, q2⟩ => ⟨a, p, ys, rfl, by rw [e1], h1, h2, q2⟩⟩
theorem w_split (q : W X o σ H fun x H1 => ∃ a, x = .str a ∧ W X e σ H1 fun y H2 => ∃ b, y = .str b ∧ (b.length == 0) = false ∧ a.length + 2 ≤ sizeLine ∧ ∀ p, H2 p = none → Q (.ref p) (upd H2 p (.lst ((Txt.split a b).map V.str))))
    (hs : starEach [e] X.env = [(false, eval e X.env)] := by rfl) (hbase : attributeBase o "split" X.env (eval o X.env) = eval o X.env := by rfl) (hline : (apos.endLine == pos.line) = true := by rfl) :
    W X (.Call (.Attribute o "split" apos) [e] [] pos) σ H Q := by
  refine W.of (pe_split W.pe W.pe hs hbase hline) (q.mono ?_)
  rintro x H1 ⟨a, rfl, q1⟩
  exact ⟨⟨a, rfl⟩, q1.mono fun y H2 ⟨b, e1, h1, h2, q2⟩ => ⟨a, b, rfl, by rw [e1], h1, h2, q2⟩⟩
/-- e[:hi], e[lo:], e[lo:hi] -/
theorem w_slTo {hi : Expr} {p2 : Pos} {r : V → Option Int → Option Int → Hp → VK → Prop} (hr : SlR X r) (q : W X e σ H fun x H1 => W X hi σ H1 fun y H2 => ∃ k : Int, y = .int k ∧ r x none (some k) H2 Q) : W X (.Subscript e (.Slice none (some hi) none p2) pos) σ H Q := by
  refine W.of (pe_slice hr W.pe po_none (po_some W.pe)) (q.mono fun x H1 q1 => q1.mono ?_)
  rintro y H2 ⟨k, rfl, q2⟩
  exact ⟨k, rfl, q2⟩
theorem w_slFrom {lo : Expr} {p2 : Pos} {r : V → Option Int → Option Int → Hp → VK → Prop} (hr : SlR X r) (q : W X e σ H fun x H1 => W X lo σ H1 fun y H2 => ∃ k : Int, y = .int k ∧ r x (some k) none H2 Q) : W X (.Subscript e (.Slice (some lo) none none p2) pos) σ H Q := by
  refine W.of (pe_slice hr W.pe (po_some W.pe) po_none) (q.mono fun x H1 q1 => q1.mono ?_)
  rintro y H2 ⟨k, rfl, q2⟩
  exact ⟨k, rfl, q2⟩
theorem w_sl {lo hi : Expr} {p2 : Pos} {r : V → Option Int → Option Int → Hp → VK → Prop} (hr : SlR X r) (q : W X e σ H fun x H1 => W X lo σ H1 fun y H2 => ∃ k : Int, y = .int k ∧ W X hi σ H2 fun z H3 => ∃ m : Int, z = .int m ∧ r x (some k) (some m) H3 Q) : W X (.Subscript e (.Slice (some lo) (some hi) none p2) pos) σ H Q := by
  refine W.of (pe_slice hr W.pe (po_some W.pe) (po_some W.pe)) (q.mono fun x H1 q1 => q1.mono ?_)
  rintro y H2 ⟨k, rfl, q2⟩
  refine ⟨k, rfl, q2.mono ?_⟩
  rintro z H3 ⟨m, rfl, q3⟩
  exact ⟨m, rfl, q3⟩
/-- one draw -/
theorem w_dr (i : Nat) {n : Nat} {g l : Addr} {G : Gh} {x : Str} {p px : Pos} (C : Cal X.prog X.w X.K X.mg X.base CX0 n "_law_draw" ["_law_deal_here", "_law_many"] spDraw) (hgd : X.A.guards = some []) (hr : Room n X.A) (dl : Deals g l G) (hσ : σ[i]? = some (some (.ref g)))
    (q : W X e σ H fun y H1 => ∃ m : Int, y = .int m ∧ G.ok H1 ∧ 0 < m ∧ m < 1073741824 ∧ ∀ r H', 0 ≤ r → r < m → Le G H1 H' → Q (.int r) H')
    (hN : X.N[i]? = some x := by rfl) (hv : Vis X.env.scope x := by first | exact Or.inl rfl | exact Or.inr (Or.inl rfl) | exact Or.inr (Or.inr rfl))
    (hd : (x == ("__debug__" : Str)) = false := by decide) (hcd : (x == ("__classdict__" : Str)) = false := by decide) (hg : Gl X "_law_draw" := by rfl)
    (he : starEach [.Name x px, e] X.env = (false, eval (.Name x px) X.env) :: starEach [e] X.env := by rfl) (he2 : starEach [e] X.env = (false, eval e X.env) :: starEach [] X.env := by rfl) (hpl : (backTo pos (starEach [e] X.env)).any (·.1) = false := by rfl) :
    W X (.Call (.Name "_law_draw" p) [.Name x px, e] [] pos) σ H Q := by
  refine w_call C hgd hr (w_acons (w_var i hσ (w_acons (q.mono ?_) he2) hN hv hd hcd) he) hg (by decide) he hpl
  rintro y H1 ⟨m, rfl, ok, h0, h1, k⟩
  exact w_anil ⟨g, l, m, rfl, dl.at_ ok, h0, h1, fun r H' r0 r1 d2 off => k r H' r0 r1 (dl.le ok d2 off)⟩
end
end NP
set_option Elab.async false
set_option linter.all false
set_option maxRecDepth 100000
set_option maxHeartbeats 4000000
namespace NP
open PySem PySem.Spec PyProof.Rows L2
/-! ### names -/
def rsv : List (List Nat) := [[97, 108, 108], [97, 110, 121], [111, 102], [97, 108, 119, 97, 121, 115], [110, 101, 118, 101, 114], [110, 111, 110, 101]]
structure NameL (l : List Nat) : Prop where
  pos : 1 ≤ l.length
  six : l.length ≤ 6
  low : ∀ c ∈ l, 97 ≤ c ∧ c ≤ 122
  ok : l ∉ rsv
def NameOk (w : Str) : Prop := NameL (cl w)
theorem LC.paired {α β : Type} {R : α → β → Prop} {as : List α} {bs : List β} (h : LC (fun _ => False) R as bs) : Paired R as bs := by
  induction h with
  | nil => exact .nil
  | skip _ h _ => exact h.elim
  | take _ h ih => exact paired_app ih (.cons h .nil)
theorem not_rsv_mark {l : List Nat} {c : Nat} (h : c ∈ l) (m : c = 113 ∨ c = 120 ∨ c = 122 ∨ c = 106) : l ∉ rsv := by
  intro z
  have hz : ∀ r ∈ rsv, ∀ d ∈ r, d ≠ 113 ∧ d ≠ 120 ∧ d ≠ 122 ∧ d ≠ 106 := by decide
  have := hz l z c h
  omega
theorem not_rsv_one {c : Nat} : [c] ∉ rsv := by
  intro z
  have hz : ∀ r ∈ rsv, r.length ≠ 1 := by decide
  exact hz _ z rfl
theorem nodup_of_get {ws : List Str} (h : ∀ (i j : Nat) (x : Str), ws[i]? = some x → ws[j]? = some x → i = j) : ws.Nodup := by
  refine List.pairwise_iff_getElem.mpr fun i j hi hj hij e => ?_
  have := h i j ws[i] (by simp [hi]) (by simp [hj, e])
  omega
/-- one letter tells the words apart -/
theorem nodup_letter {many : Nat} {ws : List Str} {turn : Nat} (hm : many ≤ 8) (at_ : Str → Option Nat) (h : Paired (fun (k : Int) (w : Str) => at_ w = some (97 + (turn + 7 * k.toNat) % 26)) (nats many) ws) : ws.Nodup := by
  refine nodup_of_get fun i j x hi hj => ?_
  obtain ⟨a, ha, h1⟩ := paired_get' h hi
  obtain ⟨b, hb, h2⟩ := paired_get' h hj
  have li : i < many := by have := (List.getElem?_eq_some_iff.mp ha).1; rw [nats_len] at this; exact this
  have lj : j < many := by have := (List.getElem?_eq_some_iff.mp hb).1; rw [nats_len] at this; exact this
  rw [nats_get li] at ha
  rw [nats_get lj] at hb
  cases ha
  cases hb
  rw [h1] at h2
  have e := Option.some.inj h2
  simp only [Int.toNat_natCast] at e
  omega
theorem paired_all {α β : Type} {R : α → β → Prop} {P : β → Prop} (f : ∀ a b, R a b → P b) : ∀ {as : List α} {bs : List β}, Paired R as bs → ∀ b ∈ bs, P b
  | _, _, .nil, b, h => by cases h
  | _, _, .cons q t, b, h => by
    rcases List.mem_cons.mp h with rfl | h
    · exact f _ _ q
    · exact paired_all f t b h
/-- a core that a letter (and a mark) is put into -/
structure Core (core : List Nat) : Prop where
  len : core.length ≤ 3
  low : ∀ c ∈ core, 97 ≤ c ∧ c ≤ 122
def WordK (core : List Nat) (at_ turn : Nat) (k : Int) (w : Str) : Prop := ∃ q : Nat, (q = 113 ∨ q = 120 ∨ q = 122 ∨ q = 106) ∧
  cl w = core.take at_ ++ ([97 + (turn + 7 * k.toNat) % 26] ++ (if core = [] then [] else [q])) ++ core.drop at_ ++ (if k % 2 = 1 then [122] else [])
theorem wordK_ok {core : List Nat} {at_ turn : Nat} {k : Int} {w : Str} (hc : Core core) (h : WordK core at_ turn k w) : NameOk w := by
  obtain ⟨q, hq, e⟩ := h
  have hl : (97 + (turn + 7 * k.toNat) % 26) ≤ 122 := by omega
  have split : core.take at_ ++ core.drop at_ = core := List.take_append_drop _ _
  have slen : (core.take at_).length + (core.drop at_).length = core.length := by rw [← List.length_append, split]
  have hlen := hc.len
  refine ⟨?_, ?_, ?_, ?_⟩
  · rw [e]; simp only [List.length_append, List.length_cons]; omega
  · rw [e]
    simp only [List.length_append, List.length_cons, List.length_nil]
    split <;> split <;> simp_all <;> omega
  · rw [e]
    intro c hm
    simp only [List.mem_append] at hm
    rcases hm with ((h1 | h1 | h1) | h1) | h1
    · exact hc.low c (List.mem_of_mem_take h1)
    · simp at h1; omega
    · split at h1
      · cases h1
      · simp at h1; omega
    · exact hc.low c (List.mem_of_mem_drop h1)
    · split at h1
      · simp at h1; omega
      · cases h1
  · rw [e]
    by_cases hn : core = []
    · subst hn
      simp only [List.take_nil, List.drop_nil, List.nil_append, List.append_nil, if_true]
      split
      · exact not_rsv_mark (c := 122) (by simp) (by simp)
      · exact not_rsv_one
    · rw [if_neg hn]
      exact not_rsv_mark (c := q) (by simp) hq
theorem wordK_at {core : List Nat} {at_ turn : Nat} {k : Int} {w : Str} (ha : at_ ≤ core.length) (h : WordK core at_ turn k w) : (cl w)[at_]? = some (97 + (turn + 7 * k.toNat) % 26) := by
  obtain ⟨q, _, e⟩ := h
  rw [e, List.append_assoc, List.append_assoc, List.append_assoc, List.getElem?_append_right (by rw [List.length_take]; omega)]
  have e0 : at_ - (core.take at_).length = 0 := by rw [List.length_take]; omega
  rw [e0]
  rfl
structure Names (many : Nat) (ws : List Str) : Prop where
  len : ws.length = many
  nd : ws.Nodup
  ok : ∀ w ∈ ws, NameOk w
theorem Names.perm {many : Nat} {ws vs : List Str} (h : Names many ws) (p : vs.Perm ws) : Names many vs := ⟨p.length_eq.trans h.len, p.nodup_iff.mpr h.nd, fun w hw => h.ok w (p.mem_iff.mp hw)⟩
theorem names_core {many : Nat} {ws : List Str} {core : List Nat} {at_ turn : Nat} (hm : many ≤ 8) (hc : Core core) (ha : at_ ≤ core.length) (h : Paired (WordK core at_ turn) (nats many) ws) : Names many ws :=
  ⟨(paired_len h).symm.trans (nats_len many), nodup_letter hm (fun w => (cl w)[at_]?) (pmap h fun _ _ q => wordK_at ha q), paired_all (fun _ _ q => wordK_ok hc q) h⟩

/-! the other forms of words -/
def w14 : List (List Nat) := [[112, 117, 116], [116, 97, 107, 101], [112, 114, 111, 112], [117, 110, 112, 114, 111, 112], [115, 116, 114, 105, 107, 101], [117, 110, 100, 111], [121, 97, 114, 100], [112, 114, 111, 112, 115], [103, 114, 111, 119], [100, 101, 112, 116, 104], [114, 101, 115, 116], [119, 97, 121], [104, 101, 114, 101], [112, 108, 97, 110]]
def w8 : List (List Nat) := [[98, 97, 115, 101], [108, 101, 102, 116], [114, 105, 103, 104, 116], [114, 111, 111, 102], [115, 111, 109, 101], [110, 101, 118, 101, 114, 115], [97, 108, 108, 111, 102], [111, 102, 97, 110, 121]]
def nameB (l : List Nat) : Bool := decide (1 ≤ l.length) && decide (l.length ≤ 6) && l.all (fun c => decide (97 ≤ c ∧ c ≤ 122)) && !rsv.contains l
theorem nameB_ok {l : List Nat} (h : nameB l = true) : NameL l := by
  simp only [nameB, Bool.and_eq_true, decide_eq_true_eq, Bool.not_eq_true', List.all_eq_true] at h
  refine ⟨h.1.1.1, h.1.1.2, fun c hc => h.1.2 c hc, fun z => ?_⟩
  have := h.2
  rw [List.contains_iff_mem.mpr z] at this
  cases this
theorem names_of_codes {many : Nat} {ws : List Str} (hl : ws.length = many) (nd : (ws.map cl).Nodup) (ok : (ws.map cl).all nameB = true) : Names many ws := by
  refine ⟨hl, List.Pairwise.of_map cl (fun _ _ h e => h (congrArg cl e)) nd, fun w hw => ?_⟩
  exact nameB_ok (List.all_eq_true.mp ok _ (List.mem_map.mpr ⟨w, hw, rfl⟩))
theorem w14_ok : ∀ f < 14, ∀ m < 9, (((w14 ++ w14).drop f).take m).Nodup ∧ (((w14 ++ w14).drop f).take m).all nameB = true ∧ (((w14 ++ w14).drop f).take m).length = m := by decide +kernel
theorem w8_ok : ∀ m < 9, (w8.take m).Nodup ∧ (w8.take m).all nameB = true ∧ (w8.take m).length = m := by decide +kernel
/-- prefixes -/
theorem names_prefix {many : Nat} {ws : List Str} {c : Nat} (hm : many < 7) (hc : 97 ≤ c ∧ c ≤ 122) (h : Paired (fun (k : Int) (w : Str) => cl w = (c :: [113, 120, 122, 106, 107]).take (k.toNat + 1)) (nats many) ws) : Names many ws := by
  have get : ∀ {i : Nat} {w : Str}, ws[i]? = some w → i < many ∧ cl w = (c :: [113, 120, 122, 106, 107]).take (i + 1) := by
    intro i w hi
    obtain ⟨a, ha, h1⟩ := paired_get' h hi
    have li : i < many := by have := (List.getElem?_eq_some_iff.mp ha).1; rw [nats_len] at this; exact this
    rw [nats_get li] at ha
    cases ha
    exact ⟨li, h1⟩
  refine ⟨(paired_len h).symm.trans (nats_len many), nodup_of_get fun i j x hi hj => ?_, fun w hw => ?_⟩
  · obtain ⟨l1, e1⟩ := get hi
    obtain ⟨l2, e2⟩ := get hj
    have e := congrArg List.length (e1.symm.trans e2)
    simp only [List.length_take, List.length_cons, List.length_nil] at e
    omega
  · obtain ⟨i, hi⟩ := List.mem_iff_getElem?.mp hw
    obtain ⟨l1, e1⟩ := get hi
    unfold NameOk
    rw [e1]
    refine ⟨by simp, by simp; omega, fun d hd => ?_, ?_⟩
    · have := List.mem_of_mem_take hd
      simp at this
      omega
    · cases i with
      | zero => exact not_rsv_one
      | succ i => exact not_rsv_mark (c := 113) (by simp) (by simp)
/-- six letters -/
theorem names_six {many turn : Nat} {ws : List Str} {core : List Nat} (hm : many ≤ 8) (hc : Core core) (h : Paired (fun (k : Int) (w : Str) => cl w = (core ++ [113, 106, 120, 113, 106]).take 5 ++ [97 + (turn + 7 * k.toNat) % 26]) (nats many) ws) : Names many ws := by
  have hl := hc.len
  have l5 : ((core ++ [113, 106, 120, 113, 106]).take 5).length = 5 := by simp
  refine ⟨(paired_len h).symm.trans (nats_len many), nodup_letter (turn := turn) hm (fun w => (cl w)[5]?) (pmap h fun k w e => ?_), paired_all (fun k w e => ?_) h⟩
  · show (cl w)[5]? = _
    rw [e, List.getElem?_append_right (by omega), l5]
    rfl
  · unfold NameOk
    rw [e]
    refine ⟨by simp, by rw [List.length_append, l5]; simp, fun c hm => ?_, ?_⟩
    · rcases List.mem_append.mp hm with h1 | h1
      · rcases List.mem_append.mp (List.mem_of_mem_take h1) with h1 | h1
        · exact hc.low c h1
        · simp at h1; omega
      · simp at h1; omega
    · refine not_rsv_mark (c := 113) (List.mem_append.mpr (Or.inl ?_)) (by simp)
      have : (core ++ [113, 106, 120, 113, 106])[core.length]? = some 113 := by simp
      refine List.mem_iff_getElem?.mpr ⟨core.length, ?_⟩
      rw [List.getElem?_take_of_lt (by omega)]
      exact this
/-- any letters, told by the last one -/
theorem names_last {many turn : Nat} {ws : List Str} (hm : many ≤ 8) (h : Paired (fun (k : Int) (w : Str) => NameOk w ∧ (cl w).getLast? = some (97 + (turn + 7 * k.toNat) % 26)) (nats many) ws) : Names many ws :=
  ⟨(paired_len h).symm.trans (nats_len many), nodup_letter hm (fun w => (cl w).getLast?) (pmap h fun _ _ q => q.2), paired_all (fun _ _ q => q.1) h⟩
def pq8 (p q : Nat) : List (List Nat) := [[p], [q], [p, q], [q, p], [p, p], [p, p, q], [p, q, p], [q, q]]
theorem pq_ok : ∀ t < 26, ∀ m < 9, ((pq8 (97 + t) (97 + (t + 7) % 26)).take m).Nodup ∧ ((pq8 (97 + t) (97 + (t + 7) % 26)).take m).all nameB = true ∧ ((pq8 (97 + t) (97 + (t + 7) % 26)).take m).length = m := by decide +kernel
/-- a word with its first letter changed where it is reserved -/
theorem any_word_ok {l : List Nat} {c : Nat} (h5 : l.length ≤ 5) (hl : ∀ d ∈ l, 97 ≤ d ∧ d ≤ 122) (hc : 97 ≤ c ∧ c ≤ 122) : (l ++ [c] ∉ rsv → NameL (l ++ [c])) ∧ (l ++ [c] ∈ rsv → NameL (98 :: (l ++ [c]).drop 1) ∧ (98 :: (l ++ [c]).drop 1).getLast? = some c) := by
  have low : ∀ d ∈ l ++ [c], 97 ≤ d ∧ d ≤ 122 := fun d hd => (List.mem_append.mp hd).elim (hl d) (fun z => by simp at z; omega)
  refine ⟨fun h => ⟨by simp, by simp; omega, low, h⟩, fun h => ?_⟩
  have all : ∀ r ∈ rsv, nameB (98 :: r.drop 1) = true ∧ (98 :: r.drop 1).getLast? = r.getLast? := by decide +kernel
  obtain ⟨h1, h2⟩ := all _ h
  exact ⟨nameB_ok h1, by rw [h2]; simp⟩

theorem inV_str (x : Str) (ys : List Str) : inV (.str x) (ys.map V.str) = decide (x ∈ ys) := by
  induction ys with
  | nil => rfl
  | cons y t ih =>
    have e : inV (.str x) ((y :: t).map V.str) = ((y == x) || inV (.str x) (t.map V.str)) := rfl
    rw [e, ih]
    by_cases h : y = x
    · subst h; simp
    · have h2 : ¬ x = y := fun z => h z.symm
      simp [h, h2]
theorem flat_strs (ys : List Str) : (ys.map V.str).all flatV = true := by
  induction ys with
  | nil => rfl
  | cons y t ih => rw [List.map_cons, List.all_cons, ih]; rfl
def rsvS : List Str := ["all", "any", "of", "always", "never", "none"]
theorem rsvS_cl : rsvS.map cl = rsv := by decide +kernel
theorem mem_rsvS {x : Str} : x ∈ rsvS ↔ cl x ∈ rsv := by
  rw [← rsvS_cl, List.mem_map]
  exact ⟨fun h => ⟨x, h, rfl⟩, fun ⟨y, hy, e⟩ => cl_ext e ▸ hy⟩
end NP
set_option Elab.async false
set_option linter.all false
set_option maxRecDepth 100000
set_option maxHeartbeats 4000000
namespace NP
open PySem PySem.Spec PyProof.Rows L2
/-! ### plain data: what == and repr ask -/
mutual
def Fine : PyData → Prop
  | .none => True
  | .bool _ => True
  | .int i => i.natAbs < 2 ^ 200
  | .str x => ∀ c ∈ cl x, c < 128
  | .list xs => FineAll xs
  | .tuple xs => FineAll xs
  | .dict _ => False
def FineAll : List PyData → Prop
  | [] => True
  | x :: xs => Fine x ∧ FineAll xs
end
mutual
def cost : PyData → Nat
  | .none => 5
  | .bool _ => 5
  | .int _ => 210
  | .str x => 10 * (cl x).length + 2
  | .list xs => costAll xs + 3
  | .tuple xs => costAll xs + 3
  | .dict _ => 0
def costAll : List PyData → Nat
  | [] => 0
  | x :: xs => cost x + 2 + costAll xs
end
theorem log2_le {n k : Nat} (hk : 0 < k) (h : n < 2 ^ k) : n.log2 < k := by
  by_cases h0 : n = 0
  · subst h0; simpa using hk
  · exact (Nat.log2_lt h0).mpr h
theorem textFrom_le : ∀ (ts : List Str) (k : Nat) (acc : Str), (textFrom k acc ts).length ≤ acc.length + piled ts
  | [], k, acc => by show acc.length ≤ _; omega
  | t :: r, k, acc => by
    have ih := textFrom_le r (k + 1) (acc ++ (if k > 0 then ", " else "" : String) ++ t)
    have e : (((if k > 0 then ", " else "" : String) : Str)).length ≤ 2 := by split <;> decide +kernel
    rw [strLen_append, strLen_append] at ih
    rw [piled_cons]
    show (textFrom (k + 1) (acc ++ (if k > 0 then ", " else "" : String) ++ t) r).length ≤ _
    omega
theorem listText_le (ts : List Str) : (listText ts).length ≤ piled ts + 2 := by
  unfold listText
  have h := textFrom_le ts 0 "["
  have e1 : ((("[" : String) : Str)).length = 1 := rfl
  have e2 : ((("]" : String) : Str)).length = 1 := rfl
  rw [strLen_append, e2]
  rw [e1] at h
  omega
theorem tupleText_le (ts : List Str) : (tupleText ts).length ≤ piled ts + 3 := by
  unfold tupleText
  have e1 : ((("(" : String) : Str)).length = 1 := rfl
  have e3 : (((if ts.length == 1 then ",)" else ")" : String) : Str)).length ≤ 2 := by split <;> decide +kernel
  have e4 : (Str.join ", " ts).length ≤ piled ts := by
    cases ts with
    | nil => exact Nat.zero_le _
    | cons t r => have := join_length_add (t :: r) (by simp); omega
  rw [strLen_append, strLen_append, e1]
  omega
mutual
theorem fine_show : ∀ d : PyData, Fine d → d.showable = true ∧ d.hasDict = false ∧ d.canLay0 = true ∧ d.shown.length ≤ cost d
  | .none, _ => ⟨rfl, rfl, rfl, by decide +kernel⟩
  | .bool b, _ => ⟨rfl, rfl, rfl, by cases b <;> decide +kernel⟩
  | .int i, h => by
    have h' : i.natAbs < 2 ^ 200 := h
    have l := log2_le (by decide) h'
    refine ⟨decide_eq_true (Nat.lt_trans l (by decide)), rfl, rfl, ?_⟩
    have e := int_text_length_le (by decide) l
    show (Str.ofString (toString i)).length ≤ 210
    rw [PySem.ofString_length]
    omega
  | .str x, h => by
    have h' : ∀ c ∈ cl x, c < 128 := h
    refine ⟨rfl, rfl, ?_, ?_⟩
    · show x.cps.all (· < 0x110000) = true
      rw [← Array.all_toList, List.all_eq_true]
      intro c hc
      exact decide_eq_true (Nat.lt_trans (h' c hc) (by decide))
    · have := StrLaws.reprText_len x fun c hc => Nat.lt_trans (h' c hc) (by decide)
      rw [cl_len] at this
      exact this
  | .list xs, h => by
    obtain ⟨a, b, c, d⟩ := fine_showAll xs h
    refine ⟨a, b, c, ?_⟩
    have := listText_le (PyData.shownAll xs)
    show (listText (PyData.shownAll xs)).length ≤ costAll xs + 3
    omega
  | .tuple xs, h => by
    obtain ⟨a, b, c, d⟩ := fine_showAll xs h
    refine ⟨a, b, c, ?_⟩
    have := tupleText_le (PyData.shownAll xs)
    show (tupleText (PyData.shownAll xs)).length ≤ costAll xs + 3
    omega
  | .dict _, h => h.elim
theorem fine_showAll : ∀ ds : List PyData, FineAll ds → PyData.showableAll ds = true ∧ PyData.hasDictAll ds = false ∧ PyData.canLayAll0 ds = true ∧ piled (PyData.shownAll ds) ≤ costAll ds
  | [], _ => ⟨rfl, rfl, rfl, Nat.le_refl _⟩
  | d :: ds, h => by
    obtain ⟨a1, a2, a3, a4⟩ := fine_show d h.1
    obtain ⟨b1, b2, b3, b4⟩ := fine_showAll ds h.2
    refine ⟨?_, ?_, ?_, ?_⟩
    · show (d.showable && PyData.showableAll ds) = true
      rw [a1, b1]; rfl
    · show (d.hasDict || PyData.hasDictAll ds) = false
      rw [a2, b2]; rfl
    · show (d.canLay0 && PyData.canLayAll0 ds) = true
      rw [a3, b3]; rfl
    · show piled (d.shown :: PyData.shownAll ds) ≤ cost d + 2 + costAll ds
      rw [piled_cons]
      omega
end

theorem Fine.shw {d : PyData} (h : Fine d) (hc : cost d ≤ 1000000) (hd : d.depth ≤ 60) : Shw d := by
  obtain ⟨a, b, _, c⟩ := fine_show d h
  have : (1000000 : Nat) ≤ sizeLine := by decide
  exact ⟨a, b, by omega, hd⟩
theorem Fine.shaped {d : PyData} (h : Fine d) (hd : d.depth ≤ 60) : SeqAt.shaped d = true := by
  unfold SeqAt.shaped
  rw [(fine_show d h).2.2.1, decide_eq_true (by omega : d.depth ≤ 64)]
  rfl
def Rp.via {α β : Type} (A : Rp β) (f : α → β) : Rp α where
  is := fun G H v a => A.is G H v (f a)
  mono := A.mono
  wk := A.wk
  add := A.add
/-- a described value as data -/
def Dat (K : PySem.W.Frag) {α : Type} (A : Rp α) (dat : α → PyData) : Prop := ∀ {G : Gh} {H : Hp} {v : V} {a : α}, A.is G H v a → Dp K H v (dat a)
section
variable {K : PySem.W.Frag} {α : Type} {A : Rp α} {dat : α → PyData}
theorem dat_int : Dat K rInt .int := fun h => by obtain rfl := h; exact .int _
theorem dat_bl : Dat K rBl .bool := fun h => by obtain rfl := h; exact .bl _
theorem dat_str : Dat K rStr .str := fun h => by obtain rfl := h; exact .str _
theorem dat_all (d : Dat K A dat) {G : Gh} {H : Hp} : ∀ {xs : List V} {as : List α}, Paired (A.is G H) xs as → DpAll K H xs (as.map dat)
  | _, _, .nil => .nil
  | _, _, .cons q t => .cons (d q) (dat_all d t)
theorem dat_tup (d : Dat K A dat) : Dat K (rTup K A) (fun as => .tuple (as.map dat)) := fun ⟨t, xs, e, h, p⟩ => by subst e; exact .tup h (dat_all d p)
theorem dat_lst (d : Dat K A dat) : Dat K (rLst A) (fun as => .list (as.map dat)) := fun ⟨t, xs, e, h, _, p⟩ => by subst e; exact .lst (SqL.of h) (dat_all d p)
theorem dat_via {β : Type} {f : β → α} (d : Dat K A dat) : Dat K (A.via f) (fun b => dat (f b)) := fun h => d h
end
theorem eqv_strs_nil (xs : List Str) : PyData.eqv (.list (xs.map .str)) (.list []) = decide (xs = []) := by
  cases xs with
  | nil => rfl
  | cons x t => rfl
theorem fineAll_strs {xs : List Str} (h : ∀ x ∈ xs, ∀ c ∈ cl x, c < 128) : FineAll (xs.map .str) := by
  induction xs with
  | nil => trivial
  | cons x t ih => exact ⟨h x List.mem_cons_self, ih fun y hy => h y (List.mem_cons_of_mem _ hy)⟩
theorem depthAll_strs (xs : List Str) : PyData.depthAll (xs.map .str) = 0 := by
  induction xs with
  | nil => rfl
  | cons x t ih => show max 0 (PyData.depthAll (t.map .str)) = 0; rw [ih]; rfl
theorem NameL.fine {l : List Nat} (h : NameL l) : ∀ c ∈ l, c < 128 := fun c hc => Nat.lt_of_le_of_lt (h.low c hc).2 (by decide)
end NP
set_option Elab.async false
set_option linter.all false
set_option maxRecDepth 100000
set_option maxHeartbeats 4000000
namespace NP
open PySem PySem.Spec PyProof.Rows L2
def top (i : Nat) : Stmt := PySem.Challenge.pw_nestprops_k28_depths_and_reversed_script.main.body.getD i (.Pass ⟨0, 0, 0, 0⟩)
abbrev s__law_draw : Stmt := top 5
theorem sc__law_draw : FnScope ["_law_deal_here", "_law_many", "_law_number", "_law_one", "_law_other"] ["_law_deal_here", "_law_many"] (defScope s__law_draw) := ⟨rfl, rfl, rfl, by decide +kernel, rfl, by decide +kernel, by decide +kernel⟩
abbrev FnP (K : PySem.W.Frag) (x : Str) (st : Stmt) (f : Addr) (fd : FuncData) : Prop := FunD K x x (defArgs st) (defBody st) (defScope st) [] [] f fd
section
variable {P : Program} {w : World} {K : PySem.W.Frag} {mg : Str → Option Value} {base : Heap} {f : Addr} {fd : FuncData}
theorem ok_draw (F : FnP K "_law_draw" s__law_draw f fd) (gl : mg "len" = none) : FnG P w K mg base CX0 1 f fd ["_law_deal_here", "_law_many"] spDraw := by
  refine def_ok F sc__law_draw (fun vs H Q E h => ?_) ?_
  · obtain ⟨g, l, m, rfl, _⟩ := h; rfl
  rintro _ vs H Q E ⟨cdv, A, out, s, rfl⟩ hg hr ⟨g, l, many, rfl, hd, hm0, hm1, k⟩
  have hu := hu_of hr
  obtain ⟨s0, n0, left0, d0⟩ := hd
  -- while deal['number'] == 0 and len(deal['left']) > 0: deal['number'] = deal['left'].pop()
  refine w_cut (fun σ' H' => σ' = [some (.ref g), some (.int many), none, none, none] ∧ Off g l H H' ∧ DealAt g l H')
    (w_while PassesOwn.never (fun m σ' H' => σ' = [some (.ref g), some (.int many), none, none, none] ∧ Off g l H H' ∧ ∃ s n left, DealS g l s n left H' ∧ m = left.length) left0.length ⟨rfl, Off.refl g l H, s0, n0, left0, d0, rfl⟩ ?_) ?_
  · rintro m σ' H' ⟨rfl, of, s, n, left, d, rfl⟩
    refine t_and (t_cmp op_eq (w_dget hu (w_var 0 rfl (w_str ⟨g, _, rfl, dget_of d.d (deal_number l s n), w_int ⟨rfl, _, rfl, ite_c (fun c1 => ?_) (fun c1 => ite_f rfl ⟨rfl, of, _, _, _, d⟩)⟩⟩))))
    refine t_cmp op_gt (w_callB call_len_seq gl PySem.boot_len (w_acons (w_dget hu (w_var 0 rfl (w_str ⟨g, _, rfl, dget_of d.d (deal_left l s n), w_anil ⟨l, _, rfl, Or.inl (SqL.of d.r), w_int ⟨_, _, rfl, rfl, _, rfl, ite_c (fun c2 => ?_) (fun c2 => ⟨rfl, of, _, _, _, d⟩)⟩⟩⟩)))))
    -- deal['number'] = deal['left'].pop()
    have hne : left ≠ [] := fun e => by rw [e] at c2; exact absurd (of_decide_eq_true c2) (by decide)
    obtain ⟨ls, x, rfl⟩ : ∃ ls x, left = ls ++ [x] := ⟨left.dropLast, left.getLast hne, (List.dropLast_concat_getLast hne).symm⟩
    have ex : ((ls ++ [x]).map V.int)[((ls ++ [x]).map V.int).length - 1]? = some (.int x) := by simp
    have ed : ((ls ++ [x]).map V.int).dropLast = ls.map V.int := by simp
    refine w_one (w_dput hu (w_bm0 PySem.F.plainAttrs_list PySem.F.slot_list_pop PySem.F.type_list_pop mt_pop (w_dget hu (w_var 0 rfl (w_str ⟨g, _, rfl, dget_of d.d (deal_left l s n), Or.inl ⟨rfl, _, SqL.of d.r⟩, l, _, _, rfl, rfl, d.r, ex, ?_⟩)))))
    rw [ed]
    have dg : (upd H' l (.lst (ls.map V.int))) g = some (.dK (dealKv l s n)) := by rw [upd_ne d.ne]; exact d.d
    refine w_var 0 rfl (w_str ⟨g, _, rfl, DPut.k (k := Sum.inr "number") dg (by show 3 < sizeLine; decide), ls.length, by simp, rfl, of.trans (Off.l.trans Off.g), s, x, ls, ⟨?_, ?_, d.s0, d.s1, d.p x (by simp), fun y hy => d.p y (by simp [hy])⟩, rfl⟩)
    · rw [upd_same, deal_put_number]
    · rw [upd_ne (Ne.symm d.ne), upd_same]
  · rintro σ' H' ⟨rfl, of, s, n, left, d⟩
    -- number = deal['number']
    refine w_cons (w_set 2 sc__law_draw.nd (w_dget hu (w_var 0 rfl (w_str ⟨g, _, rfl, dget_of d.d (deal_number l s n), ?_⟩))))
    -- if number > 0: ..
    refine w_cons (w_if (t_cmp op_gt (w_var 2 rfl (w_int ⟨_, _, rfl, rfl, _, rfl, ite_c (fun c => ?_) (fun c => w_nil ?_)⟩))))
    · refine w_cons (w_dput hu (w_op op_fdiv (w_var 2 rfl (w_var 1 rfl ⟨_, _, rfl, rfl, ⟨hm0, by omega⟩, ?_⟩))))
      refine w_var 0 rfl (w_str ⟨g, _, rfl, DPut.k (k := Sum.inr "number") d.d (by show 3 < sizeLine; decide), ?_⟩)
      rw [deal_put_number]
      refine w_one (w_ret (w_op op_mod (w_var 2 rfl (w_var 1 rfl ⟨_, _, rfl, rfl, hm0, ?_⟩))))
      refine k _ _ (Int.emod_nonneg _ (by omega)) (Int.emod_lt_of_pos _ hm0) ⟨s, _, left, ⟨upd_same, by rw [upd_ne (Ne.symm d.ne)]; exact d.r, d.s0, d.s1, Int.ediv_nonneg d.n0 (by omega), d.p⟩⟩ (of.trans Off.g)
    · -- one = (deal['seed'] * 48271 + 7919) % 2147483647
      refine w_cons <| w_set 3 sc__law_draw.nd <| w_op op_mod <| w_op op_add <| w_op op_mul <| w_dget hu <| w_var 0 rfl <| w_str ⟨g, _, rfl, dget_of d.d (deal_seed l s n), w_int ⟨_, _, rfl, rfl, Or.inl ⟨by have := d.s0; omega, by have := d.s1; omega⟩, w_int ⟨_, _, rfl, rfl, w_int ⟨_, _, rfl, rfl, (by show (0 : Int) < 2147483647; decide), ?_⟩⟩⟩⟩
      have b1 : 0 ≤ (s * 48271 + 7919) % 2147483647 ∧ (s * 48271 + 7919) % 2147483647 < 2147483647 := by exact ⟨Int.emod_nonneg _ (by decide), Int.emod_lt_of_pos _ (by decide)⟩
      refine w_cons <| w_dput hu <| w_op op_mod <| w_op op_add <| w_op op_mul <| w_var 3 rfl <| w_int ⟨_, _, rfl, rfl, Or.inl ⟨by omega, by omega⟩, w_int ⟨_, _, rfl, rfl, w_int ⟨_, _, rfl, rfl, (by show (0 : Int) < 2147483399; decide), ?_⟩⟩⟩
      obtain ⟨sd, hsd⟩ : ∃ sd, sd = ((s * 48271 + 7919) % 2147483647 * 40692 + 104729) % 2147483399 := ⟨_, rfl⟩
      have b2 : 0 ≤ sd ∧ sd < 2147483399 := by rw [hsd]; exact ⟨Int.emod_nonneg _ (by decide), Int.emod_lt_of_pos _ (by decide)⟩
      refine w_var 0 rfl <| w_str ⟨g, _, rfl, DPut.k (k := Sum.inr "seed") d.d (by show 3 < sizeLine; decide), ?_⟩
      rw [deal_put_seed, ← hsd]
      have d2 : DealS g l sd n left (upd H' g (.dK (dealKv l sd n))) := ⟨upd_same, by rw [upd_ne (Ne.symm d.ne)]; exact d.r, b2.1, by omega, d.n0, d.p⟩
      refine w_cons <| w_set 4 sc__law_draw.nd <| w_op op_mod <| w_op op_mul <| w_dget hu <| w_var 0 rfl <| w_str ⟨g, _, rfl, dget_of d2.d (deal_seed l sd n), w_dget hu <| w_var 0 rfl <| w_str ⟨g, _, rfl, dget_of d2.d (deal_seed l sd n), ⟨_, _, rfl, rfl, Or.inl ⟨by omega, by omega⟩, w_int ⟨_, _, rfl, rfl, (by show (0 : Int) < 2147483563; decide), ?_⟩⟩⟩⟩
      refine w_one <| w_ret <| w_op op_mod <| w_op op_add <| w_op op_mul <| w_op op_mod <| w_op op_mul <| w_var 3 rfl <| w_var 3 rfl ⟨_, _, rfl, rfl, Or.inl ⟨by omega, by omega⟩, w_int ⟨_, _, rfl, rfl, (by show (0 : Int) < 2147483629; decide), w_int ⟨_, _, rfl, rfl, Or.inl ?_, w_var 4 rfl ⟨_, _, rfl, rfl, w_var 1 rfl ⟨_, _, rfl, rfl, hm0, ?_⟩⟩⟩⟩⟩
      · exact ⟨Int.lt_of_lt_of_le (by decide) (Int.emod_nonneg _ (by decide)), Int.lt_trans (Int.emod_lt_of_pos _ (by decide)) (by decide)⟩
      · exact k _ _ (Int.emod_nonneg _ (by omega)) (Int.emod_lt_of_pos _ hm0) ⟨_, _, _, d2⟩ (of.trans Off.g)
end
end NP
set_option Elab.async false
set_option linter.all false
set_option maxRecDepth 100000
set_option maxHeartbeats 4000000
namespace NP
open PySem PySem.Spec PyProof.Rows L2
abbrev s__law_mixed : Stmt := top 6
theorem sc__law_mixed : FnScope ["_law_deal_here", "_law_items", "_law_left", "_law_found", "_law_turn"] ["_law_deal_here", "_law_items"] (defScope s__law_mixed) := ⟨rfl, rfl, rfl, by decide +kernel, rfl, by decide +kernel, by decide +kernel⟩
section
variable {P : Program} {w : World} {K : PySem.W.Frag} {mg : Str → Option Value} {base : Heap} {f : Addr} {fd : FuncData}
theorem ok_mixed (F : FnP K "_law_mixed" s__law_mixed f fd) (gl : mg "len" = none) (gli : mg "list" = none) (gr : mg "range" = none) (C : Cal P w K mg base CX0 1 "_law_draw" ["_law_deal_here", "_law_many"] spDraw) :
    FnG P w K mg base CX0 2 f fd ["_law_deal_here", "_law_items"] (spMixed K) := by
  refine def_ok F sc__law_mixed (fun vs H Q E h => ?_) ?_
  · obtain ⟨g, l, v, α, A, G, as, rfl, _⟩ := h; rfl
  rintro _ vs H Q E ⟨cdv, A0, out, s, rfl⟩ hg hr ⟨g, l, v, α, A, G, as, rfl, dl, gok, hv, hz, k⟩
  obtain ⟨t, xs, rfl, hsq, hp⟩ := rSeq.sq hv
  have hnd := sc__law_mixed.nd
  -- left, found = (list(items), [])
  refine w_cons <| w_par 2 3 rfl hnd <| w_acons <| w_callTy call_list_of gli boot_list <| w_acons <| w_var 1 rfl <| w_anil ⟨t, xs, rfl, hsq, fun p1 n1 => w_acons <| w_lst <| w_anil ⟨by show 0 ≤ sizeLine; decide, fun p2 n2 => w_anil ⟨_, _, rfl, ?_⟩⟩⟩
  have n2' : H p2 = none := ((Le.refl gok).new (o := .lst xs) n1).fresh n2
  have ok1 : (G.add p1).ok (upd H p1 (.lst xs)) := add_ok gok n1 trivial
  have ok2 : ((G.add p1).add p2).ok (upd (upd H p1 (.lst xs)) p2 (.lst [])) := add_ok ok1 n2 trivial
  have np1 : ¬ G.av p1 := G.free gok n1
  have np2 : ¬ (G.add p1).av p2 := Gh.free ok1 n2
  have ne12 : p1 ≠ p2 := fun e => np2 (Or.inr e.symm)
  have dl2 : Deals g l ((G.add p1).add p2) := (dl.add gok n1).add ok1 n2
  have toG : ∀ {H'}, Le ((G.add p1).add p2) (upd (upd H p1 (.lst xs)) p2 (.lst [])) H' → Le G H H' := fun le => (le.drop (Le.refl ok1) n2 rfl).drop (Le.refl gok) n1 rfl
  have hp2 : Paired (A.is ((G.add p1).add p2) (upd (upd H p1 (.lst xs)) p2 (.lst []))) xs as := pmap hp fun _ _ q => A.on n2 (A.on n1 q)
  -- for turn in range(len(left)): found.append(left.pop(draw(deal, len(left))))
  refine w_cut (fun σ' H' => (∃ tv, σ' = [some (.ref g), some (.ref t), some (.ref p1), some (.ref p2), tv]) ∧ Le ((G.add p1).add p2) (upd (upd H p1 (.lst xs)) p2 (.lst [])) H' ∧ ∃ ys bs, H' p2 = some (.lst ys) ∧ Paired (A.is ((G.add p1).add p2) H') ys bs ∧ bs.Perm as)
    (w_for PassesOwn.never rfl (pg_name (i := 4) hnd rfl (Or.inl rfl)) <| wi_range ((G.add p1).add p2) gr <| w_callB call_len_seq gl PySem.boot_len <| w_acons <| w_var 2 rfl <| w_anil ⟨p1, xs, rfl, Or.inl (SqL.of (by rw [upd_ne ne12, upd_same])), xs.length, rfl, ?_, fun J OK zs F hok pz => ⟨_, zs, F, fun i σ' H' =>
      (∃ tv, σ' = [some (.ref g), some (.ref t), some (.ref p1), some (.ref p2), tv]) ∧ Le ((G.add p1).add p2) (upd (upd H p1 (.lst xs)) p2 (.lst [])) H' ∧ ∃ xs1 as1 ys bs, H' p1 = some (.lst xs1) ∧ H' p2 = some (.lst ys) ∧ Paired (A.is ((G.add p1).add p2) H') xs1 as1 ∧ Paired (A.is ((G.add p1).add p2) H') ys bs ∧ (as1 ++ bs).Perm as ∧ as1.length + i = as.length,
      ⟨⟨none, rfl⟩, Le.refl ok2, xs, as, [], [], by rw [upd_ne ne12, upd_same], upd_same, hp2, .nil, by rw [List.append_nil], rfl⟩, ?_, ?_, ?_⟩⟩) ?_
  · have := paired_len hp
    have : (100000 : Nat) < 2 ^ 62 := by decide
    omega
  · rintro i σ' H' ⟨_, le, _⟩
    exact hok H' le
  · rintro i x σ' H' hx ⟨⟨tv, rfl⟩, le, xs1, as1, ys, bs, h1, h2, q1, q2, pm, hl⟩
    have hi : i < as.length := by
      have e1 : i < zs.length := (List.getElem?_eq_some_iff.mp hx).1
      rw [paired_len pz, nats_len, paired_len hp] at e1
      exact e1
    have hl1 : xs1.length = as1.length := paired_len q1
    refine w_one <| w_append (l := p2) (xs := ys) <| w_var 3 rfl ⟨rfl, h2, w_bm PySem.F.plainAttrs_list PySem.F.slot_list_pop PySem.F.type_list_pop mt_popAt <| w_var 2 rfl ⟨Or.inl ⟨rfl, _, SqL.of h1⟩, w_acons <| w_call C hg hr <| w_acons <| w_var 0 rfl <| w_acons <|
      w_callB call_len_seq gl PySem.boot_len <| w_acons <| w_var 2 rfl <| w_anil ⟨p1, xs1, rfl, Or.inl (SqL.of h1), w_anil ⟨g, l, (xs1.length : Int), rfl, dl2.at_ le.2.1, by omega, by omega, fun r H2 r0 r1 d2 off => w_anil ?_⟩⟩⟩⟩
    have le2 : Le ((G.add p1).add p2) H' H2 := dl2.le le.2.1 d2 off
    obtain ⟨s0, n0, lf, dd⟩ := dl2.at_ le.2.1
    have off1 : H2 p1 = some (.lst xs1) := off p1 _ h1 (fun e => by rw [e, dd.d] at h1; cases h1) (fun e => np1 (e ▸ G.sub (dl.out l (Or.inr rfl))))
    have off2 : H2 p2 = some (.lst ys) := off p2 _ h2 (fun e => by rw [e, dd.d] at h2; cases h2) (fun e => np2 (Or.inl (e ▸ G.sub (dl.out l (Or.inr rfl)))))
    have hr1 : r.toNat < xs1.length := by omega
    obtain ⟨a, ha, hya⟩ := paired_get q1 (show xs1[r.toNat]? = some xs1[r.toNat] by simp [hr1])
    refine ⟨p1, xs1, r, r.toNat, xs1[r.toNat], rfl, rfl, off1, by omega, by omega, seqIndex_of r0 r1, by simp [hr1], ys, by rw [upd_ne (Ne.symm ne12)]; exact off2, ?_, ?_⟩
    · have e1 := paired_len q2
      have e2 := pm.length_eq
      rw [List.length_append] at e2
      have : (100000 : Nat) < sizeLine := by decide
      omega
    · have leA : Le ((G.add p1).add p2) H' (upd (upd H2 p1 (.lst (xs1.eraseIdx r.toNat))) p2 (.lst (ys ++ [xs1[r.toNat]]))) := by
        refine ⟨le2.1, ⟨⟨G.keep (fun x z => ?_) le2.2.1.1.1, ?_⟩, ?_⟩, fun x u e z => ?_⟩
        · have x2 : x ≠ p2 := fun e => np2 (Or.inl (e ▸ z))
          have x1 : x ≠ p1 := fun e => np1 (e ▸ z)
          rw [upd_ne x2, upd_ne x1]
        · rw [upd_ne ne12, upd_same]; trivial
        · rw [upd_same]; trivial
        · rw [upd_ne (fun e => z (Or.inr e)), upd_ne (fun e => z (Or.inl (Or.inr e)))]
          exact le2.2.2 x u e z
      refine ⟨⟨_, rfl⟩, le.trans leA, xs1.eraseIdx r.toNat, as1.eraseIdx r.toNat, ys ++ [xs1[r.toNat]], bs ++ [a], by rw [upd_ne ne12, upd_same], upd_same, ?_, ?_, ?_, ?_⟩
      · exact pmap (paired_erase _ q1) fun _ _ q => A.mono leA q
      · exact paired_app (pmap q2 fun _ _ q => A.mono leA q) (.cons (A.mono leA hya) .nil)
      · refine List.Perm.trans ?_ pm
        have e1 := perm_erase ha
        refine List.Perm.trans ?_ (e1.symm.append_right bs)
        rw [← List.append_assoc]
        exact List.perm_append_comm
      · have := (List.getElem?_eq_some_iff.mp ha).1
        rw [List.length_eraseIdx_of_lt this]
        omega
  · rintro σ' H' ⟨hσ, le, xs1, as1, ys, bs, h1, h2, q1, q2, pm, hl⟩
    rw [paired_len pz, nats_len, paired_len hp] at hl
    have : as1 = [] := List.eq_nil_of_length_eq_zero (by omega)
    subst this
    exact ⟨hσ, le, ys, bs, h2, q2, pm⟩
  · rintro σ' H' ⟨⟨tv, rfl⟩, le, ys, bs, h2, q2, pm⟩
    exact w_one <| w_ret <| w_var 3 rfl <| k bs p2 H' pm (toG le) n2' ⟨p2, ys, rfl, h2, fun z => np2 (Or.inl z), pmap q2 fun _ _ q => A.off (A.off q)⟩
end
end NP
set_option Elab.async false
set_option linter.all false
set_option maxRecDepth 100000
set_option maxHeartbeats 4000000
namespace NP
open PySem PySem.Spec PyProof.Rows L2
abbrev s__law_any_word : Stmt := top 7
abbrev nm__law_any_word : List Str := ["_law_deal_here", "_law_last", "_law_letters", "_law_word", "_law_sign"]
theorem sc__law_any_word : FnScope nm__law_any_word ["_law_deal_here", "_law_last"] (defScope s__law_any_word) := ⟨rfl, rfl, rfl, by decide +kernel, rfl, by decide +kernel, by decide +kernel⟩
def abc : Str := "abcdefghijklmnopqrstuvwxyz"
theorem abc_len : abc.length = 26 := by decide +kernel
theorem abc_at {r : Int} (h0 : 0 ≤ r) (h1 : r < 26) : atI abc.cps.toList r = some (97 + r.toNat) := by
  have all : ∀ n : Nat, n < 26 → atI abc.cps.toList (n : Int) = some (97 + n) := by decide +kernel
  have := all r.toNat (by omega)
  rw [Int.toNat_of_nonneg h0] at this
  exact this
theorem sum_ones {bs : List Str} (h : ∀ b ∈ bs, b.length = 1) : (bs.map (·.length)).sum = bs.length := by
  induction bs with
  | nil => rfl
  | cons b t ih => rw [List.map_cons, List.sum_cons, ih fun x hx => h x (List.mem_cons_of_mem _ hx), h b List.mem_cons_self, List.length_cons]; omega
theorem flat_ones {bs : List Str} (h : ∀ b ∈ bs, ∃ d, cl b = [d] ∧ 97 ≤ d ∧ d ≤ 122) : ∃ ds : List Nat, ((bs.map cl).flatten = ds ∧ ds.length = bs.length) ∧ ∀ d ∈ ds, 97 ≤ d ∧ d ≤ 122 := by
  induction bs with
  | nil => exact ⟨[], ⟨rfl, rfl⟩, fun d hd => by cases hd⟩
  | cons b t ih =>
    obtain ⟨ds, ⟨e1, e2⟩, e3⟩ := ih fun x hx => h x (List.mem_cons_of_mem _ hx)
    obtain ⟨d, hd, h1⟩ := h b List.mem_cons_self
    refine ⟨d :: ds, ⟨by rw [List.map_cons, List.flatten_cons, hd, e1]; rfl, by simp [e2]⟩, fun x hx => ?_⟩
    rcases List.mem_cons.mp hx with rfl | hx
    · exact h1
    · exact e3 x hx
def spAnyWord : Sp := fun vs H Q _ => ∃ (g l : Addr) (G : Gh) (last : Str) (c : Nat), vs = [.ref g, .str last] ∧ Deals g l G ∧ G.ok H ∧ cl last = [c] ∧ 97 ≤ c ∧ c ≤ 122 ∧
  ∀ (w : Str) H', NameOk w → (cl w).getLast? = some c → Le G H H' → Q (.str w) H'
section
variable {P : Program} {w : World} {K : PySem.W.Frag} {mg : Str → Option Value} {base : Heap} {f : Addr} {fd : FuncData}
theorem ok_any_word (F : FnP K "_law_any_word" s__law_any_word f fd) (gr : mg "range" = none) (C : Cal P w K mg base CX0 1 "_law_draw" ["_law_deal_here", "_law_many"] spDraw) :
    FnG P w K mg base CX0 2 f fd ["_law_deal_here", "_law_last"] spAnyWord := by
  refine def_ok F sc__law_any_word (fun vs H Q E h => ?_) ?_
  · obtain ⟨g, l, G, last, c, rfl, _⟩ := h; rfl
  rintro _ vs H Q E ⟨cdv, A0, out, s, rfl⟩ hg hr ⟨g, l, G, last, c, rfl, dl, gok, hcl, hc1, hc2, k⟩
  have hnd := sc__law_any_word.nd
  refine w_cons <| w_set 2 hnd <| w_str ?_
  -- word = ''.join([letters[draw(deal, 26)] for sign in range(draw(deal, 6))]) + last
  refine w_cons <| w_set 3 hnd <| w_op op_add_str <| w_join <| w_str ⟨_, rfl, w_lc rInt rStr G (fun _ => False) (fun _ b => ∃ d, cl b = [d] ∧ 97 ≤ d ∧ d ≤ 122) 4 rfl hnd (blkOk_by (N := nm__law_any_word) (sc := defScope s__law_any_word) (by decide +kernel)) <|
    wi_range G gr <| w_dr 0 C hg hr dl rfl <| w_int ⟨_, rfl, gok, by decide, by decide, fun r H1 r0 r1 le1 => ⟨r.toNat, by rw [Int.toNat_of_nonneg r0], by omega, fun J OK xs F hok pz => ⟨le1.2.1, OK, xs, _, F, hok, pz, by rw [nats_len]; omega, fun D hD => ⟨?_, ?_⟩⟩⟩⟩⟩
  · rintro i a v H' ha le hv X1 ⟨s1, h1, C1, cl1, fp1, rfl⟩
    refine ⟨Le.refl le.hold, ?_⟩
    refine ite_t rfl ?_
    rintro X2 ⟨s2, h2, C2, cl2, fp2, rfl⟩
    refine w_ix ix_str <| w_var 2 rfl <| w_dr 0 C hg hr (dl.hold le1.2.1 hD) rfl <| w_int ⟨_, rfl, le.hold, by decide, by decide, fun r H2 r0 r1 le2 => ?_⟩
    exact ⟨abc, r, 97 + r.toNat, rfl, rfl, by rw [abc_len]; decide, abc_at r0 r1, le2, _, rfl, _, rfl, by omega, by omega⟩
  · rintro bs H' lc le ⟨t, xs, e, ht, _, hp⟩
    cases e
    have lp := lc.paired
    obtain rfl := paired_str hp
    have one : ∀ b ∈ bs, ∃ d, cl b = [d] ∧ 97 ≤ d ∧ d ≤ 122 := paired_all (P := fun b => ∃ d, cl b = [d] ∧ 97 ≤ d ∧ d ≤ 122) (fun _ _ q => q) lp
    have hlen : bs.length ≤ 5 := by rw [← paired_len lp, nats_len]; omega
    have sums : (bs.map (·.length)).sum = bs.length := sum_ones fun b hb => by obtain ⟨d, hd, _⟩ := one b hb; rw [cl_len, hd]; rfl
    obtain ⟨ds, eds, hds⟩ := flat_ones one
    have ej : cl (Txt.join ("" : Str) bs) = ds := (cl_join0 bs).trans eds.1
    have ew : cl (Txt.join ("" : Str) bs ++ last) = ds ++ [c] := by rw [cl_append, ej, hcl]
    have wl : (Txt.join ("" : Str) bs ++ last).length ≤ 100 := by rw [cl_len, ew, List.length_append, eds.2]; show bs.length + 1 ≤ 100; omega
    obtain ⟨ok1, ok2⟩ := any_word_ok (l := ds) (c := c) (by rw [eds.2]; exact hlen) hds ⟨hc1, hc2⟩
    refine ⟨D, bs, rfl, Or.inl (SqL.of ht), by rw [sums]; show bs.length + bs.length * 0 ≤ 16777216; omega, w_var 1 rfl ⟨_, _, rfl, rfl, ?_, ?_⟩⟩
    · rw [cl_len, cl_len, ej, hcl, eds.2]
      have : (100 : Nat) ≤ sizeLine := by decide
      show bs.length + 1 ≤ sizeLine
      omega
    -- return 'b' + word[1:] if word in (..) else word
    refine w_one <| w_ret <| w_if1 <| t_cmp op_in_seq <| w_var 3 rfl <| w_tup <| w_acons <| w_str <| w_acons <| w_str <| w_acons <| w_str <| w_acons <| w_str <| w_acons <| w_str <| w_acons <| w_str <| w_anil ⟨by show 6 ≤ sizeLine; decide, fun p hp => ⟨p, _, rfl, Or.inr (SqT.of upd_same), rfl, rfl, _, rfl, ?_⟩⟩
    have le2 : Le G H (upd H' p (.tup [.str "all", .str "any", .str "of", .str "always", .str "never", .str "none"])) := (le1.trans le).new hp
    have hiv : inV (.str (Txt.join ("" : Str) bs ++ last)) [.str "all", .str "any", .str "of", .str "always", .str "never", .str "none"] = decide (ds ++ [c] ∈ rsv) := by
      rw [← ew]
      refine (inV_str _ rsvS).trans ?_
      simp only [mem_rsvS]
    refine ite_c (fun hin => ?_) (fun hin => ?_)
    · refine w_op op_add_str <| w_str <| w_slFrom sl_str <| w_var 3 rfl <| w_int ⟨_, rfl, _, rfl, ?_, ?_⟩
      · have : (100 : Nat) ≤ sizeLine := by decide
        omega
      · have hm : ds ++ [c] ∈ rsv := of_decide_eq_true (hiv.symm.trans hin)
        obtain ⟨k1, k2⟩ := ok2 hm
        have e98 : cl (("b" : Str) ++ cutS (Txt.join ("" : Str) bs ++ last) (some 1) none) = 98 :: (ds ++ [c]).drop 1 := by
          rw [cl_append, show (1 : Int) = ((1 : Nat) : Int) from rfl, cl_from, ew]
          rfl
        refine ⟨_, _, rfl, rfl, ?_, k _ _ ?_ ?_ le2⟩
        · have : (200 : Nat) ≤ sizeLine := by decide
          have h1 : (("b" : Str)).length = 1 := by decide +kernel
          have h2 : (cutS (Txt.join ("" : Str) bs ++ last) (some 1) none).length ≤ 100 := by
            rw [cl_len, show (1 : Int) = ((1 : Nat) : Int) from rfl, cl_from, List.length_drop]
            rw [cl_len] at wl
            omega
          omega
        · unfold NameOk; rw [e98]; exact k1
        · rw [e98]; exact k2
    · have hm : ds ++ [c] ∉ rsv := of_decide_eq_false (hiv.symm.trans hin)
      refine w_var 3 rfl <| k _ _ ?_ ?_ le2
      · unfold NameOk; rw [ew]; exact ok1 hm
      · rw [ew]; simp
end
end NP
set_option Elab.async false
set_option linter.all false
set_option maxRecDepth 100000
set_option maxHeartbeats 4000000
namespace NP
open PySem PySem.Spec PyProof.Rows L2
abbrev s__law_words : Stmt := top 8
abbrev nm__law_words : List Str := ["_law_deal_here", "_law_many", "_law_letters", "_law_form", "_law_core", "_law_k", "_law_at", "_law_turn", "_law_own", "_law_found", "_law_words_here", "_law_first", "_law_p", "_law_q"]
theorem sc__law_words : FnScope nm__law_words ["_law_deal_here", "_law_many"] (defScope s__law_words) := ⟨rfl, rfl, rfl, by decide +kernel, rfl, by decide +kernel, by decide +kernel⟩
def marks : Str := "qxzj"
theorem marks_at {r : Int} (h0 : 0 ≤ r) (h1 : r < 4) : ∃ q : Nat, (q = 113 ∨ q = 120 ∨ q = 122 ∨ q = 106) ∧ atI marks.cps.toList r = some q := by
  have all : ∀ n : Nat, n < 4 → ∃ q ∈ [113, 120, 122, 106], atI marks.cps.toList (n : Int) = some q := by decide +kernel
  obtain ⟨q, hq, e⟩ := all r.toNat (by omega)
  rw [Int.toNat_of_nonneg h0] at e
  exact ⟨q, by simpa using hq, e⟩
theorem strs_of_codes (a b : Str) (cs : List (List Nat)) (h : (Txt.split a b).map cl = cs) (n : Nat) : (Txt.split a b).map V.str = (Txt.split a b).map V.str := rfl
theorem form0 {first many : Nat} (hf : first < 14) (hm : many ≤ 8) : ∃ ws : List Str, cutV (List.replicate (2 : Int).toNat ((Txt.split "put take prop unprop strike undo yard props grow depth rest way here plan" " ").map V.str)).flatten (some (first : Int)) (some ((first : Int) + (many : Int))) = ws.map V.str ∧ Names many ws := by
  have ec : (Txt.split "put take prop unprop strike undo yard props grow depth rest way here plan" " ").map cl = w14 := by decide +kernel
  generalize Txt.split "put take prop unprop strike undo yard props grow depth rest way here plan" " " = L at ec
  have el : L.length = 14 := by rw [← List.length_map (f := cl), ec]; rfl
  have er : (List.replicate (2 : Int).toNat (L.map V.str)).flatten = (L ++ L).map V.str := by
    show (List.replicate 2 (L.map V.str)).flatten = _
    simp [List.replicate]
  refine ⟨((L ++ L).drop first).take many, ?_, ?_⟩
  · rw [er]
    unfold cutV
    have lc : ((L ++ L).map V.str).length = 28 := by simp [el]
    rw [lc, HT.sIx_nat, show ((first : Int) + (many : Int)) = ((first + many : Nat) : Int) by omega, HT.sIx_nat, Nat.min_eq_left (by omega), Nat.min_eq_left (by omega), show first + many - first = many by omega, List.map_take, List.map_drop]
  · obtain ⟨h1, h2, h3⟩ := w14_ok first hf many (by omega)
    have e2 : (((L ++ L).drop first).take many).map cl = ((w14 ++ w14).drop first).take many := by rw [List.map_take, List.map_drop, List.map_append, ec]
    refine names_of_codes ?_ (by rw [e2]; exact h1) (by rw [e2]; exact h2)
    rw [← List.length_map (f := cl), e2]
    exact h3
theorem form4 {many : Nat} (hm : many ≤ 8) : ∃ ws : List Str, cutV ((Txt.split "base left right roof some nevers allof ofany" " ").map V.str) none (some (many : Int)) = ws.map V.str ∧ Names many ws := by
  have ec : (Txt.split "base left right roof some nevers allof ofany" " ").map cl = w8 := by decide +kernel
  generalize Txt.split "base left right roof some nevers allof ofany" " " = L at ec
  have el : L.length = 8 := by rw [← List.length_map (f := cl), ec]; rfl
  refine ⟨L.take many, ?_, ?_⟩
  · unfold cutV
    rw [HT.sIx_none, HT.sIx_nat, List.drop_zero, Nat.sub_zero, List.length_map, el, Nat.min_eq_left hm, List.map_take]
  · obtain ⟨h1, h2, h3⟩ := w8_ok many (by omega)
    have e2 : (L.take many).map cl = w8.take many := by rw [List.map_take, ec]
    refine names_of_codes ?_ (by rw [e2]; exact h1) (by rw [e2]; exact h2)
    rw [← List.length_map (f := cl), e2]
    exact h3
def pqS (t : Nat) : List Str := let p : Str := ⟨#[97 + t]⟩; let q : Str := ⟨#[97 + (t + 7) % 26]⟩; [p, q, p ++ q, q ++ p, p ++ p, p ++ p ++ q, p ++ q ++ p, q ++ q]
def pqV (t : Nat) : List V := (pqS t).map V.str
theorem form5 {t many : Nat} (ht : t < 26) (hm : many ≤ 8) : ∃ ws : List Str, cutV (pqV t) none (some (many : Int)) = ws.map V.str ∧ Names many ws := by
  have ec : (pqS t).map cl = pq8 (97 + t) (97 + (t + 7) % 26) := rfl
  have el : (pqS t).length = 8 := rfl
  unfold pqV
  generalize pqS t = L at ec el
  refine ⟨L.take many, ?_, ?_⟩
  · unfold cutV
    rw [HT.sIx_none, HT.sIx_nat, List.drop_zero, Nat.sub_zero, List.length_map, el, Nat.min_eq_left hm, List.map_take]
  · obtain ⟨h1, h2, h3⟩ := pq_ok t ht many (by omega)
    have e2 : (L.take many).map cl = (pq8 (97 + t) (97 + (t + 7) % 26)).take many := by rw [List.map_take, ec]
    refine names_of_codes ?_ (by rw [e2]; exact h1) (by rw [e2]; exact h2)
    rw [← List.length_map (f := cl), e2]
    exact h3
def spWords : Sp := fun vs H Q _ => ∃ (g l : Addr) (G : Gh) (many : Nat), vs = [.ref g, .int many] ∧ Deals g l G ∧ G.ok H ∧ 1 ≤ many ∧ many ≤ 8 ∧
  ∀ (ws : List Str) (p : Addr) H', Names many ws → Le G H H' → H p = none → (rLst rStr).is G H' (.ref p) ws → Q (.ref p) H'
section
variable {P : Program} {w : World} {K : PySem.W.Frag} {mg : Str → Option Value} {base : Heap} {f : Addr} {fd : FuncData}
theorem ok_words (F : FnP K "_law_words" s__law_words f fd) (gr : mg "range" = none) (gl : mg "len" = none) (gi : mg "int" = none) (C : Cal P w K mg base CX0 1 "_law_draw" ["_law_deal_here", "_law_many"] spDraw)
    (CM : Cal P w K mg base CX0 2 "_law_mixed" ["_law_deal_here", "_law_items"] (spMixed K)) (CA : Cal P w K mg base CX0 2 "_law_any_word" ["_law_deal_here", "_law_last"] spAnyWord) :
    FnG P w K mg base CX0 3 f fd ["_law_deal_here", "_law_many"] spWords := by
  refine def_ok F sc__law_words (fun vs H Q E h => ?_) ?_
  · obtain ⟨g, l, G, m, rfl, _⟩ := h; rfl
  rintro _ vs H Q E ⟨cdv, A0, out, s, rfl⟩ hg hr ⟨g, l, G, many, rfl, dl, gok, hm1, hm8, k⟩
  have hnd := sc__law_words.nd
  have hr1 : Room 1 _ := hr.mono (by decide)
  have hblk : ∀ {scope : Scope}, blkC nm__law_words (defScope s__law_words) scope [("_law_k", 5)] = true → BlkOk nm__law_words (defScope s__law_words) scope [("_law_k", 5)] := fun h => blkOk_by h
  -- letters, form = ('abc..', draw(deal, 8))
  refine w_cons <| w_asg (pg_tup rfl (pgs_cons (pg_name (i := 2) hnd rfl (Or.inr rfl)) (pgs_cons (pg_name (i := 3) hnd rfl (Or.inl rfl)) pgs_nil))) <| w_tup <| w_acons <| w_str <| w_acons <| w_dr 0 C hg hr1 dl rfl <| w_int ⟨_, rfl, gok, by decide, by decide, fun form H1 f0 f1 le1 =>
    w_anil ⟨by show 2 ≤ sizeLine; decide, fun t1 n1 => ⟨t1, _, rfl, SqT.of upd_same, rfl, _, _, rfl, _, _, rfl, rfl, ?_⟩⟩⟩
  have le1' : Le G H (upd H1 t1 (.tup [.str "abcdefghijklmnopqrstuvwxyz", .int form])) := le1.new n1
  generalize upd H1 t1 (.tup [.str "abcdefghijklmnopqrstuvwxyz", .int form]) = H2 at le1'
  -- core = ''.join([letters[draw(deal, 26)] for k in range(draw(deal, 4))])
  refine w_cons <| w_set 4 hnd <| w_join <| w_str ⟨_, rfl, w_lc rInt rStr G (fun _ => False) (fun _ b => ∃ d, cl b = [d] ∧ 97 ≤ d ∧ d ≤ 122) 5 rfl hnd (hblk (by decide +kernel)) <|
    wi_range G gr <| w_dr 0 C hg hr1 dl rfl <| w_int ⟨_, rfl, le1'.2.1, by decide, by decide, fun r H3 r0 r1 le3 => ⟨r.toNat, by rw [Int.toNat_of_nonneg r0], by omega, fun J OK xs F hok pz => ⟨le3.2.1, OK, xs, _, F, hok, pz, by rw [nats_len]; omega, fun D hD => ⟨?_, ?_⟩⟩⟩⟩⟩
  · rintro i a v H' ha le hv X1 ⟨s1, h1, C1, cl1, fp1, rfl⟩
    refine ⟨Le.refl le.hold, ?_⟩
    refine ite_t rfl ?_
    rintro X2 ⟨s2, h2, C2, cl2, fp2, rfl⟩
    refine w_ix ix_str <| w_var 2 rfl <| w_dr 0 C hg hr1 (dl.hold le3.2.1 hD) rfl <| w_int ⟨_, rfl, le.hold, by decide, by decide, fun r H2 r0 r1 le2 => ?_⟩
    exact ⟨abc, r, 97 + r.toNat, rfl, rfl, by rw [abc_len]; decide, abc_at r0 r1, le2, _, rfl, _, rfl, by omega, by omega⟩
  rintro bs H4 lc le4 ⟨t, xs, e, ht, _, hp⟩
  cases e
  have lp := lc.paired
  obtain rfl := paired_str hp
  have one : ∀ b ∈ bs, ∃ d, cl b = [d] ∧ 97 ≤ d ∧ d ≤ 122 := paired_all (P := fun b => ∃ d, cl b = [d] ∧ 97 ≤ d ∧ d ≤ 122) (fun _ _ q => q) lp
  have hlen : bs.length ≤ 3 := by rw [← paired_len lp, nats_len]; omega
  have sums : (bs.map (·.length)).sum = bs.length := sum_ones fun b hb => by obtain ⟨d, hd, _⟩ := one b hb; rw [cl_len, hd]; rfl
  obtain ⟨ds, eds, hds⟩ := flat_ones one
  have ej : cl (Txt.join ("" : Str) bs) = ds := (cl_join0 bs).trans eds.1
  refine ⟨D, bs, rfl, Or.inl (SqL.of ht), by rw [sums]; show bs.length + bs.length * 0 ≤ 16777216; omega, ?_⟩
  have hcore : Core ds := ⟨by rw [eds.2]; exact hlen, hds⟩
  have le5 : Le G H H4 := (le1'.trans le3).trans le4
  generalize Txt.join ("" : Str) bs = core at ej
  subst ej
  clear hp ht lc lp one sums eds hds hlen le4 le3 hD pz hok F
  have clen : core.length ≤ 3 := by rw [cl_len]; exact hcore.len
  have big : (1000 : Nat) ≤ sizeLine := by decide
  -- at, turn = (draw(deal, len(core) + 1), draw(deal, 26))
  refine w_cons <| w_asg (pg_tup rfl (pgs_cons (pg_name (i := 6) hnd rfl (Or.inr rfl)) (pgs_cons (pg_name (i := 7) hnd rfl (Or.inr rfl)) pgs_nil))) <| w_tup <| w_acons <| w_dr 0 C hg hr1 dl rfl <| w_op op_add <| w_callB call_len_str gl PySem.boot_len <| w_acons <| w_var 4 rfl <| w_anil ⟨_, rfl, by omega,
    w_int ⟨_, _, rfl, rfl, _, rfl, le5.2.1, by omega, by omega, fun at0 H6 a0 a1 le6 => w_acons <| w_dr 0 C hg hr1 dl rfl <| w_int ⟨_, rfl, le6.2.1, by decide, by decide, fun turn0 H7 t0 t1' le7 => w_anil ⟨by show 2 ≤ sizeLine; decide, fun t2 n2 => ⟨t2, _, rfl, SqT.of upd_same, rfl, _, _, rfl, _, _, rfl, rfl, ?_⟩⟩⟩⟩⟩
  obtain ⟨at_, rfl⟩ : ∃ n : Nat, at0 = n := ⟨at0.toNat, by omega⟩
  obtain ⟨turn, rfl⟩ : ∃ n : Nat, turn0 = n := ⟨turn0.toNat, by omega⟩
  have le8 : Le G H (upd H7 t2 (.tup [.int at_, .int turn])) := ((le5.trans le6).trans le7).new n2
  generalize upd H7 t2 (.tup [.int at_, .int turn]) = H8 at le8
  clear le5 le6 le7 le1' le1
  have hat : at_ ≤ core.length := by omega
  have hturn : turn < 26 := by omega
  -- own = [letters[(turn + 7 * k) % 26] + ['qxzj'[draw(deal, 4)], ''][int(core == '')] for k in range(many)]
  refine w_cons <| w_set 8 hnd <| w_lc rInt rStr G (fun _ => False) (fun k b => ∃ q, (q = 113 ∨ q = 120 ∨ q = 122 ∨ q = 106) ∧ cl b = [97 + (turn + 7 * k.toNat) % 26] ++ (if cl core = [] then [] else [q])) 5 rfl hnd (hblk (by decide +kernel)) <|
    wi_range G gr <| w_var 1 rfl ⟨many, rfl, by omega, fun J OK xs F hok pz => ⟨le8.2.1, OK, xs, _, F, hok, pz, by rw [nats_len]; omega, fun D hD => ⟨?_, ?_⟩⟩⟩
  · rintro i a v H' ha le rfl X1 ⟨s1, h1, C1, cl1, fp1, rfl⟩
    refine ⟨Le.refl le.hold, ite_t rfl ?_⟩
    rintro X2 ⟨s2, h2, C2, cl2, fp2, rfl⟩
    obtain ⟨b0, b1⟩ := nats_mem (List.mem_of_getElem? ha)
    refine w_op op_add_str <| w_ix ix_str <| w_var 2 rfl <| w_op op_mod <| w_op op_add <| w_var 7 rfl <| w_op op_mul <| w_int <| w_var 5 rfl ⟨_, _, rfl, rfl, Or.inl ⟨by decide, by decide⟩, _, _, rfl, rfl, w_int ⟨_, _, rfl, rfl, (by show (0 : Int) < 26; decide), abc, _, _, rfl, rfl, by rw [abc_len]; decide,
      abc_at (Int.emod_nonneg _ (by decide)) (Int.emod_lt_of_pos _ (by decide)), w_ix ix_list <| w_lst <| w_acons <| w_ix ix_str <| w_str <| w_dr 0 C hg hr1 (dl.hold le8.2.1 hD) rfl <| w_int ⟨_, rfl, le.hold, by decide, by decide, fun r H2 r0 r1 le2 => ?_⟩⟩⟩
    obtain ⟨q, hq, hqs⟩ := marks_at r0 r1
    refine ⟨marks, r, q, rfl, rfl, by decide +kernel, hqs, w_acons <| w_str <| w_anil ⟨by show 2 ≤ sizeLine; decide, fun p np => w_callTy call_int1 gi boot_int <| w_acons <| w_cmp op_eq <| w_var 4 rfl <| w_str ⟨rfl, w_anil (Or.inr ⟨_, rfl, ?_⟩)⟩⟩⟩
    have lep : Le (G.hold D) H' (upd H2 p (.lst [.str ⟨#[q]⟩, .str ""])) := le2.new np
    have en : (turn + 7 * a.toNat) % 26 = (((turn : Int) + 7 * a) % 26).toNat := by omega
    by_cases hcn : core = ""
    · have e1 : (if decide (V.str core = V.str "") = true then (1 : Int) else 0) = 1 := by rw [hcn]; rfl
      rw [e1]
      refine ⟨p, _, 1, .str "", rfl, rfl, SqL.of upd_same, rfl, _, _, rfl, rfl, by show 1 + 0 ≤ sizeLine; decide, lep, _, rfl, q, hq, ?_⟩
      rw [cl_append, hcn, en]
      rfl
    · have e1 : (if decide (V.str core = V.str "") = true then (1 : Int) else 0) = 0 := by
        rw [decide_eq_false (fun z => hcn (V.str.inj z))]; rfl
      rw [e1]
      refine ⟨p, _, 0, .str ⟨#[q]⟩, rfl, rfl, SqL.of upd_same, rfl, _, _, rfl, rfl, by show 1 + 1 ≤ sizeLine; decide, lep, _, rfl, q, hq, ?_⟩
      have hcn2 : ¬ cl core = [] := fun z => hcn (cl_ext (y := ("" : Str)) z)
      rw [cl_append, if_neg hcn2, en]
      rfl
  rintro os H9 lc le9 hos
  have lpo := lc.paired
  clear lc pz hok F
  have le10 : Le G H H9 := le8.trans le9
  obtain ⟨po, xo, eo, hpo, npo, hpo2⟩ := id hos
  cases eo
  obtain rfl := paired_str hpo2
  -- found = [core[:at] + own[k] + core[at:] + 'z' * (k % 2) for k in range(many)]
  let M : L2.St → Hp → Prop := fun σ' H' => ∃ (pf : Addr) (ws : List Str) (v10 v11 v12 v13 : Option V), σ' = [some (.ref g), some (.int many), some (.str abc), some (.int form), some (.str core), none, some (.int at_), some (.int turn), some (.ref D), some (.ref pf), v10, v11, v12, v13] ∧ Le G H H' ∧ H pf = none ∧ (rLst rStr).is G H' (.ref pf) ws ∧ Names many ws
  refine w_cut M (w_setLc 9 rInt rStr G (fun _ => False) (WordK (cl core) at_ turn) 5 rfl hnd (hblk (by decide +kernel)) <|
    wi_range G gr <| w_var 1 rfl ⟨many, rfl, by omega, fun J OK xs F hok pz => ⟨le10.2.1, OK, xs, _, F, hok, pz, by rw [nats_len]; omega, fun D2 hD2 => ⟨?_, ?_⟩⟩⟩) ?_
  · rintro i a v H' ha le rfl X1 ⟨s1, h1, C1, cl1, fp1, rfl⟩
    refine ⟨Le.refl le.hold, ite_t rfl ?_⟩
    rintro X2 ⟨s2, h2, C2, cl2, fp2, rfl⟩
    have hi := List.getElem?_eq_some_iff.mp ha
    have hi2 : i < many := by have := hi.1; rw [nats_len] at this; exact this
    have ea : a = (i : Int) := by rw [nats_get hi2] at ha; exact (Option.some.inj ha).symm
    obtain ⟨b, hb, q, hq, eb⟩ := paired_get lpo ha
    obtain ⟨po2, xo2, eo2, ho2, _, _⟩ := (rLst rStr).a2h ((rLst rStr).mono le ((rLst rStr).on hD2 hos))
    cases eo2
    have hsame : H' D = some (.lst (os.map V.str)) := le.2.2 D _ (by rw [upd_ne (ne_of_none hpo hD2)]; exact hpo) (fun z => z.elim (fun y => npo (G.sub y)) (ne_of_none hpo hD2))
    have bl : b.length ≤ 2 := by rw [cl_len, eb, List.length_append]; split <;> simp
    have c1 : (cutS core none (some (at_ : Int))).length ≤ 3 := by rw [cl_len, cl_to, List.length_take, ← cl_len]; omega
    have c2 : (cutS core (some (at_ : Int)) none).length ≤ 3 := by rw [cl_len, cl_from, List.length_drop, ← cl_len]; omega
    have apl : ∀ x y : Str, (x ++ y).length = x.length + y.length := fun x y => by rw [cl_len, cl_append, List.length_append, ← cl_len, ← cl_len]
    have m01 : a % 2 = 0 ∨ a % 2 = 1 := by omega
    have zl : (Txt.mul ("z" : Str) (a % 2)).length ≤ 1 := by
      rw [cl_len, cl_mul01 _ _ m01]
      split
      · decide +kernel
      · simp
    refine w_op op_add_str <| w_op op_add_str <| w_op op_add_str <| w_slTo sl_str <| w_var 4 rfl <| w_var 6 rfl ⟨at_, rfl, core, rfl, by omega, w_ix ix_list <| w_var 8 rfl <| w_var 5 rfl ⟨D, _, a, .str b, rfl, rfl, SqL.of hsame, by rw [ea]; exact atI_nat (by rw [List.getElem?_map, hb]; rfl), _, _, rfl, rfl, by omega,
      w_slFrom sl_str <| w_var 4 rfl <| w_var 6 rfl ⟨at_, rfl, core, rfl, by omega, _, _, rfl, rfl, by rw [apl]; omega, w_op op_mulS <| w_str <| w_op op_mod <| w_var 5 rfl <| w_int ⟨_, _, rfl, rfl, (by show (0 : Int) < 2; decide), _, _, rfl, rfl, m01, _, _, rfl, rfl, by rw [apl, apl]; omega,
        Le.refl le.hold, _, rfl, q, hq, ?_⟩⟩⟩⟩
    rw [cl_append, cl_append, cl_append, cl_to, cl_from, eb, cl_mul01 _ _ m01]
    rfl
  · intro ws H' lc le hws
    exact ⟨D2, ws, none, none, none, none, rfl, le10.trans le, le10.fresh hD2, hws, names_core hm8 hcore (by rw [← cl_len]; exact hat) lc.paired⟩
  have one_at : ∀ t : Nat, t < 26 → atI abc.cps.toList (t : Int) = some (97 + t) := fun t ht => by
    have := abc_at (r := (t : Int)) (by omega) (by omega)
    simpa using this
  have apl : ∀ x y : Str, (x ++ y).length = x.length + y.length := fun x y => by rw [cl_len, cl_append, List.length_append, ← cl_len, ← cl_len]
  -- if form == 0: found = ('put take ..'.split(' ') * 2)[first:first + many]
  rintro σ1 J1 ⟨pf, ws, v10, v11, v12, v13, rfl, lf, nf, hf, hn⟩
  refine w_cut M (w_if <| t_cmp op_eq <| w_var 3 rfl <| w_int ⟨rfl, _, rfl, ite_c (fun _ => ?_) (fun _ => w_nil ⟨pf, ws, v10, v11, v12, v13, rfl, lf, nf, hf, hn⟩)⟩) ?_
  · refine w_cons <| w_set 10 hnd <| w_split <| w_str ⟨_, rfl, w_str ⟨_, rfl, by decide +kernel, by decide +kernel, fun p np => ?_⟩⟩
    have lp : Le G H (upd J1 p (.lst ((Txt.split "put take prop unprop strike undo yard props grow depth rest way here plan" " ").map V.str))) := lf.new np
    refine w_cons <| w_set 11 hnd <| w_dr 0 C hg hr1 dl rfl <| w_int ⟨_, rfl, lp.2.1, by decide, by decide, fun r J2 r0 r1 l2 => ?_⟩
    obtain ⟨first, rfl⟩ : ∃ n : Nat, r = n := ⟨r.toNat, by omega⟩
    have hp2 : J2 p = some (.lst ((Txt.split "put take prop unprop strike undo yard props grow depth rest way here plan" " ").map V.str)) := l2.2.2 p _ upd_same (Gh.freeO lf.2.1 np)
    refine w_one <| w_set 9 hnd <| w_sl sl_list <| w_op op_rep <| w_var 10 rfl <| w_int ⟨p, _, _, rfl, rfl, hp2, by decide, by decide, by decide +kernel, fun p3 n3 => w_var 11 rfl ⟨_, rfl, w_op op_add <| w_var 11 rfl <| w_var 1 rfl ⟨_, _, rfl, rfl, _, rfl, p3, _, rfl, SqL.of upd_same, fun p4 n4 => ?_⟩⟩⟩
    obtain ⟨ws2, e2, hn2⟩ := form0 (first := first) (many := many) (by omega) hm8
    have l4 := (((lp.trans l2).new (o := .lst (List.replicate (2 : Int).toNat ((Txt.split "put take prop unprop strike undo yard props grow depth rest way here plan" " ").map V.str)).flatten) n3))
    have l5 := l4.new (o := .lst (cutV (List.replicate (2 : Int).toNat ((Txt.split "put take prop unprop strike undo yard props grow depth rest way here plan" " ").map V.str)).flatten (some (first : Int)) (some ((first : Int) + (many : Int))))) n4
    refine ⟨p4, ws2, _, _, v12, v13, rfl, l5, l4.fresh n4, ⟨p4, _, rfl, upd_same, Gh.free l4.2.1 n4, ?_⟩, hn2⟩
    rw [e2]
    exact str_paired ws2
  -- if form == 1 and many < 7
  clear hf nf lf hn ws pf v10 v11 v12 v13
  rintro σ1 J1 ⟨pf, ws, v10, v11, v12, v13, rfl, lf, nf, hf, hn⟩
  refine w_cut M (w_if <| t_and <| t_cmp op_eq <| w_var 3 rfl <| w_int ⟨rfl, _, rfl, ite_c (fun _ => t_cmp op_lt <| w_var 1 rfl <| w_int ⟨_, _, rfl, rfl, _, rfl, ite_c (fun h7 => ?_) (fun _ => w_nil ⟨pf, ws, v10, v11, v12, v13, rfl, lf, nf, hf, hn⟩)⟩) (fun _ => ite_f rfl <| w_nil ⟨pf, ws, v10, v11, v12, v13, rfl, lf, nf, hf, hn⟩)⟩) ?_
  · have h7' : many < 7 := by have := of_decide_eq_true h7; omega
    refine w_one <| w_setLc 9 rInt rStr G (fun _ => False) (fun k w => cl w = ((97 + turn) :: [113, 120, 122, 106, 107]).take (k.toNat + 1)) 5 rfl hnd (hblk (by decide +kernel)) <|
      wi_range G gr <| w_var 1 rfl ⟨many, rfl, by omega, fun J OK xs F hok pz => ⟨lf.2.1, OK, xs, _, F, hok, pz, by rw [nats_len]; omega, fun D2 hD2 => ⟨?_, ?_⟩⟩⟩
    · rintro i a v H' ha le rfl X1 ⟨s1, h1, C1, cl1, fp1, rfl⟩
      refine ⟨Le.refl le.hold, ite_t rfl ?_⟩
      rintro X2 ⟨s2, h2, C2, cl2, fp2, rfl⟩
      obtain ⟨b0, b1⟩ := nats_mem (List.mem_of_getElem? ha)
      obtain ⟨kk, rfl⟩ : ∃ n : Nat, a = n := ⟨a.toNat, by omega⟩
      refine w_slTo sl_str <| w_op op_add_str <| w_ix ix_str <| w_var 2 rfl <| w_var 7 rfl ⟨abc, _, _, rfl, rfl, by rw [abc_len]; decide, one_at turn hturn, w_str ⟨_, _, rfl, rfl, by show 1 + 5 ≤ sizeLine; decide, w_op op_add <| w_var 5 rfl <| w_int ⟨_, _, rfl, rfl, _, rfl, _, rfl, by show 6 ≤ sizeLine; decide, Le.refl le.hold, _, rfl, ?_⟩⟩⟩
      show cl _ = _
      rw [show ((kk : Int) + 1) = ((kk + 1 : Nat) : Int) by omega, cl_to, cl_append]
      rfl
    · intro ws2 H' lc le hws
      exact ⟨D2, ws2, v10, v11, v12, v13, rfl, lf.trans le, lf.fresh hD2, hws, names_prefix h7' (by omega) lc.paired⟩
  -- if form == 2
  clear hf nf lf hn ws pf v10 v11 v12 v13
  rintro σ1 J1 ⟨pf, ws, v10, v11, v12, v13, rfl, lf, nf, hf, hn⟩
  refine w_cut M (w_if <| t_cmp op_eq <| w_var 3 rfl <| w_int ⟨rfl, _, rfl, ite_c (fun _ => ?_) (fun _ => w_nil ⟨pf, ws, v10, v11, v12, v13, rfl, lf, nf, hf, hn⟩)⟩) ?_
  · refine w_one <| w_setLc 9 rInt rStr G (fun _ => False) (fun k w => cl w = (cl core ++ [113, 106, 120, 113, 106]).take 5 ++ [97 + (turn + 7 * k.toNat) % 26]) 5 rfl hnd (hblk (by decide +kernel)) <|
      wi_range G gr <| w_var 1 rfl ⟨many, rfl, by omega, fun J OK xs F hok pz => ⟨lf.2.1, OK, xs, _, F, hok, pz, by rw [nats_len]; omega, fun D2 hD2 => ⟨?_, ?_⟩⟩⟩
    · rintro i a v H' ha le rfl X1 ⟨s1, h1, C1, cl1, fp1, rfl⟩
      refine ⟨Le.refl le.hold, ite_t rfl ?_⟩
      rintro X2 ⟨s2, h2, C2, cl2, fp2, rfl⟩
      obtain ⟨b0, b1⟩ := nats_mem (List.mem_of_getElem? ha)
      have q5 : (("qjxqj" : Str)).length = 5 := by decide +kernel
      have en : (turn + 7 * a.toNat) % 26 = (((turn : Int) + 7 * a) % 26).toNat := by omega
      have l5 : (cutS (core ++ "qjxqj") none (some ((5 : Nat) : Int))).length ≤ 5 := by rw [cl_len, cl_to, List.length_take]; omega
      refine w_op op_add_str <| w_slTo sl_str <| w_op op_add_str <| w_var 4 rfl <| w_str ⟨_, _, rfl, rfl, by omega, w_int ⟨_, rfl, _, rfl, by rw [apl]; omega, w_ix ix_str <| w_var 2 rfl <| w_op op_mod <| w_op op_add <| w_var 7 rfl <| w_op op_mul <| w_int <| w_var 5 rfl ⟨_, _, rfl, rfl, Or.inl ⟨by decide, by decide⟩, _, _, rfl, rfl,
        w_int ⟨_, _, rfl, rfl, (by show (0 : Int) < 26; decide), abc, _, _, rfl, rfl, by rw [abc_len]; decide, abc_at (Int.emod_nonneg _ (by decide)) (Int.emod_lt_of_pos _ (by decide)), _, _, rfl, rfl, ?_, Le.refl le.hold, _, rfl, ?_⟩⟩⟩⟩
      · show (cutS (core ++ "qjxqj") none (some ((5 : Nat) : Int))).length + 1 ≤ sizeLine
        omega
      · show cl _ = _
        rw [cl_append, show (some (5 : Int)) = some ((5 : Nat) : Int) from rfl, cl_to, cl_append, en]
        rfl
    · intro ws2 H' lc le hws
      exact ⟨D2, ws2, v10, v11, v12, v13, rfl, lf.trans le, lf.fresh hD2, hws, names_six hm8 hcore lc.paired⟩
  -- if form == 3
  clear hf nf lf hn ws pf v10 v11 v12 v13
  rintro σ1 J1 ⟨pf, ws, v10, v11, v12, v13, rfl, lf, nf, hf, hn⟩
  refine w_cut M (w_if <| t_cmp op_eq <| w_var 3 rfl <| w_int ⟨rfl, _, rfl, ite_c (fun _ => ?_) (fun _ => w_nil ⟨pf, ws, v10, v11, v12, v13, rfl, lf, nf, hf, hn⟩)⟩) ?_
  · refine w_one <| w_setLc 9 rInt rStr G (fun _ => False) (fun k w => NameOk w ∧ (cl w).getLast? = some (97 + (turn + 7 * k.toNat) % 26)) 5 rfl hnd (hblk (by decide +kernel)) <|
      wi_range G gr <| w_var 1 rfl ⟨many, rfl, by omega, fun J OK xs F hok pz => ⟨lf.2.1, OK, xs, _, F, hok, pz, by rw [nats_len]; omega, fun D2 hD2 => ⟨?_, ?_⟩⟩⟩
    · rintro i a v H' ha le rfl X1 ⟨s1, h1, C1, cl1, fp1, rfl⟩
      refine ⟨Le.refl le.hold, ite_t rfl ?_⟩
      rintro X2 ⟨s2, h2, C2, cl2, fp2, rfl⟩
      obtain ⟨b0, b1⟩ := nats_mem (List.mem_of_getElem? ha)
      have en : (turn + 7 * a.toNat) % 26 = (((turn : Int) + 7 * a) % 26).toNat := by omega
      refine w_call CA hg hr <| w_acons <| w_var 0 rfl <| w_acons <| w_ix ix_str <| w_var 2 rfl <| w_op op_mod <| w_op op_add <| w_var 7 rfl <| w_op op_mul <| w_int <| w_var 5 rfl ⟨_, _, rfl, rfl, Or.inl ⟨by decide, by decide⟩, _, _, rfl, rfl,
        w_int ⟨_, _, rfl, rfl, (by show (0 : Int) < 26; decide), abc, _, _, rfl, rfl, by rw [abc_len]; decide, abc_at (Int.emod_nonneg _ (by decide)) (Int.emod_lt_of_pos _ (by decide)), w_anil ⟨g, l, G.hold D2, _, _, rfl, dl.hold lf.2.1 hD2, le.hold, rfl, by omega, by omega, fun w H2 hw hlast le2 => ?_⟩⟩⟩
      exact ⟨le2, _, rfl, hw, by rw [hlast, en]⟩
    · intro ws2 H' lc le hws
      exact ⟨D2, ws2, v10, v11, v12, v13, rfl, lf.trans le, lf.fresh hD2, hws, names_last hm8 lc.paired⟩
  -- if form == 4
  clear hf nf lf hn ws pf v10 v11 v12 v13
  rintro σ1 J1 ⟨pf, ws, v10, v11, v12, v13, rfl, lf, nf, hf, hn⟩
  refine w_cut M (w_if <| t_cmp op_eq <| w_var 3 rfl <| w_int ⟨rfl, _, rfl, ite_c (fun _ => ?_) (fun _ => w_nil ⟨pf, ws, v10, v11, v12, v13, rfl, lf, nf, hf, hn⟩)⟩) ?_
  · obtain ⟨ws2, e2, hn2⟩ := form4 hm8
    refine w_one <| w_set 9 hnd <| w_slTo sl_list <| w_split <| w_str ⟨_, rfl, w_str ⟨_, rfl, by decide +kernel, by decide +kernel, fun p np => w_var 1 rfl ⟨_, rfl, p, _, rfl, SqL.of upd_same, fun p4 n4 => ?_⟩⟩⟩
    have l4 : Le G H (upd J1 p (.lst ((Txt.split "base left right roof some nevers allof ofany" " ").map V.str))) := lf.new np
    refine ⟨p4, ws2, v10, v11, v12, v13, rfl, l4.new n4, l4.fresh n4, ⟨p4, _, rfl, upd_same, Gh.free l4.2.1 n4, ?_⟩, hn2⟩
    rw [e2]
    exact str_paired ws2
  -- if form == 5
  clear hf nf lf hn ws pf v10 v11 v12 v13
  rintro σ1 J1 ⟨pf, ws, v10, v11, v12, v13, rfl, lf, nf, hf, hn⟩
  refine w_cut M (w_if <| t_cmp op_eq <| w_var 3 rfl <| w_int ⟨rfl, _, rfl, ite_c (fun _ => ?_) (fun _ => w_nil ⟨pf, ws, v10, v11, v12, v13, rfl, lf, nf, hf, hn⟩)⟩) ?_
  · have e7 := abc_at (r := ((turn : Int) + 7) % 26) (Int.emod_nonneg _ (by decide)) (Int.emod_lt_of_pos _ (by decide))
    have en : (((turn : Int) + 7) % 26).toNat = (turn + 7) % 26 := by omega
    rw [en] at e7
    refine w_cons <| w_par 12 13 rfl hnd <| w_acons <| w_ix ix_str <| w_var 2 rfl <| w_var 7 rfl ⟨abc, _, _, rfl, rfl, by rw [abc_len]; decide, one_at turn hturn, w_acons <| w_ix ix_str <| w_var 2 rfl <| w_op op_mod <| w_op op_add <| w_var 7 rfl <| w_int ⟨_, _, rfl, rfl, w_int ⟨_, _, rfl, rfl, (by show (0 : Int) < 26; decide),
      abc, _, _, rfl, rfl, by rw [abc_len]; decide, e7, w_anil ⟨_, _, rfl, ?_⟩⟩⟩⟩
    have b2 : 1 + 1 ≤ sizeLine := by decide
    have b3 : 2 + 1 ≤ sizeLine := by decide
    refine w_one <| w_set 9 hnd <| w_slTo sl_list <| w_lst <| w_acons <| w_var 12 rfl <| w_acons <| w_var 13 rfl <| w_acons <| w_op op_add_str <| w_var 12 rfl <| w_var 13 rfl ⟨_, _, rfl, rfl, b2, w_acons <| w_op op_add_str <| w_var 13 rfl <| w_var 12 rfl ⟨_, _, rfl, rfl, b2, w_acons <| w_op op_add_str <| w_var 12 rfl <| w_var 12 rfl ⟨_, _, rfl, rfl, b2,
      w_acons <| w_op op_add_str <| w_op op_add_str <| w_var 12 rfl <| w_var 12 rfl ⟨_, _, rfl, rfl, b2, w_var 13 rfl ⟨_, _, rfl, rfl, b3, w_acons <| w_op op_add_str <| w_op op_add_str <| w_var 12 rfl <| w_var 13 rfl ⟨_, _, rfl, rfl, b2, w_var 12 rfl ⟨_, _, rfl, rfl, b3, w_acons <| w_op op_add_str <| w_var 13 rfl <| w_var 13 rfl ⟨_, _, rfl, rfl, b2,
      w_anil ⟨by show 8 ≤ sizeLine; decide, fun p np => w_var 1 rfl ⟨_, rfl, p, _, rfl, SqL.of upd_same, fun p4 n4 => ?_⟩⟩⟩⟩⟩⟩⟩⟩⟩⟩
    obtain ⟨ws2, e2, hn2⟩ := form5 (t := turn) hturn hm8
    have l4 := lf.new (o := .lst (pqV turn)) np
    refine ⟨p4, ws2, v10, v11, _, _, rfl, l4.new n4, l4.fresh n4, ⟨p4, _, rfl, upd_same, Gh.free l4.2.1 n4, ?_⟩, hn2⟩
    have z := str_paired (G := G) (H := upd (upd J1 p (.lst (pqV turn))) p4 (.lst (cutV (pqV turn) none (some (many : Int))))) ws2
    rw [← e2] at z
    exact z
  -- return mixed(deal, found)
  clear hf nf lf hn ws pf v10 v11 v12 v13
  rintro σ1 J1 ⟨pf, ws, v10, v11, v12, v13, rfl, lf, nf, hf, hn⟩
  exact w_one <| w_ret <| w_call CM hg hr <| w_acons <| w_var 0 rfl <| w_acons <| w_var 9 rfl <| w_anil ⟨g, l, _, Str, rStr, G, ws, rfl, dl, lf.2.1, seq_lst hf, by rw [hn.len]; omega, fun bs p H' pm le np hb => k bs p H' (hn.perm pm) (lf.trans le) (lf.fresh np) hb⟩
end
end NP
set_option Elab.async false
set_option linter.all false
set_option maxRecDepth 100000
set_option maxHeartbeats 4000000
namespace NP
open PySem PySem.Spec PyProof.Rows L2
abbrev s__law_deal : Stmt := top 4
abbrev nm__law_deal : List Str := ["_law_script", "_law_base", "_law_cells", "_law_cell", "_law_number"]
theorem sc__law_deal : FnScope nm__law_deal ["_law_script", "_law_base"] (defScope s__law_deal) := ⟨rfl, rfl, rfl, by decide +kernel, rfl, by decide +kernel, by decide +kernel⟩
def spDeal (K : PySem.W.Frag) : Sp := fun vs H Q _ => ∃ (a : Addr) (ns : List Int) (b : Nat), vs = [.ref a, .int b] ∧ SqL K H a (ns.map V.int) ∧ ns.length ≤ 63 ∧ b ≤ 100 ∧
  ∀ (g l : Addr) H', H g = none → H l = none → Same H H' → DealAt g l H' → Q (.ref g) H'
theorem cutV_map {α : Type} (f : α → V) (xs : List α) (lo hi : Option Int) : cutV (xs.map f) lo hi = (((xs.drop (HT.sIx xs.length 0 lo)).take (HT.sIx xs.length xs.length hi - HT.sIx xs.length 0 lo))).map f := by
  unfold cutV
  rw [List.length_map, List.map_take, List.map_drop]
section
variable {P : Program} {w : World} {K : PySem.W.Frag} {mg : Str → Option Value} {base : Heap} {f : Addr} {fd : FuncData}
theorem ok_deal (F : FnP K "_law_deal" s__law_deal f fd) (gm : mg "max" = none) (gli : mg "list" = none) (grv : mg "reversed" = none) : FnG P w K mg base CX0 1 f fd ["_law_script", "_law_base"] (spDeal K) := by
  refine def_ok F sc__law_deal (fun vs H Q E h => ?_) ?_
  · obtain ⟨a, ns, b, rfl, _⟩ := h; rfl
  rintro _ vs H Q E ⟨cdv, A0, out, s, rfl⟩ hg hr ⟨a, ns, b, rfl, hS, hl, hb, k⟩
  have hnd := sc__law_deal.nd
  have hblk : ∀ {scope : Scope}, blkC nm__law_deal (defScope s__law_deal) scope [("_law_cell", 3)] = true → BlkOk nm__law_deal (defScope s__law_deal) scope [("_law_cell", 3)] := fun h => blkOk_by h
  have G0 : Gh.none.ok H := trivial
  -- cells = [max(cell, 0 - cell) for cell in script[base:63]]
  refine w_cut (fun σ' H' => ∃ (pc : Addr) (cs : List Int), σ' = [some (.ref a), some (.int b), some (.ref pc), none, none] ∧ Le Gh.none H H' ∧ (rLst rInt).is Gh.none H' (.ref pc) cs ∧ cs.length ≤ 63 ∧ ∀ c ∈ cs, 0 ≤ c)
    (w_setLc 2 rInt rInt Gh.none (fun _ => False) (fun _ c => 0 ≤ c) 3 rfl hnd (hblk (by decide +kernel)) <| wi_seq rInt Gh.none <| w_sl sl_list <| w_var 0 rfl <| w_var 1 rfl ⟨_, rfl, w_int ⟨_, rfl, a, _, rfl, hS, fun p np => ?_⟩⟩) ?_
  · rw [cutV_map]
    generalize hcs : (ns.drop (HT.sIx ns.length 0 (some (b : Int)))).take (HT.sIx ns.length ns.length (some 63) - HT.sIx ns.length 0 (some (b : Int))) = cut
    have lcut : cut.length ≤ 63 := by rw [← hcs, List.length_take, List.length_drop]; omega
    have l1 : Le Gh.none H (upd H p (.lst (cut.map V.int))) := (Le.refl G0).new np
    refine ⟨cut, ⟨p, _, rfl, Or.inl ⟨upd_same, id⟩, int_paired cut⟩, fun J OK xs F hok pz => ⟨l1.2.1, OK, xs, _, F, hok, pz, by omega, fun D hD => ⟨?_, ?_⟩⟩⟩
    · rintro i c v H' hc le rfl X1 ⟨s1, h1, C1, cl1, fp1, rfl⟩
      refine ⟨Le.refl le.hold, ite_t rfl ?_⟩
      rintro X2 ⟨s2, h2, C2, cl2, fp2, rfl⟩
      refine w_callB (call_max2 rfl) gm boot_max <| w_acons <| w_var 3 rfl <| w_acons <| w_op op_sub <| w_int <| w_var 3 rfl ⟨_, _, rfl, rfl, w_anil ⟨_, _, rfl, Le.refl le.hold, _, rfl, ?_⟩⟩
      show 0 ≤ if 0 - c > c then 0 - c else c
      split <;> omega
    · intro bs H' lc le hb
      exact ⟨D, bs, rfl, l1.trans le, hb, Nat.le_trans lc.len lcut, paired_all (P := fun c : Int => 0 ≤ c) (fun _ _ q => q) lc.paired⟩
  rintro σ1 H1 ⟨pc, cs, rfl, le1, hcs, lcs, pos⟩
  -- number = 6143 + base; for cell in cells: ..
  refine w_cons <| w_set 4 hnd <| w_op op_add <| w_int <| w_var 1 rfl ⟨_, _, rfl, rfl, ?_⟩
  refine w_cut (fun σ' H' => ∃ (n : Int) (cv : Option V), σ' = [some (.ref a), some (.int b), some (.ref pc), cv, some (.int n)] ∧ Le Gh.none H1 H' ∧ 0 ≤ n ∧ n < 2147483648)
    (w_for PassesOwn.never rfl (pg_name (i := 3) hnd rfl (Or.inl rfl)) <| wi_seq rInt Gh.none <| w_var 2 rfl ⟨cs, seq_lst hcs, fun J OK xs F hok pz => ⟨OK, xs, F, fun i σ' H' => ∃ (n : Int) (cv : Option V), σ' = [some (.ref a), some (.int b), some (.ref pc), cv, some (.int n)] ∧ Le Gh.none H1 H' ∧ 0 ≤ n ∧ n < 2147483648,
      ⟨_, none, rfl, Le.refl le1.2.1, by omega, by omega⟩, fun i σ' H' ⟨n, cv, _, le, _⟩ => hok H' le, ?_, fun σ' H' z => z⟩⟩) ?_
  · rintro i x σ' H' hx ⟨n, cv, rfl, le, n0, n1⟩
    obtain ⟨c, hc, rfl⟩ := paired_get pz hx
    refine w_one <| w_set 4 hnd <| w_op op_mod <| w_op op_add <| w_op op_mul <| w_var 4 rfl <| w_int ⟨_, _, rfl, rfl, Or.inl ⟨by omega, by omega⟩, w_op op_mod <| w_var 3 rfl <| w_int ⟨_, _, rfl, rfl, (by show (0 : Int) < 2147483629; decide), _, _, rfl, rfl, w_int ⟨_, _, rfl, rfl, (by show (0 : Int) < 2147483647; decide), _, _, rfl, le, ?_, ?_⟩⟩⟩
    · exact Int.emod_nonneg _ (by decide)
    · exact Int.lt_trans (Int.emod_lt_of_pos _ (by decide)) (by decide)
  rintro σ2 H2 ⟨n, cv, rfl, le2, n0, n1⟩
  have hcs2 : (rLst rInt).is Gh.none H2 (.ref pc) cs := (rLst rInt).mono le2 hcs
  -- return {'seed': number, 'number': 0, 'left': list(reversed([cell for cell in cells if cell >= 10 ** 18]))}
  refine w_one <| w_ret <| W.of (pe_disp (pps_cons W.pe W.pe (pps_cons W.pe W.pe (pps_cons W.pe W.pe pps_nil))) rfl rfl (by simp) (by show 3 ≤ 15; decide)) ?_
  intro g ng
  have leg : Le Gh.none H2 (upd H2 g (.dK [])) := (Le.refl le2.2.1).new ng
  refine w_str <| w_var 4 rfl <| w_str <| w_int <| w_str <| W.of (pe_listRev rfl rfl gli rfl grv W.pe) <| w_lc rInt rInt Gh.none (fun _ => True) (fun c d => d = c) 3 rfl hnd (hblk (by decide +kernel)) <| wi_seq rInt Gh.none <| w_var 2 rfl ⟨cs, seq_lst ((rLst rInt).mono leg hcs2), fun J OK xs F hok pz => ⟨trivial, OK, xs, _, F, hok, pz, by omega, fun D hD => ⟨?_, ?_⟩⟩⟩
  · rintro i c v H' hc le rfl X1 ⟨s1, h1, C1, cl1, fp1, rfl⟩
    refine t_cmp op_ge <| w_var 3 rfl <| w_op op_pow <| w_int <| w_int ⟨_, _, rfl, rfl, ⟨by decide, by decide, by decide⟩, _, _, rfl, rfl, _, rfl, Le.refl le.hold, ite_c (fun _ => ?_) (fun _ => trivial)⟩
    rintro X2 ⟨s2, h2, C2, cl2, fp2, rfl⟩
    exact w_var 3 rfl ⟨Le.refl le.hold, _, rfl, rfl⟩
  · rintro bs H3 lc le3 ⟨t, ys, e, ht, _, hp⟩
    cases e
    obtain rfl := paired_int hp
    have pb : ∀ x ∈ bs, 0 ≤ x := by
      have gen : ∀ {as bs : List Int}, LC (fun _ => True) (fun c d : Int => d = c) as bs → (∀ c ∈ as, 0 ≤ c) → ∀ x ∈ bs, 0 ≤ x := by
        intro as bs h
        induction h with
        | nil => intro _ x hx; cases hx
        | skip _ _ ih => intro ha; exact ih fun c hc => ha c (List.mem_append_left _ hc)
        | @take as bs a b _ e ih =>
          intro ha x hx
          rcases List.mem_append.mp hx with hx | hx
          · exact ih (fun c hc => ha c (List.mem_append_left _ hc)) x hx
          · have : x = b := by simpa using hx
            rw [this, e]
            exact ha a (by simp)
      exact gen lc pos
    refine ⟨D, _, rfl, SqL.of ht, fun l nl => ?_⟩
    have leA : Le Gh.none H (upd H2 g (.dK [])) := (le1.trans le2).trans leg
    have hg3 : H3 g = some (.dK []) := le3.2.2 g _ upd_same id
    have gl : g ≠ l := ne_of_none hg3 nl
    refine ⟨by rw [upd_ne gl]; exact hg3, dealKv l n 0, rfl, by show 3 ≤ 15; decide, ?_⟩
    rw [deal_merge]
    have ng0 : H g = none := (le1.trans le2).fresh ng
    have nl0 : H l = none := (leA.trans le3).fresh nl
    refine k g l _ ng0 nl0 (fun x o e => ?_) ⟨n, 0, bs.reverse, ⟨upd_same, ?_, n0, n1, Int.le_refl 0, fun x hx => pb x (List.mem_reverse.mp hx)⟩⟩
    · rw [upd_ne (ne_of_none e ng0), upd_ne (ne_of_none e nl0)]
      exact (leA.trans le3).2.2 x o e id
    · rw [upd_ne (Ne.symm gl), upd_same, ← List.map_reverse]
end
end NP
set_option Elab.async false
set_option linter.all false
set_option maxRecDepth 100000
set_option maxHeartbeats 4000000
namespace NP
open PySem PySem.Spec PyProof.Rows L2
/-! ### deeds -/
inductive Dd where
  | put (n : Str) | take (n : Str) | prop (n : Str) | unprop
def Dd.enc : Dd → List Str
  | .put n => ["put", n]
  | .take n => ["take", n]
  | .prop n => ["prop", n]
  | .unprop => ["unprop"]
def rDeed (K : PySem.W.Frag) : Rp Dd := (rTup K rStr).via Dd.enc
def dStep (p : Int × Int) : Dd → Int × Int
  | .prop _ => (if p.2 + 1 > p.1 then p.2 + 1 else p.1, p.2 + 1)
  | .unprop => (p.1, p.2 - 1)
  | _ => p
def depthOf (ds : List Dd) : Int := (ds.foldl dStep (0, 0)).1
def rStep (p : List Dd × List Str) : Dd → List Dd × List Str
  | .put n => (p.1 ++ [.take n], p.2)
  | .take n => (p.1 ++ [.put n], p.2)
  | .prop n => (p.1 ++ [.unprop], p.2 ++ [n])
  | .unprop => (p.1 ++ [.prop (p.2.getLast?.getD "")], p.2.dropLast)
def Bal : List Str → List Dd → Prop
  | _, [] => True
  | p, .prop n :: r => Bal (p ++ [n]) r
  | p, .unprop :: r => p ≠ [] ∧ Bal p.dropLast r
  | p, .put _ :: r => Bal p r
  | p, .take _ :: r => Bal p r
def revOf (ds : List Dd) : List Dd := (ds.foldl rStep ([], [])).1.reverse
def spDepth (K : PySem.W.Frag) : Sp := fun vs H Q _ => ∃ (G : Gh) (v : V) (ds : List Dd), vs = [v] ∧ G.ok H ∧ (rSeq K (rDeed K)).is G H v ds ∧ ds.length ≤ 100000 ∧ ∀ H', Le G H H' → Q (.int (depthOf ds)) H'
def spReverse (K : PySem.W.Frag) : Sp := fun vs H Q _ => ∃ (G : Gh) (v : V) (ds : List Dd), vs = [v] ∧ G.ok H ∧ (rSeq K (rDeed K)).is G H v ds ∧ ds.length ≤ 100000 ∧ Bal [] ds ∧ ∀ (u : V) H', Le G H H' → (rTup K (rDeed K)).is G H' u (revOf ds) → Q u H'
abbrev s_depth_of : Stmt := top 1
theorem sc_depth_of : FnScope ["deeds", "most", "many", "word", "names"] ["deeds"] (defScope s_depth_of) := ⟨rfl, rfl, rfl, by decide +kernel, rfl, by decide +kernel, by decide +kernel⟩
abbrev s_reverse_of : Stmt := top 2
theorem sc_reverse_of : FnScope ["deeds", "found", "props", "word", "names"] ["deeds"] (defScope s_reverse_of) := ⟨rfl, rfl, rfl, by decide +kernel, rfl, by decide +kernel, by decide +kernel⟩
theorem foldl_snoc {α β : Type} (f : α → β → α) (a : α) {l : List β} {i : Nat} {x : β} (h : l[i]? = some x) : (l.take (i + 1)).foldl f a = f ((l.take i).foldl f a) x := by rw [take_snoc h, List.foldl_append]; rfl
section
variable {P : Program} {w : World} {K : PySem.W.Frag} {mg : Str → Option Value} {base : Heap} {f : Addr} {fd : FuncData}
theorem deed_parts {G : Gh} {H : Hp} {v : V} {d : Dd} (h : (rDeed K).is G H v d) : ∃ t, v = .ref t ∧ SqT K H t (d.enc.map V.str) := by
  obtain ⟨t, xs, e, hs, p⟩ := h
  exact ⟨t, e, by rw [← paired_str p]; exact hs⟩
theorem deed_word (d : Dd) : ∃ x xs, d.enc = x :: xs := by cases d <;> exact ⟨_, _, rfl⟩
theorem ok_depth_of (F : FnP K "depth_of" s_depth_of f fd) (gm : mg "max" = none) : FnG P w K mg base CX0 1 f fd ["deeds"] (spDepth K) := by
  refine def_ok F sc_depth_of (fun vs H Q E h => ?_) ?_
  · obtain ⟨G, v, ds, rfl, _⟩ := h; rfl
  rintro _ vs H Q E ⟨cdv, A0, out, s, rfl⟩ hg hr ⟨G, v, ds, rfl, gok, hv, hz, k⟩
  have hnd := sc_depth_of.nd
  refine w_cons <| WS.of (ps_asg2 W.pe (pg_name (i := 1) hnd rfl (Or.inl rfl)) (pg_name (i := 2) hnd rfl (Or.inl rfl))) <| w_int ?_
  refine w_cut (fun σ' H' => ∃ (m n : Int) (a b : Option V), σ' = [some v, some (.int m), some (.int n), a, b] ∧ Le G H H' ∧ ds.foldl dStep (0, 0) = (m, n))
    (w_for PassesOwn.never rfl (pg_star rfl (pg_name (i := 3) hnd rfl (Or.inl rfl)) (pg_name (i := 4) hnd rfl (Or.inl rfl))) <| wi_seq (rDeed K) G <| w_var 0 rfl ⟨ds, hv, fun J OK xs F hok pz => ⟨OK, xs, F, fun i σ' H' => ∃ (m n : Int) (a b : Option V), σ' = [some v, some (.int m), some (.int n), a, b] ∧ Le G H H' ∧ (ds.take i).foldl dStep (0, 0) = (m, n),
      ⟨0, 0, none, none, rfl, Le.refl gok, by simp⟩, fun i σ' H' ⟨_, _, _, _, _, le, _⟩ => hok H' le, ?_, ?_⟩⟩) ?_
  · rintro i x σ' H' hx ⟨m, n, a, b, rfl, le, e⟩
    obtain ⟨d, hd, hxd⟩ := paired_get pz hx
    obtain ⟨t, rfl, ht⟩ := deed_parts ((rDeed K).mono le hxd)
    obtain ⟨wd, ws, ew⟩ := deed_word d
    rw [ew] at ht
    refine ⟨t, _, _, rfl, ht, fun p np => ?_⟩
    have lep : Le G H (upd H' p (.lst (ws.map V.str))) := le.new np
    have fs := foldl_snoc dStep (0, 0) hd
    rw [e] at fs
    cases d with
    | put nm =>
      cases ew
      refine w_one <| w_if <| t_cmp op_eq <| w_var 3 rfl <| w_str ⟨rfl, _, rfl, ite_f (by decide +kernel) <| w_one <| w_if <| t_cmp op_eq <| w_var 3 rfl <| w_str ⟨rfl, _, rfl, ite_f (by decide +kernel) <| w_nil ⟨m, n, _, _, rfl, lep, fs⟩⟩⟩
    | take nm =>
      cases ew
      refine w_one <| w_if <| t_cmp op_eq <| w_var 3 rfl <| w_str ⟨rfl, _, rfl, ite_f (by decide +kernel) <| w_one <| w_if <| t_cmp op_eq <| w_var 3 rfl <| w_str ⟨rfl, _, rfl, ite_f (by decide +kernel) <| w_nil ⟨m, n, _, _, rfl, lep, fs⟩⟩⟩
    | prop nm =>
      cases ew
      refine w_one <| w_if <| t_cmp op_eq <| w_var 3 rfl <| w_str ⟨rfl, _, rfl, ite_t (by decide +kernel) <| w_cons <| WS.of (ps_aug (i := 2) hnd rfl (Or.inl rfl) W.pe ip_add) ⟨_, rfl, w_int ⟨_, _, rfl, rfl, w_one <| w_set 1 hnd <| w_callB (call_max2 rfl) gm boot_max <| w_acons <| w_var 1 rfl <| w_acons <| w_var 2 rfl <| w_anil ⟨_, _, rfl, _, _, _, _, rfl, lep, fs⟩⟩⟩⟩
    | unprop =>
      cases ew
      refine w_one <| w_if <| t_cmp op_eq <| w_var 3 rfl <| w_str ⟨rfl, _, rfl, ite_f (by decide +kernel) <| w_one <| w_if <| t_cmp op_eq <| w_var 3 rfl <| w_str ⟨rfl, _, rfl, ite_t (by decide +kernel) <| w_one <| WS.of (ps_aug (i := 2) hnd rfl (Or.inl rfl) W.pe ip_sub) ⟨_, rfl, w_int ⟨_, _, rfl, rfl, _, _, _, _, rfl, lep, fs⟩⟩⟩⟩
  · rintro σ' H' ⟨m, n, a, b, e, le, fs⟩
    rw [paired_len pz, List.take_length] at fs
    exact ⟨m, n, a, b, e, le, fs⟩
  rintro σ' H' ⟨m, n, a, b, rfl, le, fs⟩
  refine w_one <| w_ret <| w_var 1 rfl ?_
  have e : depthOf ds = m := by unfold depthOf; rw [fs]
  rw [← e]
  exact k H' le
end
end NP
set_option Elab.async false
set_option linter.all false
set_option maxRecDepth 100000
set_option maxHeartbeats 4000000
namespace NP
open PySem PySem.Spec PyProof.Rows L2
theorem bal_split : ∀ (p : List Str) (a b : List Dd) (f : List Dd), Bal p (a ++ b) → Bal p a ∧ Bal (a.foldl rStep (f, p)).2 b
  | p, [], b, f, h => ⟨trivial, h⟩
  | p, .put n :: a, b, f, h => bal_split p a b _ h
  | p, .take n :: a, b, f, h => bal_split p a b _ h
  | p, .prop n :: a, b, f, h => bal_split (p ++ [n]) a b _ h
  | p, .unprop :: a, b, f, h => ⟨⟨h.1, (bal_split p.dropLast a b (f ++ [.prop (p.getLast?.getD "")]) h.2).1⟩, (bal_split p.dropLast a b (f ++ [.prop (p.getLast?.getD "")]) h.2).2⟩
section
variable {P : Program} {w : World} {K : PySem.W.Frag} {mg : Str → Option Value} {base : Heap} {f : Addr} {fd : FuncData}
/-- a new deed -/
theorem deed_new {G : Gh} {H : Hp} {p : Addr} (d : Dd) : (rDeed K).is G (upd H p (.tup (d.enc.map V.str))) (.ref p) d := ⟨p, _, rfl, SqT.of upd_same, str_paired _⟩
theorem ok_reverse_of (F : FnP K "reverse_of" s_reverse_of f fd) (gt : mg "tuple" = none) : FnG P w K mg base CX0 1 f fd ["deeds"] (spReverse K) := by
  refine def_ok F sc_reverse_of (fun vs H Q E h => ?_) ?_
  · obtain ⟨G, v, ds, rfl, _⟩ := h; rfl
  rintro _ vs H Q E ⟨cdv, A0, out, s, rfl⟩ hg hr ⟨G, v, ds, rfl, gok, hv, hz, hbal, k⟩
  have hnd := sc_reverse_of.nd
  refine w_cons <| w_par 1 2 rfl hnd <| w_acons <| w_lst <| w_anil ⟨by show 0 ≤ sizeLine; decide, fun p1 n1 => w_acons <| w_lst <| w_anil ⟨by show 0 ≤ sizeLine; decide, fun p2 n2 => w_anil ⟨_, _, rfl, ?_⟩⟩⟩
  have ok1 : (G.add p1).ok (upd H p1 (.lst [])) := add_ok gok n1 trivial
  have ok2 : ((G.add p1).add p2).ok (upd (upd H p1 (.lst [])) p2 (.lst [])) := add_ok ok1 n2 trivial
  have np1 : ¬ G.av p1 := G.free gok n1
  have np2 : ¬ (G.add p1).av p2 := Gh.free ok1 n2
  have ne12 : p1 ≠ p2 := fun e => np2 (Or.inr e.symm)
  have toG : ∀ {H'}, Le ((G.add p1).add p2) (upd (upd H p1 (.lst [])) p2 (.lst [])) H' → Le G H H' := fun le => (le.drop (Le.refl ok1) n2 rfl).drop (Le.refl gok) n1 rfl
  have hv2 : (rSeq K (rDeed K)).is ((G.add p1).add p2) (upd (upd H p1 (.lst [])) p2 (.lst [])) v ds := (rSeq K (rDeed K)).on n2 ((rSeq K (rDeed K)).on n1 hv)
  -- what holds ahead of each turn
  let M : Nat → L2.St → Hp → Prop := fun i σ' H' => ∃ (a b : Option V) (fs : List Dd) (ps : List Str) (xs : List V), σ' = [some v, some (.ref p1), some (.ref p2), a, b] ∧ Le ((G.add p1).add p2) (upd (upd H p1 (.lst [])) p2 (.lst [])) H' ∧ (ds.take i).foldl rStep ([], []) = (fs, ps) ∧
    H' p1 = some (.lst xs) ∧ Paired ((rDeed K).is ((G.add p1).add p2) H') xs fs ∧ H' p2 = some (.lst (ps.map V.str)) ∧ fs.length ≤ i ∧ ps.length ≤ i
  -- either list changes
  have set1 : ∀ {H1 : Hp} {o : HO}, ((G.add p1).add p2).ok H1 → Mut (some o) → Le ((G.add p1).add p2) H1 (upd H1 p1 o) := by
    intro H1 o h m
    refine ⟨h, ⟨⟨G.keep (fun x z => upd_ne (fun e => np1 (e ▸ z))) h.1.1, by rw [upd_same]; exact m⟩, by rw [upd_ne (Ne.symm ne12)]; exact h.2⟩, fun x u e z => ?_⟩
    rw [upd_ne (fun e => z (Or.inl (Or.inr e)))]
    exact e
  have set2 : ∀ {H1 : Hp} {o : HO}, ((G.add p1).add p2).ok H1 → Mut (some o) → Le ((G.add p1).add p2) H1 (upd H1 p2 o) := fun h m => (Le.refl h).set np2 m
  refine w_cut (M ds.length) (w_for PassesOwn.never rfl (pg_star rfl (pg_name (i := 3) hnd rfl (Or.inl rfl)) (pg_name (i := 4) hnd rfl (Or.inl rfl))) <| wi_seq (rDeed K) ((G.add p1).add p2) <| w_var 0 rfl ⟨ds, hv2, fun J OK xs F hok pz => ⟨OK, xs, F, M,
      ⟨none, none, [], [], [], rfl, Le.refl ok2, by simp, by rw [upd_ne ne12, upd_same], .nil, upd_same, Nat.le_refl _, Nat.le_refl _⟩, fun i σ' H' ⟨_, _, _, _, _, _, le, _⟩ => hok H' le, ?_, ?_⟩⟩) ?_
  · rintro i x σ' H' hx ⟨a, b, fs, ps, ys, rfl, le, e, h1, hp, h2, lf, lps⟩
    obtain ⟨d, hd, hxd⟩ := paired_get pz hx
    obtain ⟨t, rfl, ht⟩ := deed_parts ((rDeed K).mono le hxd)
    have hi : i < ds.length := (List.getElem?_eq_some_iff.mp hd).1
    have hbal2 : Bal ps (d :: ds.drop (i + 1)) := by
      have e1 : ds = ds.take i ++ d :: ds.drop (i + 1) := by
        have := List.take_append_drop (i + 1) ds
        rw [take_snoc hd, List.append_assoc] at this
        exact this.symm
      rw [e1] at hbal
      have := (bal_split [] _ _ [] hbal).2
      rw [e] at this
      exact this
    have big : (100000 : Nat) < sizeLine := by decide
    have lfs : ys.length < sizeLine := by rw [paired_len hp]; omega
    have fsn := foldl_snoc rStep ([], []) hd
    rw [e] at fsn
    -- a deed is appended to found
    have fin : ∀ {H1 : Hp} {q : Addr} {d' : Dd} {ps' : List Str} {a b : Option V}, Le ((G.add p1).add p2) H' H1 → (rDeed K).is ((G.add p1).add p2) H1 (.ref q) d' → rStep (fs, ps) d = (fs ++ [d'], ps') → H1 p2 = some (.lst (ps'.map V.str)) → ps'.length ≤ i + 1 →
        M (i + 1) [some v, some (.ref p1), some (.ref p2), a, b] (upd H1 p1 (.lst (ys ++ [.ref q]))) := by
      intro H1 q d' ps' a b l1 hq er hp2 lp
      have st := set1 (o := .lst (ys ++ [.ref q])) l1.2.1 trivial
      refine ⟨a, b, fs ++ [d'], ps', ys ++ [.ref q], rfl, (le.trans l1).trans st, by rw [fsn, er], upd_same, ?_, by rw [upd_ne (Ne.symm ne12)]; exact hp2, by rw [List.length_append]; show fs.length + 1 ≤ i + 1; omega, lp⟩
      exact paired_app (pmap hp fun _ _ z => (rDeed K).mono (l1.trans st) z) (.cons ((rDeed K).mono st hq) .nil)
    cases d with
    | put nm =>
      refine ⟨t, _, _, rfl, ht, fun pn nn => ?_⟩
      have l1 := (Le.refl le.2.1).new (o := .lst [V.str nm]) nn
      have e1 : (upd H' pn (.lst [V.str nm])) p1 = some (.lst ys) := by rw [upd_ne (ne_of_none h1 nn)]; exact h1
      have e2 : (upd H' pn (.lst [V.str nm])) p2 = some (.lst (ps.map V.str)) := by rw [upd_ne (ne_of_none h2 nn)]; exact h2
      refine w_one <| w_if <| t_cmp op_eq <| w_var 3 rfl <| w_str ⟨rfl, _, rfl, ite_t (by decide +kernel) <| w_one <| w_append (l := p1) (xs := ys) <| w_var 1 rfl ⟨rfl, e1, w_tup <| w_acons <| w_str <| w_acons <| w_ix ix_list <| w_var 4 rfl <| w_int ⟨pn, _, _, _, rfl, rfl, SqL.of upd_same, rfl, w_anil ⟨by show 2 ≤ sizeLine; decide, fun q nq => ⟨ys, ?_, lfs, ?_⟩⟩⟩⟩⟩
      · rw [upd_ne (ne_of_none e1 nq)]; exact e1
      · exact fin (ps' := ps) (l1.new nq) (deed_new (.take nm)) rfl (by rw [upd_ne (ne_of_none e2 nq)]; exact e2) (by omega)
    | take nm =>
      refine ⟨t, _, _, rfl, ht, fun pn nn => ?_⟩
      have l1 := (Le.refl le.2.1).new (o := .lst [V.str nm]) nn
      have e1 : (upd H' pn (.lst [V.str nm])) p1 = some (.lst ys) := by rw [upd_ne (ne_of_none h1 nn)]; exact h1
      have e2 : (upd H' pn (.lst [V.str nm])) p2 = some (.lst (ps.map V.str)) := by rw [upd_ne (ne_of_none h2 nn)]; exact h2
      refine w_one <| w_if <| t_cmp op_eq <| w_var 3 rfl <| w_str ⟨rfl, _, rfl, ite_f (by decide +kernel) <| w_one <| w_if <| t_cmp op_eq <| w_var 3 rfl <| w_str ⟨rfl, _, rfl, ite_t (by decide +kernel) <| w_one <| w_append (l := p1) (xs := ys) <| w_var 1 rfl ⟨rfl, e1, w_tup <| w_acons <| w_str <| w_acons <| w_ix ix_list <| w_var 4 rfl <| w_int ⟨pn, _, _, _, rfl, rfl, SqL.of upd_same, rfl, w_anil ⟨by show 2 ≤ sizeLine; decide, fun q nq => ⟨ys, ?_, lfs, ?_⟩⟩⟩⟩⟩⟩
      · rw [upd_ne (ne_of_none e1 nq)]; exact e1
      · exact fin (ps' := ps) (l1.new nq) (deed_new (.put nm)) rfl (by rw [upd_ne (ne_of_none e2 nq)]; exact e2) (by omega)
    | prop nm =>
      refine ⟨t, _, _, rfl, ht, fun pn nn => ?_⟩
      have l1 := (Le.refl le.2.1).new (o := .lst [V.str nm]) nn
      have e1 : (upd H' pn (.lst [V.str nm])) p1 = some (.lst ys) := by rw [upd_ne (ne_of_none h1 nn)]; exact h1
      have e2 : (upd H' pn (.lst [V.str nm])) p2 = some (.lst (ps.map V.str)) := by rw [upd_ne (ne_of_none h2 nn)]; exact h2
      have l2 := l1.trans (set2 (o := .lst (ps.map V.str ++ [V.str nm])) l1.2.1 trivial)
      have e3 : (upd (upd H' pn (.lst [V.str nm])) p2 (.lst (ps.map V.str ++ [V.str nm]))) p1 = some (.lst ys) := by rw [upd_ne ne12]; exact e1
      refine w_one <| w_if <| t_cmp op_eq <| w_var 3 rfl <| w_str ⟨rfl, _, rfl, ite_f (by decide +kernel) <| w_one <| w_if <| t_cmp op_eq <| w_var 3 rfl <| w_str ⟨rfl, _, rfl, ite_f (by decide +kernel) <| w_one <| w_if <| t_cmp op_eq <| w_var 3 rfl <| w_str ⟨rfl, _, rfl, ite_t (by decide +kernel) <| w_cons <|
        w_append (l := p2) (xs := ps.map V.str) <| w_var 2 rfl ⟨rfl, e2, w_ix ix_list <| w_var 4 rfl <| w_int ⟨pn, _, _, _, rfl, rfl, SqL.of upd_same, rfl, _, e2, by rw [List.length_map]; omega, w_one <| w_append (l := p1) (xs := ys) <| w_var 1 rfl ⟨rfl, e3, w_tup <| w_acons <| w_str <| w_anil ⟨by show 1 ≤ sizeLine; decide, fun q nq => ⟨ys, ?_, lfs, ?_⟩⟩⟩⟩⟩⟩⟩⟩
      · rw [upd_ne (ne_of_none e3 nq)]; exact e3
      · refine fin (ps' := ps ++ [nm]) (l2.new nq) (deed_new .unprop) rfl ?_ (by rw [List.length_append]; show ps.length + 1 ≤ i + 1; omega)
        have e4 : (upd (upd H' pn (.lst [V.str nm])) p2 (.lst (ps.map V.str ++ [V.str nm]))) p2 = some (.lst (ps.map V.str ++ [V.str nm])) := upd_same
        exact (upd_ne (ne_of_none e4 nq)).trans (e4.trans (by rw [List.map_append]; rfl))
    | unprop =>
      refine ⟨t, _, _, rfl, ht, fun pn nn => ?_⟩
      obtain ⟨qs, z, rfl⟩ : ∃ qs z, ps = qs ++ [z] := ⟨ps.dropLast, ps.getLast hbal2.1, (List.dropLast_concat_getLast hbal2.1).symm⟩
      have l1 := (Le.refl le.2.1).new (o := .lst []) nn
      have e1 : (upd H' pn (.lst [])) p1 = some (.lst ys) := by rw [upd_ne (ne_of_none h1 nn)]; exact h1
      have e2 : (upd H' pn (.lst [])) p2 = some (.lst ((qs ++ [z]).map V.str)) := by rw [upd_ne (ne_of_none h2 nn)]; exact h2
      have ex : ((qs ++ [z]).map V.str)[((qs ++ [z]).map V.str).length - 1]? = some (.str z) := by simp
      have ed : ((qs ++ [z]).map V.str).dropLast = qs.map V.str := by simp
      have l2 := l1.trans (set2 (o := .lst (qs.map V.str)) l1.2.1 trivial)
      have e3 : (upd (upd H' pn (.lst [])) p2 (.lst (qs.map V.str))) p1 = some (.lst ys) := by rw [upd_ne ne12]; exact e1
      refine w_one <| w_if <| t_cmp op_eq <| w_var 3 rfl <| w_str ⟨rfl, _, rfl, ite_f (by decide +kernel) <| w_one <| w_if <| t_cmp op_eq <| w_var 3 rfl <| w_str ⟨rfl, _, rfl, ite_f (by decide +kernel) <| w_one <| w_if <| t_cmp op_eq <| w_var 3 rfl <| w_str ⟨rfl, _, rfl, ite_f (by decide +kernel) <| w_one <|
        w_append (l := p1) (xs := ys) <| w_var 1 rfl ⟨rfl, e1, w_tup <| w_acons <| w_str <| w_acons <| w_bm0 PySem.F.plainAttrs_list PySem.F.slot_list_pop PySem.F.type_list_pop mt_pop <| w_var 2 rfl ⟨Or.inl ⟨rfl, _, SqL.of e2⟩, p2, _, _, rfl, rfl, e2, ex, ?_⟩⟩⟩⟩⟩
      rw [ed]
      refine w_anil ⟨by show 2 ≤ sizeLine; decide, fun q nq => ⟨ys, ?_, lfs, ?_⟩⟩
      · rw [upd_ne (ne_of_none e3 nq)]; exact e3
      · refine fin (ps' := qs) (l2.new nq) (deed_new (.prop z)) (by simp [rStep]) ?_ (by rw [List.length_append] at lps; have : qs.length + 1 ≤ i := lps; omega)
        have e4 : (upd (upd H' pn (.lst [])) p2 (.lst (qs.map V.str))) p2 = some (.lst (qs.map V.str)) := upd_same
        exact (upd_ne (ne_of_none e4 nq)).trans e4
  · rintro σ' H' z
    rw [paired_len pz] at z
    exact z
  rintro σ' H' ⟨a, b, fs, ps, ys, rfl, le, e, h1, hp, h2, lf, lps⟩
  rw [List.take_length] at e
  -- return tuple(found[::-1])
  refine w_one <| w_ret <| w_callTy call_tuple_of gt boot_tuple <| w_acons <| W.of (pe_revL W.pe) <| w_var 1 rfl ⟨p1, ys, rfl, SqL.of h1, fun q nq => w_anil ⟨q, _, rfl, Or.inl ⟨SqL.of upd_same, fun u nu => ?_⟩⟩⟩
  have l2 := ((toG le).new (o := .lst ys.reverse) nq).new (o := .tup ys.reverse) nu
  have lz : Le ((G.add p1).add p2) H' (upd (upd H' q (.lst ys.reverse)) u (.tup ys.reverse)) := ((Le.refl le.2.1).new nq).new nu
  refine k _ _ l2 ⟨u, _, rfl, SqT.of upd_same, ?_⟩
  unfold revOf
  rw [e]
  exact pmap (paired_rev hp) fun _ _ z => (rDeed K).off ((rDeed K).off ((rDeed K).mono lz z))
end
end NP
set_option Elab.async false
set_option linter.all false
set_option maxRecDepth 100000
set_option maxHeartbeats 4000000
namespace NP
open PySem PySem.Spec PyProof.Rows L2
abbrev s__law_drawn : Stmt := top 9
abbrev nm__law_drawn : List Str := ["_law_deal_here", "_law_names", "_law_found", "_law_back", "_law_stack", "_law_most", "_law_turn", "_law_form", "_law_name"]
theorem sc__law_drawn : FnScope nm__law_drawn ["_law_deal_here", "_law_names"] (defScope s__law_drawn) := ⟨rfl, rfl, rfl, by decide +kernel, rfl, by decide +kernel, by decide +kernel⟩
def Dd.names : Dd → List Str
  | .put n => [n]
  | .take n => [n]
  | .prop n => [n]
  | .unprop => []
/-- a drawn script -/
structure Drawn (ns : List Str) (ds : List Dd) : Prop where
  bal : Bal [] ds
  done : (ds.foldl rStep ([], [])).2 = []
  len : ds.length ≤ 90
  nms : ∀ d ∈ ds, ∀ n ∈ d.names, n ∈ ns
def spDrawn (K : PySem.W.Frag) : Sp := fun vs H Q _ => ∃ (g l : Addr) (G : Gh) (v : V) (ns : List Str), vs = [.ref g, v] ∧ Deals g l G ∧ G.ok H ∧ (rLst rStr).is G H v ns ∧ ns ≠ [] ∧ ns.length ≤ 100 ∧ (∀ n ∈ ns, NameOk n) ∧
  ∀ (ds : List Dd) (u : Addr) (vf vb : V) H', Drawn ns ds → Le G H H' → SqT K H' u [vf, vb, .int (depthOf ds)] → (rLst (rDeed K)).is G H' vf ds → (rTup K (rDeed K)).is G H' vb (revOf ds) → Q (.ref u) H'
theorem dStep_le : ∀ (ds : List Dd) (m c : Int), c ≤ m → (ds.foldl dStep (m, c)).2 ≤ (ds.foldl dStep (m, c)).1
  | [], m, c, h => h
  | .put _ :: r, m, c, h => dStep_le r m c h
  | .take _ :: r, m, c, h => dStep_le r m c h
  | .prop _ :: r, m, c, h => dStep_le r _ _ (by show c + 1 ≤ if c + 1 > m then c + 1 else m; split <;> omega)
  | .unprop :: r, m, c, h => dStep_le r m (c - 1) (by omega)
theorem keep {H : Hp} {x q : Addr} {o o' : HO} (e : H x = some o) (n : H q = none) : (upd H q o') x = some o := (upd_ne (ne_of_none e n)).trans e
theorem keep2 {H : Hp} {x q : Addr} {o o' : HO} (e : H x = some o) (n : x ≠ q) : (upd H q o') x = some o := (upd_ne n).trans e
theorem shaped_strs {l : List Str} (h : ∀ n ∈ l, NameOk n) : SeqAt.shaped (.list (l.map .str)) = true :=
  Fine.shaped (show FineAll _ from fineAll_strs fun x hx => (h x hx : NameL (cl x)).fine) (by show PyData.depthAll (l.map .str) + 1 ≤ 60; rw [depthAll_strs]; decide)
theorem bal_snoc {ds : List Dd} {d : Dd} {f : List Dd} {p : List Str} : ∀ {q : List Str} {e : List Dd}, Bal q ds → (ds.foldl rStep (e, q)) = (f, p) → (d = .unprop → p ≠ []) → Bal q (ds ++ [d]) := by
  induction ds with
  | nil =>
    intro q e _ h hn
    cases h
    cases d with
    | unprop => exact ⟨hn rfl, trivial⟩
    | _ => trivial
  | cons x r ih =>
    intro q e hb h hn
    cases x with
    | unprop => exact ⟨hb.1, ih hb.2 h hn⟩
    | put n => exact ih (e := e ++ [.take n]) hb h hn
    | take n => exact ih (e := e ++ [.put n]) hb h hn
    | prop n => exact ih (e := e ++ [.unprop]) hb h hn
theorem rStep_len (d : Dd) (f : List Dd) (p : List Str) : (rStep (f, p) d).1.length = f.length + 1 := by cases d <;> exact List.length_append
theorem rev_len' : ∀ (ds : List Dd) (e : List Dd) (q : List Str), (ds.foldl rStep (e, q)).1.length = e.length + ds.length
  | [], e, q => rfl
  | d :: r, e, q => by
    show (r.foldl rStep (rStep (e, q) d)).1.length = _
    have h1 := rStep_len d e q
    have h2 := rev_len' r (rStep (e, q) d).1 (rStep (e, q) d).2
    rw [h1] at h2
    rw [List.length_cons]
    exact h2.trans (by omega)
theorem rev_len {ds bk : List Dd} {st : List Str} (h : ds.foldl rStep ([], []) = (bk, st)) : bk.length = ds.length := by
  have := rev_len' ds [] []
  rw [h] at this
  exact this.trans (Nat.zero_add _)
section
variable {P : Program} {w : World} {K : PySem.W.Frag} {mg : Str → Option Value} {base : Heap} {f : Addr} {fd : FuncData}
theorem deed_new2 {G : Gh} {H : Hp} {p : Addr} {a b : Str} {d : Dd} (e : d.enc = [a, b]) : (rDeed K).is G (upd H p (.tup [V.str a, V.str b])) (.ref p) d := by have := deed_new (K := K) (G := G) (H := H) (p := p) d; rw [e] at this; exact this
theorem ok_drawn (F : FnP K "_law_drawn" s__law_drawn f fd) (gr : mg "range" = none) (gl : mg "len" = none) (gm : mg "max" = none) (gt : mg "tuple" = none) (C : Cal P w K mg base CX0 1 "_law_draw" ["_law_deal_here", "_law_many"] spDraw) :
    FnG P w K mg base CX0 2 f fd ["_law_deal_here", "_law_names"] (spDrawn K) := by
  refine def_ok F sc__law_drawn (fun vs H Q E h => ?_) ?_
  · obtain ⟨g, l, G, v, ns, rfl, _⟩ := h; rfl
  rintro _ vs H Q E ⟨cdv, A0, out, s, rfl⟩ hg hr ⟨g, l, G, v, ns, rfl, dl, gok, hv, hne, hns, hok0, k⟩
  have hnd := sc__law_drawn.nd
  have hu := hr.units
  obtain ⟨tn, xn, rfl, hn, navn, pn⟩ := id hv
  obtain rfl := paired_str pn
  -- found, back, stack, most = ([], [], [], 0)
  refine w_cons <| w_asg (pg_tup rfl (pgs_cons (pg_name (i := 2) hnd rfl (Or.inl rfl)) (pgs_cons (pg_name (i := 3) hnd rfl (Or.inl rfl)) (pgs_cons (pg_name (i := 4) hnd rfl (Or.inl rfl)) (pgs_cons (pg_name (i := 5) hnd rfl (Or.inl rfl)) pgs_nil))))) <| w_tup <|
    w_acons <| w_lst <| w_anil ⟨by show 0 ≤ sizeLine; decide, fun p1 n1 => w_acons <| w_lst <| w_anil ⟨by show 0 ≤ sizeLine; decide, fun p2 n2 => w_acons <| w_lst <| w_anil ⟨by show 0 ≤ sizeLine; decide, fun p3 n3 => w_acons <| w_int <| w_anil ⟨by show 4 ≤ sizeLine; decide, fun tt nt => ⟨tt, _, rfl, SqT.of upd_same, rfl, _, _, rfl, _, _, rfl, _, _, rfl, _, _, rfl, rfl, ?_⟩⟩⟩⟩⟩
  have ok1 : (G.add p1).ok (upd H p1 (.lst [])) := add_ok gok n1 trivial
  have ok2 : ((G.add p1).add p2).ok (upd (upd H p1 (.lst [])) p2 (.lst [])) := add_ok ok1 n2 trivial
  have ok3 : (((G.add p1).add p2).add p3).ok (upd (upd (upd H p1 (.lst [])) p2 (.lst [])) p3 (.lst [])) := add_ok ok2 n3 trivial
  have np1 : ¬ G.av p1 := G.free gok n1
  have np2 : ¬ (G.add p1).av p2 := Gh.free ok1 n2
  have np3 : ¬ ((G.add p1).add p2).av p3 := Gh.free ok2 n3
  have ne12 : p1 ≠ p2 := fun e => np2 (Or.inr e.symm)
  have ne13 : p1 ≠ p3 := fun e => np3 (Or.inl (Or.inr e.symm))
  have ne23 : p2 ≠ p3 := fun e => np3 (Or.inr e.symm)
  generalize hG : ((G.add p1).add p2).add p3 = G3 at *
  generalize hHb : upd (upd (upd H p1 (.lst [])) p2 (.lst [])) p3 (.lst []) = Hb at *
  have b1 : Hb p1 = some (.lst []) := by rw [← hHb, upd_ne ne13, upd_ne ne12, upd_same]
  have b2 : Hb p2 = some (.lst []) := by rw [← hHb, upd_ne ne23, upd_same]
  have b3 : Hb p3 = some (.lst []) := by rw [← hHb, upd_same]
  have dl3 : Deals g l G3 := by rw [← hG]; exact ((dl.add gok n1).add ok1 n2).add ok2 n3
  have toG : ∀ {H'}, Le G3 Hb H' → Le G H H' := by
    intro H' le
    subst hG
    exact ((le.drop (Le.refl ok2) n3 hHb.symm).drop (Le.refl ok1) n2 rfl).drop (Le.refl gok) n1 rfl
  have off3 : ∀ {α : Type} (A : Rp α) {H' : Hp} {v : V} {a : α}, A.is G3 H' v a → A.is G H' v a := by intro α A H' v a h; subst hG; exact A.off (A.off (A.off h))
  have hvb : (rLst rStr).is G3 Hb (.ref tn) ns := by subst hG; subst hHb; exact (rLst rStr).on n3 ((rLst rStr).on n2 ((rLst rStr).on n1 hv))
  have set1 : ∀ {H1 : Hp} {o : HO}, G3.ok H1 → Mut (some o) → Le G3 H1 (upd H1 p1 o) := by
    intro H1 o h m
    subst hG
    refine ⟨h, ⟨⟨⟨G.keep (fun x z => upd_ne (fun e => np1 (e ▸ z))) h.1.1.1, by rw [upd_same]; exact m⟩, by rw [upd_ne (Ne.symm ne12)]; exact h.1.2⟩, by rw [upd_ne (Ne.symm ne13)]; exact h.2⟩, fun x u e z => ?_⟩
    rw [upd_ne (fun e => z (Or.inl (Or.inl (Or.inr e))))]
    exact e
  have set2 : ∀ {H1 : Hp} {o : HO}, G3.ok H1 → Mut (some o) → Le G3 H1 (upd H1 p2 o) := by
    intro H1 o h m
    subst hG
    refine ⟨h, ⟨((Le.refl h.1).set np2 m).2.1, by rw [upd_ne (Ne.symm ne23)]; exact h.2⟩, fun x u e z => ?_⟩
    rw [upd_ne (fun e => z (Or.inl (Or.inr e)))]
    exact e
  have set3 : ∀ {H1 : Hp} {o : HO}, G3.ok H1 → Mut (some o) → Le G3 H1 (upd H1 p3 o) := fun h m => by subst hG; exact (Le.refl h).set np3 m
  have outs : ∀ {H1 H2 : Hp}, G3.ok H1 → Off g l H1 H2 → ∀ {x o}, (x = p1 ∨ x = p2 ∨ x = p3) → H1 x = some o → H2 x = some o := by
    intro H1 H2 h off x o hx e
    have ng : ∀ y, y = g ∨ y = l → H y ≠ none := fun y hy z => G.nn gok (G.sub (dl.out y hy)) z
    have h2' : H p2 = none := ((Le.refl gok).new (o := .lst []) n1).fresh n2
    have h3' : H p3 = none := (((Le.refl gok).new (o := .lst []) n1).new (o := .lst []) n2).fresh n3
    refine off x o e (fun z => ?_) (fun z => ?_)
    · rcases hx with rfl | rfl | rfl
      · exact ng g (Or.inl rfl) (z ▸ n1)
      · exact ng g (Or.inl rfl) (z ▸ h2')
      · exact ng g (Or.inl rfl) (z ▸ h3')
    · rcases hx with rfl | rfl | rfl
      · exact ng l (Or.inr rfl) (z ▸ n1)
      · exact ng l (Or.inr rfl) (z ▸ h2')
      · exact ng l (Or.inr rfl) (z ▸ h3')
  have lt : Le G3 Hb (upd Hb tt (.tup [.ref p1, .ref p2, .ref p3, .int 0])) := (Le.refl ok3).new nt
  -- what the three lists hold
  let J : List Dd → List Dd → List Str → Int → Hp → Prop := fun ds bk st m H' => Le G3 Hb H' ∧ ds.foldl rStep ([], []) = (bk, st) ∧ ds.foldl dStep (0, 0) = (m, (st.length : Int)) ∧ Bal [] ds ∧ (∀ d ∈ ds, ∀ n ∈ d.names, n ∈ ns) ∧ (∀ n ∈ st, n ∈ ns) ∧
    ∃ xs ys, H' p1 = some (.lst xs) ∧ Paired ((rDeed K).is G3 H') xs ds ∧ H' p2 = some (.lst ys) ∧ Paired ((rDeed K).is G3 H') ys bk ∧ H' p3 = some (.lst (st.map V.str))
  have step : ∀ {ds bk : List Dd} {st st' : List Str} {m m' : Int} {H' H2 : Hp} {xs ys : List V} {d d' : Dd} {q q' : V}, Le G3 Hb H' → ds.foldl rStep ([], []) = (bk, st) → ds.foldl dStep (0, 0) = (m, (st.length : Int)) → Bal [] ds → (∀ d ∈ ds, ∀ n ∈ d.names, n ∈ ns) →
      Paired ((rDeed K).is G3 H') xs ds → Paired ((rDeed K).is G3 H') ys bk → Le G3 H' H2 → (rDeed K).is G3 H2 q d → (rDeed K).is G3 H2 q' d' → rStep (bk, st) d = (bk ++ [d'], st') → dStep (m, (st.length : Int)) d = (m', (st'.length : Int)) → (d = .unprop → st ≠ []) → (∀ n ∈ d.names, n ∈ ns) → (∀ n ∈ st', n ∈ ns) →
      H2 p1 = some (.lst (xs ++ [q])) → H2 p2 = some (.lst (ys ++ [q'])) → H2 p3 = some (.lst (st'.map V.str)) → J (ds ++ [d]) (bk ++ [d']) st' m' H2 := by
    intro ds bk st st' m m' H' H2 xs ys d d' q q' h1 h2 h3 h4 h5 h6 h7 h8 h9 h10 h11 h12 h13 h14 h15 h16 h17 h18
    refine ⟨h1.trans h8, by rw [List.foldl_append, h2]; exact h11, by rw [List.foldl_append, h3]; exact h12, bal_snoc h4 h2 h13, ?_, h15, _, _, h16, paired_app (pmap h6 fun _ _ z => (rDeed K).mono h8 z) (.cons h9 .nil), h17, paired_app (pmap h7 fun _ _ z => (rDeed K).mono h8 z) (.cons h10 .nil), h18⟩
    intro x hx n hn
    rcases List.mem_append.mp hx with hx | hx
    · exact h5 x hx n hn
    · obtain rfl : x = d := by simpa using hx
      exact h14 n hn
  have big : (100000 : Nat) < sizeLine := by decide
  -- for turn in range([4, 12, 30][draw(deal, 3)])
  let M : Nat → L2.St → Hp → Prop := fun i σ' H' => ∃ (ds bk : List Dd) (st : List Str) (m : Int) (a b c : Option V), σ' = [some (.ref g), some (.ref tn), some (.ref p1), some (.ref p2), some (.ref p3), some (.int m), a, b, c] ∧ J ds bk st m H' ∧ ds.length ≤ i ∧ bk.length ≤ i ∧ st.length ≤ i
  refine w_cut (fun σ' H' => ∃ i, i ≤ 30 ∧ M i σ' H') (w_for PassesOwn.never rfl (pg_name (i := 6) hnd rfl (Or.inl rfl)) <| wi_rangeT gr <| w_ix ix_list <| w_lst <| w_acons <| w_int <| w_acons <| w_int <| w_acons <| w_int <| w_anil ⟨by show 3 ≤ sizeLine; decide, fun pa na => w_call C hg hr <| w_acons <| w_var 0 rfl <| w_acons <| w_int <| w_anil ⟨g, l, _, rfl, dl3.at_ (lt.new na).2.1, by decide, by decide, fun r H1 r0 r1 d1 of1 => ?_⟩⟩) ?_
  · obtain ⟨n, en, hn30⟩ : ∃ n : Nat, atI [V.int 4, V.int 12, V.int 30] r = some (V.int n) ∧ n ≤ 30 := by
      have : r = 0 ∨ r = 1 ∨ r = 2 := by omega
      rcases this with rfl | rfl | rfl
      · exact ⟨4, rfl, by decide⟩
      · exact ⟨12, rfl, by decide⟩
      · exact ⟨30, rfl, by decide⟩
    have le1 := dl3.le (lt.new (o := .lst [V.int 4, V.int 12, V.int 30]) na).2.1 d1 of1
    have l1 := (lt.new (o := .lst [V.int 4, V.int 12, V.int 30]) na).trans le1
    have na1 : H1 pa = some (.lst [V.int 4, V.int 12, V.int 30]) := le1.2.2 pa _ upd_same (Gh.freeO lt.2.1 na)
    refine ⟨pa, _, _, _, rfl, rfl, SqL.of na1, en, n, rfl, by omega, fun I F => ⟨_, _, F, M, ?_, fun _ _ _ _ => trivial, ?_, ?_⟩⟩
    · refine ⟨[], [], [], 0, _, _, _, rfl, ⟨l1, rfl, rfl, trivial, (fun d hd => nomatch hd), (fun d hd => nomatch hd), [], [], ?_, .nil, ?_, .nil, ?_⟩, Nat.le_refl _, Nat.le_refl _, Nat.le_refl _⟩
      · exact outs (lt.new na).2.1 of1 (Or.inl rfl) (by rw [upd_ne (ne_of_none (by rw [upd_ne (ne_of_none b1 nt)]; exact b1) na), upd_ne (ne_of_none b1 nt)]; exact b1)
      · exact outs (lt.new na).2.1 of1 (Or.inr (Or.inl rfl)) (by rw [upd_ne (ne_of_none (by rw [upd_ne (ne_of_none b2 nt)]; exact b2) na), upd_ne (ne_of_none b2 nt)]; exact b2)
      · exact outs (lt.new na).2.1 of1 (Or.inr (Or.inr rfl)) (by rw [upd_ne (ne_of_none (by rw [upd_ne (ne_of_none b3 nt)]; exact b3) na), upd_ne (ne_of_none b3 nt)]; exact b3)
    · rintro i x σ' H' hx ⟨ds, bk, st, m, a, b, c, rfl, ⟨le, f1, f2, fb, fn, fs, xs, ys, e1, q1, e2, q2, e3⟩, ld, lb, ls⟩
      have hi : i < n := by have := (List.getElem?_eq_some_iff.mp hx).1; rw [List.length_map, nats_len] at this; exact this
      have hnm : (rLst rStr).is G3 H' (.ref tn) ns := (rLst rStr).mono le hvb
      obtain ⟨tn', xn', en', hn', _, pn'⟩ := id hnm
      cases en'
      obtain rfl := paired_str pn'
      -- form, name = (draw(deal, 5), names[draw(deal, len(names))])
      refine w_cons <| w_par 7 8 rfl hnd <| w_acons <| w_call C hg hr <| w_acons <| w_var 0 rfl <| w_acons <| w_int <| w_anil ⟨g, l, _, rfl, dl3.at_ le.2.1, by decide, by decide, fun form H2 fo0 fo1 d2 of2 => w_acons <| w_ix ix_list <| w_var 1 rfl ?_⟩
      have l2 := dl3.le le.2.1 d2 of2
      obtain ⟨tn2, xn2, en2, hn2, _, pn2⟩ := (rLst rStr).mono l2 hnm
      cases en2
      obtain rfl := paired_str pn2
      have hpos : 0 < ns.length := List.length_pos_iff.mpr hne
      refine w_call C hg hr <| w_acons <| w_var 0 rfl <| w_acons <| w_callB call_len_seq gl PySem.boot_len <| w_acons <| w_var 1 rfl <| w_anil ⟨tn, _, rfl, Or.inl (SqL.of hn2), w_anil ⟨g, l, _, rfl, d2, by rw [List.length_map]; omega, by rw [List.length_map]; omega, fun ix H3 ix0 ix1 d3 of3 => ?_⟩⟩
      rw [List.length_map] at ix1
      have l3 := dl3.le l2.2.1 d3 of3
      obtain ⟨tn3, xn3, en3, hn3, _, pn3⟩ := (rLst rStr).mono l3 ((rLst rStr).mono l2 hnm)
      cases en3
      obtain rfl := paired_str pn3
      obtain ⟨j, rfl⟩ : ∃ j : Nat, ix = j := ⟨ix.toNat, by omega⟩
      have hj : j < ns.length := by omega
      obtain ⟨nm, hnm1⟩ : ∃ nm, ns[j]? = some nm := ⟨ns[j], by simp [hj]⟩
      have nmem : nm ∈ ns := List.mem_of_getElem? hnm1
      refine ⟨tn, _, _, .str nm, rfl, rfl, SqL.of hn3, atI_nat (by rw [List.getElem?_map, hnm1]; rfl), w_anil ⟨_, _, rfl, ?_⟩⟩
      have l23 : Le G3 H' H3 := l2.trans l3
      have g1 : H3 p1 = some (.lst xs) := outs l2.2.1 of3 (Or.inl rfl) (outs le.2.1 of2 (Or.inl rfl) e1)
      have g2 : H3 p2 = some (.lst ys) := outs l2.2.1 of3 (Or.inr (Or.inl rfl)) (outs le.2.1 of2 (Or.inr (Or.inl rfl)) e2)
      have g3 : H3 p3 = some (.lst (st.map V.str)) := outs l2.2.1 of3 (Or.inr (Or.inr rfl)) (outs le.2.1 of2 (Or.inr (Or.inr rfl)) e3)
      have lx : xs.length < sizeLine := by rw [paired_len q1]; omega
      have ly : ys.length < sizeLine := by rw [paired_len q2]; omega
      -- behind the branches: most = max(most, len(stack))
      refine w_cut (fun σ' H' => ∃ (ds bk : List Dd) (st : List Str) (m m0 : Int) (a b c : Option V), σ' = [some (.ref g), some (.ref tn), some (.ref p1), some (.ref p2), some (.ref p3), some (.int m0), a, b, c] ∧ J ds bk st m H' ∧ ds.length ≤ i + 1 ∧ bk.length ≤ i + 1 ∧ st.length ≤ i + 1 ∧ m = if (st.length : Int) > m0 then (st.length : Int) else m0) ?_ ?_
      · have dle : (st.length : Int) ≤ m := by have := dStep_le ds 0 0 (Int.le_refl 0); rw [f2] at this; exact this
        have mx : (if (st.length : Int) > m then (st.length : Int) else m) = m := if_neg (by omega)
        have ap : ∀ {X Y : List V} {z z' : V}, X.length < sizeLine → True := fun _ => trivial
        refine w_if <| t_cmp op_lt <| w_var 7 rfl <| w_int ⟨_, _, rfl, rfl, _, rfl, ite_c (fun c1 => ?_) (fun c1 => ?_)⟩
        · -- found.append((['put', 'take'][form], name)); back.append((['take', 'put'][form], name))
          have fo2 : form = 0 ∨ form = 1 := by have := of_decide_eq_true c1; omega
          obtain ⟨d, d', wa, wb, ew1, ew2, ed, ed', er, em, hun, hnn⟩ : ∃ (d d' : Dd) (wa wb : Str), atI [V.str "put", V.str "take"] form = some (V.str wa) ∧ atI [V.str "take", V.str "put"] form = some (V.str wb) ∧ d.enc = [wa, nm] ∧ d'.enc = [wb, nm] ∧
              rStep (bk, st) d = (bk ++ [d'], st) ∧ dStep (m, (st.length : Int)) d = (m, (st.length : Int)) ∧ (d = .unprop → st ≠ []) ∧ (∀ n ∈ d.names, n ∈ ns) := by
            rcases fo2 with rfl | rfl
            · exact ⟨.put nm, .take nm, _, _, rfl, rfl, rfl, rfl, rfl, rfl, (fun z => nomatch z), fun n hn => by simp [Dd.names] at hn; rw [hn]; exact nmem⟩
            · exact ⟨.take nm, .put nm, _, _, rfl, rfl, rfl, rfl, rfl, rfl, (fun z => nomatch z), fun n hn => by simp [Dd.names] at hn; rw [hn]; exact nmem⟩
          refine w_cons <| w_append (l := p1) (xs := xs) <| w_var 2 rfl ⟨rfl, g1, w_tup <| w_acons <| w_ix ix_list <| w_lst <| w_acons <| w_str <| w_acons <| w_str <| w_anil ⟨by show 2 ≤ sizeLine; decide, fun pl nl => w_var 7 rfl ⟨pl, _, _, _, rfl, rfl, SqL.of upd_same, ew1, w_acons <| w_var 8 rfl <| w_anil ⟨by show 2 ≤ sizeLine; decide, fun q nq => ⟨xs, ?_, lx, ?_⟩⟩⟩⟩⟩
          · exact keep (keep g1 nl) nq
          have k1 : (upd (upd (upd H3 pl (.lst [V.str "put", V.str "take"])) q (.tup [V.str wa, V.str nm])) p1 (.lst (xs ++ [.ref q]))) p2 = some (.lst ys) := keep2 (keep (keep g2 nl) nq) (Ne.symm ne12)
          have z1 : Le G3 H' (upd (upd H3 pl (.lst [V.str "put", V.str "take"])) q (.tup [V.str wa, V.str nm])) := (l23.new nl).new nq
          have z2 := z1.trans (set1 (o := .lst (xs ++ [.ref q])) z1.2.1 trivial)
          refine w_one <| w_append (l := p2) (xs := ys) <| w_var 3 rfl ⟨rfl, k1, w_tup <| w_acons <| w_ix ix_list <| w_lst <| w_acons <| w_str <| w_acons <| w_str <| w_anil ⟨by show 2 ≤ sizeLine; decide, fun pl2 nl2 => w_var 7 rfl ⟨pl2, _, _, _, rfl, rfl, SqL.of upd_same, ew2, w_acons <| w_var 8 rfl <| w_anil ⟨by show 2 ≤ sizeLine; decide, fun r2 nq2 => ⟨ys, keep (keep k1 nl2) nq2, ly, ?_⟩⟩⟩⟩⟩
          have z3 := (z2.new (o := .lst [V.str "take", V.str "put"]) nl2).new (o := .tup [V.str wb, V.str nm]) nq2
          have z4 := set2 (o := .lst (ys ++ [.ref r2])) z3.2.1 trivial
          refine ⟨ds ++ [d], bk ++ [d'], st, m, m, _, _, _, rfl, step le f1 f2 fb fn q1 q2 (z3.trans z4) ((rDeed K).mono ((((set1 (o := .lst (xs ++ [.ref q])) z1.2.1 trivial).new nl2).new nq2).trans z4) (deed_new2 ed)) ((rDeed K).mono z4 (deed_new2 ed')) er em hun hnn fs ?_ upd_same ?_, by rw [List.length_append]; show ds.length + 1 ≤ _; omega, by rw [List.length_append]; show bk.length + 1 ≤ _; omega, by omega, mx.symm⟩
          · exact keep2 (keep (keep upd_same nl2) nq2) ne12
          · exact keep2 (keep (keep (keep2 (keep (keep g3 nl) nq) (Ne.symm ne13)) nl2) nq2) (Ne.symm ne23)
        · refine w_one <| w_if <| WT.mono (Q := fun k H' => H' = H3) (t_and <| t_cmp op_lt <| w_var 7 rfl <| w_int ⟨_, _, rfl, rfl, _, rfl, ite_c (fun c2 => t_cmp op_notIn_seq <| w_var 8 rfl <| w_var 4 rfl ⟨p3, _, rfl, Or.inl (SqL.of g3), rfl, flat_strs st, _, rfl, rfl⟩) (fun c2 => rfl)⟩) ?_
          rintro kk Hx hx
          obtain rfl := hx.symm
          cases kk with
          | true =>
            -- stack.append(name); found.append(('prop', name)); back.append(('unprop',))
            refine ite_t rfl ?_
            refine w_cons <| w_append (l := p3) (xs := st.map V.str) <| w_var 4 rfl ⟨rfl, g3, w_var 8 rfl ⟨_, g3, by rw [List.length_map]; omega, ?_⟩⟩
            have z1 := l23.trans (set3 (o := .lst (st.map V.str ++ [V.str nm])) l23.2.1 trivial)
            have a1 : (upd H3 p3 (.lst (st.map V.str ++ [V.str nm]))) p1 = some (.lst xs) := keep2 g1 ne13
            have a2 : (upd H3 p3 (.lst (st.map V.str ++ [V.str nm]))) p2 = some (.lst ys) := keep2 g2 ne23
            have a3 : (upd H3 p3 (.lst (st.map V.str ++ [V.str nm]))) p3 = some (.lst ((st ++ [nm]).map V.str)) := upd_same.trans (by rw [List.map_append]; rfl)
            refine w_cons <| w_append (l := p1) (xs := xs) <| w_var 2 rfl ⟨rfl, a1, w_tup <| w_acons <| w_str <| w_acons <| w_var 8 rfl <| w_anil ⟨by show 2 ≤ sizeLine; decide, fun q nq => ⟨xs, keep a1 nq, lx, ?_⟩⟩⟩
            have z2 := z1.new (o := .tup [V.str "prop", V.str nm]) nq
            have z3 := set1 (o := .lst (xs ++ [.ref q])) z2.2.1 trivial
            refine w_one <| w_append (l := p2) (xs := ys) <| w_var 3 rfl ⟨rfl, keep2 (keep a2 nq) (Ne.symm ne12), w_tup <| w_acons <| w_str <| w_anil ⟨by show 1 ≤ sizeLine; decide, fun r2 nq2 => ⟨ys, keep (keep2 (keep a2 nq) (Ne.symm ne12)) nq2, ly, ?_⟩⟩⟩
            have z4 := z3.new (o := .tup [V.str "unprop"]) nq2
            have z5 := set2 (o := .lst (ys ++ [.ref r2])) z4.2.1 trivial
            refine ⟨ds ++ [.prop nm], bk ++ [.unprop], st ++ [nm], _, m, _, _, _, rfl, step le f1 f2 fb fn q1 q2 ((z2.trans z4).trans z5) ((rDeed K).mono (z4.trans z5) (deed_new (.prop nm))) ((rDeed K).mono z5 (deed_new .unprop)) rfl ?_ (fun z => nomatch z) (fun n hn => by simp [Dd.names] at hn; rw [hn]; exact nmem) ?_ (keep2 (keep upd_same nq2) ne12) upd_same (keep2 (keep (keep2 (keep a3 nq) (Ne.symm ne13)) nq2) (Ne.symm ne23)), by rw [List.length_append]; show ds.length + 1 ≤ _; omega, by rw [List.length_append]; show bk.length + 1 ≤ _; omega, by rw [List.length_append]; show st.length + 1 ≤ _; omega, rfl⟩
            · rw [List.length_append]; rfl
            · intro n hn
              rcases List.mem_append.mp hn with hn | hn
              · exact fs n hn
              · obtain rfl : n = nm := by simpa using hn
                exact nmem
          | false =>
            refine ite_f rfl ?_
            refine w_one <| w_if <| t_cmp (op_neD hu) <| w_var 4 rfl <| w_lst <| w_anil ⟨by show 0 ≤ sizeLine; decide, fun pe ne => ⟨.list (st.map .str), .list [], .lst (SqL.of (keep g3 ne)) (dat_all (G := G3) dat_str (str_paired st)), .lst (SqL.of upd_same) .nil, ?_, rfl, _, rfl, ?_⟩⟩
            · exact shaped_strs fun n hn => hok0 n (fs n hn)
            rw [eqv_strs_nil]
            have z1 := l23.new (o := .lst []) ne
            refine ite_c (fun c3 => ?_) (fun c3 => ?_)
            · -- back.append(('prop', stack.pop())); found.append(('unprop',))
              have hst : st ≠ [] := by simpa using c3
              obtain ⟨qs, z, rfl⟩ : ∃ qs z, st = qs ++ [z] := ⟨st.dropLast, st.getLast hst, (List.dropLast_concat_getLast hst).symm⟩
              have ex : ((qs ++ [z]).map V.str)[((qs ++ [z]).map V.str).length - 1]? = some (.str z) := by simp
              have ed : ((qs ++ [z]).map V.str).dropLast = qs.map V.str := by simp
              have g3' : (upd H3 pe (.lst [])) p3 = some (.lst ((qs ++ [z]).map V.str)) := keep g3 ne
              refine w_cons <| w_append (l := p2) (xs := ys) <| w_var 3 rfl ⟨rfl, keep g2 ne, w_tup <| w_acons <| w_str <| w_acons <| w_bm0 PySem.F.plainAttrs_list PySem.F.slot_list_pop PySem.F.type_list_pop mt_pop <| w_var 4 rfl ⟨Or.inl ⟨rfl, _, SqL.of g3'⟩, p3, _, _, rfl, rfl, g3', ex, ?_⟩⟩
              rw [ed]
              have z2 := z1.trans (set3 (o := .lst (qs.map V.str)) z1.2.1 trivial)
              have a1 : (upd (upd H3 pe (.lst [])) p3 (.lst (qs.map V.str))) p1 = some (.lst xs) := keep2 (keep g1 ne) ne13
              have a2 : (upd (upd H3 pe (.lst [])) p3 (.lst (qs.map V.str))) p2 = some (.lst ys) := keep2 (keep g2 ne) ne23
              have a3 : (upd (upd H3 pe (.lst [])) p3 (.lst (qs.map V.str))) p3 = some (.lst (qs.map V.str)) := upd_same
              refine w_anil ⟨by show 2 ≤ sizeLine; decide, fun q nq => ⟨ys, keep a2 nq, ly, ?_⟩⟩
              have z3 := z2.new (o := .tup [V.str "prop", V.str z]) nq
              have z4 := set2 (o := .lst (ys ++ [.ref q])) z3.2.1 trivial
              refine w_one <| w_append (l := p1) (xs := xs) <| w_var 2 rfl ⟨rfl, keep2 (keep a1 nq) ne12, w_tup <| w_acons <| w_str <| w_anil ⟨by show 1 ≤ sizeLine; decide, fun r2 nq2 => ⟨xs, keep (keep2 (keep a1 nq) ne12) nq2, lx, ?_⟩⟩⟩
              have z5 := z4.new (o := .tup [V.str "unprop"]) nq2
              have z6 := set1 (o := .lst (xs ++ [.ref r2])) z5.2.1 trivial
              have hj2 := step (d := .unprop) (d' := .prop z) (st' := qs) (m' := m) le f1 f2 fb fn q1 q2 ((z3.trans z5).trans z6) ((rDeed K).mono z6 (deed_new .unprop)) ((rDeed K).mono (z5.trans z6) (deed_new (.prop z))) (by simp [rStep]) (by rw [List.length_append]; show (m, ((qs.length + 1 : Nat) : Int) - 1) = _; congr 1; omega) (fun _ => by simp) (fun n hn => nomatch hn) (fun n hn => fs n (List.mem_append_left _ hn)) upd_same (keep2 (keep upd_same nq2) (Ne.symm ne12)) (keep2 (keep (keep2 (keep a3 nq) (Ne.symm ne23)) nq2) (Ne.symm ne13))
              have ls2 : qs.length + 1 ≤ i := by rw [List.length_append] at ls; exact ls
              have dle2 : ((qs.length + 1 : Nat) : Int) ≤ m := by rw [List.length_append] at dle; exact dle
              exact ⟨_, _, _, _, m, _, _, _, rfl, hj2, by rw [List.length_append]; show ds.length + 1 ≤ _; omega, by rw [List.length_append]; show bk.length + 1 ≤ _; omega, by omega, (if_neg (by omega)).symm⟩
            · exact w_nil ⟨ds, bk, st, m, m, _, _, _, rfl, ⟨(le.trans z1), f1, f2, fb, fn, fs, xs, ys, keep g1 ne, pmap q1 fun _ _ z => (rDeed K).mono z1 z, keep g2 ne, pmap q2 fun _ _ z => (rDeed K).mono z1 z, keep g3 ne⟩, by omega, by omega, by omega, mx.symm⟩
      · rintro σ2 H4 ⟨ds', bk', st', m', m0, a', b', c', rfl, hj', h1', h2', h3', rfl⟩
        obtain ⟨le', f1', f2', fb', fn', fs', xs', ys', e1', q1', e2', q2', e3'⟩ := id hj'
        refine w_one <| w_set 5 hnd <| w_callB (call_max2 rfl) gm boot_max <| w_acons <| w_var 5 rfl <| w_acons <| w_callB call_len_seq gl PySem.boot_len <| w_acons <| w_var 4 rfl <| w_anil ⟨p3, _, rfl, Or.inl (SqL.of e3'), w_anil ⟨_, _, rfl, ds', bk', st', _, _, _, _, rfl, ?_, h1', h2', h3'⟩⟩
        rw [List.length_map]
        exact hj'
    · rintro σ' H' hm
      rw [List.length_map, nats_len] at hm
      exact ⟨n, hn30, hm⟩
  rintro σ' H' ⟨i, hi, ds, bk, st, m, a, b, c, rfl, hJ, ld, lb, ls⟩
  -- while stack != []
  let V2 : Nat → L2.St → Hp → Prop := fun n σ' H' => ∃ (ds bk : List Dd) (st : List Str) (m : Int) (a b c : Option V), σ' = [some (.ref g), some (.ref tn), some (.ref p1), some (.ref p2), some (.ref p3), some (.int m), a, b, c] ∧ J ds bk st m H' ∧ st.length = n ∧ ds.length + st.length ≤ 60 ∧ bk.length = ds.length
  refine w_cut (V2 0) (w_while PassesOwn.never V2 st.length ⟨ds, bk, st, m, a, b, c, rfl, hJ, rfl, by omega, rev_len hJ.2.1⟩ ?_) ?_
  · clear hJ ld lb ls hi
    clear ds bk st m a b c
    rintro n σ' H' ⟨ds, bk, st, m, a, b, c, rfl, ⟨le, f1, f2, fb, fn, fs, xs, ys, g1, q1, g2, q2, g3⟩, rfl, ls, lb⟩
    have lx : xs.length < sizeLine := by rw [paired_len q1]; omega
    have ly : ys.length < sizeLine := by rw [paired_len q2]; omega
    refine t_cmp (op_neD hu) <| w_var 4 rfl <| w_lst <| w_anil ⟨by show 0 ≤ sizeLine; decide, fun pe ne => ⟨.list (st.map .str), .list [], .lst (SqL.of (keep g3 ne)) (dat_all (G := G3) dat_str (str_paired st)), .lst (SqL.of upd_same) .nil, shaped_strs fun n hn => hok0 n (fs n hn), rfl, _, rfl, ?_⟩⟩
    rw [eqv_strs_nil]
    have z1 := (Le.refl le.2.1).new (o := .lst []) ne
    refine ite_c (fun c3 => ?_) (fun c3 => ?_)
    · have hst : st ≠ [] := by simpa using c3
      obtain ⟨qs, z, rfl⟩ : ∃ qs z, st = qs ++ [z] := ⟨st.dropLast, st.getLast hst, (List.dropLast_concat_getLast hst).symm⟩
      have ex : ((qs ++ [z]).map V.str)[((qs ++ [z]).map V.str).length - 1]? = some (.str z) := by simp
      have ed : ((qs ++ [z]).map V.str).dropLast = qs.map V.str := by simp
      have g3' : (upd H' pe (.lst [])) p3 = some (.lst ((qs ++ [z]).map V.str)) := keep g3 ne
      refine w_cons <| w_append (l := p2) (xs := ys) <| w_var 3 rfl ⟨rfl, keep g2 ne, w_tup <| w_acons <| w_str <| w_acons <| w_bm0 PySem.F.plainAttrs_list PySem.F.slot_list_pop PySem.F.type_list_pop mt_pop <| w_var 4 rfl ⟨Or.inl ⟨rfl, _, SqL.of g3'⟩, p3, _, _, rfl, rfl, g3', ex, ?_⟩⟩
      rw [ed]
      have z2 := z1.trans (set3 (o := .lst (qs.map V.str)) z1.2.1 trivial)
      have a1 : (upd (upd H' pe (.lst [])) p3 (.lst (qs.map V.str))) p1 = some (.lst xs) := keep2 (keep g1 ne) ne13
      have a2 : (upd (upd H' pe (.lst [])) p3 (.lst (qs.map V.str))) p2 = some (.lst ys) := keep2 (keep g2 ne) ne23
      have a3 : (upd (upd H' pe (.lst [])) p3 (.lst (qs.map V.str))) p3 = some (.lst (qs.map V.str)) := upd_same
      refine w_anil ⟨by show 2 ≤ sizeLine; decide, fun q nq => ⟨ys, keep a2 nq, ly, ?_⟩⟩
      have z3 := z2.new (o := .tup [V.str "prop", V.str z]) nq
      have z4 := set2 (o := .lst (ys ++ [.ref q])) z3.2.1 trivial
      refine w_one <| w_append (l := p1) (xs := xs) <| w_var 2 rfl ⟨rfl, keep2 (keep a1 nq) ne12, w_tup <| w_acons <| w_str <| w_anil ⟨by show 1 ≤ sizeLine; decide, fun r2 nq2 => ⟨xs, keep (keep2 (keep a1 nq) ne12) nq2, lx, ?_⟩⟩⟩
      have z5 := z4.new (o := .tup [V.str "unprop"]) nq2
      have z6 := set1 (o := .lst (xs ++ [.ref r2])) z5.2.1 trivial
      have hj2 := step (d := .unprop) (d' := .prop z) (st' := qs) (m' := m) le f1 f2 fb fn q1 q2 ((z3.trans z5).trans z6) ((rDeed K).mono z6 (deed_new .unprop)) ((rDeed K).mono (z5.trans z6) (deed_new (.prop z))) (by simp [rStep]) (by rw [List.length_append]; show (m, ((qs.length + 1 : Nat) : Int) - 1) = _; congr 1; omega) (fun _ => by simp) (fun n hn => nomatch hn) (fun n hn => fs n (List.mem_append_left _ hn)) upd_same (keep2 (keep upd_same nq2) (Ne.symm ne12)) (keep2 (keep (keep2 (keep a3 nq) (Ne.symm ne23)) nq2) (Ne.symm ne13))
      have ls2 : ds.length + (qs.length + 1) ≤ 60 := by rw [List.length_append] at ls; exact ls
      exact ⟨qs.length, by rw [List.length_append]; show qs.length < qs.length + 1; omega, _, _, _, _, _, _, _, rfl, hj2, rfl, by rw [List.length_append]; show ds.length + 1 + qs.length ≤ _; omega, by rw [List.length_append, List.length_append, lb]; rfl⟩
    · have hst : st = [] := by simpa using c3
      exact ⟨ds, bk, st, m, _, _, _, rfl, ⟨(le.trans z1), f1, f2, fb, fn, fs, xs, ys, keep g1 ne, pmap q1 fun _ _ z => (rDeed K).mono z1 z, keep g2 ne, pmap q2 fun _ _ z => (rDeed K).mono z1 z, keep g3 ne⟩, by rw [hst]; rfl, ls, lb⟩
  rintro σ' H' ⟨ds, bk, st, m, a, b, c, rfl, ⟨le, f1, f2, fb, fn, fs, xs, ys, g1, q1, g2, q2, g3⟩, ls0, ls, lb⟩
  have hst : st = [] := List.length_eq_zero_iff.mp ls0
  subst hst
  have em : depthOf ds = m := by unfold depthOf; rw [f2]
  have er : revOf ds = bk.reverse := by unfold revOf; rw [f1]
  -- return (found, tuple(back[::-1]), most)
  refine w_one <| w_ret <| w_tup <| w_acons <| w_var 2 rfl <| w_acons <| w_callTy call_tuple_of gt boot_tuple <| w_acons <| W.of (pe_revL W.pe) <| w_var 3 rfl ⟨p2, ys, rfl, SqL.of g2, fun q nq => w_anil ⟨q, _, rfl, Or.inl ⟨SqL.of upd_same, fun u nu => w_acons <| w_var 5 rfl <| w_anil ⟨by show 3 ≤ sizeLine; decide, fun u2 nu2 => ?_⟩⟩⟩⟩
  have lz : Le G3 H' (upd (upd (upd H' q (.lst ys.reverse)) u (.tup ys.reverse)) u2 (.tup [.ref p1, .ref u, .int m])) := (((Le.refl le.2.1).new nq).new nu).new nu2
  refine k ds u2 (.ref p1) (.ref u) _ ⟨fb, by rw [f1], by rw [List.length_nil] at ls; omega, fn⟩ (toG (le.trans lz)) ?_ ?_ ?_
  · rw [em]; exact SqT.of upd_same
  · exact ⟨p1, xs, rfl, keep (keep (keep g1 nq) nu) nu2, np1, pmap q1 fun _ _ z => off3 (rDeed K) ((rDeed K).mono lz z)⟩
  · refine ⟨u, _, rfl, SqT.of (keep upd_same nu2), ?_⟩
    rw [er]
    exact pmap (paired_rev q2) fun _ _ z => off3 (rDeed K) ((rDeed K).mono lz z)
end
end NP
set_option Elab.async false
set_option linter.all false
set_option maxRecDepth 100000
set_option maxHeartbeats 4000000
namespace NP
open PySem PySem.Spec PyProof.Rows L2
/-! ### scripts read backwards -/
theorem rev_all : ∀ (ds : List Dd) (p : List Str) (e : List Dd), Bal p ds → ∃ F q, ds.foldl rStep (e, p) = (e ++ F, q) ∧ Bal q F.reverse ∧ ∀ e', F.reverse.foldl rStep (e', q) = (e' ++ ds.reverse, p)
  | [], p, e, _ => ⟨[], p, by simp, trivial, fun e' => by simp⟩
  | d :: r, p, e, h => by
    obtain ⟨d', p', e1, hb, e2, e3⟩ : ∃ d' p', rStep (e, p) d = (e ++ [d'], p') ∧ Bal p' r ∧ (∀ x, rStep (x, p') d' = (x ++ [d], p)) ∧ (d' = .unprop → p' ≠ []) := by
      cases d with
      | put n => exact ⟨.take n, p, rfl, h, fun _ => rfl, fun z => nomatch z⟩
      | take n => exact ⟨.put n, p, rfl, h, fun _ => rfl, fun z => nomatch z⟩
      | prop n => exact ⟨.unprop, p ++ [n], rfl, h, fun x => by simp [rStep], fun _ => by simp⟩
      | unprop =>
        obtain ⟨qs, z, rfl⟩ : ∃ qs z, p = qs ++ [z] := ⟨p.dropLast, p.getLast h.1, (List.dropLast_concat_getLast h.1).symm⟩
        exact ⟨.prop z, qs, by simp [rStep], by have := h.2; simpa using this, fun x => rfl, fun z => nomatch z⟩
    obtain ⟨F, q, f1, f2, f3⟩ := rev_all r p' (e ++ [d']) hb
    refine ⟨d' :: F, q, ?_, ?_, fun e' => ?_⟩
    · rw [List.foldl_cons, e1, f1]; simp
    · rw [List.reverse_cons]; exact bal_snoc f2 (f3 []) e3
    · rw [List.reverse_cons, List.foldl_append, f3, List.foldl_cons, List.foldl_nil, e2, List.reverse_cons, List.append_assoc]
theorem rev_rev {ds : List Dd} (h : Bal [] ds) (hd : (ds.foldl rStep ([], [])).2 = []) : Bal [] (revOf ds) ∧ revOf (revOf ds) = ds := by
  obtain ⟨F, q, f1, f2, f3⟩ := rev_all ds [] [] h
  rw [f1] at hd
  obtain rfl : q = [] := hd
  have e : revOf ds = F.reverse := by unfold revOf; rw [f1]; rfl
  rw [e]
  refine ⟨f2, ?_⟩
  unfold revOf
  rw [f3]
  simp
def Dd.up : Dd → Int
  | .prop _ => 1
  | .unprop => -1
  | _ => 0
def hi : Int → List Int → Int
  | c, [] => c
  | c, x :: r => max c (hi (c + x) r)
def sm : List Int → Int
  | [] => 0
  | x :: r => x + sm r
theorem hi_ge : ∀ (c : Int) (l : List Int), c ≤ hi c l
  | c, [] => Int.le_refl c
  | c, x :: r => by show c ≤ max c _; omega
theorem sm_app : ∀ (a b : List Int), sm (a ++ b) = sm a + sm b
  | [], b => by show sm b = 0 + sm b; omega
  | x :: a, b => by show x + sm (a ++ b) = x + sm a + sm b; rw [sm_app a b]; omega
theorem hi_app : ∀ (c : Int) (a b : List Int), hi c (a ++ b) = max (hi c a) (hi (c + sm a) b)
  | c, [], b => by show hi c b = max c (hi (c + 0) b); rw [Int.add_zero]; have := hi_ge c b; omega
  | c, x :: a, b => by
    show max c (hi (c + x) (a ++ b)) = max (max c (hi (c + x) a)) (hi (c + (x + sm a)) b)
    rw [hi_app (c + x) a b, ← Int.add_assoc]; omega
theorem sm_rev : ∀ l : List Int, sm (l.map (- ·)).reverse = - sm l
  | [] => rfl
  | x :: r => by
    rw [List.map_cons, List.reverse_cons, sm_app, sm_rev r]
    show - sm r + (- x + 0) = - (x + sm r)
    omega
theorem hi_rev : ∀ (c : Int) (l : List Int), hi (c + sm l) (l.map (- ·)).reverse = hi c l
  | c, [] => by show c + 0 = c; omega
  | c, x :: r => by
    rw [List.map_cons, List.reverse_cons, hi_app, sm_rev]
    have ih := hi_rev (c + x) r
    have e : c + sm (x :: r) = c + x + sm r := by show c + (x + sm r) = _; omega
    rw [e, ih]
    have e2 : c + x + sm r + -sm r = c + x := by omega
    rw [e2]
    show max (hi (c + x) r) (max (c + x) (c + x + -x)) = max c (hi (c + x) r)
    have := hi_ge (c + x) r
    omega
theorem dep_hi : ∀ (ds : List Dd) (m c : Int), c ≤ m → ds.foldl dStep (m, c) = (max m (hi c (ds.map Dd.up)), c + sm (ds.map Dd.up))
  | [], m, c, h => by show (m, c) = (max m c, c + 0); congr 1 <;> omega
  | d :: r, m, c, h => by
    have key : ∀ m' , dStep (m, c) d = (m', c + d.up) → c + d.up ≤ m' → max m' (hi (c + d.up) (r.map Dd.up)) = max m (max c (hi (c + d.up) (r.map Dd.up))) → (d :: r).foldl dStep (m, c) = (max m (hi c ((d :: r).map Dd.up)), c + sm ((d :: r).map Dd.up)) := by
      intro m' e h1 h2
      rw [List.foldl_cons, e, dep_hi r m' (c + d.up) h1, h2]
      show _ = (max m (max c (hi (c + d.up) (r.map Dd.up))), c + (d.up + sm (r.map Dd.up)))
      rw [Int.add_assoc]
    have g := hi_ge (c + d.up) (r.map Dd.up)
    cases d with
    | put n => exact key m (by show (m, c) = (m, c + 0); rw [Int.add_zero]) (by show c + 0 ≤ m; omega) (by omega)
    | take n => exact key m (by show (m, c) = (m, c + 0); rw [Int.add_zero]) (by show c + 0 ≤ m; omega) (by omega)
    | unprop => exact key m rfl (by show c + -1 ≤ m; omega) (by omega)
    | prop n =>
      have g' : c + 1 ≤ hi (c + 1) (r.map Dd.up) := g
      refine key (if c + 1 > m then c + 1 else m) rfl (by show c + 1 ≤ _; split <;> omega) ?_
      show max (if c + 1 > m then c + 1 else m) (hi (c + 1) (r.map Dd.up)) = max m (max c (hi (c + 1) (r.map Dd.up)))
      split <;> omega
theorem rev_up : ∀ (ds : List Dd) (e : List Dd) (p : List Str), (ds.foldl rStep (e, p)).1.map Dd.up = e.map Dd.up ++ (ds.map Dd.up).map (- ·)
  | [], e, p => by simp
  | d :: r, e, p => by
    rw [List.foldl_cons, rev_up r (rStep (e, p) d).1 (rStep (e, p) d).2]
    cases d <;> simp [rStep, Dd.up]
theorem sm_bal : ∀ (ds : List Dd) (e : List Dd) (p : List Str), Bal p ds → sm (ds.map Dd.up) = ((ds.foldl rStep (e, p)).2.length : Int) - p.length
  | [], e, p, _ => by show (0 : Int) = (p.length : Int) - p.length; omega
  | .put n :: r, e, p, h => by show 0 + sm (r.map Dd.up) = _; rw [sm_bal r (e ++ [.take n]) p h, Int.zero_add]; rfl
  | .take n :: r, e, p, h => by show 0 + sm (r.map Dd.up) = _; rw [sm_bal r (e ++ [.put n]) p h, Int.zero_add]; rfl
  | .prop n :: r, e, p, h => by
    show 1 + sm (r.map Dd.up) = ((r.foldl rStep (e ++ [.unprop], p ++ [n])).2.length : Int) - p.length
    rw [sm_bal r (e ++ [.unprop]) (p ++ [n]) h, List.length_append]
    show 1 + (_ - ((p.length + 1 : Nat) : Int)) = _
    omega
  | .unprop :: r, e, p, h => by
    show -1 + sm (r.map Dd.up) = ((r.foldl rStep (e ++ [.prop (p.getLast?.getD "")], p.dropLast)).2.length : Int) - p.length
    rw [sm_bal r (e ++ [.prop (p.getLast?.getD "")]) p.dropLast h.2, List.length_dropLast]
    have : 0 < p.length := List.length_pos_iff.mpr h.1
    omega
theorem dep_rev {ds : List Dd} (h : Bal [] ds) (hd : (ds.foldl rStep ([], [])).2 = []) : depthOf (revOf ds) = depthOf ds := by
  have s0 : sm (ds.map Dd.up) = 0 := by rw [sm_bal ds [] [] h, hd]; rfl
  have u := rev_up ds [] []
  have er : (revOf ds).map Dd.up = ((ds.map Dd.up).map (- ·)).reverse := by
    unfold revOf
    rw [List.map_reverse, u]; rfl
  have hr := hi_rev 0 (ds.map Dd.up)
  rw [s0] at hr
  unfold depthOf
  rw [dep_hi _ 0 0 (Int.le_refl 0), dep_hi _ 0 0 (Int.le_refl 0), er]
  show max 0 (hi 0 _) = max 0 (hi 0 _)
  rw [show (0 : Int) + 0 = 0 from rfl] at hr
  rw [hr]
theorem rev_length (ds : List Dd) : (revOf ds).length = ds.length := by
  unfold revOf
  rw [List.length_reverse, rev_len' ds [] []]
  exact Nat.zero_add _
end NP
set_option Elab.async false
set_option linter.all false
set_option maxRecDepth 100000
set_option maxHeartbeats 4000000
namespace NP
open PySem PySem.Spec PyProof.Rows L2
def Dd.dat (d : Dd) : PyData := .tuple (d.enc.map .str)
theorem dat_deed {K : PySem.W.Frag} : Dat K (rDeed K) Dd.dat := fun h => dat_tup dat_str h
theorem w_fine {x : Str} (h : ∀ c ∈ cl x, c < 128) (l : (cl x).length ≤ 6) : Fine (.str x) ∧ cost (.str x) ≤ 62 := ⟨h, by show 10 * (cl x).length + 2 ≤ 62; omega⟩
theorem Dd.fine (d : Dd) (h : ∀ n ∈ d.names, NameOk n) : Fine d.dat ∧ cost d.dat ≤ 131 ∧ d.dat.depth = 1 := by
  have one : ∀ n : Str, NameOk n → Fine (.str n) ∧ cost (.str n) ≤ 62 := fun n hn => w_fine (NameL.fine hn) hn.six
  have two : ∀ a n : Str, (Fine (.str a) ∧ cost (.str a) ≤ 62) → NameOk n → Fine (.tuple [.str a, .str n]) ∧ cost (.tuple [.str a, .str n]) ≤ 131 ∧ PyData.depth (.tuple [.str a, .str n]) = 1 := by
    intro a n ha hn
    obtain ⟨b1, b2⟩ := one n hn
    refine ⟨⟨ha.1, b1, trivial⟩, ?_, rfl⟩
    show cost (.str a) + 2 + (cost (.str n) + 2 + 0) + 3 ≤ 131
    have := ha.2
    omega
  cases d with
  | put n => exact two "put" n (w_fine (by decide +kernel) (by decide +kernel)) (h n (by simp [Dd.names]))
  | take n => exact two "take" n (w_fine (by decide +kernel) (by decide +kernel)) (h n (by simp [Dd.names]))
  | prop n => exact two "prop" n (w_fine (by decide +kernel) (by decide +kernel)) (h n (by simp [Dd.names]))
  | unprop =>
    have w := w_fine (x := "unprop") (by decide +kernel) (by decide +kernel)
    refine ⟨⟨w.1, trivial⟩, ?_, rfl⟩
    show cost (.str "unprop") + 2 + 0 + 3 ≤ 131
    have := w.2
    omega
theorem dds_fine {ds : List Dd} (h : ∀ d ∈ ds, ∀ n ∈ d.names, NameOk n) : FineAll (ds.map Dd.dat) ∧ costAll (ds.map Dd.dat) ≤ 133 * ds.length ∧ PyData.depthAll (ds.map Dd.dat) ≤ 1 := by
  induction ds with
  | nil => exact ⟨trivial, Nat.le_refl _, Nat.zero_le _⟩
  | cons d r ih =>
    obtain ⟨a1, a2, a3⟩ := d.fine (h d List.mem_cons_self)
    obtain ⟨b1, b2, b3⟩ := ih fun x hx => h x (List.mem_cons_of_mem _ hx)
    refine ⟨⟨a1, b1⟩, ?_, ?_⟩
    · show cost d.dat + 2 + costAll (r.map Dd.dat) ≤ 133 * (r.length + 1)
      omega
    · show max d.dat.depth (PyData.depthAll (r.map Dd.dat)) ≤ 1
      omega
theorem dds_shwL {ds : List Dd} (h : ∀ d ∈ ds, ∀ n ∈ d.names, NameOk n) (hl : ds.length ≤ 90) : Shw (.list (ds.map Dd.dat)) := by
  obtain ⟨a, b, c⟩ := dds_fine h
  exact Fine.shw a (by show costAll _ + 3 ≤ _; omega) (by show PyData.depthAll _ + 1 ≤ 60; omega)
theorem dds_shwT {ds : List Dd} (h : ∀ d ∈ ds, ∀ n ∈ d.names, NameOk n) (hl : ds.length ≤ 90) : Shw (.tuple (ds.map Dd.dat)) := by
  obtain ⟨a, b, c⟩ := dds_fine h
  exact Fine.shw a (by show costAll _ + 3 ≤ _; omega) (by show PyData.depthAll _ + 1 ≤ 60; omega)
theorem int_shw {i : Int} (h : i.natAbs < 2 ^ 200) : Shw (.int i) := Fine.shw h (by show 210 ≤ _; decide) (by show 0 ≤ 60; decide)
theorem dep_bound : ∀ (ds : List Dd) (m c : Int), m ≤ (ds.foldl dStep (m, c)).1 ∧ (ds.foldl dStep (m, c)).1 ≤ max m (c + ds.length)
  | [], m, c => ⟨Int.le_refl m, by show m ≤ max m (c + ((0 : Nat) : Int)); omega⟩
  | d :: r, m, c => by
    rw [List.length_cons]
    cases d with
    | put n => have := dep_bound r m c; exact ⟨this.1, Int.le_trans this.2 (by omega)⟩
    | take n => have := dep_bound r m c; exact ⟨this.1, Int.le_trans this.2 (by omega)⟩
    | unprop => have := dep_bound r m (c - 1); exact ⟨this.1, Int.le_trans this.2 (by omega)⟩
    | prop n =>
      have := dep_bound r (if c + 1 > m then c + 1 else m) (c + 1)
      exact ⟨Int.le_trans (by split <;> omega) this.1, Int.le_trans this.2 (by split <;> omega)⟩
theorem dep_shw {ds : List Dd} (h : ds.length ≤ 90) : Shw (.int (depthOf ds)) := by
  have := dep_bound ds 0 0
  refine int_shw (Nat.lt_of_le_of_lt (m := 90) ?_ (by decide))
  unfold depthOf
  omega
theorem rev_names {ns : List Str} : ∀ (ds : List Dd) (e : List Dd) (p : List Str), Bal p ds → (∀ d ∈ ds, ∀ n ∈ d.names, n ∈ ns) → (∀ n ∈ p, n ∈ ns) → (∀ d ∈ e, ∀ n ∈ d.names, n ∈ ns) → ∀ d ∈ (ds.foldl rStep (e, p)).1, ∀ n ∈ d.names, n ∈ ns
  | [], e, p, _, _, _, h => h
  | d :: r, e, p, hb, hd, hp, he => by
    have hr : ∀ x ∈ r, ∀ n ∈ x.names, n ∈ ns := fun x hx => hd x (List.mem_cons_of_mem _ hx)
    have hd0 := hd d List.mem_cons_self
    have app : ∀ d' : Dd, (∀ n ∈ d'.names, n ∈ ns) → ∀ x ∈ e ++ [d'], ∀ n ∈ x.names, n ∈ ns := by
      intro d' h x hx
      rcases List.mem_append.mp hx with hx | hx
      · exact he x hx
      · obtain rfl : x = d' := by simpa using hx
        exact h
    cases d with
    | put n => exact rev_names r (e ++ [.take n]) p hb hr hp (app _ hd0)
    | take n => exact rev_names r (e ++ [.put n]) p hb hr hp (app _ hd0)
    | prop n =>
      refine rev_names r (e ++ [.unprop]) (p ++ [n]) hb hr ?_ (app _ (fun _ z => nomatch z))
      intro x hx
      rcases List.mem_append.mp hx with hx | hx
      · exact hp x hx
      · obtain rfl : x = n := by simpa using hx
        exact hd0 x (by simp [Dd.names])
    | unprop =>
      refine rev_names r (e ++ [.prop (p.getLast?.getD "")]) p.dropLast hb.2 hr (fun n hn => hp n (List.dropLast_subset _ hn)) (app _ ?_)
      intro n hn
      obtain rfl : n = p.getLast?.getD "" := by simpa [Dd.names] using hn
      rw [List.getLast?_eq_getLast hb.1]
      exact hp _ (List.getLast_mem hb.1)
theorem same_sql {K : PySem.W.Frag} {H H' : Hp} {a : Addr} {xs : List V} (e : Same H H') (h : SqL K H a xs) : SqL K H' a xs := h.imp (fun z => z.imp (fun z => e _ _ z) (fun ⟨o, z⟩ => ⟨o, e _ _ z⟩)) id
theorem ne_same (v : V) : (!decide (v = v)) = false := by rw [decide_eq_true rfl]; rfl
abbrev s_law : Stmt := top 10
theorem sc_law : FnScope ["_law_script", "_law_deal_here", "_law_turn", "_law_names", "_law_deeds", "_law_back", "_law_most", "_law_handed", "_law_kept"] ["_law_script"] (defScope s_law) := ⟨rfl, rfl, rfl, by decide +kernel, rfl, by decide +kernel, by decide +kernel⟩
def spLaw (K : PySem.W.Frag) : Sp := fun vs H Q _ => ∃ (a : Addr) (ns : List Int), vs = [.ref a] ∧ SqL K H a (ns.map V.int) ∧ ns.length ≤ 63 ∧ ∀ H', Q (.bl true) H'
section
variable {P : Program} {w : World} {K : PySem.W.Frag} {mg : Str → Option Value} {base : Heap} {f : Addr} {fd : FuncData}
theorem ok_law (F : FnP K "law" s_law f fd) (gr : mg "range" = none) (gl : mg "len" = none) (gli : mg "list" = none) (gt : mg "tuple" = none) (gp : mg "repr" = none)
    (C : Cal P w K mg base CX0 1 "_law_draw" ["_law_deal_here", "_law_many"] spDraw) (CD : Cal P w K mg base CX0 1 "_law_deal" ["_law_script", "_law_base"] (spDeal K)) (CW : Cal P w K mg base CX0 3 "_law_words" ["_law_deal_here", "_law_many"] spWords)
    (CN : Cal P w K mg base CX0 2 "_law_drawn" ["_law_deal_here", "_law_names"] (spDrawn K)) (CE : Cal P w K mg base CX0 1 "depth_of" ["deeds"] (spDepth K)) (CR : Cal P w K mg base CX0 1 "reverse_of" ["deeds"] (spReverse K)) :
    FnG P w K mg base CX0 4 f fd ["_law_script"] (spLaw K) := by
  refine def_ok F sc_law (fun vs H Q E h => ?_) ?_
  · obtain ⟨a, ns, rfl, _⟩ := h; rfl
  rintro _ vs H Q E ⟨cdv, A0, out, s, rfl⟩ hg hr ⟨a, ns, rfl, hS, hns, k⟩
  have hnd := sc_law.nd
  have hu := hr.units
  have hr1 : Room 1 _ := hr.mono (by decide)
  have hr2 : Room 2 _ := hr.mono (by decide)
  refine w_cons <| w_set 1 hnd <| w_call CD hg hr1 <| w_acons <| w_var 0 rfl <| w_acons <| w_int <| w_anil ⟨a, ns, 0, rfl, hS, hns, by decide, fun g l H1 ng nl same dk => ?_⟩
  have dl := deals_base g l
  have gok : (gDeal g l).ok H1 := dk
  generalize gDeal g l = G at *
  let M : Nat → L2.St → Hp → Prop := fun _ σ' H' => ∃ a2 a3 a4 a5 a6 a7 a8, σ' = [some (.ref a), some (.ref g), a2, a3, a4, a5, a6, a7, a8] ∧ G.ok H'
  refine w_cut (fun σ' H' => M 0 σ' H') (w_for PassesOwn.never rfl (pg_name (i := 2) hnd rfl (Or.inl rfl)) <| wi_rangeT gr <| w_op op_add <| w_int <| w_callB call_len_seq gl PySem.boot_len <| w_acons <| w_slTo sl_list <| w_var 0 rfl <| w_int ⟨_, rfl, a, _, rfl, same_sql same hS, fun p np => w_anil ⟨p, _, rfl, Or.inl (SqL.of upd_same), _, _, rfl, rfl, ?_⟩⟩) ?_
  · have hcut : (cutV (ns.map V.int) none (some 5)).length ≤ 63 := by rw [cutV_map, List.length_map, List.length_take, List.length_drop]; omega
    have ok0 : G.ok (upd H1 p (.lst (cutV (ns.map V.int) none (some 5)))) := ((Le.refl gok).new np).2.1
    refine ⟨3 + (cutV (ns.map V.int) none (some 5)).length, congrArg V.int (by rw [Int.natCast_add]; rfl), by omega, fun I F => ⟨_, _, F, M, ⟨_, _, _, _, _, _, _, rfl, ok0⟩, fun _ _ _ _ => trivial, ?_, ?_⟩⟩
    · rintro i x σ' H' hx ⟨a2, a3, a4, a5, a6, a7, a8, rfl, ok⟩
      -- names = words(deal, 1 + draw(deal, 8))
      refine w_cons <| w_set 3 hnd <| w_call CW hg hr <| w_acons <| w_var 1 rfl <| w_acons <| w_op op_add <| w_int <| w_dr 1 C hg hr1 dl rfl <| w_int ⟨_, rfl, ok, by decide, by decide, fun r H2 r0 r1 le2 => ⟨_, _, rfl, rfl, w_anil ?_⟩⟩
      obtain ⟨m, rfl⟩ : ∃ m : Nat, r = m := ⟨r.toNat, by omega⟩
      refine ⟨g, l, G, 1 + m, by rw [Int.natCast_add]; rfl, dl, le2.2.1, by omega, by omega, fun ws pw H3 nms le3 _ hw => ?_⟩
      -- deeds, back, most = drawn(deal, names)
      refine w_cons <| w_asg (pg_tup rfl (pgs_cons (pg_name (i := 4) hnd rfl (Or.inl rfl)) (pgs_cons (pg_name (i := 5) hnd rfl (Or.inl rfl)) (pgs_cons (pg_name (i := 6) hnd rfl (Or.inl rfl)) pgs_nil)))) <| w_call CN hg hr2 <| w_acons <| w_var 1 rfl <| w_acons <| w_var 3 rfl <| w_anil ⟨g, l, G, _, ws, rfl, dl, le3.2.1, hw, fun e => by have := nms.len; rw [e] at this; have : 0 = 1 + m := this; omega, by rw [nms.len]; omega, nms.ok, fun ds u vf vb H4 dn le4 hsu hf hb => ⟨u, _, rfl, hsu, rfl, _, _, rfl, _, _, rfl, _, _, rfl, rfl, ?_⟩⟩
      obtain ⟨td, xd, rfl, htd, navd, pd⟩ := id hf
      have nok : ∀ d ∈ ds, ∀ n ∈ d.names, NameOk n := fun d hd n hn => nms.ok n (dn.nms d hd n hn)
      have nokr : ∀ d ∈ revOf ds, ∀ n ∈ d.names, NameOk n := fun d hd n hn => nms.ok n (rev_names ds [] [] dn.bal dn.nms (fun _ z => nomatch z) (fun _ z => nomatch z) d (by unfold revOf at hd; simpa using hd) n hn)
      have lr : (revOf ds).length ≤ 90 := by rw [rev_length]; exact dn.len
      obtain ⟨rb, rr⟩ := rev_rev dn.bal dn.done
      have drv := dep_rev dn.bal dn.done
      -- handed = [list(deeds), tuple(deeds)][draw(deal, 2)]
      refine w_cut (fun σ' H' => ∃ (vh : V) (hd : PyData), σ' = [some (.ref a), some (.ref g), some x, some (.ref pw), some (.ref td), some vb, some (.int (depthOf ds)), some vh, a8] ∧ Le G H4 H' ∧ (rSeq K (rDeed K)).is G H' vh ds ∧ (hd = .list (ds.map Dd.dat) ∨ hd = .tuple (ds.map Dd.dat)) ∧ ∀ H5, Le G H' H5 → Dp K H5 vh hd)
        (w_set 7 hnd <| w_ix ix_list <| w_lst <| w_acons <| w_callTy call_list_of gli boot_list <| w_acons <| w_var 4 rfl <| w_anil ⟨td, xd, rfl, Or.inl (SqL.of htd), fun ql nl => w_acons <| w_callTy call_tuple_of gt boot_tuple <| w_acons <| w_var 4 rfl <| w_anil ⟨td, xd, rfl, Or.inl ⟨SqL.of (keep htd nl), fun qt nt => w_anil ⟨by show 2 ≤ sizeLine; decide, fun qp np => w_dr 1 C hg hr1 dl rfl <| w_int ⟨_, rfl, ((((Le.refl le4.2.1).new nl).new nt).new np).2.1, by decide, by decide, fun r H5 r0 r1 le5 => ?_⟩⟩⟩⟩⟩) ?_
      · have z := ((((Le.refl le4.2.1).new (o := .lst xd) nl).new (o := .tup xd) nt).new (o := .lst [.ref ql, .ref qt]) np)
        have zz := z.trans le5
        have e1 : (upd (upd (upd H4 ql (.lst xd)) qt (.tup xd)) qp (.lst [.ref ql, .ref qt])) ql = some (.lst xd) := keep (keep upd_same nt) np
        have e2 : (upd (upd (upd H4 ql (.lst xd)) qt (.tup xd)) qp (.lst [.ref ql, .ref qt])) qt = some (.tup xd) := keep upd_same np
        have nql : ¬ G.out ql := Gh.freeO le4.2.1 nl
        have nqt : ¬ G.out qt := Gh.freeO ((Le.refl le4.2.1).new nl).2.1 nt
        have nqp : ¬ G.out qp := Gh.freeO (((Le.refl le4.2.1).new nl).new nt).2.1 np
        have f1 := le5.2.2 ql _ e1 nql
        have f2 := le5.2.2 qt _ e2 nqt
        have f3 := le5.2.2 qp _ upd_same nqp
        have pd5 := pmap pd fun _ _ q => (rDeed K).mono zz q
        have r01 : r = 0 ∨ r = 1 := by omega
        rcases r01 with rfl | rfl
        · refine ⟨qp, _, _, .ref ql, rfl, rfl, SqL.of f3, rfl, _, .list (ds.map Dd.dat), rfl, zz, ⟨ql, xd, rfl, Or.inl ⟨f1, Gh.free le4.2.1 nl⟩, pd5⟩, Or.inl rfl, fun H6 l6 => dat_lst dat_deed ⟨ql, xd, rfl, l6.2.2 ql _ f1 nql, Gh.free le4.2.1 nl, pmap pd5 fun _ _ q => (rDeed K).mono l6 q⟩⟩
        · refine ⟨qp, _, _, .ref qt, rfl, rfl, SqL.of f3, rfl, _, .tuple (ds.map Dd.dat), rfl, zz, ⟨qt, xd, rfl, Or.inr (Or.inr (SqT.of f2)), pd5⟩, Or.inr rfl, fun H6 l6 => dat_tup dat_deed ⟨qt, xd, rfl, l6.sqt (SqT.of f2), pmap pd5 fun _ _ q => (rDeed K).mono l6 q⟩⟩
      rintro σ2 H5 ⟨vh, hd, rfl, le5, hh, hhd, hdp⟩
      have shd : Shw hd := by
        rcases hhd with rfl | rfl
        · exact dds_shwL nok dn.len
        · exact dds_shwT nok dn.len
      have hb5 := (rTup K (rDeed K)).mono le5 hb
      -- kept = repr(handed)
      refine w_cons <| w_set 8 hnd <| w_callB (call_repr hg hu) gp boot_repr <| w_acons <| w_var 7 rfl <| w_anil ⟨_, hd, rfl, hdp H5 (Le.refl le5.2.1), shd, ?_⟩
      have big : ∀ {ds : List Dd}, ds.length ≤ 90 → ds.length ≤ 100000 := fun h => Nat.le_trans h (by decide)
      -- repr(depth_of(handed)) != repr(most) or repr(reverse_of(handed)) != repr(back)
      refine w_cons <| w_if <| t_or <| t_cmp op_ne <| w_callB (call_repr hg hu) gp boot_repr <| w_acons <| w_call CE hg hr1 <| w_acons <| w_var 7 rfl <| w_anil ⟨G, vh, ds, rfl, le5.2.1, hh, big dn.len, fun H6 le6 => w_anil ⟨_, _, rfl, .int _, dep_shw dn.len, w_callB (call_repr hg hu) gp boot_repr <| w_acons <| w_var 6 rfl <| w_anil ⟨_, _, rfl, .int _, dep_shw dn.len, ⟨rfl, _, rfl, ite_f (ne_same _) ?_⟩⟩⟩⟩
      refine t_cmp op_ne <| w_callB (call_repr hg hu) gp boot_repr <| w_acons <| w_call CR hg hr1 <| w_acons <| w_var 7 rfl <| w_anil ⟨G, vh, ds, rfl, le6.2.1, (rSeq K (rDeed K)).mono le6 hh, big dn.len, dn.bal, fun v7 H7 le7 hv7 => w_anil ⟨_, _, rfl, dat_tup dat_deed hv7, dds_shwT nokr lr, w_callB (call_repr hg hu) gp boot_repr <| w_acons <| w_var 5 rfl <| w_anil ⟨_, _, rfl, dat_tup dat_deed ((rTup K (rDeed K)).mono (le6.trans le7) hb5), dds_shwT nokr lr, ⟨rfl, _, rfl, ite_f (ne_same _) <| w_nil ?_⟩⟩⟩⟩
      have l57 := le6.trans le7
      -- repr(reverse_of(reverse_of(handed))) != repr(tuple(deeds)) or repr(depth_of(back)) != repr(most)
      refine w_cons <| w_if <| t_or <| t_cmp op_ne <| w_callB (call_repr hg hu) gp boot_repr <| w_acons <| w_call CR hg hr1 <| w_acons <| w_call CR hg hr1 <| w_acons <| w_var 7 rfl <| w_anil ⟨G, vh, ds, rfl, l57.2.1, (rSeq K (rDeed K)).mono l57 hh, big dn.len, dn.bal, fun v8 H8 le8 hv8 => w_anil ⟨G, v8, revOf ds, rfl, le8.2.1, seq_tup hv8, big lr, rb, fun v9 H9 le9 hv9 => w_anil ?_⟩⟩
      rw [rr] at hv9
      have l59 := (l57.trans le8).trans le9
      have htd9 : H9 td = some (.lst xd) := (le5.trans l59).2.2 td _ htd fun z => navd (G.sub z)
      have pd9 := pmap pd fun _ _ q => (rDeed K).mono (le5.trans l59) q
      refine ⟨_, _, rfl, dat_tup dat_deed hv9, dds_shwT nok dn.len, w_callB (call_repr hg hu) gp boot_repr <| w_acons <| w_callTy call_tuple_of gt boot_tuple <| w_acons <| w_var 4 rfl <| w_anil ⟨td, xd, rfl, Or.inl ⟨SqL.of htd9, fun qt nt => w_anil ⟨_, .tuple (ds.map Dd.dat), rfl, ?_, dds_shwT nok dn.len, ⟨rfl, _, rfl, ite_f (ne_same _) ?_⟩⟩⟩⟩⟩
      · exact dat_tup dat_deed (G := G) ⟨qt, xd, rfl, SqT.of upd_same, pmap pd9 fun _ _ q => (rDeed K).mono ((Le.refl l59.2.1).new nt) q⟩
      have l5a := l59.new (o := .tup xd) nt
      refine t_cmp op_ne <| w_callB (call_repr hg hu) gp boot_repr <| w_acons <| w_call CE hg hr1 <| w_acons <| w_var 5 rfl <| w_anil ⟨G, vb, revOf ds, rfl, l5a.2.1, seq_tup ((rTup K (rDeed K)).mono l5a hb5), big lr, fun Hb leb => w_anil ⟨_, _, rfl, .int _, dep_shw lr, w_callB (call_repr hg hu) gp boot_repr <| w_acons <| w_var 6 rfl <| w_anil ⟨_, _, rfl, .int _, dep_shw dn.len, ⟨rfl, _, rfl, ?_⟩⟩⟩⟩
      rw [drv]
      refine ite_f (ne_same _) <| w_nil ?_
      have l5b := l5a.trans leb
      -- repr(handed) != kept or repr(depth_of([])) != '0' or repr(reverse_of(())) != '()'
      refine w_one <| w_if <| t_or3 <| t_cmp op_ne <| w_callB (call_repr hg hu) gp boot_repr <| w_acons <| w_var 7 rfl <| w_anil ⟨_, hd, rfl, hdp _ l5b, shd, w_var 8 rfl ⟨rfl, _, rfl, ite_f (ne_same _) ?_⟩⟩
      refine t_cmp op_ne <| w_callB (call_repr hg hu) gp boot_repr <| w_acons <| w_call CE hg hr1 <| w_acons <| w_lst <| w_anil ⟨by show 0 ≤ sizeLine; decide, fun pe ne => w_anil ⟨G, _, [], rfl, (l5b.new ne).2.1, ⟨pe, [], rfl, Or.inl ⟨upd_same, Gh.free l5b.2.1 ne⟩, .nil⟩, by decide, fun Hc lec => w_anil ⟨_, _, rfl, .int _, dep_shw (by decide), w_str ⟨rfl, _, rfl, ite_f (by decide +kernel) ?_⟩⟩⟩⟩
      have l5c := (l5b.new (o := .lst []) ne).trans lec
      refine t_cmp op_ne <| w_callB (call_repr hg hu) gp boot_repr <| w_acons <| w_call CR hg hr1 <| w_acons <| w_tup <| w_anil ⟨by show 0 ≤ sizeLine; decide, fun pt npt => w_anil ⟨G, _, [], rfl, (l5c.new npt).2.1, ⟨pt, [], rfl, Or.inr (Or.inr (SqT.of upd_same)), .nil⟩, by decide, trivial, fun vd Hd led hvd => w_anil ⟨_, _, rfl, dat_tup dat_deed hvd, dds_shwT (fun _ z => nomatch z) (by decide), w_str ⟨rfl, _, rfl, ite_f (by decide +kernel) <| w_nil ?_⟩⟩⟩⟩
      exact ⟨_, _, _, _, _, _, _, rfl, led.2.1⟩
    · rintro σ' H' z
      exact z
  rintro σ' H' ⟨a2, a3, a4, a5, a6, a7, a8, rfl, ok⟩
  exact w_one <| w_ret <| w_bl (k H')
end
end NP
set_option Elab.async false
set_option linter.all false
set_option maxRecDepth 100000
set_option maxHeartbeats 0
namespace NP
open PySem PySem.Spec PyProof.Rows L2
def dOf (x : Str) (st : Stmt) : He.DefD := ⟨(x, none), x, x, defArgs st, defBody st, defScope st, [], []⟩
def fn : List He.DefD := [dOf "depth_of" s_depth_of, dOf "reverse_of" s_reverse_of, dOf "_law_deal" s__law_deal, dOf "_law_draw" s__law_draw, dOf "_law_mixed" s__law_mixed, dOf "_law_any_word" s__law_any_word, dOf "_law_words" s__law_words, dOf "_law_drawn" s__law_drawn, dOf "law" s_law]
def fa : List He.Fa := [.glo "depth_of", .glo "reverse_of", .glo "_law_deal", .glo "_law_draw", .glo "_law_mixed", .glo "_law_any_word", .glo "_law_words", .glo "_law_drawn", .glo "law", .free "range", .free "len", .free "max", .free "list", .free "reversed", .free "tuple", .free "repr", .free "int"]
def loose : List Str := ["depth_of", "reverse_of", "_law_deal", "_law_draw", "_law_mixed", "_law_any_word", "_law_words", "_law_drawn"]
abbrev R : PySem.W.OpenRow := PySem.W.OpenLaw.row PySem.Challenge.rw_nestprops_k28_depths_and_reversed_script
abbrev hk : PySem.W.Hook := He.hookD 4 fa fn
def ob (s : PySem.W.SharedT) : He.AlD := He.obsDG 4 fa fn (HandSHeadRun.getT s)
theorem ob_eq (s : PySem.W.SharedT) : ob s = hk.obs s.abs := He.obsDG_eq (HandSHeadRun.getT_eq s)
theorem run (w : World) : HandSHeadRun.RunEq R (PySem.W.view R.prog [10]) hk ob 4000 loose w := by
  intro os
  kernel_rfl
theorem facts {P : Program} {w : World} {K : PySem.W.Frag} {h : Heap} {mg : Str → Option Value} {f : Addr} (X : K.In h) (G : h.Ns mainGlobals mg) (hfa : mg ("law" : Str) = some (.ref f)) (c : He.SaysD fa fn K) :
    ∃ fd : FuncData, (∀ (s : Shared) (v : Value), BindsTo s fd ⟨[v], []⟩ [("_law_script", v)]) ∧ ∀ base : Heap, K.In base → base.Ns mainGlobals mg → FnG P w K mg base CX0 4 f fd ["_law_script"] (spLaw K) := by
  obtain ⟨fd0, F0⟩ := c.def_ 0 (d := dOf "depth_of" s_depth_of) rfl
  obtain ⟨fd1, F1⟩ := c.def_ 1 (d := dOf "reverse_of" s_reverse_of) rfl
  obtain ⟨fd2, F2⟩ := c.def_ 2 (d := dOf "_law_deal" s__law_deal) rfl
  obtain ⟨fd3, F3⟩ := c.def_ 3 (d := dOf "_law_draw" s__law_draw) rfl
  obtain ⟨fd4, F4⟩ := c.def_ 4 (d := dOf "_law_mixed" s__law_mixed) rfl
  obtain ⟨fd5, F5⟩ := c.def_ 5 (d := dOf "_law_any_word" s__law_any_word) rfl
  obtain ⟨fd6, F6⟩ := c.def_ 6 (d := dOf "_law_words" s__law_words) rfl
  obtain ⟨fd7, F7⟩ := c.def_ 7 (d := dOf "_law_drawn" s__law_drawn) rfl
  obtain ⟨fd, F⟩ := c.def_ 8 (d := dOf "law" s_law) rfl
  have e := hfa.symm.trans (He.glo_ok X G (c.fact 8 (f := .glo "law") rfl))
  cases e
  have b := FunD.bindsA (ps := ["_law_script"]) F fun _ _ _ _ _ _ us hl => match us, hl with | [_], _ => rfl
  refine ⟨fd, fun s v => b s [v] rfl, fun base _ _ => ?_⟩
  have gr := He.free_ok X G (c.fact 9 (f := .free "range") rfl)
  have gl := He.free_ok X G (c.fact 10 (f := .free "len") rfl)
  have gm := He.free_ok X G (c.fact 11 (f := .free "max") rfl)
  have gli := He.free_ok X G (c.fact 12 (f := .free "list") rfl)
  have grv := He.free_ok X G (c.fact 13 (f := .free "reversed") rfl)
  have gt := He.free_ok X G (c.fact 14 (f := .free "tuple") rfl)
  have gp := He.free_ok X G (c.fact 15 (f := .free "repr") rfl)
  have gi := He.free_ok X G (c.fact 16 (f := .free "int") rfl)
  have C0 : Cal P w K mg base CX0 1 "depth_of" ["deeds"] (spDepth K) := ⟨_, _, ok_depth_of F0 gm, He.glo_ok X G (c.fact 0 (f := .glo "depth_of") rfl), F0.kp, F0.bindsN fun _ _ _ _ _ _ us hl => match us, hl with | [_], _ => rfl⟩
  have C1 : Cal P w K mg base CX0 1 "reverse_of" ["deeds"] (spReverse K) := ⟨_, _, ok_reverse_of F1 gt, He.glo_ok X G (c.fact 1 (f := .glo "reverse_of") rfl), F1.kp, F1.bindsN fun _ _ _ _ _ _ us hl => match us, hl with | [_], _ => rfl⟩
  have C2 : Cal P w K mg base CX0 1 "_law_deal" ["_law_script", "_law_base"] (spDeal K) := ⟨_, _, ok_deal F2 gm gli grv, He.glo_ok X G (c.fact 2 (f := .glo "_law_deal") rfl), F2.kp, F2.bindsN fun _ _ _ _ _ _ us hl => match us, hl with | [_, _], _ => rfl⟩
  have C3 : Cal P w K mg base CX0 1 "_law_draw" ["_law_deal_here", "_law_many"] spDraw := ⟨_, _, ok_draw F3 gl, He.glo_ok X G (c.fact 3 (f := .glo "_law_draw") rfl), F3.kp, F3.bindsN fun _ _ _ _ _ _ us hl => match us, hl with | [_, _], _ => rfl⟩
  have C4 : Cal P w K mg base CX0 2 "_law_mixed" ["_law_deal_here", "_law_items"] (spMixed K) := ⟨_, _, ok_mixed F4 gl gli gr C3, He.glo_ok X G (c.fact 4 (f := .glo "_law_mixed") rfl), F4.kp, F4.bindsN fun _ _ _ _ _ _ us hl => match us, hl with | [_, _], _ => rfl⟩
  have C5 : Cal P w K mg base CX0 2 "_law_any_word" ["_law_deal_here", "_law_last"] spAnyWord := ⟨_, _, ok_any_word F5 gr C3, He.glo_ok X G (c.fact 5 (f := .glo "_law_any_word") rfl), F5.kp, F5.bindsN fun _ _ _ _ _ _ us hl => match us, hl with | [_, _], _ => rfl⟩
  have C6 : Cal P w K mg base CX0 3 "_law_words" ["_law_deal_here", "_law_many"] spWords := ⟨_, _, ok_words F6 gr gl gi C3 C4 C5, He.glo_ok X G (c.fact 6 (f := .glo "_law_words") rfl), F6.kp, F6.bindsN fun _ _ _ _ _ _ us hl => match us, hl with | [_, _], _ => rfl⟩
  have C7 : Cal P w K mg base CX0 2 "_law_drawn" ["_law_deal_here", "_law_names"] (spDrawn K) := ⟨_, _, ok_drawn F7 gr gl gm gt C3, He.glo_ok X G (c.fact 7 (f := .glo "_law_drawn") rfl), F7.kp, F7.bindsN fun _ _ _ _ _ _ us hl => match us, hl with | [_, _], _ => rfl⟩
  exact ok_law F gr gl gli gt gp C3 C2 C6 C7 C0 C1
end NP
open PySem PySem.W PySem.Calls PyProof.Rows
theorem PySem.Challenge.cw_nestprops_k28_depths_and_reversed_script_holds : PySem.Challenge.rw_nestprops_k28_depths_and_reversed_script.Holds := by
  w_on; o_law
  refine HandSHeadRun.head_any (r := OpenLaw.row PySem.Challenge.rw_nestprops_k28_depths_and_reversed_script) (q := view (OpenLaw.row PySem.Challenge.rw_nestprops_k28_depths_and_reversed_script).prog [10]) (H := NP.hk) (ob := NP.ob) (M := 4000) (loose := NP.loose) (d := HandSHeadRun.topDef (OpenLaw.row PySem.Challenge.rw_nestprops_k28_depths_and_reversed_script).prog 10) (kwd := []) NP.ob_eq
    (by kernel_rfl) (fun s => by kernel_rfl) NP.run (by kernel_rfl) (by kernel_rfl) (by kernel_rfl) (by rfl) (by first | assumption | decide +kernel) (by decide +kernel) ⟨rfl, rfl, rfl, rfl, rfl, by decide +kernel⟩ ?hw ?hc
  case hw => w_witness2
  case hc =>
    refine NP.walkG (l := PySem.Challenge.rw_nestprops_k28_depths_and_reversed_script) (n := 63) (k := 4) (x := "_law_script") rfl (by decide) (by kernel_rfl) ⟨rfl, by decide, by decide⟩ ?F
    intro w mg fa h Y G hmg0
    obtain ⟨K, KX, c⟩ := Y
    have hmg : mg ("law" : PySem.Str) = some (.ref fa) := by
      have e : (HandSHeadRun.topDef (OpenLaw.row PySem.Challenge.rw_nestprops_k28_depths_and_reversed_script).prog 10).name = ("law" : PySem.Str) := by kernel_rfl
      rw [← e]
      exact hmg0
    obtain ⟨fd, hb, hF⟩ := NP.facts (P := (PySem.Challenge.rw_nestprops_k28_depths_and_reversed_script).prog) (w := w) KX G hmg c
    exact ⟨K, fd, NP.spLaw K, KX, hb, fun H a ns hl _ hS => ⟨a, ns, rfl, hS, hl, fun _ => rfl⟩, hF⟩
