import PyProof.Rows.All
import Wide.All
import OpenK.AllK
import Wide.FinOn
import PyProof.EqAt
import PyProof.EqKinds
import HandS.ForMost
import HandS.ForExc
import HandS.Flow
import HandS.Deep
import HandS.Conv
import HandS.StrMore
import HandS.HeadHook4
import HandS.HeadEnd
import HandS.Head2
import HandS.Wide
import HandS.WideBits
import HandS.WideMore
import HandS.Star
import HandS.SortInts
import HandS.IsInst
import HandS.RaiseMore
import HandS.TupAny
import HandS.More
import PyProof.StrBlock2
import KE.KRevSl
import PyProof.StrLawsRepr
import PyProof.FitsInt
import HandS.Iter
import HandS.Comp
import PyProof.ListStr
import HandS.Small
import HandS.Ends
import HandS.SetKeys
import HandS.ListItems
import HandS.ExcInit
import HandS.ExcSuper
import KE.KSuperObj
import KE.KSuper
import KE.KExcSuper
import HandS.ExcIs
import HandS.ExcField
import PySem.Challenge.RW_ownlog_k42_elder_refused
set_option Elab.async false
set_option linter.all false
set_option maxRecDepth 100000
set_option maxHeartbeats 0
namespace Ow
open PySem PySem.Spec L2
open PyProof.Rows hiding St
section
/-! the own layer: defs that know that no repr runs around them; frames -/

/-- a law's lists, laid over a heap -/
def lay : List (Addr × List V) → Hp → Hp
  | [], H => H
  | m :: ms, H => upd (lay ms H) m.1 (.lst m.2)
def Off (ms : List (Addr × List V)) (H : Hp) : Prop := ∀ m ∈ ms, H m.1 = none

theorem lay_in : ∀ {ms : List (Addr × List V)} {H : Hp} {a : Addr}, a ∈ ms.map (·.1) → ∃ xs, lay ms H a = some (.lst xs)
  | [], _, _, h => by cases h
  | m :: ms, H, a, h => by
    by_cases e : a = m.1
    · exact ⟨m.2, by rw [e]; exact upd_same⟩
    · have h2 : a ∈ ms.map (·.1) := by
        rcases List.mem_cons.mp h with q | q
        · exact absurd q e
        · exact q
      obtain ⟨xs, q⟩ := lay_in (H := H) h2
      exact ⟨xs, by show upd (lay ms H) m.1 _ a = _; rw [upd_ne e]; exact q⟩
theorem lay_out : ∀ {ms : List (Addr × List V)} {H : Hp} {a : Addr}, a ∉ ms.map (·.1) → lay ms H a = H a
  | [], _, _, _ => rfl
  | m :: ms, H, a, h => by
    have e : a ≠ m.1 := fun q => h (by rw [q]; exact List.mem_cons_self)
    have h2 : a ∉ ms.map (·.1) := fun q => h (List.mem_cons_of_mem _ q)
    show upd (lay ms H) m.1 _ a = _
    rw [upd_ne e]
    exact lay_out h2
theorem lay_same {ms : List (Addr × List V)} {H H' : Hp} {a : Addr} (h : a ∈ ms.map (·.1)) : lay ms H a = lay ms H' a := by
  induction ms with
  | nil => cases h
  | cons m ms ih =>
    show upd (lay ms H) m.1 _ a = upd (lay ms H') m.1 _ a
    by_cases e : a = m.1
    · rw [e, upd_same, upd_same]
    · rw [upd_ne e, upd_ne e]
      rcases List.mem_cons.mp h with q | q
      · exact absurd q e
      · exact ih q
theorem off_not {ms : List (Addr × List V)} {H : Hp} (o : Off ms H) {a : Addr} {u : HO} (h : H a = some u) : a ∉ ms.map (·.1) := fun q => by
  obtain ⟨m, hm, e⟩ := List.mem_map.mp q
  have z := o m hm
  rw [e, h] at z
  cases z
theorem lay_none {ms : List (Addr × List V)} {H : Hp} {a : Addr} (h : lay ms H a = none) : a ∉ ms.map (·.1) ∧ H a = none := by
  by_cases q : a ∈ ms.map (·.1)
  · obtain ⟨xs, e⟩ := lay_in (H := H) q
    rw [h] at e
    cases e
  · rw [lay_out q] at h
    exact ⟨q, h⟩
theorem lay_other {ms : List (Addr × List V)} {H : Hp} {a : Addr} {u : HO} (h : lay ms H a = some u) (n : ∀ xs, u ≠ .lst xs) : a ∉ ms.map (·.1) ∧ H a = some u := by
  by_cases q : a ∈ ms.map (·.1)
  · obtain ⟨xs, e⟩ := lay_in (H := H) q
    rw [h] at e
    exact absurd (Option.some.inj e) (n xs)
  · rw [lay_out q] at h
    exact ⟨q, h⟩
theorem same_lay {ms : List (Addr × List V)} {H : Hp} (o : Off ms H) : Same H (lay ms H) := fun b u e => by
  rw [lay_out (off_not o e)]
  exact e

section
variable {P : Program} {w : World} {ms : List (Addr × List V)} {H H' : Hp} {h h' : Heap}
/-- the laid lists taken away -/
theorem hok_off (o : Off ms H) (x : HOk P w (lay ms H) h) : HOk P w H h := fun a u e => by
  have q := x a u (by rw [lay_out (off_not o e)]; exact e)
  refine q.stay (fun _ _ _ z => z) (fun b z => ?_) fun b xs z => ?_
  · exact (lay_other z fun _ y => nomatch y).2
  · exact (lay_other z fun _ y => nomatch y).2
/-- .. and put back, where their objects stand -/
theorem hok_on (o : Off ms H') (x : HOk P w H' h') (y : HOk P w (lay ms H) h) (k : ∀ a u, a ∈ ms.map (·.1) → h.get? a = some u → h'.get? a = some u) : HOk P w (lay ms H') h' := fun a u e => by
  by_cases q : a ∈ ms.map (·.1)
  · obtain ⟨xs, e1⟩ := lay_in (H := H) q
    have e2 := lay_same (H := H) (H' := H') q
    rw [e1, e] at e2
    have eu : HO.lst xs = u := Option.some.inj e2
    subst eu
    obtain ⟨z, its, n, r, ho⟩ := y a _ e1
    exact ⟨z, its, n, r, k a _ q ho⟩
  · rw [lay_out q] at e
    refine (x a u e).stay (fun _ _ _ z => z) (fun b z => ?_) fun b xs z => ?_
    · rw [lay_out (off_not o z)]; exact z
    · rw [lay_out (off_not o z)]; exact z
theorem there_of (y : HOk P w (lay ms H) h) {a : Addr} (q : a ∈ ms.map (·.1)) : ∃ u, h.get? a = some u := by
  obtain ⟨xs, e1⟩ := lay_in (H := H) q
  obtain ⟨_, its, n, _, ho⟩ := y a _ e1
  exact ⟨_, ho⟩
end

/-- a def's promise, kept by runs around which no repr is under way -/
structure Gf (P : Program) (w : World) (K : PySem.W.Frag) (mg : Str → Option Value) (base : Heap) (k : Nat) (f : Addr) (fd : FuncData) (ps : List Str) (sp : Sp) : Prop where
  len : ∀ vs H Q E, sp vs H Q E → vs.length = ps.length
  run : ∀ (A : Around) (outer : List Env) (s : Shared) (H : Hp) (args : Args) (us : List Value) (vs : List V) (Q : VK) (E : XK), A.guards = some [] → Room k A → Env0 P w K mg base A outer s H →
    BindsTo s fd args (ps.zip us) → Vals vs us → sp vs H Q E → codeAny (model P w) A (.call (.ref f) args) (CR (L2.CX P w) outer P w H s Q E) s

/-- a promise over the lists that the callee does not see -/
def Fr (sp : Sp) : Sp := fun vs H Q E => ∃ (ms : List (Addr × List V)) (Hi : Hp), H = lay ms Hi ∧ Off ms Hi ∧
  sp vs Hi (fun v H' => Off ms H' → Q v (lay ms H')) (fun c d H' => Off ms H' → E c d (lay ms H'))

section
variable {P : Program} {w : World} {K : PySem.W.Frag} {mg : Str → Option Value} {base : Heap} {k j : Nat} {f : Addr} {fd : FuncData} {ps : List Str} {sp sp' : Sp}
theorem Gf.mono (F : Gf P w K mg base j f fd ps sp) (h : j ≤ k) : Gf P w K mg base k f fd ps sp :=
  ⟨F.len, fun A outer s H args us vs Q E hg hr => F.run A outer s H args us vs Q E hg (hr.mono h)⟩
theorem Gf.imp (F : Gf P w K mg base k f fd ps sp) (h : ∀ vs H Q E, sp' vs H Q E → sp vs H Q E) : Gf P w K mg base k f fd ps sp' :=
  ⟨fun vs H Q E q => F.len vs H Q E (h _ _ _ _ q), fun A outer s H args us vs Q E hg hr he hb hv hs => F.run A outer s H args us vs Q E hg hr he hb hv (h _ _ _ _ hs)⟩
theorem env_off {A : Around} {outer : List Env} {s : Shared} {ms : List (Addr × List V)} {H : Hp} (o : Off ms H) (e : Env0 P w K mg base A outer s (lay ms H)) : Env0 P w K mg base A outer s H :=
  ⟨e.frames, e.mod, fun b u q => ⟨(e.bs b u q).1, (lay_none (e.bs b u q).2).2⟩, e.bsz, e.funs, fun b hb => (lay_none (e.frf b hb)).2, hok_off o e.hok, e.bare⟩
theorem ce_on {A : Around} {outer : List Env} {s s' : Shared} {ms : List (Addr × List V)} {H : Hp} {Q : VK} {u : Value} (o : Off ms H) (e : Env0 P w K mg base A outer s (lay ms H))
    (c : CE outer P w H s (fun v H' => Off ms H' → Q v (lay ms H')) u s') : CE outer P w (lay ms H) s Q u s' := by
  obtain ⟨v, H', os, bare, un, hok, r, q⟩ := c
  have nf : ∀ a, a ∈ ms.map (·.1) → a ∉ frs outer := fun a ha hb => (lay_none (e.frf a hb)).1 ha
  have hn : ∀ a, a ∈ ms.map (·.1) → H a = none := fun a ha => by
    obtain ⟨m, hm, z⟩ := List.mem_map.mp ha
    rw [← z]
    exact o m hm
  have o' : Off ms H' := fun m hm => by
    have ha : m.1 ∈ ms.map (·.1) := List.mem_map_of_mem hm
    obtain ⟨ob, ho⟩ := there_of e.hok ha
    exact un.free m.1 ob ho (hn _ ha) (by simp)
  have kp : ∀ a ob, a ∈ ms.map (·.1) → s.heap.get? a = some ob → s'.heap.get? a = some ob := fun a ob ha ho => un.keep a ob ho (hn a ha) (nf a ha) (by simp)
  refine ⟨v, lay ms H', os, bare, ?_, hok_on o' hok e.hok kp, r, q o'⟩
  exact {
    keep := fun b ob h1 h2 h3 h4 => un.keep b ob h1 (lay_none h2).2 h3 h4
    slot := fun b ob h1 h2 h3 h4 => un.slot b ob h1 (lay_none h2).2 h3 h4
    free := fun b ob h1 h2 h3 => by rw [lay_out (lay_none h2).1]; exact un.free b ob h1 (lay_none h2).2 h3
    there := un.there
    tups := fun b xs h => by
      obtain ⟨h1, h2⟩ := lay_other h fun _ y => nomatch y
      rw [lay_out h1]; exact un.tups b xs h2
    frzs := fun b ob u h => by
      obtain ⟨h1, h2⟩ := lay_other h fun _ y => nomatch y
      rw [lay_out h1]; exact un.frzs b ob u h2
    tbls := fun b ps h => by
      obtain ⟨h1, h2⟩ := lay_other h fun _ y => nomatch y
      rw [lay_out h1]; exact un.tbls b ps h2 }
theorem cx_on {A : Around} {outer : List Env} {s s' : Shared} {ms : List (Addr × List V)} {H : Hp} {E : XK} {u : Value} (o : Off ms H) (e : Env0 P w K mg base A outer s (lay ms H))
    (c : L2.CX P w outer H s (fun c d H' => Off ms H' → E c d (lay ms H')) u s') : L2.CX P w outer (lay ms H) s E u s' := by
  obtain ⟨a, B, H', cls, d, ea, fl, hok, ub, na, os, ag, q⟩ := c
  have nf : ∀ a, a ∈ ms.map (·.1) → a ∉ frs outer := fun a ha hb => (lay_none (e.frf a hb)).1 ha
  have hn : ∀ a, a ∈ ms.map (·.1) → H a = none := fun a ha => by
    obtain ⟨m, hm, z⟩ := List.mem_map.mp ha
    rw [← z]
    exact o m hm
  have o' : Off ms H' := fun m hm => by
    have ha : m.1 ∈ ms.map (·.1) := List.mem_map_of_mem hm
    obtain ⟨ob, ho⟩ := there_of e.hok ha
    exact ub.free m.1 ob ho (hn _ ha)
  have kp : ∀ a ob, a ∈ ms.map (·.1) → s.heap.get? a = some ob → B.get? a = some ob := fun a ob ha ho => ub.keep a ob ho (hn a ha) (nf a ha)
  have nal : a ∉ ms.map (·.1) := fun ha => by
    obtain ⟨ob, ho⟩ := there_of e.hok ha
    have hb := kp a ob ha ho
    rw [fl.2.1] at hb
    cases hb
  refine ⟨a, B, lay ms H', cls, d, ea, fl, hok_on o' hok e.hok kp, ?_, by rw [lay_out nal]; exact na, os, ag, q o'⟩
  exact {
    keep := fun b ob h1 h2 h3 => ub.keep b ob h1 (lay_none h2).2 h3
    slot := ub.slot
    free := fun b ob h1 h2 => by rw [lay_out (lay_none h2).1]; exact ub.free b ob h1 (lay_none h2).2
    there := ub.there
    tups := fun b xs h => by
      obtain ⟨h1, h2⟩ := lay_other h fun _ y => nomatch y
      rw [lay_out h1]; exact ub.tups b xs h2
    frzs := fun b ob u h => by
      obtain ⟨h1, h2⟩ := lay_other h fun _ y => nomatch y
      rw [lay_out h1]; exact ub.frzs b ob u h2
    tbls := fun b ps h => by
      obtain ⟨h1, h2⟩ := lay_other h fun _ y => nomatch y
      rw [lay_out h1]; exact ub.tbls b ps h2 }
/-- THE FRAME -/
theorem Gf.frame (F : Gf P w K mg base k f fd ps sp) : Gf P w K mg base k f fd ps (Fr sp) := by
  refine ⟨fun vs H Q E ⟨_, _, _, _, h⟩ => F.len _ _ _ _ h, fun A outer s H args us vs Q E hg hr e0 hb hv hs => ?_⟩
  obtain ⟨ms, Hi, eH, o, h⟩ := hs
  subst eH
  refine codeAny_mono (F.run A outer s Hi args us vs _ _ hg hr (env_off o e0) hb hv h) fun r s' q => ?_
  cases r with
  | error e => exact cx_on o e0 q
  | ok fl =>
    cases fl with
    | ret u => exact ce_on o e0 q
    | next => exact q
    | brk => exact q
    | cont => exact q
end
end
section
section
variable {P : Program} {w : World} {K : PySem.W.Frag} {mg : Str → Option Value} {base : Heap}
/-- the context of a def's body -/
abbrev cx (P : Program) (w : World) (K : PySem.W.Frag) (mg : Str → Option Value) (base : Heap) (N : List Str) (qual : Str) (scope : Scope) (f : Addr) (cd : Value) (A : Around) (outer : List Env) (s : Shared) (H : Hp) (E : XK) : Cx :=
  cxOf (L2.CX P w) P w K mg base N qual scope f cd A outer s H E
/-- THE RULE for a def of the text -/
theorem okG {x qual : Str} {params : Arguments} {body : List Stmt} {scope : Scope} {dvs : List V} {kws : List (Str × V)} {f : Addr} {fd : FuncData} {N ps : List Str} {k : Nat} {sp : Sp}
    (F : FunD K x qual params body scope dvs kws f fd) (S : FnScope N ps scope) (len : ∀ vs H Q E, sp vs H Q E → vs.length = ps.length)
    (hbody : ∀ (cdv : Value) (A : Around) (outer : List Env) (s : Shared) (H : Hp) (vs : List V) (Q : VK) (E : XK), (cx P w K mg base N qual scope f cdv A outer s H E).A.guards = some [] →
      Room k (cx P w K mg base N qual scope f cdv A outer s H E).A → sp vs H Q E →
      ∃ t, PSs (cx P w K mg base N qual scope f cdv A outer s H E) body t ∧ t { nx := fun _ H' => Q .non H', rt := Q } (start N vs) H) : Gf P w K mg base (k + 1) f fd ps sp := by
  obtain ⟨oc, od, dV, kV, doc, pm, an, cdv, ct, osl, efd, lk, hcd, _, _⟩ := F.ex
  subst efd
  refine ⟨len, fun A outer s H args us vs Q E hg hr e0 hb r hsp => ?_⟩
  have hvl := len _ _ _ _ hsp
  have stands : ∀ b o, base.get? b = some o → s.heap.get? b = some o := fun b o e => (e0.bs b o e).1
  have KX : K.In s.heap := e0.mod.kin.keeps stands
  have pk : ∀ y ∈ ps.zip us, scope.names.lookup y.1 = some .local ∨ (scope.names.lookup y.1 = some .cell ∧ ((cellsFrom (s.heap.objs.size + 1) scope.names []).lookup y.1).isSome = true) := by
    rintro ⟨n, v⟩ hy
    exact (S.par n (List.of_mem_zip hy).1).imp id fun q => ⟨q, PySem.W.cellsFrom_some _ _ _ (.inl q)⟩
  refine codeAny_call_function hr.depth (KX _ _ lk) rfl S.co S.gen rfl (PySem.W.codeRec_of KX hcd) (hb _ _ _ _ (wpAny_newFunctionEnv_cells S.kind pk fun env he s1 x => ?_))
  subst he
  refine ⟨(e0.mod.nolimit.keeps stands).keeps x.toInCall.keep, codeAny_func ?_⟩
  obtain ⟨t, ht, hq⟩ := hbody cdv A outer s H vs Q E hg (hr.deeper _) hsp
  have I : Inv (cx P w K mg base N qual scope f cdv A outer s H E) [] (start N vs) H s1 := inv_start S hr.hd e0 hvl r x
  refine wpAny_mono (ht.run [] s1 (start N vs) H _ I hq) (fun fl s' hs => ?_) fun e s' hs => hs
  cases fl with
  | ret u => exact hs.elim fun v ⟨σ', H', J, rv, q⟩ => ⟨v, H', J.os, J.bare, J.base, J.hok, rv, q⟩
  | next => exact hs.elim fun σ' ⟨H', J, q⟩ => ⟨V.non, H', J.os, J.bare, J.base, J.hok, rfl, q⟩
  | brk => exact hs.elim fun _ ⟨_, _, q⟩ => q.elim
  | cont => exact hs.elim fun _ ⟨_, _, q⟩ => q.elim
end

/-! ### calls -/
/-- a callee: its name in the module, its promise -/
structure Cal (P : Program) (w : World) (K : PySem.W.Frag) (mg : Str → Option Value) (base : Heap) (k : Nat) (x : Str) (n : Nat) (sp : Sp) : Prop where
  ex : ∃ (f : Addr) (fd : FuncData) (ps : List Str), ps.length = n ∧ Gf P w K mg base k f fd ps sp ∧ mg x = some (.ref f) ∧ PySem.W.keepIn K (.ref f) = true ∧ Binds K fd ps []
def gCall (sp : Sp) (E : L2.St → XK) (t : TA) : TE := fun σ H Q => t σ H fun vs H1 => Fr sp vs H1 Q (E σ)
def PassG (X : Cx) (E : L2.St → XK) : Prop := ∀ (pins : List (Addr × Obj)) (σ : St) (H : Hp) (s : Shared) (e : Value) (s' : Shared), Inv X pins σ H s → L2.CX X.prog X.w X.stack H s (E σ) e s' → X.xe e s'
theorem passG {X : Cx} {W : WX} (tk : Takes X W) : PassG X (fun σ cls d H => W cls d σ H) := fun _ _ _ _ e s' I c => tk e s' (XE.of_call I (fun _ _ _ h => h) c)
/-- nothing is raised -/
abbrev E1 : L2.St → XK := fun _ _ _ _ => False
theorem passN {X : Cx} : PassG X E1 := fun _ _ _ _ _ _ _ ⟨_, _, _, _, _, _, _, _, _, _, _, _, z⟩ => z.elim
section
variable {X : Cx} {k : Nat} {f C : Addr} {fd : FuncData} {ps : List Str} {sp : Sp} {E : L2.St → XK} {x m : Str} {p pos apos : Pos} {e o : Expr} {es : List Expr} {ta : TE} {t : TA} {n : Nat}
theorem run_g {pins : List (Addr × Obj)} {σ : St} {H : Hp} {s : Shared} {Q : VK} {us : List Value} {vs : List V} (F : Gf X.prog X.w X.K X.mg X.base k f fd ps sp) (hG : X.A.guards = some []) (hr : Room k X.A) (hb : Binds X.K fd ps []) (hx : PassG X E)
    (I : Inv X pins σ H s) (r : Vals vs us) (h : sp vs H Q (E σ)) : wpAny (model X.prog X.w) X.A (call (.ref f) us) (EP X pins σ Q) X.xe s := by
  have b := hb s us I.kIn (by rw [List.append_nil, ← r.length]; exact F.len _ _ _ _ h)
  rw [List.append_nil] at b
  refine wpAny_call (codeAny_mono (F.run X.A X.stack s H ⟨us, []⟩ us vs Q (E σ) hG hr I.env0 b r h) fun rr s' hq => ?_)
  cases rr with
  | error e => exact hx pins σ H s e s' I hq
  | ok fl =>
    cases fl with
    | ret u => exact I.after hq
    | next => exact hq.elim
    | brk => exact hq.elim
    | cont => exact hq.elim
theorem g_call (c : Cal X.prog X.w X.K X.mg X.base k x n sp) (hG : X.A.guards = some []) (hr : Room k X.A) (hg : Gl X x) (hx : PassG X E) (ha : PA X (e :: es) t)
    (hdb : (x == ("__debug__" : Str)) = false := by decide) (he : starEach (e :: es) X.env = (false, eval e X.env) :: starEach es X.env := by rfl) (hpl : (backTo pos (starEach es X.env)).any (·.1) = false := by rfl) :
    PE X (.Call (.Name x p) (e :: es) [] pos) (gCall sp E t) := by
  obtain ⟨f, fd, ps, _, F, hm, hk, hb⟩ := c.ex
  refine ⟨fun pins s σ H Q I h => wpAny_Call_Name_kw (ld_glob I hg hm ?_ hdb)⟩
  refine PySem.W.callWith_K (h₀ := X.base) I.ok.mod.kin hk (thn (ha.run pos pins s σ H _ I h) fun us s1 ⟨vs, H1, I1, r, q⟩ => ?_) he hpl
  exact ⟨I1.kIn, run_g F.frame hG hr hb hx I1 r q⟩
theorem g_call0 (c : Cal X.prog X.w X.K X.mg X.base k x n sp) (hG : X.A.guards = some []) (hr : Room k X.A) (hg : Gl X x) (hx : PassG X E)
    (hdb : (x == ("__debug__" : Str)) = false := by decide) : PE X (.Call (.Name x p) [] [] pos) (gCall sp E tNil) := by
  obtain ⟨f, fd, ps, _, F, hm, hk, hb⟩ := c.ex
  exact ⟨fun pins s σ H Q I h => wpAny_Call_Name_kw (ld_glob I hg hm (PySem.W.callWith_K0 I.kIn hk (run_g (us := []) F.frame hG hr hb hx I .nil h)) hdb)⟩

/-- a method of the class at C -/
structure GMet (P : Program) (w : World) (K : PySem.W.Frag) (mg : Str → Option Value) (base : Heap) (k : Nat) (C : Addr) (m : Str) (n : Nat) (sp : Sp) : Prop where
  c : Cls K C
  ex : ∃ (f : Addr) (fd : FuncData) (ps : List Str), ps.length = n ∧ Gf P w K mg base k f fd ps sp ∧ Meth K C m f ∧ Binds K fd ps []
def gMeth (C : Addr) (m : Str) (sp : Sp) (E : L2.St → XK) (ta : TE) (t : TA) : TE := fun σ H Q => ta σ H fun x H1 => ∃ a dx fs, x = .ref a ∧ H1 a = some (.ins C dx fs) ∧ fs.lookup m = none ∧
  t σ H1 fun vs H2 => Fr sp (x :: vs) H2 Q (E σ)
theorem g_meth {pl : Sem Bool} (he : PE X o ta) (c : GMet X.prog X.w X.K X.mg X.base k C m n sp) (hG : X.A.guards = some []) (hr : Room k X.A) (hx : PassG X E) (ha : PA X (e :: es) t)
    (hst : starEach (e :: es) X.env = (false, eval e X.env) :: starEach es X.env := by rfl) (hpl : (backTo pos (starEach es X.env)).any (·.1) = false := by rfl)
    (ht : eval (.Call (.Attribute o m apos) (e :: es) [] pos) X.env = (do
      let ov ← eval o X.env
      standAt apos.atName
      let (f, first) ← holding [ov] (getMethod ov m pl)
      callWith pos f first (backTo pos (starEach (e :: es) X.env)) (backToKw pos (keywordEach [] X.env))) := by rfl) :
    PE X (.Call (.Attribute o m apos) (e :: es) [] pos) (gMeth C m sp E ta t) := by
  obtain ⟨f, fd, ps, _, F, hm, hb⟩ := c.ex
  refine ⟨fun pins s σ H Q I h => PySem.W.methodCall_KW (pl := pl) (thn (he.run pins s σ H _ I h) fun u s1 ⟨x, H1, I1, rx, a, dx, fs, ex, ea, l, q⟩ => ?_) ht⟩
  subst ex
  have eu : u = Value.ref a := rx
  subst eu
  refine getmeth_ok I1 ea c.c hm l (PySem.W.callWith_K (first := [.ref a]) (h₀ := X.base) I.ok.mod.kin hm.kp (thn (ha.run pos pins s1 σ H1 _ I1 q) fun us s2 ⟨vs, H2, I2, r, q2⟩ => ?_) hst hpl)
  exact ⟨I2.kIn, run_g (us := .ref a :: us) (vs := .ref a :: vs) F.frame hG hr hb hx I2 (.cons rfl r) q2⟩
theorem g_meth0 {pl : Sem Bool} (he : PE X o ta) (c : GMet X.prog X.w X.K X.mg X.base k C m n sp) (hG : X.A.guards = some []) (hr : Room k X.A) (hx : PassG X E)
    (ht : eval (.Call (.Attribute o m apos) [] [] pos) X.env = (do
      let ov ← eval o X.env
      standAt apos.atName
      let (f, first) ← holding [ov] (getMethod ov m pl)
      callWith pos f first (backTo pos (starEach [] X.env)) (backToKw pos (keywordEach [] X.env))) := by rfl) :
    PE X (.Call (.Attribute o m apos) [] [] pos) (gMeth C m sp E ta tNil) := by
  obtain ⟨f, fd, ps, _, F, hm, hb⟩ := c.ex
  refine ⟨fun pins s σ H Q I h => PySem.W.methodCall_KW (pl := pl) (thn (he.run pins s σ H _ I h) fun u s1 ⟨x, H1, I1, rx, a, dx, fs, ex, ea, l, q⟩ => ?_) ht⟩
  subst ex
  have eu : u = Value.ref a := rx
  subst eu
  exact getmeth_ok I1 ea c.c hm l (PySem.W.callWith_K0 (first := [.ref a]) I1.kIn hm.kp (run_g (us := [.ref a]) (vs := [.ref a]) F.frame hG hr hb hx I1 (.cons rfl .nil) q))
end

/-- a name of the module -/
theorem pe_gc {X : Cx} {x : Str} {v : V} {p : Pos} (hg : Gl X x) (hm : ∃ u, X.mg x = some u ∧ RelV v u) (hdb : (x == ("__debug__" : Str)) = false := by decide) : PE X (.Name x p) (tC v) :=
  ⟨fun pins s σ H Q I h => by
    obtain ⟨u, e, r⟩ := hm
    exact ld_glob I hg e ⟨v, H, I, r, h⟩ hdb⟩
/-! ### repr -/
section
variable {X : Cx}
theorem nodict_of {d : PyData} (h : SeqAt.shaped d = true) : d.hasDict = false := PyData.hasDict_of_canLay d (SeqAt.canLay_of_shaped h)
/-- repr of data -/
def rRepr (K : PySem.W.Frag) : List V → Hp → VK → Prop := fun xs H Q => ∃ v d, xs = [v] ∧ Dp K H v d ∧ SeqAt.shaped d = true ∧ d.showable = true ∧ d.shown.length ≤ sizeLine ∧ Q (.str d.shown) H
theorem call_reprD (hG : X.A.guards = some []) (hu : X.A.units + 100 < cLine) : CallR X (.builtin "repr") (rRepr X.K) := by
  intro pins s σ H xs us Q I r h
  obtain ⟨v, d, rfl, hd, sh, hs, hz, q⟩ := h
  cases r with
  | cons rv rn =>
    rename_i u us'
    cases rn
    obtain ⟨as, rd⟩ := Dp.reads I d v u hd rv
    have dep := SeqAt.depth_of_shaped sh
    have fin : ∀ h' u tk, (∀ b o, s.heap.get? b = some o → h'.get? b = some o) → EP X pins σ Q (.str d.shown u) { s with heap := h', toks := tk } := fun h' u tk hk =>
      ⟨.str d.shown, H, I.kept hk, ⟨_, rfl⟩, q⟩
    have onref : ∀ a, u = .ref a → wpAny (model X.prog X.w) X.A (call (.builtin "repr") [u]) (EP X pins σ Q) X.xe s := fun a e => by
      subst e
      exact repr_of_reads' rd hs (PyData.noDict_hsm (nodict_of sh)) hG (by omega) (fun _ _ e => e) (fun h' u tk hk => fin h' u tk hk) hz
    cases hd with
    | non =>
      have eu : u = .none := rv
      subst eu
      exact PySem.P.repr_of_none (fin _ _ _ fun _ _ z => z)
    | bl b =>
      have eu : u = .bool b := rv
      subst eu
      refine PySem.P.repr_of_bool ?_
      have z := fin s.heap s.toks (s.toks + 1) fun _ _ z => z
      exact z
    | int i =>
      obtain ⟨t, rfl⟩ := rv
      exact PySem.P.repr_of_int (of_decide_eq_true hs) (fin _ _ _ fun _ _ z => z)
    | str x =>
      obtain ⟨t, rfl⟩ := rv
      exact PySem.P.repr_of_str (fin _ _ _ fun _ _ z => z) hz
    | lst _ _ => exact onref _ rv
    | tup _ _ => exact onref _ rv
end
end
section
/-! ### rules that the syntax alone chooses -/
def rSMul : R2 := fun x y H Q => ∃ z n, x = .str z ∧ y = .int n ∧ MulOk z n ∧ Q (.str (Txt.mul z n)) H
theorem op_smul {X : Cx} : OpR X (binaryOp .Mult) rSMul := by
  intro pins s σ H x y v u Q I rx ry h
  obtain ⟨z, n, rfl, rfl, ok, q⟩ := h
  obtain ⟨t, rfl⟩ := rx
  obtain ⟨t', rfl⟩ := ry
  exact PySem.SB.mul ok fun t' k => ⟨.str _, H, I.tok _, ⟨_, rfl⟩, q⟩
def rAddI : R2 := rI0 fun i j => .int (i + j)
def rAddT : R2 := fun x y H Q => ∃ i j, x = .str i ∧ y = .str j ∧ i.length + j.length ≤ sizeLine ∧ Q (.str (i ++ j)) H
/-- a + b -/
def rPlus (K : PySem.W.Frag) : R2 := fun x y H Q => rAddI x y H Q ∨ (rAddT x y H Q ∨ (rCat x y H Q ∨ rCatA K x y H Q))
theorem o_plus {X : Cx} : OpR X (binaryOp .Add) (rPlus X.K) := OpR.or op_add (OpR.or op_add_str (OpR.or op_cat op_catA))
def rMinus : R2 := rI0 fun i j => .int (i - j)
theorem o_minus {X : Cx} : OpR X (binaryOp .Sub) rMinus := op_sub
def rMulI : R2 := rI CMulW fun i j => .int (i * j)
def rMulC : R2 := rI CMul fun i j => .int (i * j)
/-- a * b -/
def rTimes : R2 := fun x y H Q => rMulI x y H Q ∨ (rMulC x y H Q ∨ (rSMul x y H Q ∨ rRep x y H Q))
theorem o_times {X : Cx} : OpR X (binaryOp .Mult) rTimes := OpR.or op_mulW (OpR.or op_mul (OpR.or op_smul op_rep))
def rMod : R2 := rI (fun _ j => 0 < j) fun i j => .int (i % j)
theorem o_mod {X : Cx} : OpR X (binaryOp .Mod) rMod := op_mod
def rDiv : R2 := rI CDivW fun i j => .int (i / j)
theorem o_div {X : Cx} : OpR X (binaryOp .FloorDiv) rDiv := op_fdivW
def rPow : R2 := rI CPow fun i j => .int (i ^ j.toNat)
theorem o_pow {X : Cx} : OpR X (binaryOp .Pow) rPow := op_pow
/-- a == b, a != b -/
def rSame (K : PySem.W.Frag) : R2 := fun x y H Q => rEq x y H Q ∨ rEqD K x y H Q
theorem o_eq {X : Cx} (hu : X.A.units + 64 < cLine) : OpR X (compareOp .Eq) (rSame X.K) := OpR.or op_eq (op_eqD hu)
def rDiff (K : PySem.W.Frag) : R2 := fun x y H Q => rNe x y H Q ∨ rNeD K x y H Q
theorem o_ne {X : Cx} (hu : X.A.units + 64 < cLine) : OpR X (compareOp .NotEq) (rDiff X.K) := OpR.or op_ne (op_neD hu)
def rLess : R2 := fun x y H Q => (rI0 fun i j => .bl (decide (i < j))) x y H Q ∨ ∃ i j, x = .str i ∧ y = .str j ∧ Q (.bl (decide (i.cps.toList < j.cps.toList))) H
theorem o_lt {X : Cx} : OpR X (compareOp .Lt) rLess := OpR.or op_lt op_lt_str
def rLessE : R2 := fun x y H Q => (rI0 fun i j => .bl (decide (i ≤ j))) x y H Q ∨ ∃ i j, x = .str i ∧ y = .str j ∧ Q (.bl (!decide (j.cps.toList < i.cps.toList))) H
theorem o_le {X : Cx} : OpR X (compareOp .LtE) rLessE := OpR.or op_le op_le_str
def rMore : R2 := fun x y H Q => (rI0 fun i j => .bl (decide (j < i))) x y H Q ∨ ∃ i j, x = .str i ∧ y = .str j ∧ Q (.bl (decide (j.cps.toList < i.cps.toList))) H
theorem o_gt {X : Cx} : OpR X (compareOp .Gt) rMore := OpR.or op_gt op_gt_str
def rMoreE : R2 := fun x y H Q => (rI0 fun i j => .bl (decide (j ≤ i))) x y H Q ∨ ∃ i j, x = .str i ∧ y = .str j ∧ Q (.bl (!decide (i.cps.toList < j.cps.toList))) H
theorem o_ge {X : Cx} : OpR X (compareOp .GtE) rMoreE := OpR.or op_ge op_ge_str
def rInT : R2 := fun x y H Q => ∃ i j, x = .str i ∧ y = .str j ∧ Q (.bl (!(Builtin.Str.occurrences j i 0 j.length 1).isEmpty)) H
def rInC : R2 := fun x y H Q => ∃ (c : Nat) (z : Str), x = .str ⟨#[c]⟩ ∧ y = .str z ∧ Q (.bl (decide (c ∈ z.cps.toList))) H
/-- a in b -/
def rIsIn (K : PySem.W.Frag) : R2 := fun x y H Q => rInT x y H Q ∨ (rInC x y H Q ∨ (rInD K x y H Q ∨ rIn K false x y H Q))
theorem o_in {X : Cx} (hu : X.A.units + 65 < cLine) : OpR X (compareOp .In) (rIsIn X.K) := OpR.or op_in_str (OpR.or op_in_sign (OpR.or (op_inD hu) op_in_seq))
def rNotT : R2 := fun x y H Q => ∃ i j, x = .str i ∧ y = .str j ∧ Q (.bl (!(!(Builtin.Str.occurrences j i 0 j.length 1).isEmpty))) H
def rNotC : R2 := fun x y H Q => ∃ (c : Nat) (z : Str), x = .str ⟨#[c]⟩ ∧ y = .str z ∧ Q (.bl (!decide (c ∈ z.cps.toList))) H
def rIsNotIn (K : PySem.W.Frag) : R2 := fun x y H Q => rNotT x y H Q ∨ (rNotC x y H Q ∨ (rNotInD K x y H Q ∨ rIn K true x y H Q))
theorem o_notin {X : Cx} (hu : X.A.units + 65 < cLine) : OpR X (compareOp .NotIn) (rIsNotIn X.K) := OpR.or op_notin_str (OpR.or op_notIn_sign (OpR.or (op_notInD hu) op_notIn_seq))
def rIsNone : R2 := fun x y H Q => y = .non ∧ Q (.bl (decide (x = .non))) H
theorem o_is {X : Cx} : OpR X (compareOp .Is) rIsNone := op_isN
def rIsSome : R2 := fun x y H Q => y = .non ∧ Q (.bl (!decide (x = .non))) H
theorem o_isnot {X : Cx} : OpR X (compareOp .IsNot) rIsSome := op_notN
/-- a[i], a[i:j] -/
theorem o_ix {X : Cx} : IxR X (rIx X.K) := ix_seq
def rCut (K : PySem.W.Frag) : V → Option Int → Option Int → Hp → VK → Prop := fun x lo hi H Q => rSlS x lo hi H Q ∨ (rSlL K x lo hi H Q ∨ rSlA K x lo hi H Q)
theorem o_sl {X : Cx} : SlR X (rCut X.K) := SlR.or sl_str (SlR.or sl_list sl_tupA)

/-! ### a[::-1] -/
def revS (z : Str) : Str := ⟨z.cps.reverse⟩
theorem revS_len (z : Str) : (revS z).length = z.length := by show z.cps.reverse.size = z.cps.size; simp
theorem pick_rev (z : Str) : ((Builtin.Str.strSliceIndices none none (-1) z.length).filterMap (z.cps[·]?)).toArray = z.cps.reverse := by
  have e : Builtin.Str.strSliceIndices none none (-1) z.length = (List.range z.length).map fun k => z.length - 1 - k := by
    rw [← PySem.W.krv_sliceRange]
    first
      | rfl
      | simp [Builtin.Str.strSliceIndices]
  have h := PySem.pick_run z.cps 0 z.cps.size
  have e0 : (List.range z.cps.size).map (0 + ·) = List.range z.cps.size := by
    rw [show ((0 + ·) : Nat → Nat) = id from funext fun k => Nat.zero_add k, List.map_id]
  rw [e0, List.drop_zero, List.take_of_length_le (by rw [Array.length_toList]; exact Nat.le_refl _)] at h
  rw [e, PySem.W.krv_range, List.filterMap_reverse, show z.length = z.cps.size from rfl, h]
  rw [← List.reverse_toArray]
def tRev (K : PySem.W.Frag) (te : TE) : TE := fun σ H Q => te σ H fun x H1 => (∃ z, x = .str z ∧ z.length ≤ sizeLine ∧ Q (.str (revS z)) H1) ∨ (∃ a xs, x = .ref a ∧ SqL K H1 a xs ∧ ∀ p, H1 p = none → Q (.ref p) (upd H1 p (.lst xs.reverse)))
theorem pe_rev {X : Cx} {e : Expr} {te : TE} {p1 p2 p3 p4 : Pos} {j : _} (he : PE X e te) : PE X (.Subscript e (.Slice none none (some (.UnaryOp .USub (.Constant (.int 1) j p1) p2)) p3) p4) (tRev X.K te) := by
  refine ⟨fun pins s σ H Q I h => Subscript_ (thn (he.run pins s σ H _ I h) fun v s1 ⟨x, H1, I1, r1, q1⟩ => ?_)⟩
  refine wpAny_Slice ?_
  rw [evalPart_none]
  refine wpAny_pure (wpAny_pure ?_)
  rw [evalPart_some]
  have neg : PE X (.UnaryOp .USub (.Constant (.int 1) j p1) p2) (tUn (rU fun i => .int (-i)) (tC (.int 1))) := pe_un un_neg pe_int
  refine thn (neg.run pins s1 σ H1 (fun y H2 => y = .int (-1) ∧ H2 = H1) I1 ⟨1, rfl, rfl, rfl⟩) fun u s2 ⟨y, H2, I2, r2, ey, eH⟩ => ?_
  subst ey
  subst eH
  obtain ⟨tk, rfl⟩ := r2
  have I4 : Inv X pins σ H2 { s2 with heap := s2.heap.push { cls := .type "slice", data := .fields #[.none, .none, .int (-1) tk] } } := I2.kept (t' := s2.toks) fun b ob q => Heap.get?_push_of_some _ q
  show wpAny (model X.prog X.w) X.A (subscriptTail e _ v (.ref s2.heap.objs.size)) (EP X pins σ Q) X.xe { s2 with heap := s2.heap.push { cls := .type "slice", data := .fields #[.none, .none, .int (-1) tk] } }
  rcases q1 with ⟨z, rfl, hz, q⟩ | ⟨a, xs, rfl, hx, q⟩
  · obtain ⟨t, rfl⟩ := r1
    refine tail_any (typeIs_str _ z t) F.slot_str_getitem.lookup ?_ (by with_unfolding_all rfl)
    refine wpAny_getItem_str_slice (l := none) (u := none) (st := some (-1, tk)) ⟨_, Heap.get?_push_size _ rfl, rfl, rfl⟩ rfl ?_
    show Made.post (if ((-1 : Int) == 1 && (Builtin.Str.strSliceIndices none none (-1) z.length).length == z.length) = true then Made.val (.str z t)
      else Made.str ⟨((Builtin.Str.strSliceIndices none none (-1) z.length).filterMap (z.cps[·]?)).toArray⟩) (EP X pins σ Q) _
    rw [if_neg (by rw [show ((-1 : Int) == 1) = false by decide, Bool.false_and]; exact Bool.false_ne_true), pick_rev]
    exact ⟨by rw [show (⟨z.cps.reverse⟩ : Str) = revS z from rfl, revS_len]; exact hz, .str (revS z), H2, I4.tok _, ⟨_, rfl⟩, q⟩
  · have ea : v = Value.ref a := r1
    subst ea
    obtain ⟨its, r, ht, hzz⟩ := I4.list hx
    refine tail_any ht.isList.typeIs slot_list_getitem.lookup ?_ (by with_unfolding_all rfl)
    refine wpAny_getItem_list_slice ht.isList (Heap.IsSliceOf.new ..) .none .none (IsPart.int (-1) tk) (by decide) ?_ (by rw [List.size_toArray, ← r.length]; exact hzz)
    rw [PySem.W.krv_pick]
    refine ⟨.ref _, _, I4.laid (t' := s2.toks) (fun b o e => Heap.get?_push_of_some _ e) (Nat.le_refl _) ?_, rfl, q _ (I4.hok.fresh (Nat.le_refl _))⟩
    have rr : Vals xs.reverse its.reverse := by
      have key : ∀ {ys : List V} {us : List Value}, Vals ys us → Vals ys.reverse us.reverse := by
        intro ys us hyu
        induction hyu with
        | nil => exact .nil
        | cons h1 _ ih =>
          rw [List.reverse_cons, List.reverse_cons]
          exact ih.append (.cons h1 .nil)
      exact key r
    refine ⟨by rw [List.length_reverse]; exact hzz, its.reverse, 0, rr, ?_⟩
    exact Heap.get?_push_size _ rfl
end
section
/-! ### data -/
mutual
theorem Dp.same {K : PySem.W.Frag} {H H' : Hp} (e : Same H H') : ∀ {d : PyData} {v : V}, Dp K H v d → Dp K H' v d
  | _, _, .non => .non
  | _, _, .bl b => .bl b
  | _, _, .int i => .int i
  | _, _, .str x => .str x
  | _, _, .lst h a => .lst (e.seq h) (DpAll.same e a)
  | _, _, .tup h a => .tup (h.imp (fun r => r.imp (fun z => e _ _ z) fun ⟨o, z⟩ => ⟨o, e _ _ z⟩) id) (DpAll.same e a)
theorem DpAll.same {K : PySem.W.Frag} {H H' : Hp} (e : Same H H') : ∀ {ds : List PyData} {vs : List V}, DpAll K H vs ds → DpAll K H' vs ds
  | _, _, .nil => .nil
  | _, _, .cons h t => .cons (Dp.same e h) (DpAll.same e t)
end
theorem same_tup {K : PySem.W.Frag} {H H' : Hp} (e : Same H H') {a : Addr} {xs : List V} (h : SqT K H a xs) : SqT K H' a xs := h.imp (fun r => r.imp (fun z => e _ _ z) fun ⟨o, z⟩ => ⟨o, e _ _ z⟩) id
theorem same_new {H : Hp} {p : Addr} {o : HO} (h : H p = none) : Same H (upd H p o) := fun b u e => by
  rw [upd_ne (ne_of_none e h)]
  exact e
/-- two stores at different places -/
theorem upd_comm {H : Hp} {a b : Addr} {o u : HO} (h : a ≠ b) : upd (upd H a o) b u = upd (upd H b u) a o := by
  funext c
  unfold upd
  by_cases h1 : c = a
  · subst h1
    rw [if_neg h, if_pos rfl, if_pos rfl]
  · rw [if_neg h1, if_neg h1]
abbrev dI (ns : List Int) : PyData := .list (ns.map .int)
abbrev dS (xs : List Str) : PyData := .list (xs.map .str)
theorem dpAll_map {K : PySem.W.Frag} {H : Hp} {α : Type} (f : α → V) (g : α → PyData) (h : ∀ x, Dp K H (f x) (g x)) : ∀ xs : List α, DpAll K H (xs.map f) (xs.map g)
  | [] => .nil
  | x :: xs => .cons (h x) (dpAll_map f g h xs)
theorem dp_ints {K : PySem.W.Frag} {H : Hp} {a : Addr} {ns : List Int} (h : SqL K H a (ns.map V.int)) : Dp K H (.ref a) (dI ns) := .lst h (dpAll_map _ _ (fun i => .int i) ns)
theorem dp_strs {K : PySem.W.Frag} {H : Hp} {a : Addr} {xs : List Str} (h : SqL K H a (xs.map V.str)) : Dp K H (.ref a) (dS xs) := .lst h (dpAll_map _ _ (fun i => .str i) xs)

/-- what shows well -/
structure Nice (d : PyData) : Prop where
  sh : SeqAt.shaped d = true
  sw : d.showable = true
  sz : d.shown.length ≤ sizeLine
/-- bounds: c signs, k deep -/
structure Bd (c k : Nat) (d : PyData) : Prop where
  sz : d.shown.length ≤ c
  sw : d.showable = true
  cl : d.canLay0 = true
  dp : d.depth ≤ k
theorem Bd.nice {c k : Nat} {d : PyData} (b : Bd c k d) (hc : c ≤ 16777216) (hk : k ≤ 64) : Nice d :=
  ⟨by unfold SeqAt.shaped; rw [Bool.and_eq_true]; exact ⟨b.cl, decide_eq_true (Nat.le_trans b.dp hk)⟩, b.sw, Nat.le_trans b.sz (by rw [sizeLine_eq]; exact hc)⟩
theorem Bd.mono {c c' k k' : Nat} {d : PyData} (b : Bd c k d) (h : c ≤ c') (h' : k ≤ k') : Bd c' k' d := ⟨Nat.le_trans b.sz h, b.sw, b.cl, Nat.le_trans b.dp h'⟩
theorem bd_none : Bd 4 0 .none := ⟨by decide +kernel, rfl, rfl, Nat.le_refl _⟩
theorem bd_bool (b : Bool) : Bd 5 0 (.bool b) := ⟨by cases b <;> decide +kernel, rfl, rfl, Nat.le_refl _⟩
theorem bd_int {i : Int} {k : Nat} (h : i.natAbs < 10 ^ (k + 1)) (hk : k ≤ 500) : Bd (k + 2) 0 (.int i) := by
  refine ⟨?_, decide_eq_true ?_, rfl, Nat.le_refl _⟩
  · show (Str.ofString (toString i)).length ≤ _
    rw [PySem.ofString_length]
    exact int_text_length_le10 (by omega) h
  · by_cases z : i.natAbs = 0
    · rw [z]; decide
    · have h2 : i.natAbs < 2 ^ 1920 := Nat.lt_of_lt_of_le h (Nat.le_trans (Nat.pow_le_pow_right (by decide) (show k + 1 ≤ 501 by omega)) (by decide +kernel))
      exact (Nat.log2_lt z).mpr h2
theorem bd_str {x : Str} {n : Nat} (h : x.length ≤ n) (hx : ∀ c ∈ x.cps.toList, c < 128) : Bd (10 * n + 2) 0 (.str x) := by
  refine ⟨Nat.le_trans (StrLaws.reprText_len x fun c hc => Nat.lt_trans (hx c hc) (by decide)) (by omega), rfl, ?_, Nat.le_refl _⟩
  show x.cps.all (· < 0x110000) = true
  rw [Array.all_eq_true']
  intro c hc
  have q := hx c (by simpa using hc)
  exact decide_eq_true (Nat.lt_trans q (by decide))
theorem piled_le {c : Nat} : ∀ ts : List Str, (∀ t ∈ ts, t.length ≤ c) → piled ts ≤ ts.length * (c + 2)
  | [], _ => by simp [piled_nil]
  | t :: ts, h => by
    rw [piled_cons, List.length_cons]
    have h1 := h t List.mem_cons_self
    have h2 := piled_le ts fun u hu => h u (List.mem_cons_of_mem _ hu)
    rw [Nat.add_mul]
    omega
theorem shownAll_map : ∀ ds : List PyData, PyData.shownAll ds = ds.map PyData.shown
  | [] => rfl
  | d :: ds => by
    show PyData.shown d :: PyData.shownAll ds = _
    rw [shownAll_map ds]
    rfl
theorem bd_all {c k : Nat} : ∀ {ds : List PyData}, (∀ d ∈ ds, Bd c k d) → PyData.showableAll ds = true ∧ PyData.canLayAll0 ds = true ∧ PyData.depthAll ds ≤ k ∧ ∀ t ∈ PyData.shownAll ds, t.length ≤ c
  | [], _ => ⟨rfl, rfl, Nat.zero_le _, fun _ h => by cases h⟩
  | d :: ds, h => by
    have b := h d List.mem_cons_self
    obtain ⟨q1, q2, q3, q4⟩ := bd_all (ds := ds) fun u hu => h u (List.mem_cons_of_mem _ hu)
    refine ⟨?_, ?_, ?_, fun t ht => ?_⟩
    · show (PyData.showable d && PyData.showableAll ds) = true
      rw [b.sw, q1]; rfl
    · show (PyData.canLay0 d && PyData.canLayAll0 ds) = true
      rw [b.cl, q2]; rfl
    · show max _ _ ≤ k
      exact Nat.max_le.mpr ⟨b.dp, q3⟩
    · rcases List.mem_cons.mp ht with e | e
      · rw [e]; exact b.sz
      · exact q4 t e
theorem textFrom_le : ∀ ts : List Str, (listText ts).length ≤ 2 + piled ts := fun ts => by
  unfold listText
  cases ts with
  | nil =>
    show ((textFrom 0 "[" []) ++ ("]" : Str)).length ≤ _
    unfold textFrom
    rw [piled_nil]
    decide +kernel
  | cons t ts =>
    show ((textFrom 0 "[" (t :: ts)) ++ ("]" : Str)).length ≤ _
    unfold textFrom
    rw [Str.length_append, textFrom_length_pos _ _ _ (by omega), piled_cons]
    have e1 : ("[" : Str).length = 1 := by decide +kernel
    have e2 : ("]" : Str).length = 1 := by decide +kernel
    rw [if_neg (by omega : ¬ 0 > 0)]
    simp only [Str.length_append, e1, e2, show (Str.ofString "").length = 0 by decide +kernel]
    omega
theorem bd_list {c k n : Nat} {ds : List PyData} (h : ∀ d ∈ ds, Bd c k d) (hn : ds.length ≤ n) : Bd (2 + n * (c + 2)) (k + 1) (.list ds) := by
  obtain ⟨q1, q2, q3, q4⟩ := bd_all h
  refine ⟨?_, q1, q2, ?_⟩
  · show (listText (PyData.shownAll ds)).length ≤ _
    refine Nat.le_trans (textFrom_le _) ?_
    have l := piled_le _ q4
    rw [shownAll_map, List.length_map] at l
    rw [shownAll_map]
    have := Nat.mul_le_mul_right (c + 2) hn
    omega
  · show PyData.depthAll ds + 1 ≤ k + 1
    omega
end
section
/-! ### steps: what a reading asks, one piece at a time -/
/-- a new object -/
abbrev NewO (C : Prop) (o : HO) (H1 : Hp) (Q : VK) : Prop := C ∧ ∀ p, H1 p = none → Q (.ref p) (upd H1 p o)
/-- a comprehension is done -/
abbrev DoneC (Q : VK) (D : Addr) (H : Hp) : Prop := Q (.ref D) H
section
variable {K : PySem.W.Frag} {σ : L2.St} {H : Hp} {Q : VK} {D : Ends} {ta tb tc te : TE} {t u : TS} {T U : TT} {ts : TA} {r : R2} {i j : Int} {n : Nat} {x y v : V} {a b : Addr} {z z' : Str} {c k : Bool} {QT : Bool → Hp → Prop} {QA : List V → Hp → Prop}
theorem s_var (e : σ[n]? = some (some v)) (q : Q v H) : tVar n σ H Q := ⟨v, e, q⟩
theorem s_c (q : Q v H) : tC v σ H Q := q
theorem s_op (q : ta σ H fun x H1 => tb σ H1 fun y H2 => r x y H2 Q) : tOp r ta tb σ H Q := q
theorem s_un {f : V → Hp → VK → Prop} (q : ta σ H fun x H1 => f x H1 Q) : tUn f ta σ H Q := q
theorem s_neg {g : Int → V} (q : Q (g i) H) : rU g (.int i) H Q := ⟨i, rfl, q⟩
theorem s_addI (q : Q (.int (i + j)) H) : rPlus K (.int i) (.int j) H Q := .inl ⟨i, j, rfl, rfl, q⟩
theorem s_addT (h : z.length + z'.length ≤ sizeLine) (q : Q (.str (z ++ z')) H) : rPlus K (.str z) (.str z') H Q := .inr (.inl ⟨z, z', rfl, rfl, h, q⟩)
theorem s_addL {xs ys : List V} (h1 : H a = some (.lst xs)) (h2 : H b = some (.lst ys)) (h : xs.length + ys.length ≤ sizeLine) (q : ∀ p, H p = none → Q (.ref p) (upd H p (.lst (xs ++ ys)))) : rPlus K (.ref a) (.ref b) H Q :=
  .inr (.inr (.inl ⟨a, b, xs, ys, rfl, rfl, h1, h2, h, q⟩))
theorem s_sub (q : Q (.int (i - j)) H) : rMinus (.int i) (.int j) H Q := ⟨i, j, rfl, rfl, q⟩
theorem s_mulI (h : CMulW i j) (q : Q (.int (i * j)) H) : rTimes (.int i) (.int j) H Q := .inl ⟨i, j, rfl, rfl, h, q⟩
theorem s_mulT (h : MulOk z i) (q : Q (.str (Txt.mul z i)) H) : rTimes (.str z) (.int i) H Q := .inr (.inr (.inl ⟨z, i, rfl, rfl, h, q⟩))
theorem s_mulC (h : CMul i j) (q : Q (.int (i * j)) H) : rTimes (.int i) (.int j) H Q := .inr (.inl ⟨i, j, rfl, rfl, h, q⟩)
theorem s_mulL {xs : List V} (h : H a = some (.lst xs)) (h1 : -(2 ^ 63) ≤ i) (h2 : i < 2 ^ 63) (h3 : xs.length * i.toNat ≤ sizeLine) (q : ∀ p, H p = none → Q (.ref p) (upd H p (.lst (List.replicate i.toNat xs).flatten))) : rTimes (.ref a) (.int i) H Q :=
  .inr (.inr (.inr ⟨a, i, xs, rfl, rfl, h, h1, h2, h3, q⟩))
theorem s_mod (h : 0 < j) (q : Q (.int (i % j)) H) : rMod (.int i) (.int j) H Q := ⟨i, j, rfl, rfl, h, q⟩
theorem s_div (h : CDivW i j) (q : Q (.int (i / j)) H) : rDiv (.int i) (.int j) H Q := ⟨i, j, rfl, rfl, h, q⟩
theorem s_pow (h : CPow i j) (q : Q (.int (i ^ j.toNat)) H) : rPow (.int i) (.int j) H Q := ⟨i, j, rfl, rfl, h, q⟩
theorem dec_int (i j : Int) : decide (V.int i = V.int j) = decide (i = j) := decide_eq_decide.mpr ⟨fun h => V.int.inj h, fun h => by rw [h]⟩
theorem dec_str (z z' : Str) : decide (V.str z = V.str z') = decide (z = z') := decide_eq_decide.mpr ⟨fun h => V.str.inj h, fun h => by rw [h]⟩
theorem dec_bl (c k : Bool) : decide (V.bl c = V.bl k) = decide (c = k) := decide_eq_decide.mpr ⟨fun h => V.bl.inj h, fun h => by rw [h]⟩
theorem s_eqI (q : Q (.bl (decide (i = j))) H) : rSame K (.int i) (.int j) H Q := .inl ⟨rfl, by rw [dec_int]; exact q⟩
theorem s_eqT (q : Q (.bl (decide (z = z'))) H) : rSame K (.str z) (.str z') H Q := .inl ⟨rfl, by rw [dec_str]; exact q⟩
theorem s_eqB (q : Q (.bl (decide (c = k))) H) : rSame K (.bl c) (.bl k) H Q := .inl ⟨rfl, by rw [dec_bl]; exact q⟩
theorem s_eqNI (q : Q (.bl false) H) : rSame K .non (.int i) H Q := .inl ⟨rfl, q⟩
theorem s_eqIN (q : Q (.bl false) H) : rSame K (.int i) .non H Q := .inl ⟨rfl, q⟩
theorem s_eqNN (q : Q (.bl true) H) : rSame K .non .non H Q := .inl ⟨rfl, q⟩
theorem s_eqD {d e : PyData} (h1 : Dp K H x d) (h2 : Dp K H y e) (s1 : SeqAt.shaped d = true) (s2 : SeqAt.shaped e = true) (q : Q (.bl (PyData.eqv d e)) H) : rSame K x y H Q := .inr ⟨d, e, h1, h2, s1, s2, q⟩
theorem s_neI (q : Q (.bl (!decide (i = j))) H) : rDiff K (.int i) (.int j) H Q := .inl ⟨rfl, by rw [dec_int]; exact q⟩
theorem s_neT (q : Q (.bl (!decide (z = z'))) H) : rDiff K (.str z) (.str z') H Q := .inl ⟨rfl, by rw [dec_str]; exact q⟩
theorem s_neB (q : Q (.bl (!decide (c = k))) H) : rDiff K (.bl c) (.bl k) H Q := .inl ⟨rfl, by rw [dec_bl]; exact q⟩
theorem s_neD {d e : PyData} (h1 : Dp K H x d) (h2 : Dp K H y e) (s1 : SeqAt.shaped d = true) (s2 : SeqAt.shaped e = true) (q : Q (.bl (!PyData.eqv d e)) H) : rDiff K x y H Q := .inr ⟨d, e, h1, h2, s1, s2, q⟩
theorem s_lt (q : Q (.bl (decide (i < j))) H) : rLess (.int i) (.int j) H Q := .inl ⟨i, j, rfl, rfl, q⟩
theorem s_le (q : Q (.bl (decide (i ≤ j))) H) : rLessE (.int i) (.int j) H Q := .inl ⟨i, j, rfl, rfl, q⟩
theorem s_gt (q : Q (.bl (decide (j < i))) H) : rMore (.int i) (.int j) H Q := .inl ⟨i, j, rfl, rfl, q⟩
theorem s_ge (q : Q (.bl (decide (j ≤ i))) H) : rMoreE (.int i) (.int j) H Q := .inl ⟨i, j, rfl, rfl, q⟩
theorem s_isN (q : Q (.bl (decide (x = .non))) H) : rIsNone x .non H Q := ⟨rfl, q⟩
theorem s_isS (q : Q (.bl (!decide (x = .non))) H) : rIsSome x .non H Q := ⟨rfl, q⟩
/-! a[i] -/
theorem s_ixL {xs : List V} (h : SqL K H a xs) (e : atI xs i = some v) (q : Q v H) : rIx K (.ref a) (.int i) H Q := .inl ⟨a, xs, i, v, rfl, rfl, h, e, q⟩
theorem s_ixT {xs : List V} (h : SqT K H a xs) (e : atI xs i = some v) (q : Q v H) : rIx K (.ref a) (.int i) H Q := .inr (.inl ⟨a, xs, i, v, rfl, rfl, h, e, q⟩)
theorem s_ixS {m : Nat} (h : z.length ≤ sizeLine) (e : atI z.cps.toList i = some m) (q : Q (.str ⟨#[m]⟩) H) : rIx K (.str z) (.int i) H Q := .inr (.inr ⟨z, i, m, rfl, rfl, h, e, q⟩)
/-- an item of a written list, at a drawn place -/
theorem s_pick {xs : List V} (h : H a = some (.lst xs)) (h0 : 0 ≤ i) (h1 : i < xs.length) (q : ∀ (m : Nat) (hm : m < xs.length), i = (m : Int) → Q xs[m] H) : rIx K (.ref a) (.int i) H Q := by
  obtain ⟨m, rfl⟩ : ∃ m : Nat, i = (m : Int) := ⟨i.toNat, by omega⟩
  have hm : m < xs.length := by omega
  exact s_ixL (v := xs[m]) (SqL.of h) (atI_nat (by simp [List.getElem?_eq_getElem hm])) (q m hm rfl)
/-! tests -/
theorem s_test (q : ta σ H fun x H1 => ∃ k, x = .bl k ∧ QT k H1) : tTest ta σ H QT := q
theorem s_exq {R : Bool → Prop} (q : R c) : ∃ k, V.bl c = .bl k ∧ R k := ⟨c, rfl, q⟩
theorem s_truB {R : Bool → Prop} (q : R c) : ∃ k, TruV K (.bl c) H k ∧ R k := ⟨c, rfl, q⟩
theorem s_truI {R : Bool → Prop} (q : R (i != 0)) : ∃ k, TruV K (.int i) H k ∧ R k := ⟨_, rfl, q⟩
theorem s_truN {R : Bool → Prop} (q : R false) : ∃ k, TruV K .non H k ∧ R k := ⟨_, rfl, q⟩
theorem s_truL {R : Bool → Prop} {xs : List V} (h : SqL K H a xs) (q : R (!xs.isEmpty)) : ∃ k, TruV K (.ref a) H k ∧ R k := ⟨_, .inl ⟨xs, h, rfl⟩, q⟩
theorem s_and (q : T σ H fun c H1 => if c = true then U σ H1 QT else QT false H1) : tAnd T U σ H QT := q
theorem s_or (q : T σ H fun c H1 => if c = true then QT true H1 else U σ H1 QT) : tOr T U σ H QT := q
theorem s_not (q : T σ H fun c H1 => QT (!c) H1) : tNot T σ H QT := q
theorem s_andV (q : ta σ H fun x H1 => ∃ c, x = .bl c ∧ if c = true then tb σ H1 Q else Q (.bl false) H1) : tAndV ta tb σ H Q := q
theorem s_orV (q : ta σ H fun x H1 => ∃ c, x = .bl c ∧ if c = true then Q (.bl true) H1 else tb σ H1 Q) : tOrV ta tb σ H Q := q
theorem s_notV (q : ta σ H fun x H1 => ∃ c, x = .bl c ∧ Q (.bl (!c)) H1) : tNotV ta σ H Q := q
theorem s_ife (q : T σ H fun c H1 => if c = true then ta σ H1 Q else tb σ H1 Q) : tIf T ta tb σ H Q := q
theorem s_chain {r' : R2} (q : ta σ H fun x H1 => tb σ H1 fun y H2 => r x y H2 fun z H3 => ∃ k, z = .bl k ∧ (if k = true then tc σ H3 fun w' H4 => r' y w' H4 Q else Q (.bl false) H3)) : tChain r r' ta tb tc σ H Q := q
/-! an if -/
theorem s_if {p A B : Prop} [Decidable p] (h1 : p → A) (h2 : ¬ p → B) : if decide p = true then A else B := ite2 (fun h => h1 (of_decide_eq_true h)) (fun h => h2 fun hp => h (decide_eq_true hp))
theorem s_ifn {p A B : Prop} [Decidable p] (h1 : ¬ p → A) (h2 : p → B) : if (!decide p) = true then A else B := ite2 (fun h => h1 fun hp => by rw [decide_eq_true hp] at h; cases h) (fun h => h2 (Classical.byContradiction fun hp => h (by rw [decide_eq_false hp]; rfl)))
theorem s_ify {p A B : Prop} [Decidable p] (h : p) (q : A) : if decide p = true then A else B := by rw [if_pos (decide_eq_true h)]; exact q
theorem s_ifo {p A B : Prop} [Decidable p] (h : ¬ p) (q : B) : if decide p = true then A else B := by rw [if_neg (by rw [decide_eq_false h]; exact Bool.false_ne_true)]; exact q
theorem s_ifb {A B : Prop} (h1 : c = true → A) (h2 : c = false → B) : if c = true then A else B := ite2 h1 fun h => h2 (Bool.eq_false_iff.mpr h)
theorem s_ifT {A B : Prop} (q : A) : if true = true then A else B := iteT q
theorem s_ifF {A B : Prop} (q : B) : if false = true then A else B := iteF q
theorem s_ifnT {A B : Prop} (q : B) : if (!true) = true then A else B := iteF q
theorem s_ifnF {A B : Prop} (q : A) : if (!false) = true then A else B := iteT q
/-! displays, arguments -/
theorem s_nil (q : QA [] H) : tNil σ H QA := q
theorem s_cons {tr : TA} (q : ta σ H fun x H1 => tr σ H1 fun xs H2 => QA (x :: xs) H2) : tCons ta tr σ H QA := q
theorem s_tup (q : ts σ H fun xs H1 => NewO (xs.length ≤ sizeLine) (.tup xs) H1 Q) : tTup ts σ H Q := q
theorem s_lst (q : ts σ H fun xs H1 => NewO (xs.length ≤ sizeLine) (.lst xs) H1 Q) : tLst ts σ H Q := q
theorem small_sz {m : Nat} (h : m ≤ 16777216) : m ≤ sizeLine := by rw [sizeLine_eq]; exact h
theorem s_call {sp : Sp} {E : L2.St → XK} (q : ts σ H fun vs H1 => Fr sp vs H1 Q (E σ)) : gCall sp E ts σ H Q := q
theorem s_cb {f : List V → Hp → VK → Prop} (q : ts σ H fun vs H1 => f vs H1 Q) : tCB f ts σ H Q := q
/-- the callee sees all -/
theorem s_all {sp : Sp} {vs : List V} {E : XK} (q : sp vs H Q E) : Fr sp vs H Q E := by
  refine ⟨[], H, rfl, (fun _ h => by cases h), ?_⟩
  have e1 : (fun v H' => Off [] H' → Q v (lay [] H')) = Q := by
    funext v H'
    exact propext ⟨fun h => h (fun _ z => nomatch z), fun h _ => h⟩
  have e2 : (fun c d H' => Off [] H' → E c d (lay [] H')) = E := by
    funext c d H'
    exact propext ⟨fun h => h (fun _ z => nomatch z), fun h _ => h⟩
  rw [e1, e2]
  exact q
/-- the callee does not see the list at p -/
theorem s_but {sp : Sp} {vs : List V} {E : XK} {p : Addr} {xs : List V} (h : H p = none) (q : sp vs H (fun v H' => H' p = none → Q v (upd H' p (.lst xs))) fun c d H' => H' p = none → E c d (upd H' p (.lst xs))) : Fr sp vs (upd H p (.lst xs)) Q E := by
  refine ⟨[(p, xs)], H, rfl, fun m hm => ?_, ?_⟩
  · rcases List.mem_singleton.mp hm with rfl
    exact h
  · have e1 : (fun v H' => Off [(p, xs)] H' → Q v (lay [(p, xs)] H')) = fun v H' => H' p = none → Q v (upd H' p (.lst xs)) := by
      funext v H'
      exact propext ⟨fun h n => h fun m hm => by rcases List.mem_singleton.mp hm with rfl; exact n, fun h n => h (n _ List.mem_cons_self)⟩
    have e2 : (fun c d H' => Off [(p, xs)] H' → E c d (lay [(p, xs)] H')) = fun c d H' => H' p = none → E c d (upd H' p (.lst xs)) := by
      funext c d H'
      exact propext ⟨fun h n => h fun m hm => by rcases List.mem_singleton.mp hm with rfl; exact n, fun h n => h (n _ List.mem_cons_self)⟩
    rw [e1, e2]
    exact q
/-! statements -/
theorem s_seq (q : t { D with nx := u D } σ H) : tSeq t u D σ H := q
theorem s_asg {g : TG} (q : te σ H fun x H1 => g x σ H1 D.nx) : tAsg te g D σ H := q
theorem s_name {R : L2.St → Hp → Prop} (q : R (σ.set n (some v)) H) : gName n v σ H R := q
theorem s_ifs (q : T σ H fun c H1 => if c = true then t D σ H1 else u D σ H1) : tIfS T t u D σ H := q
theorem s_ret (q : te σ H D.rt) : tRet te D σ H := q
theorem s_next (q : D.nx σ H) : tNext D σ H := q
theorem s_drop (q : te σ H fun _ H1 => D.nx σ H1) : tDrop te D σ H := q
end
end
section
/-- the built-ins that no name of the module hides -/
def bltNames : List Str := ["len", "range", "int", "abs", "min", "max", "sorted", "repr", "isinstance", "list", "set", "dict", "str", "sum", "zip", "enumerate", "reversed", "all", "any", "divmod", "tuple", "super", "bool", "ValueError", "type"]
abbrev Blt (mg : Str → Option Value) : Prop := ∀ x : Str, x ∈ bltNames → mg x = none
section
variable {X : Cx} {e : Expr} {te : TE}
def gTruth (K : PySem.W.Frag) (te : TE) : TT := fun σ H Q => te σ H fun x H' => ∃ k, TruV K x H' k ∧ Q k H'
theorem g_truth (h : PE X e te) (he : ∀ whole, isTrue e X.env whole = (do let v ← whole; standAt e.pos; holding [v] (truthy v)) := by intro _; rfl) : PT X e (gTruth X.K te) := pt_truth h he
theorem o_len : CallR X (.builtin "len") (rLen X.K) := call_len
def rAbs : List V → Hp → VK → Prop := fun xs H Q => ∃ i, xs = [.int i] ∧ Q (.int (if i < 0 then -i else i)) H
theorem o_abs : CallR X (.builtin "abs") rAbs := call_abs
def rMin2 : List V → Hp → VK → Prop := fun xs H Q => ∃ i j, xs = [.int i, .int j] ∧ Q (.int (if j < i then j else i)) H
theorem o_min2 (hc : X.calm = true) : CallR X (.builtin "min") rMin2 := call_min2 hc
def rMax2 : List V → Hp → VK → Prop := fun xs H Q => ∃ i j, xs = [.int i, .int j] ∧ Q (.int (if j > i then j else i)) H
theorem o_max2 (hc : X.calm = true) : CallR X (.builtin "max") rMax2 := call_max2 hc
def rInt : List V → Hp → VK → Prop := fun xs H Q => (∃ i, xs = [.int i] ∧ Q (.int i) H) ∨ ∃ k, xs = [.bl k] ∧ Q (.int (if k then 1 else 0)) H
theorem o_int : CallR X (.type "int") rInt := call_int1
def rListS : List V → Hp → VK → Prop := fun xs H Q => ∃ z, xs = [.str z] ∧ z.length ≤ sizeLine ∧ ∀ l, H l = none → Q (.ref l) (upd H l (.lst (z.cps.toList.map fun c => .str ⟨#[c]⟩)))
/-- list(a text) -/
theorem o_listS (hc : X.calm = true) : CallR X (.type "list") rListS := by
  intro pins s σ H xs us Q I r h
  obtain ⟨z, rfl, hz, q⟩ := h
  obtain ⟨u, rfl, rx⟩ := vals1 r
  obtain ⟨t, rfl⟩ := rx
  refine call_list_str (I.ok.hd hc) z t (fun h' tk acc c' kp e hi => ?_) hz
  have len : acc.toList.length = z.cps.toList.length := by rw [Array.length_toList, Array.length_toList]; exact hi.1
  have rel : Vals (z.cps.toList.map fun c => V.str ⟨#[c]⟩) acc.toList := by
    refine vals_of_at (by rw [List.length_map, len]) fun j x v hx hv => ?_
    rw [List.getElem?_map] at hx
    cases hc2 : z.cps.toList[j]? with
    | none =>
      rw [hc2] at hx
      cases hx
    | some c =>
      rw [hc2] at hx
      cases hx
      obtain ⟨d, t', e1, e2⟩ := hi.2 j v (by rw [← hv, Array.getElem?_toList])
      rw [Array.getElem?_toList] at hc2
      rw [hc2] at e1
      cases e1
      exact ⟨t', e2⟩
  exact ⟨.ref s.heap.objs.size, _, I.laid (t' := tk) kp (Nat.le_refl _) (show ObjOk X.prog X.w _ h' _ (.lst _) from ⟨by rw [List.length_map, Array.length_toList]; exact hz, acc.toList, c', rel, by rw [Array.toArray_toList]; exact e⟩), rfl, q _ (I.hok.fresh (Nat.le_refl _))⟩
def rListOf (K : PySem.W.Frag) : List V → Hp → VK → Prop := fun xs H Q => (∃ p ys, xs = [.ref p] ∧ (SqL K H p ys ∨ SqT K H p ys) ∧ ∀ l, H l = none → Q (.ref l) (upd H l (.lst ys))) ∨ rListS xs H Q
theorem o_list (hc : X.calm = true) : CallR X (.type "list") (rListOf X.K) := CallR.or call_list_of (o_listS hc)
def rStrI : List V → Hp → VK → Prop := fun xs H Q => ∃ i, xs = [.int i] ∧ i.natAbs.log2 < 1920 ∧ Q (.str (toString i)) H
def rJoin (K : PySem.W.Frag) : V → List V → Hp → VK → Prop := fun x xs H Q => ∃ a p, ∃ ys : List Str, x = .str a ∧ xs = [.ref p] ∧ (SqL K H p (ys.map V.str) ∨ SqT K H p (ys.map V.str)) ∧ (ys.map (·.length)).sum + ys.length * a.length ≤ 16777216 ∧ Q (.str (Txt.join a ys)) H
def rStarts : V → List V → Hp → VK → Prop := fun x xs H Q => ∃ a b, x = .str a ∧ xs = [.str b] ∧ Q (.bl (Txt.startswith a b)) H
def rEnds : V → List V → Hp → VK → Prop := fun x xs H Q => ∃ a b, x = .str a ∧ xs = [.str b] ∧ Q (.bl (Txt.endswith a b)) H
def rCount : V → List V → Hp → VK → Prop := fun x xs H Q => ∃ a b, x = .str a ∧ xs = [.str b] ∧ Q (.int (Txt.count a b)) H
def rFind : V → List V → Hp → VK → Prop := fun x xs H Q => ∃ a b, x = .str a ∧ xs = [.str b] ∧ Q (.int (Txt.find a b)) H
def rInsert : V → List V → Hp → VK → Prop := fun x vs H Q => ∃ (l : Addr) (xs : List V) (i : Int) (y : V), x = .ref l ∧ vs = [.int i, y] ∧ H l = some (.lst xs) ∧ xs.length < sizeLine ∧ 0 ≤ i ∧ i < 2 ^ 63 ∧
  Q .non (upd H l (.lst (xs.take i.toNat ++ [y] ++ xs.drop i.toNat)))
/-- xs[i] op= e -/
def rGetL (K : PySem.W.Frag) : V → V → Hp → VK → Prop := rIxL K
theorem get_list : PGet X (rGetL X.K) := by
  intro pins s σ H o i ov iv Q I ro ri h
  obtain ⟨p, xs, j, z, rfl, rfl, hq, he, q⟩ := h
  cases ro
  obtain ⟨t, rfl⟩ := ri
  obtain ⟨its, r, pl, hz⟩ := I.list hq
  obtain ⟨m, h1, h2, h3, h4, h5⟩ := atI_get he
  obtain ⟨w, ew, rw'⟩ := r.get h2
  have hl := r.length
  have hn := line63
  have fin : EP X pins σ Q w s := ⟨z, H, I, rw', q⟩
  by_cases h0 : 0 ≤ j
  · have hj : j.toNat = m := by
      rw [seqIndex_of h0 h5] at h1
      exact Option.some.inj h1
    exact wpAny_getItem_list pl.isList h0 (by omega) (by rw [hj]; simpa using ew) fin
  · have hj : (j + (its.toArray.size : Int)).toNat = m := by
      rw [seqIndex_neg (by omega) h4] at h1
      rw [List.size_toArray, ← hl]
      exact Option.some.inj h1
    exact wpAny_getItem_list_neg pl.isList (by omega) (by rw [List.size_toArray] <;> omega) (by omega) (by rw [hj]; simpa using ew) fin
def ipAdd (K : PySem.W.Frag) : TIp := ipI fun i j => i + j
theorem ip_plus : PIp X .Add (ipAdd X.K) := ip_add
def ipMul : TIp := rI CMul fun i j => .int (i * j)
theorem ip_times : PIp X .Mult ipMul := iop_mul
end

section
variable {K : PySem.W.Frag} {σ : L2.St} {H : Hp} {Q : VK} {i j : Int} {n : Nat} {x y v : V} {a b : Addr} {z z' : Str} {c k : Bool} {QT : Bool → Hp → Prop} {ta tb te : TE} {to ti : TE}
theorem s_truth (q : te σ H fun x H' => ∃ k, TruV K x H' k ∧ QT k H') : gTruth K te σ H QT := q
theorem s_lenL {xs : List V} (h : SqL K H a xs) (q : Q (.int xs.length) H) : rLen K [.ref a] H Q := ⟨_, _, rfl, .inl ⟨xs, h, rfl⟩, q⟩
theorem s_lenS (h : z.length ≤ sizeLine) (q : Q (.int z.length) H) : rLen K [.str z] H Q := ⟨_, _, rfl, ⟨h, rfl⟩, q⟩
theorem s_abs (q : Q (.int (if i < 0 then -i else i)) H) : rAbs [.int i] H Q := ⟨i, rfl, q⟩
theorem s_min2 (q : Q (.int (min i j)) H) : rMin2 [.int i, .int j] H Q := ⟨i, j, rfl, by
  have e : (if j < i then j else i) = min i j := by
    rw [Int.min_def]
    split <;> split <;> omega
  rw [e]; exact q⟩
theorem s_max2 (q : Q (.int (max i j)) H) : rMax2 [.int i, .int j] H Q := ⟨i, j, rfl, by
  have e : (if j > i then j else i) = max i j := by
    rw [Int.max_def]
    split <;> split <;> omega
  rw [e]; exact q⟩
theorem s_intI (q : Q (.int i) H) : rInt [.int i] H Q := .inl ⟨i, rfl, q⟩
theorem s_intB (q : Q (.int (if c then 1 else 0)) H) : rInt [.bl c] H Q := .inr ⟨c, rfl, q⟩
theorem s_rg1 {R : Int → Int → Hp → Prop} (q : ta σ H fun x H1 => ∃ n, x = .int n ∧ R 0 n H1) : tRg1 ta σ H R := q
theorem s_rg2 {R : Int → Int → Hp → Prop} (q : ta σ H fun x H1 => tb σ H1 fun y H2 => ∃ i j, x = .int i ∧ y = .int j ∧ R i j H2) : tRg2 ta tb σ H R := q
theorem s_rg1e {R : Int → Prop} (q : R i) : ∃ n, V.int i = .int n ∧ R n := ⟨i, rfl, q⟩
theorem s_rg2e {R : Int → Int → Prop} (q : R i j) : ∃ n m, V.int i = .int n ∧ V.int j = .int m ∧ R n m := ⟨i, j, rfl, rfl, q⟩
theorem s_lrg {R : L2.St → Hp → (Int → Int → Hp → Prop) → Prop} (q : R σ H fun a b H1 => NewO (RgOk a b) (.lst (rgV a b)) H1 Q) : tLstRg R σ H Q := q
end

/-! ### the law's bag -/
/-- the bag's items -/
def bagV (c : Addr) (a0 a1 a2 : Int) : List V := [.int a0, .int a1, .int a2, .ref c]
/-- a bag at b, over the heap H without it -/
structure Bag (K : PySem.W.Frag) (H : Hp) (b : Addr) (xs : List V) : Prop where
  off : H b = none
  is : ∃ (c : Addr) (a0 a1 a2 : Int) (ns : List Int), xs = bagV c a0 a1 a2 ∧ SqL K H c (ns.map V.int) ∧ (∀ m ∈ ns, 0 ≤ m) ∧ ns.length ≤ 1000 ∧ 0 ≤ a0 ∧ 0 ≤ a1 ∧ a1 < 2147483647 ∧ 0 ≤ a2
theorem Bag.same {K : PySem.W.Frag} {H H' : Hp} {b : Addr} {xs : List V} (B : Bag K H b xs) (e : Same H H') (h : H' b = none) : Bag K H' b xs := by
  obtain ⟨c, a0, a1, a2, ns, h1, h2, h3, h4, h5, h6, h7, h8⟩ := B.is
  exact ⟨h, c, a0, a1, a2, ns, h1, e.seq h2, h3, h4, h5, h6, h7, h8⟩
/-- one, two, .. arguments -/
def sp1 (f : V → Hp → VK → XK → Prop) : Sp := fun vs H Q E => ∃ a, vs = [a] ∧ f a H Q E
def sp2 (f : V → V → Hp → VK → XK → Prop) : Sp := fun vs H Q E => ∃ a b, vs = [a, b] ∧ f a b H Q E
def sp3 (f : V → V → V → Hp → VK → XK → Prop) : Sp := fun vs H Q E => ∃ a b c, vs = [a, b, c] ∧ f a b c H Q E
def sp4 (f : V → V → V → V → Hp → VK → XK → Prop) : Sp := fun vs H Q E => ∃ a b c d, vs = [a, b, c, d] ∧ f a b c d H Q E
def sp5 (f : V → V → V → V → V → Hp → VK → XK → Prop) : Sp := fun vs H Q E => ∃ a b c d e, vs = [a, b, c, d, e] ∧ f a b c d e H Q E
theorem ln1 {f : V → Hp → VK → XK → Prop} {x1 : Str} : ∀ vs H Q E, sp1 f vs H Q E → vs.length = [x1].length := fun _ _ _ _ ⟨_, e, _⟩ => by rw [e]; rfl
theorem ln2 {f : V → V → Hp → VK → XK → Prop} {x1 x2 : Str} : ∀ vs H Q E, sp2 f vs H Q E → vs.length = [x1, x2].length := fun _ _ _ _ ⟨_, _, e, _⟩ => by rw [e]; rfl
theorem ln3 {f : V → V → V → Hp → VK → XK → Prop} {x1 x2 x3 : Str} : ∀ vs H Q E, sp3 f vs H Q E → vs.length = [x1, x2, x3].length := fun _ _ _ _ ⟨_, _, _, e, _⟩ => by rw [e]; rfl
theorem ln4 {f : V → V → V → V → Hp → VK → XK → Prop} {x1 x2 x3 x4 : Str} : ∀ vs H Q E, sp4 f vs H Q E → vs.length = [x1, x2, x3, x4].length := fun _ _ _ _ ⟨_, _, _, _, e, _⟩ => by rw [e]; rfl
theorem ln5 {f : V → V → V → V → V → Hp → VK → XK → Prop} {x1 x2 x3 x4 x5 : Str} : ∀ vs H Q E, sp5 f vs H Q E → vs.length = [x1, x2, x3, x4, x5].length := fun _ _ _ _ ⟨_, _, _, _, _, e, _⟩ => by rw [e]; rfl
/-- a draw -/
def sp_take (K : PySem.W.Frag) : Sp := sp2 fun x y H Q _ => ∃ (b : Addr) (H0 : Hp) (xs : List V) (m : Int), x = .ref b ∧ y = .int m ∧ H = upd H0 b (.lst xs) ∧ Bag K H0 b xs ∧ 0 < m ∧ m.natAbs.log2 < 9000 ∧
  ∀ (r : Int) (ys : List V), 0 ≤ r → r < m → Bag K H0 b ys → Q (.int r) (upd H0 b (.lst ys))
/-- the bag made of a script -/
def sp_bag (K : PySem.W.Frag) : Sp := sp1 fun x H Q _ => ∃ (a : Addr) (ns : List Int), x = .ref a ∧ SqL K H a (ns.map V.int) ∧
  ∀ (H0 : Hp) (b : Addr) (xs : List V), Same H H0 → H b = none → Bag K H0 b xs → Q (.ref b) (upd H0 b (.lst xs))
/-- found == due and repr(found) == repr(due), of equal data -/
def sp_alike (K : PySem.W.Frag) : Sp := sp2 fun x y H Q _ => ∃ d : PyData, Dp K H x d ∧ Dp K H y d ∧ Nice d ∧ Q (.bl true) H
section
variable {K : PySem.W.Frag} {H : Hp} {Q : VK} {E : XK} {b : Addr} {xs : List V} {m : Int} {x y : V}
/-- a draw, stepped -/
theorem s_take (B : Bag K H b xs) (h : 0 < m) (hl : m.natAbs.log2 < 9000) (q : ∀ (r : Int) (ys : List V), 0 ≤ r → r < m → Bag K H b ys → Q (.int r) (upd H b (.lst ys))) : Fr (sp_take K) [.ref b, .int m] (upd H b (.lst xs)) Q E :=
  s_all ⟨_, _, rfl, b, H, xs, m, rfl, rfl, rfl, B, h, hl, q⟩
theorem s_alike {d : PyData} (h1 : Dp K H x d) (h2 : Dp K H y d) (n : Nice d) (q : Q (.bl true) H) : Fr (sp_alike K) [x, y] H Q E := s_all ⟨_, _, rfl, d, h1, h2, n, q⟩
end
end
section
/-! ### the law itself -/
section
variable {P : Program} {w : World} {K : PySem.W.Frag} {mg mb : Str → Option Value} {k : Nat} {fa a : Addr} {fd : FuncData} {x : Str} {sp : Sp} {s1 : Shared} {us : List Value} {ns : List Int}
/-- the ground, with the tracked heap H told (H tracks the script alone) -/
theorem law_core {H : Hp} {o : Obj} (ho : s1.heap.get? a = some o) (hod : ∀ es ep, o.data ≠ .dict es ep)
    (hin : K.In s1.heap) (nsM : s1.heap.Ns mainGlobals mg) (nsB : s1.heap.Ns builtinsNs mb) (boot : ∀ y : Str, y ≠ "__name__" → mb y = bootBuiltins y) (nl : s1.heap.NoLimit) (gens : s1.gens = #[])
    (hr : Room k callerA) (F : ∀ base : Heap, K.In base → base.Ns mainGlobals mg → Gf P w K mg base k fa fd [x] sp) (bind : ∀ (s : Shared) (u : Value), BindsTo s fd ⟨[u], []⟩ [(x, u)])
    (only : Only H) (alone : ∀ b u, H b = some u → b = a) (offK : ∀ u, H a = some u → K.lookup a = none) (okH : HOk P w H s1.heap)
    (hsp : sp [.ref a] H (fun v _ => v = .bl true) fun _ _ _ => False) :
    codeAny (model P w) callerA (.call (.ref fa) ⟨[.ref a], []⟩) (fun r s' => r = .ok (.ret (.bool true)) ∧ OldK s1.heap s'.heap ∧ s'.os = s1.os ∧ AllBare s'.gens) s1 := by
  have stay : ∀ {b : Addr} {q : Obj}, s1.heap.get? b = some q → (b = a → ∃ es ep, q.data = .dict es ep) → (hidT s1.heap H).get? b = some q := fun {b q} e nd => by
    refine hidT_get e ?_
    cases z : H b with
    | none => rfl
    | some u =>
      have ea := alone b u z
      subst ea
      obtain ⟨es, ep, hd⟩ := nd rfl
      rw [ho] at e
      cases e
      exact absurd hd (hod es ep)
  have spaces : ∀ {b : Addr} {m : Str → Option Value}, s1.heap.Ns b m → (hidT s1.heap H).Ns b m := fun {b m} n => by
    obtain ⟨q, es, ep, e, hd, r⟩ := n
    exact ⟨q, es, ep, stay e fun _ => ⟨es, ep, hd⟩, hd, r⟩
  have inB : K.In (hidT s1.heap H) := fun b q e => by
    refine hidT_get (hin b q e) ?_
    cases z : H b with
    | none => rfl
    | some u =>
      have ea := alone b u z
      subst ea
      rw [offK u z] at e
      cases e
  have mod : Mod K mg (hidT s1.heap H) := by
    obtain ⟨mc, n1, n2⟩ := nl
    exact ⟨inB, spaces nsM, ⟨mb, spaces nsB, boot⟩, ⟨mc, spaces n1, n2⟩⟩
  have nof : ∀ b, ¬ b ∈ frs ([] : List Env) := fun b z => by
    have z2 : b ∈ ([] : List Addr) := z
    cases z2
  have env : Env0 P w K mg (hidT s1.heap H) callerA [] s1 H := ⟨rfl, mod, fun _ _ e => of_hidT e, Nat.le_of_eq (hidT_size _ _), trivial, fun b z => absurd z (nof b), okH, .of_eq gens⟩
  refine codeAny_mono ((F _ inB (spaces nsM)).run callerA [] s1 H ⟨[.ref a], []⟩ [.ref a] [.ref a] _ _ rfl hr env (bind s1 (.ref a)) (.cons rfl .nil) hsp) fun r s' res => ?_
  match r, res with
  | .error e, res =>
    obtain ⟨_, _, _, _, _, _, _, _, _, _, _, _, z⟩ := res
    exact z.elim
  | .ok .next, res => exact False.elim res
  | .ok .brk, res => exact False.elim res
  | .ok .cont, res => exact False.elim res
  | .ok (.ret u), res =>
    obtain ⟨v, H', eos, bare, un, ok2, rv, ev⟩ := res
    have ev2 : v = .bl true := ev
    subst ev2
    have eu : u = Value.bool true := rv
    subst eu
    refine ⟨rfl, OldK.of_keep fun b q e => ?_, eos, bare⟩
    cases z : H b with
    | none => exact un.keep b q e z (nof b) (by simp)
    | some t =>
      rcases only b with n | ⟨ob, xs, n⟩
      · rw [z] at n
        cases n
      · have p1 := (okH b _ n).1
        have p2 := (ok2 b _ (un.frzs b ob _ n)).1
        rw [e] at p1
        cases p1
        exact p2
theorem law_g (hin : K.In s1.heap) (nsM : s1.heap.Ns mainGlobals mg) (nsB : s1.heap.Ns builtinsNs mb) (boot : ∀ y : Str, y ≠ "__name__" → mb y = bootBuiltins y) (nl : s1.heap.NoLimit) (gens : s1.gens = #[])
    (ho : s1.heap.get? a = some { cls := .type "list", data := .seq us.toArray }) (hi : PyProof.Rows.IntsAre us ns) (hz : ns.length ≤ sizeLine)
    (hr : Room k callerA) (F : ∀ base : Heap, K.In base → base.Ns mainGlobals mg → Gf P w K mg base k fa fd [x] sp) (bind : ∀ (s : Shared) (u : Value), BindsTo s fd ⟨[u], []⟩ [(x, u)])
    (hsp : ∀ H : Hp, SqL K H a (ns.map V.int) → sp [.ref a] H (fun v _ => v = .bl true) fun _ _ _ => False) :
    codeAny (model P w) callerA (.call (.ref fa) ⟨[.ref a], []⟩) (fun r s' => r = .ok (.ret (.bool true)) ∧ OldK s1.heap s'.heap ∧ s'.os = s1.os ∧ AllBare s'.gens) s1 := by
  have rel := vals_ints hi
  have len := hi.length
  have nodict : ∀ es ep, ({ cls := .type "list", data := .seq us.toArray } : Obj).data ≠ .dict es ep := fun es ep z => by cases z
  cases inK : K.lookup a with
  | some q =>
    have e := hin a q inK
    rw [ho] at e
    cases e
    refine law_core (H := fun _ => none) ho nodict hin nsM nsB boot nl gens hr F bind (fun _ => .inl rfl) (fun b u z => by cases z) (fun u z => by cases z) (fun b u z => by cases z) (hsp _ (.inr ⟨_, us.toArray, _, inK, rfl, rfl, rfl, ?_, ?_⟩))
    · rw [List.size_toArray, len]
      exact hz
    · simpa using rel
  | none =>
    have here : (fun b => if b = a then some (HO.frz { cls := .type "list", data := .seq us.toArray } (.lst (ns.map V.int))) else none : Hp) a = some (.frz { cls := .type "list", data := .seq us.toArray } (.lst (ns.map V.int))) := if_pos rfl
    refine law_core (H := fun b => if b = a then some (.frz { cls := .type "list", data := .seq us.toArray } (.lst (ns.map V.int))) else none) ho nodict hin nsM nsB boot nl gens hr F bind (fun b => ?_) (fun b u z => ?_) (fun _ _ => inK) (fun b u z => ?_) (hsp _ (.inl (.inr ⟨_, here⟩)))
    · by_cases e : b = a
      · exact .inr ⟨_, _, if_pos e⟩
      · exact .inl (if_neg e)
    · by_cases e : b = a
      · exact e
      · have z2 := (if_neg e).symm.trans z
        cases z2
    · by_cases e : b = a
      · have z2 := (if_pos e).symm.trans z
        cases z2
        subst e
        exact ⟨ho, by rw [List.length_map]; exact hz, us, _, rel, ho⟩
      · have z2 := (if_neg e).symm.trans z
        cases z2
end
/-- what the law's def promises -/
def sp_law (K : PySem.W.Frag) : Sp := sp1 fun x H Q _ => ∃ (a : Addr) (ns : List Int), x = .ref a ∧ ns.length ≤ 63 ∧ SqL K H a (ns.map V.int) ∧ ∀ H', Q (.bl true) H'
/-- the row's end -/
theorem walk_g {l : PySem.W.OpenLaw} {k : Nat} {q : Program} {loose : List Str} {XP : (Str → Option Value) → Heap → Prop} {YP : World → Heap → Prop} {d : DefRec} {x : Str}
    (hn : l.most = some 63) (hdf : d.params.defaults = []) (hr : Room k callerA)
    (F : ∀ (w : World) (mg : Str → Option Value) (fa : Addr) (h : Heap), YP w h → h.Ns mainGlobals mg → mg d.name = some (.ref fa) →
      ∃ (K : PySem.W.Frag) (fd : FuncData), K.In h ∧ (∀ (s : Shared) (u : Value), BindsTo s fd ⟨[u], []⟩ [(x, u)]) ∧ ∀ base : Heap, K.In base → base.Ns mainGlobals mg → Gf l.prog w K mg base k fa fd [x] (sp_law K)) :
    PySem.W.WalkO q loose XP YP l.row.toRowW d [] (fun f vs => PySem.call f vs) := by
  refine Att.attach_call hn hdf fun w s0 s1 mg mb fa o pm cd doc a vs ns G Y ho hd hcd hmg hobj hints hlen hg => ?_
  obtain ⟨K, fd, KX, hb, hF⟩ := F w mg fa _ Y G.T.g hmg
  exact law_g KX G.T.g G.T.b G.T.builtins G.T.nolimit hg hobj hints (by rw [sizeLine_eq]; omega) hr hF hb fun H hS => ⟨.ref a, rfl, a, ns, rfl, hlen, hS, fun _ => rfl⟩
end
section
/-! ### more steps: stores, slices, loops -/
section
variable {K : PySem.W.Frag} {σ : L2.St} {H : Hp} {Q : VK} {D : Ends} {ta tb tc te to ti tl : TE} {t u : TS} {ts : TA} {r : R2} {i j : Int} {n m : Nat} {x y v : V} {a b : Addr} {z z' : Str} {c k : Bool} {g : TG} {tt : TT} {vs : List Nat} {wi : TI}
theorem s_gSub {st : TSet} {R : L2.St → Hp → Prop} (q : to σ H fun o H1 => ti σ H1 fun i H2 => st o i v H2 fun H3 => R σ H3) : gSub to ti st v σ H R := q
theorem s_augS {tget : V → V → Hp → VK → Prop} {tip : TIp} {tset : TSet} (q : to σ H fun o H1 => ti σ H1 fun i H2 => tget o i H2 fun x H3 => te σ H3 fun y H4 => tip x y H4 fun z H5 => tset o i z H5 fun H6 => D.nx σ H6) : tAugS to ti te tget tip tset D σ H := q
theorem s_aug {tip : TIp} (e : σ[n]? = some (some x)) (q : te σ H fun y H1 => tip x y H1 fun z H2 => D.nx (σ.set n (some z)) H2) : tAug n te tip D σ H := ⟨x, e, q⟩
theorem s_ipI {f : Int → Int → Int} (q : Q (.int (f i j)) H) : ipI f (.int i) (.int j) H Q := ⟨i, j, rfl, rfl, q⟩
theorem s_setL {xs : List V} (h : H a = some (.lst xs)) (e : ixN xs.length i = some n) {R : Hp → Prop} (q : R (upd H a (.lst (xs.set n v)))) : rSetL (.ref a) (.int i) v H R := ⟨a, xs, i, n, rfl, rfl, h, e, q⟩
theorem s_sl {rr : V → Option Int → Option Int → Hp → VK → Prop} {t1 t2 : TO} (q : te σ H fun x H1 => t1 σ H1 fun l H2 => t2 σ H2 fun u H3 => rr x l u H3 Q) : tSl rr te t1 t2 σ H Q := q
theorem s_noPart {R : Option Int → Hp → Prop} (q : R none H) : tNoPart σ H R := q
theorem s_part {R : Option Int → Hp → Prop} (q : te σ H fun x H1 => ∃ i, x = .int i ∧ R (some i) H1) : tPart te σ H R := q
theorem s_parte {R : Option Int → Prop} (q : R (some i)) : ∃ m, V.int i = .int m ∧ R (some m) := ⟨i, rfl, q⟩
theorem s_cutL {xs : List V} {lo hi : Option Int} (h : SqL K H a xs) (q : ∀ p, H p = none → Q (.ref p) (upd H p (.lst (cutV xs lo hi)))) : rCut K (.ref a) lo hi H Q := .inr (.inl ⟨a, xs, rfl, h, q⟩)
theorem s_retN (q : D.rt .non H) : tRetN D σ H := q
theorem s_for (q : wi σ H fun J H1 => ∃ W : Nat → Nat → L2.St → Hp → Prop, (∃ m, W 0 m σ H1) ∧ ∀ i m σ H, W i m σ H →
  (J.stop i H ∧ D.nx σ H) ∨ (J.go i H ∧ ∃ N : L2.St → Hp → Prop, (∀ σ' H', N σ' H' → ∃ m', m' < m ∧ W (i + 1) m' σ' H') ∧ ∀ x H', J.yld i H x H' → g x σ H' fun σ2 H2 => t { D with nx := N, ct := N, bk := D.nx } σ2 H2)) : tFor wi g t D σ H := q
theorem s_lc (q : wi σ H fun J H1 => ∀ D, H1 D = none → ∃ W : Nat → Nat → Hp → Prop, (∃ m, W 0 m (upd H1 D (.lst []))) ∧ ∀ i m H, W i m H →
  (J.stop i H ∧ DoneC Q D H) ∨ (J.go i H ∧ ∃ Nx : Hp → Prop, (∀ H', Nx H' → ∃ m', m' < m ∧ W (i + 1) m' H') ∧ ∀ x H', J.yld i H x H' → g x (wipe σ vs) H' fun σ2 H2 => wipe σ2 vs = wipe σ vs ∧ tt σ2 H2 fun b H3 =>
    if b = true then te σ2 H3 fun y H4 => ∃ acc, H4 D = some (.lst acc) ∧ acc.length < sizeLine ∧ Nx (upd H4 D (.lst (acc ++ [y]))) else Nx H3)) : tLc wi g tt te vs σ H Q := q
theorem s_iL {R : It → Hp → Prop} (q : tl σ H fun x H1 => ∃ a, x = .ref a ∧ (∃ xs, SqL K H1 a xs) ∧ R (Itl K a) H1) : iList K tl σ H R := q
theorem s_itL {R : Addr → Prop} {xs : List V} (h : SqL K H a xs) (q : R a) : ∃ p, V.ref a = .ref p ∧ (∃ ys, SqL K H p ys) ∧ R p := ⟨a, rfl, ⟨xs, h⟩, q⟩
theorem s_iT {R : It → Hp → Prop} (q : tl σ H fun x H1 => ∃ a, x = .ref a ∧ (∃ xs, SqT K H1 a xs) ∧ R (Itt K a) H1) : iTup K tl σ H R := q
theorem s_itT {R : Addr → Prop} {xs : List V} (h : SqT K H a xs) (q : R a) : ∃ p, V.ref a = .ref p ∧ (∃ ys, SqT K H p ys) ∧ R p := ⟨a, rfl, ⟨xs, h⟩, q⟩
theorem s_iS {R : It → Hp → Prop} (q : tl σ H fun x H1 => ∃ z, x = .str z ∧ R (Its z) H1) : iStr tl σ H R := q
theorem s_itS {R : Str → Prop} (q : R z) : ∃ z', V.str z = .str z' ∧ R z' := ⟨z, rfl, q⟩
theorem s_iR1 {R : It → Hp → Prop} (q : ts σ H fun vs H1 => ∃ j : Int, vs = [.int j] ∧ -(2 ^ 62) ≤ j ∧ j < 2 ^ 62 ∧ R (Itr 0 j.toNat) H1) : iRng1 ts σ H R := q
theorem s_iR2 {R : It → Hp → Prop} (q : ts σ H fun vs H1 => ∃ i j : Int, vs = [.int i, .int j] ∧ (-(2 ^ 62) ≤ i ∧ i < 2 ^ 62 ∧ -(2 ^ 62) ≤ j ∧ j < 2 ^ 62) ∧ R (Itr i (j - i).toNat) H1) : iRng2 ts σ H R := q
theorem s_rn1 {R : Int → Prop} (h : j < 2 ^ 62) (h' : -(2 ^ 62) ≤ j) (q : R j) : ∃ k : Int, [V.int j] = [.int k] ∧ -(2 ^ 62) ≤ k ∧ k < 2 ^ 62 ∧ R k := ⟨j, rfl, h', h, q⟩
theorem s_rn2 {R : Int → Int → Prop} (h : -(2 ^ 62) ≤ i ∧ i < 2 ^ 62 ∧ -(2 ^ 62) ≤ j ∧ j < 2 ^ 62) (q : R i j) : ∃ k l : Int, [V.int i, V.int j] = [.int k, .int l] ∧ (-(2 ^ 62) ≤ k ∧ k < 2 ^ 62 ∧ -(2 ^ 62) ≤ l ∧ l < 2 ^ 62) ∧ R k l := ⟨i, j, rfl, h, q⟩
theorem s_bm {T : String} {rr : V → List V → Hp → VK → Prop} (q : to σ H fun x H1 => tyV K T x H1 ∧ ts σ H1 fun xs H2 => rr x xs H2 Q) : tBM K T rr to ts σ H Q := q
theorem s_bm0 {T : String} {rr : V → List V → Hp → VK → Prop} (q : to σ H fun x H1 => tyV K T x H1 ∧ rr x [] H1 Q) : tBM0 K T rr to σ H Q := q
theorem s_app {xs : List V} (h : H a = some (.lst xs)) (hz : xs.length < sizeLine) (q : Q .non (upd H a (.lst (xs ++ [y])))) : rAppend (.ref a) [y] H Q := ⟨a, xs, y, rfl, rfl, h, hz, q⟩
end
section
variable {K : PySem.W.Frag} {σ : L2.St} {H : Hp} {Q : VK} {D : Ends} {t u : TS} {i j : Int} {v : V} {a : Addr}
theorem s_getL {xs : List V} (h : SqL K H a xs) (e : atI xs i = some v) (q : Q v H) : rGetL K (.ref a) (.int i) H Q := ⟨a, xs, i, v, rfl, rfl, h, e, q⟩
theorem s_ipA (q : Q (.int (i + j)) H) : ipAdd K (.int i) (.int j) H Q := ⟨i, j, rfl, rfl, q⟩
theorem s_yes {R : Bool → Hp → Prop} (q : R true H) : tYes σ H R := q
theorem sz_of {n : Nat} (h : Nat.ble n 16777216 = true) : n ≤ sizeLine := small_sz (Nat.le_of_ble_eq_true h)
theorem upd_off {p b : Addr} {o : HO} (e : upd H p o b = Option.none) : H b = Option.none := by
  unfold upd at e
  split at e
  · cases e
  · exact e
/-- a statement and the rest, by a word between them -/
theorem s_seqR (I : L2.St → Hp → Prop) (h2 : ∀ σ H, I σ H → u D σ H) (h1 : ∀ N : L2.St → Hp → Prop, (∀ σ H, I σ H → N σ H) → t { D with nx := N } σ H) : tSeq t u D σ H := h1 (u D) h2
end
section
variable {K : PySem.W.Frag} {σ : L2.St} {H H0 : Hp} {Q : VK} {v : V} {vs xs ys : List V} {a b : Addr} {n : Nat} {i m : Int} {o : HO} {g : TG} {gs : TGs} {R : L2.St → Hp → Prop}
theorem s_gTup (h : SqT K H a xs) (hn : xs.length = n) (q : gs xs σ H R) : gTup K n gs (.ref a) σ H R := ⟨a, xs, rfl, h, hn, q⟩
theorem s_gCons (q : g v σ H fun σ' H' => gs vs σ' H' R) : gCons g gs (v :: vs) σ H R := ⟨v, vs, rfl, q⟩
theorem s_gNil (q : R σ H) : gNil [] σ H R := ⟨rfl, q⟩
/-- an item of a written list, all of whose items are alike -/
theorem s_pickP {xs : List V} (P : V → Prop) (h : H a = some (.lst xs)) (h0 : 0 ≤ i) (h1 : i < xs.length) (hP : ∀ x ∈ xs, P x) (q : ∀ x, P x → Q x H) : rIx K (.ref a) (.int i) H Q :=
  s_pick h h0 h1 fun m hm _ => q _ (hP _ (List.getElem_mem hm))
theorem lg (h0 : 0 < m) (h : m < 10 ^ 200) : m.natAbs.log2 < 9000 := by
  have h2 : m.natAbs < 10 ^ 200 := by omega
  exact (Nat.log2_lt (by omega)).mpr (Nat.lt_trans h2 (by decide +kernel))
theorem mulW {i j : Int} (h : i.natAbs < 10 ^ 200) (h' : j.natAbs < 10 ^ 200) : CMulW i j := by
  have z : ∀ n : Nat, n < 10 ^ 200 → n.log2 < 1000 := fun n hn => by
    by_cases h : n = 0
    · rw [h]; decide
    · exact (Nat.log2_lt h).mpr (Nat.lt_trans hn (by decide +kernel))
  have := z _ h
  have := z _ h'
  unfold CMulW
  omega
/-- something new beside the bag -/
theorem bag_new (B : Bag K H0 b ys) (q : ∀ p, H0 p = none → p ≠ b → Bag K (upd H0 p o) b ys → Q (.ref p) (upd (upd H0 p o) b (.lst ys))) : ∀ p, (upd H0 b (.lst ys)) p = none → Q (.ref p) (upd (upd H0 b (.lst ys)) p o) := by
  intro p hp
  have ne : p ≠ b := fun e => by
    rw [e, upd_same] at hp
    cases hp
  rw [upd_ne ne] at hp
  rw [upd_comm (Ne.symm ne)]
  exact q p hp ne (B.same (same_new hp) (by rw [upd_ne (Ne.symm ne)]; exact B.off))
/-- what stands beside the bag -/
theorem Bag.see (B : Bag K H0 b ys) : Same H0 (upd H0 b (.lst ys)) := same_new B.off
end
/-! comprehensions: the new list hidden -/
def PvD (Pv : Nat → List V → Hp → Prop) (D : Addr) : Nat → Hp → Prop := fun i H => ∃ acc Hi, H = upd Hi D (.lst acc) ∧ Hi D = none ∧ acc.length ≤ i ∧ Pv i acc Hi
section
variable {K : PySem.W.Frag} {H1 Hi : Hp} {a D : Addr} {xs acc : List V} {g : TG} {tt : TT} {te : TE} {vs : List Nat} {σ : L2.St} {Qd : Hp → Prop} {i n : Nat} {y : V} {lo : Int}
theorem lcL (hD : H1 D = none) (Pv : Nat → List V → Hp → Prop) (h0 : Pv 0 [] H1) (hl : ∀ i acc Hi, Pv i acc Hi → SqL K Hi a xs)
    (hs : ∀ i x acc Hi, xs[i]? = some x → i < xs.length → Hi D = none → acc.length ≤ i → Pv i acc Hi → g x (wipe σ vs) (upd Hi D (.lst acc)) fun σ2 H2 => wipe σ2 vs = wipe σ vs ∧ tt σ2 H2 fun b H3 =>
      if b = true then te σ2 H3 fun y H4 => ∃ acc, H4 D = some (.lst acc) ∧ acc.length < sizeLine ∧ PvD Pv D (i + 1) (upd H4 D (.lst (acc ++ [y]))) else PvD Pv D (i + 1) H3)
    (hd : ∀ acc Hi, Hi D = none → acc.length ≤ xs.length → Pv xs.length acc Hi → Qd (upd Hi D (.lst acc))) :
    ∃ W : Nat → Nat → Hp → Prop, (∃ m, W 0 m (upd H1 D (.lst []))) ∧ ∀ i m H, W i m H →
      ((Itl K a).stop i H ∧ Qd H) ∨ ((Itl K a).go i H ∧ ∃ Nx : Hp → Prop, (∀ H', Nx H' → ∃ m', m' < m ∧ W (i + 1) m' H') ∧ ∀ x H', (Itl K a).yld i H x H' → g x (wipe σ vs) H' fun σ2 H2 => wipe σ2 vs = wipe σ vs ∧ tt σ2 H2 fun b H3 =>
        if b = true then te σ2 H3 fun y H4 => ∃ acc, H4 D = some (.lst acc) ∧ acc.length < sizeLine ∧ Nx (upd H4 D (.lst (acc ++ [y]))) else Nx H3) := by
  refine lc_list (xs := xs) (PvD Pv D) ⟨[], H1, rfl, hD, Nat.le_refl _, h0⟩ (fun i H _ p => ?_) (fun i x H e p => ?_) fun H p => ?_
  · obtain ⟨acc, Hi, rfl, h1, _, h2⟩ := p
    exact (same_new h1).seq (hl i acc Hi h2)
  · obtain ⟨acc, Hi, rfl, h1, h2, h3⟩ := p
    exact hs i x acc Hi e (List.getElem?_eq_some_iff.mp e).1 h1 h2 h3
  · obtain ⟨acc, Hi, rfl, h1, h2, h3⟩ := p
    exact hd acc Hi h1 h2 h3
theorem lcR (hD : H1 D = none) (Pv : Nat → List V → Hp → Prop) (h0 : Pv 0 [] H1)
    (hs : ∀ i acc Hi, i < n → Hi D = none → acc.length ≤ i → Pv i acc Hi → g (.int (lo + i)) (wipe σ vs) (upd Hi D (.lst acc)) fun σ2 H2 => wipe σ2 vs = wipe σ vs ∧ tt σ2 H2 fun b H3 =>
      if b = true then te σ2 H3 fun y H4 => ∃ acc, H4 D = some (.lst acc) ∧ acc.length < sizeLine ∧ PvD Pv D (i + 1) (upd H4 D (.lst (acc ++ [y]))) else PvD Pv D (i + 1) H3)
    (hd : ∀ acc Hi, Hi D = none → acc.length ≤ n → Pv n acc Hi → Qd (upd Hi D (.lst acc))) :
    ∃ W : Nat → Nat → Hp → Prop, (∃ m, W 0 m (upd H1 D (.lst []))) ∧ ∀ i m H, W i m H →
      ((Itr lo n).stop i H ∧ Qd H) ∨ ((Itr lo n).go i H ∧ ∃ Nx : Hp → Prop, (∀ H', Nx H' → ∃ m', m' < m ∧ W (i + 1) m' H') ∧ ∀ x H', (Itr lo n).yld i H x H' → g x (wipe σ vs) H' fun σ2 H2 => wipe σ2 vs = wipe σ vs ∧ tt σ2 H2 fun b H3 =>
        if b = true then te σ2 H3 fun y H4 => ∃ acc, H4 D = some (.lst acc) ∧ acc.length < sizeLine ∧ Nx (upd H4 D (.lst (acc ++ [y]))) else Nx H3) := by
  refine lc_range (PvD Pv D) ⟨[], H1, rfl, hD, Nat.le_refl _, h0⟩ (fun i H e p => ?_) fun H p => ?_
  · obtain ⟨acc, Hi, rfl, h1, h2, h3⟩ := p
    exact hs i acc Hi e h1 h2 h3
  · obtain ⟨acc, Hi, rfl, h1, h2, h3⟩ := p
    exact hd acc Hi h1 h2 h3
/-- a turn's end -/
theorem lc_put {Pv : Nat → List V → Hp → Prop} (h : Hi D = none) (hn : acc.length ≤ i) (hz : i < sizeLine) (p : Pv (i + 1) (acc ++ [y]) Hi) :
    ∃ ac, (upd Hi D (.lst acc)) D = some (.lst ac) ∧ ac.length < sizeLine ∧ PvD Pv D (i + 1) (upd (upd Hi D (.lst acc)) D (.lst (ac ++ [y]))) :=
  ⟨acc, upd_same, Nat.lt_of_le_of_lt hn hz, acc ++ [y], Hi, upd_upd, h, by rw [List.length_append, List.length_singleton]; omega, p⟩
theorem lc_no {Pv : Nat → List V → Hp → Prop} (h : Hi D = none) (hn : acc.length ≤ i) (p : Pv (i + 1) acc Hi) : PvD Pv D (i + 1) (upd Hi D (.lst acc)) := ⟨acc, Hi, rfl, h, by omega, p⟩
end
theorem cut_map {α : Type} (f : α → V) (xs : List α) (lo hi : Option Int) : cutV (xs.map f) lo hi = ((xs.drop (HT.sIx xs.length 0 lo)).take (HT.sIx xs.length xs.length hi - HT.sIx xs.length 0 lo)).map f := by
  unfold cutV
  rw [List.length_map, List.map_take, List.map_drop]

/-! room, facts -/
theorem u65 {k : Nat} {A : Around} (r : Room k A) : A.units + 65 < cLine := by have := r.un; omega
theorem u100 {k : Nat} {A : Around} (r : Room k A) : A.units + 100 < cLine := by have := r.un; omega
theorem Cal.mono {P : Program} {w : World} {K : PySem.W.Frag} {mg : Str → Option Value} {base : Heap} {j k n : Nat} {x : Str} {sp : Sp} (c : Cal P w K mg base j x n sp) (h : j ≤ k) : Cal P w K mg base k x n sp := by
  obtain ⟨f, fd, ps, h1, h2, h3, h4, h5⟩ := c.ex
  exact ⟨f, fd, ps, h1, h2.mono h, h3, h4, h5⟩
theorem blt_of {K : PySem.W.Frag} {h : Heap} {mg : Str → Option Value} (X : K.In h) (G : h.Ns mainGlobals mg) (c : ∀ (i : Nat) (f : He.Fa), (bltNames.map He.Fa.free)[i]? = some f → f.ok K = true) : Blt mg := fun x hx => by
  obtain ⟨i, hi, e⟩ := List.getElem_of_mem hx
  exact He.free_ok X G (c i (.free x) (by rw [List.getElem?_map, List.getElem?_eq_getElem hi, e]; rfl))
theorem gi_of {K : PySem.W.Frag} {h : Heap} {mg : Str → Option Value} (X : K.In h) (G : h.Ns mainGlobals mg) {x : Str} {i : Int} (c : (He.Fa.int x i).ok K = true) : ∃ u, mg x = some u ∧ RelV (.int i) u := by
  obtain ⟨t, e⟩ := He.int_ok X G c
  exact ⟨_, e, t, rfl⟩
theorem gs_of {K : PySem.W.Frag} {h : Heap} {mg : Str → Option Value} (X : K.In h) (G : h.Ns mainGlobals mg) {x z : Str} (c : (He.Fa.str x z).ok K = true) : ∃ u, mg x = some u ∧ RelV (.str z) u := by
  obtain ⟨t, e⟩ := He.str_ok X G c
  exact ⟨_, e, t, rfl⟩
end
section
/-- one step of a reading (e: none past a statement's end) -/
local macro_rules
  | `(tactic| walk_at "e") => `(tactic| first
    | with_reducible refine s_ifs ?_
    | with_reducible refine s_test ?_
    | with_reducible refine s_truth ?_
    | with_reducible refine s_op ?_
    | with_reducible refine s_un ?_
    | with_reducible refine s_asg ?_
    | with_reducible refine s_ret ?_
    | with_reducible refine s_next ?_
    | with_reducible refine s_drop ?_
    | with_reducible refine s_c ?_
    | ((with_reducible refine s_var (v := ?v) ?e ?q); case e => exact rfl)
    | with_reducible refine s_name ?_
    | with_reducible refine s_exq ?_
    | with_reducible refine s_cons ?_
    | with_reducible refine s_nil ?_
    | with_reducible refine s_lst ?_
    | with_reducible refine s_tup ?_
    | with_reducible refine s_cb ?_
    | with_reducible refine s_call ?_
    | with_reducible refine s_and ?_
    | with_reducible refine s_or ?_
    | with_reducible refine s_not ?_
    | with_reducible refine s_andV ?_
    | with_reducible refine s_orV ?_
    | with_reducible refine s_notV ?_
    | with_reducible refine s_ife ?_
    | with_reducible refine s_chain ?_
    | with_reducible refine s_addI ?_
    | with_reducible refine s_sub ?_
    | with_reducible refine s_neg ?_
    | with_reducible refine s_eqI ?_
    | with_reducible refine s_eqT ?_
    | with_reducible refine s_eqB ?_
    | with_reducible refine s_eqNI ?_
    | with_reducible refine s_eqIN ?_
    | with_reducible refine s_eqNN ?_
    | with_reducible refine s_neI ?_
    | with_reducible refine s_neT ?_
    | with_reducible refine s_neB ?_
    | with_reducible refine s_lt ?_
    | with_reducible refine s_le ?_
    | with_reducible refine s_gt ?_
    | with_reducible refine s_ge ?_
    | with_reducible refine s_isN ?_
    | with_reducible refine s_isS ?_
    | with_reducible refine s_truB ?_
    | with_reducible refine s_truI ?_
    | with_reducible refine s_truN ?_
    | with_reducible refine s_abs ?_
    | with_reducible refine s_min2 ?_
    | with_reducible refine s_max2 ?_
    | with_reducible refine s_intI ?_
    | with_reducible refine s_intB ?_
    | with_reducible refine s_ifT ?_
    | with_reducible refine s_ifF ?_
    | with_reducible refine s_ifnT ?_
    | with_reducible refine s_ifnF ?_
    | with_reducible refine s_gSub ?_
    | with_reducible refine s_gTup ?_
    | with_reducible refine s_augS ?_
    | ((with_reducible refine s_aug (x := ?v) ?e ?q); case e => exact rfl)
    | with_reducible refine s_yes ?_
    | with_reducible refine s_gCons ?_
    | with_reducible refine s_gNil ?_
    | with_reducible refine s_ipI ?_
    | with_reducible refine s_ipA ?_
    | with_reducible refine s_sl ?_
    | with_reducible refine s_noPart ?_
    | with_reducible refine s_part ?_
    | with_reducible refine s_parte ?_
    | with_reducible refine s_for ?_
    | with_reducible refine s_lc ?_
    | with_reducible refine s_iL ?_
    | with_reducible refine s_iS ?_
    | with_reducible refine s_iT ?_
    | with_reducible refine s_itS ?_
    | with_reducible refine s_iR1 ?_
    | with_reducible refine s_iR2 ?_
    | with_reducible refine s_rg1 ?_
    | with_reducible refine s_rg2 ?_
    | with_reducible refine s_rg1e ?_
    | with_reducible refine s_rg2e ?_
    | with_reducible refine s_lrg ?_
    | with_reducible refine s_bm ?_
    | with_reducible refine s_bm0 ?_
    | with_reducible refine s_retN ?_)
  | `(tactic| walk_at "s") => `(tactic| first
    | with_reducible refine s_seq ?_
    | walk_at "e")

def t_bag (K : PySem.W.Frag) : TS :=
  (tRet (tLst (tCons (tC (.int 0)) (tCons (tC (.int 1234567891)) (tCons (tC (.int 0)) (tCons (tLc (iList K (tSl (rCut K) (tVar 0) tNoPart (tPart (tC (.int 63))))) (gName 1) tYes (tCB rAbs (tCons (tVar 1) tNil)) [1]) tNil))))))

theorem int_at {ms : List Int} {x : V} {i : Nat} (e : (ms.map V.int)[i]? = some x) : ∃ m, x = .int m ∧ ms[i]? = some m := by
  rw [List.getElem?_map] at e
  cases h : ms[i]? with
  | none =>
    rw [h] at e
    cases e
  | some m =>
    rw [h] at e
    exact ⟨m, (Option.some.inj e).symm, rfl⟩
theorem pu_bag {K : PySem.W.Frag} (vs : List V) (H : Hp) (Q : VK) (E : XK) (h : sp_bag K vs H Q E) : t_bag K { nx := fun _ H' => Q .non H', rt := Q } (start ["_law_script", "_law_cell"] vs) H := by
  obtain ⟨x, rfl, a, ns, rfl, hS, hQ⟩ := h
  unfold t_bag
  repeat' walk_at "s"
  refine s_cutL hS fun p hp => ?_
  rw [cut_map]
  generalize hms : ((ns.drop (HT.sIx ns.length 0 none)).take (HT.sIx ns.length ns.length (some 63) - HT.sIx ns.length 0 none)) = ms
  have hml : ms.length ≤ 63 := by
    rw [← hms, List.length_take]
    have e : HT.sIx ns.length ns.length (some 63) ≤ 63 := by
      rw [show (some (63 : Int)) = some ((63 : Nat) : Int) from rfl, HT.sIx_nat]
      omega
    omega
  refine s_itL (SqL.of upd_same) ?_
  intro D hD
  refine lcL (xs := ms.map V.int) hD (fun i acc Hi => Hi = upd H p (.lst (ms.map V.int)) ∧ ∃ ks : List Int, acc = ks.map V.int ∧ ∀ m ∈ ks, 0 ≤ m) ⟨rfl, [], rfl, fun _ z => nomatch z⟩ (fun i acc Hi z => ?_) (fun i x acc Hi e hi hn hl z => ?_) fun acc Hi hn hl z => ?_
  · rw [z.1]
    exact SqL.of upd_same
  · obtain ⟨rfl, ks, rfl, hk⟩ := z
    obtain ⟨m, rfl, _⟩ := int_at e
    walk_at "s"
    refine ⟨rfl, ?_⟩
    repeat' walk_at "s"
    rw [List.length_map] at hi
    refine lc_put hn hl (by rw [sizeLine_eq]; omega) ⟨rfl, ks ++ [if m < 0 then -m else m], by rw [List.map_append]; rfl, fun q hq => ?_⟩
    rcases List.mem_append.mp hq with h1 | h1
    · exact hk q h1
    · rcases List.mem_singleton.mp h1 with rfl
      split <;> omega
  · obtain ⟨rfl, ks, rfl, hk⟩ := z
    rw [List.length_map, List.length_map] at hl
    repeat' walk_at "s"
    refine ⟨sz_of rfl, fun b hb => ?_⟩
    refine hQ _ b _ ((same_new hp).trans (same_new hn)) (upd_off (upd_off hb)) ⟨hb, D, 0, 1234567891, 0, ks, rfl, SqL.of upd_same, hk, by omega, by omega, by omega, by omega, by omega⟩
def t_take (K : PySem.W.Frag) : TS :=
  (tSeq (tIfS (tTest (tOp (rSame K) (tOp (rIx K) (tVar 0) (tC (.int 0))) (tC (.int 0)))) (tSeq (tAsg (tC (.int 0)) (gName 2))
  (tSeq (tIfS (tTest (tOp rLess (tOp (rIx K) (tVar 0) (tC (.int 2))) (tCB (rLen K) (tCons (tOp (rIx K) (tVar 0) (tC (.int 3))) tNil)))) (tAsg (tOp (rIx K) (tOp (rIx K) (tVar 0) (tC (.int 3))) (tOp (rIx K) (tVar 0) (tC (.int 2)))) (gName 2)) tNext)
  (tSeq (tAugS (tVar 0) (tC (.int 2)) (tC (.int 1)) (rGetL K) (ipAdd K) rSetL)
  (tSeq (tIfS (tTest (tOp rMoreE (tVar 2) (tC (.int 1000000000000000000)))) (tAsg (tVar 2) (gSub (tVar 0) (tC (.int 0)) rSetL)) tNext)
  (tAsg (tOp rMod (tOp (rPlus K) (tOp (rPlus K) (tOp rTimes (tOp (rIx K) (tVar 0) (tC (.int 1))) (tC (.int 48271))) (tOp rMod (tVar 2) (tC (.int 2147483647)))) (tOp rTimes (tC (.int 7919)) (tOp (rIx K) (tVar 0) (tC (.int 2))))) (tC (.int 2147483647))) (gSub (tVar 0) (tC (.int 1)) rSetL)))))) tNext)
  (tSeq (tIfS (tTest (tOp rMore (tOp (rIx K) (tVar 0) (tC (.int 0))) (tC (.int 0)))) (tSeq (tAsg (tOp rMod (tOp (rIx K) (tVar 0) (tC (.int 0))) (tVar 1)) (gName 3))
  (tSeq (tAsg (tOp rDiv (tOp (rIx K) (tVar 0) (tC (.int 0))) (tVar 1)) (gSub (tVar 0) (tC (.int 0)) rSetL))
  (tRet (tVar 3)))) tNext)
  (tSeq (tAsg (tOp rMod (tOp rTimes (tOp (rPlus K) (tOp (rIx K) (tVar 0) (tC (.int 1))) (tC (.int 1))) (tC (.int 39373))) (tC (.int 1000000007))) (gName 4))
  (tSeq (tAsg (tOp rMod (tOp rTimes (tOp rMod (tOp rTimes (tVar 4) (tVar 4)) (tC (.int 998244353))) (tC (.int 30011))) (tC (.int 998244353))) (gName 5))
  (tSeq (tIfS (tTest (tOp rMore (tVar 1) (tC (.int 1000000)))) (tRet (tOp rMod (tOp (rPlus K) (tOp rTimes (tVar 5) (tC (.int 1000000007))) (tVar 4)) (tVar 1))) tNext)
  (tRet (tOp rMod (tOp rDiv (tVar 5) (tC (.int 7))) (tVar 1))))))))

theorem pu_take {K : PySem.W.Frag} (vs : List V) (H : Hp) (Q : VK) (E : XK) (h : sp_take K vs H Q E) : t_take K { nx := fun _ H' => Q .non H', rt := Q } (start ["_law_bag_here", "_law_many", "_law_cell", "_law_value", "_law_first", "_law_second"] vs) H := by
  obtain ⟨x, y, rfl, b, H0, xs, m, rfl, rfl, rfl, B, hm, hl, hQ⟩ := h
  obtain ⟨off, c, a0, a1, a2, ns, rfl, hS, hn, hns, h0, h1, h1', h2⟩ := B
  unfold t_take
  refine s_seqR (fun σ H => ∃ x2 a0 a1 a2, σ = [some (.ref b), some (.int m), x2, none, none, none] ∧ H = upd H0 b (.lst (bagV c a0 a1 a2)) ∧ 0 ≤ a0 ∧ 0 ≤ a1 ∧ a1 < 2147483647 ∧ 0 ≤ a2) (fun σ H z => ?_) fun N hN => ?_
  · obtain ⟨x2, a0, a1, a2, rfl, rfl, h0, h1, h1', h2⟩ := z
    have bag : ∀ {a0 a1 a2 : Int}, 0 ≤ a0 → 0 ≤ a1 → a1 < 2147483647 → 0 ≤ a2 → Bag K H0 b (bagV c a0 a1 a2) := fun h0 h1 h1' h2 => ⟨off, c, _, _, _, ns, rfl, hS, hn, hns, h0, h1, h1', h2⟩
    repeat' walk_at "s"
    refine s_ixL (SqL.of upd_same) rfl ?_
    repeat' walk_at "s"
    refine s_if (fun hp => ?_) fun hp => ?_
    · repeat' walk_at "s"
      refine s_ixL (SqL.of upd_same) rfl ?_
      repeat' walk_at "s"
      refine s_mod hm ?_
      repeat' walk_at "s"
      refine s_ixL (SqL.of upd_same) rfl ?_
      repeat' walk_at "s"
      refine s_div ⟨hm, hl⟩ ?_
      repeat' walk_at "s"
      refine s_setL upd_same rfl ?_
      rw [upd_upd]
      repeat' walk_at "s"
      exact hQ _ _ (Int.emod_nonneg _ (by omega)) (Int.emod_lt_of_pos _ hm) (bag (Int.ediv_nonneg h0 (by omega)) h1 h1' h2)
    · repeat' walk_at "s"
      refine s_ixL (SqL.of upd_same) rfl ?_
      repeat' walk_at "s"
      refine s_mulC (.inr ⟨by decide, by decide⟩) ?_
      repeat' walk_at "s"
      refine s_mod (by decide) ?_
      generalize hf : (a1 + 1) * 39373 % 1000000007 = f
      have f0 : 0 ≤ f := by omega
      have f1 : f < 1000000007 := by omega
      repeat' walk_at "s"
      refine s_mulC (.inr ⟨by omega, by omega⟩) ?_
      repeat' walk_at "s"
      refine s_mod (by decide) ?_
      repeat' walk_at "s"
      refine s_mulC (.inr ⟨by decide, by decide⟩) ?_
      repeat' walk_at "s"
      refine s_mod (by decide) ?_
      generalize hg : f * f % 998244353 * 30011 % 998244353 = g
      have g0 : 0 ≤ g := by omega
      have g1 : g < 998244353 := by omega
      repeat' walk_at "s"
      refine s_if (fun hp => ?_) fun hp => ?_
      · repeat' walk_at "s"
        refine s_mulC (.inr ⟨by decide, by decide⟩) ?_
        repeat' walk_at "s"
        refine s_mod hm ?_
        repeat' walk_at "s"
        exact hQ _ _ (Int.emod_nonneg _ (by omega)) (Int.emod_lt_of_pos _ hm) (bag h0 h1 h1' h2)
      · repeat' walk_at "s"
        refine s_div ⟨by decide, by decide⟩ ?_
        repeat' walk_at "s"
        refine s_mod hm ?_
        repeat' walk_at "s"
        exact hQ _ _ (Int.emod_nonneg _ (by omega)) (Int.emod_lt_of_pos _ hm) (bag h0 h1 h1' h2)
  · repeat' walk_at "s"
    refine s_ixL (SqL.of upd_same) rfl ?_
    repeat' walk_at "s"
    refine s_if (fun hp => ?_) fun hp => ?_
    · walk_at "s"
      repeat' walk_at "e"
      with_reducible refine s_seqR (fun σ H => ∃ d : Int, 0 ≤ d ∧ σ = [some (.ref b), some (.int m), some (.int d), none, none, none] ∧ H = upd H0 b (.lst (bagV c a0 a1 a2))) (fun σ H z => ?_) fun N2 hN2 => ?_
      · obtain ⟨d, hd, rfl, rfl⟩ := z
        repeat' walk_at "s"
        refine s_getL (SqL.of upd_same) rfl ?_
        repeat' walk_at "s"
        refine s_setL upd_same rfl ?_
        rw [upd_upd]
        with_reducible refine s_seqR (fun σ H => ∃ a0 : Int, 0 ≤ a0 ∧ σ = [some (.ref b), some (.int m), some (.int d), none, none, none] ∧ H = upd H0 b (.lst (bagV c a0 a1 (a2 + 1)))) (fun σ H z => ?_) fun N2 hN2 => ?_
        · obtain ⟨a0, h0, rfl, rfl⟩ := z
          repeat' walk_at "s"
          refine s_ixL (SqL.of upd_same) rfl ?_
          repeat' walk_at "s"
          refine s_mulC (.inr ⟨by decide, by decide⟩) ?_
          repeat' walk_at "s"
          refine s_mod (by decide) ?_
          repeat' walk_at "s"
          refine s_ixL (SqL.of upd_same) rfl ?_
          repeat' walk_at "s"
          refine s_mulC (.inl ⟨by decide, by decide⟩) ?_
          repeat' walk_at "s"
          refine s_mod (by decide) ?_
          repeat' walk_at "s"
          refine s_setL upd_same rfl ?_
          rw [upd_upd]
          exact hN _ _ ⟨_, _, _, _, rfl, rfl, h0, by omega, by omega, by omega⟩
        · repeat' walk_at "s"
          refine s_if (fun hp => ?_) fun hp => ?_
          · repeat' walk_at "s"
            refine s_setL upd_same rfl ?_
            rw [upd_upd]
            exact hN2 _ _ ⟨d, hd, rfl, rfl⟩
          · repeat' walk_at "s"
            exact hN2 _ _ ⟨a0, h0, rfl, rfl⟩
      · repeat' walk_at "s"
        refine s_ixL (SqL.of upd_same) rfl ?_
        repeat' walk_at "s"
        refine s_ixL (SqL.of upd_same) rfl ?_
        repeat' walk_at "s"
        have hS' : SqL K (upd H0 b (.lst (bagV c a0 a1 a2))) c (ns.map V.int) := (same_new off).seq hS
        refine s_lenL hS' ?_
        repeat' walk_at "s"
        rw [List.length_map]
        refine s_if (fun hp => ?_) fun hp => ?_
        · repeat' walk_at "s"
          refine s_ixL (SqL.of upd_same) rfl ?_
          repeat' walk_at "s"
          refine s_ixL (SqL.of upd_same) rfl ?_
          repeat' walk_at "s"
          obtain ⟨q, rfl⟩ : ∃ q : Nat, a2 = (q : Int) := ⟨a2.toNat, by omega⟩
          have hq : q < ns.length := by omega
          refine s_ixL (v := .int ns[q]) hS' (atI_nat (by rw [List.getElem?_map, List.getElem?_eq_getElem hq]; rfl)) ?_
          repeat' walk_at "s"
          exact hN2 _ _ ⟨ns[q], hn _ (List.getElem_mem hq), rfl, rfl⟩
        · repeat' walk_at "s"
          exact hN2 _ _ ⟨0, by omega, rfl, rfl⟩
    · repeat' walk_at "s"
      exact hN _ _ ⟨_, _, _, _, rfl, rfl, h0, h1, h1', h2⟩
def t_alike (K : PySem.W.Frag) : TS :=
  (tRet (tAndV (tOp (rSame K) (tVar 0) (tVar 1)) (tOp (rSame K) (tCB (rRepr K) (tCons (tVar 0) tNil)) (tCB (rRepr K) (tCons (tVar 1) tNil)))))

theorem eqv_self {d : PyData} (h : SeqAt.shaped d = true) : PyData.eqv d d = true := by
  refine PySem.SeqAt.eqv_refl d ?_
  unfold SeqAt.shaped at h
  exact (Bool.and_eq_true_iff.mp h).1
theorem pu_alike {K : PySem.W.Frag} (vs : List V) (H : Hp) (Q : VK) (E : XK) (h : sp_alike K vs H Q E) : t_alike K { nx := fun _ H' => Q .non H', rt := Q } (start ["_law_found", "_law_due"] vs) H := by
  obtain ⟨x, y, rfl, d, h1, h2, hn, hQ⟩ := h
  unfold t_alike
  have first : ∀ R : VK, R (.bl true) H → rSame K x y H R := fun R q => s_eqD h1 h2 hn.sh hn.sh (by rw [eqv_self hn.sh]; exact q)
  repeat' walk_at "s"
  refine first _ ?_
  repeat' walk_at "s"
  refine ⟨x, d, rfl, h1, hn.sh, hn.sw, hn.sz, ?_⟩
  repeat' walk_at "s"
  refine ⟨y, d, rfl, h2, hn.sh, hn.sw, hn.sz, ?_⟩
  repeat' walk_at "s"
  rw [decide_eq_true rfl]
  exact hQ

/-! ### the bag outermost, the rest grows under it -/
/-- integers in a row -/
def rgI (i j : Int) : List Int := (List.range (j - i).toNat).map fun k => i + (k : Nat)
theorem rgV_eq (i j : Int) : rgV i j = (rgI i j).map V.int := by
  unfold rgV rgI
  rw [List.map_map]
  rfl
section
variable {K : PySem.W.Frag} {H H0 : Hp} {Q : VK} {E : XK} {v : V} {vs xs ys acc : List V} {a b D : Addr} {n : Nat} {i j m : Int} {o : HO} {ns : List Int} {σ : L2.St} {tt : TT}
theorem s_bag (h : SqL K H a (ns.map V.int)) (q : ∀ H0 b xs, Same H H0 → Bag K H0 b xs → Q (.ref b) (upd H0 b (.lst xs))) : Fr (sp_bag K) [.ref a] H Q E :=
  s_all ⟨_, rfl, a, ns, rfl, h, fun H0 b xs e _ B => q H0 b xs e B⟩
/-- a new object beside the bag -/
theorem newB {C : Prop} (B : Bag K H0 b ys) (hC : C) (q : ∀ p H', Same H0 H' → H' p = some o → Bag K H' b ys → Q (.ref p) (upd H' b (.lst ys))) : NewO C o (upd H0 b (.lst ys)) Q :=
  ⟨hC, bag_new B fun p hp _ B' => q p _ (same_new hp) upd_same B'⟩
theorem newR {C : Prop} (B : Bag K H0 b ys) (hC : C) (q : ∀ p H', Same H0 H' → H' p = some (.lst ((rgI i j).map V.int)) → Bag K H' b ys → Q (.ref p) (upd H' b (.lst ys))) : NewO C (.lst (rgV i j)) (upd H0 b (.lst ys)) Q := by
  rw [rgV_eq]
  exact newB B hC q
theorem addB {zs : List V} {p1 p2 : Addr} (B : Bag K H0 b ys) (h1 : H0 p1 = some (.lst xs)) (h2 : H0 p2 = some (.lst zs)) (hz : xs.length + zs.length ≤ 16777216) (q : ∀ p H', Same H0 H' → H' p = some (.lst (xs ++ zs)) → Bag K H' b ys → Q (.ref p) (upd H' b (.lst ys))) : rPlus K (.ref p1) (.ref p2) (upd H0 b (.lst ys)) Q :=
  s_addL (B.see _ _ h1) (B.see _ _ h2) (small_sz hz) (newB (C := True) B trivial q).2
theorem doneB (B : Bag K H0 b ys) (hD : (upd H0 b (.lst ys)) D = none) (q : ∀ H', Same H0 H' → H' D = some o → Bag K H' b ys → Q (.ref D) (upd H' b (.lst ys))) : DoneC Q D (upd (upd H0 b (.lst ys)) D o) := by
  have ne : D ≠ b := fun e => by
    rw [e, upd_same] at hD
    cases hD
  rw [upd_ne ne] at hD
  show Q (.ref D) (upd (upd H0 b (.lst ys)) D o)
  rw [upd_comm (Ne.symm ne)]
  exact q _ (same_new hD) upd_same (B.same (same_new hD) (by rw [upd_ne (Ne.symm ne)]; exact B.off))
/-- a callee that does not see the bag -/
theorem s_hid {sp : Sp} (B : Bag K H0 b ys) (q : sp vs H0 (fun v H' => H' b = none → Q v (upd H' b (.lst ys))) fun c d H' => H' b = none → E c d (upd H' b (.lst ys))) : Fr sp vs (upd H0 b (.lst ys)) Q E := s_but B.off q
end
end
section
/-! ### texts as lists of code points -/
def tx (l : List Nat) : Str := ⟨l.toArray⟩
theorem tx_len (l : List Nat) : (tx l).length = l.length := by
  show l.toArray.size = _
  simp
theorem tx_list (l : List Nat) : (tx l).cps.toList = l := rfl
theorem tx_app (l k : List Nat) : tx l ++ tx k = tx (l ++ k) := by
  show (⟨l.toArray ++ k.toArray⟩ : Str) = ⟨(l ++ k).toArray⟩
  simp
theorem tx_inj {l k : List Nat} : tx l = tx k ↔ l = k := by
  constructor
  · intro h
    have e : (tx l).cps.toList = (tx k).cps.toList := by rw [h]
    exact e
  · intro h
    rw [h]
theorem tx_one (c : Nat) : (⟨#[c]⟩ : Str) = tx [c] := rfl
theorem tx_rev (l : List Nat) : revS (tx l) = tx l.reverse := by
  show (⟨l.toArray.reverse⟩ : Str) = ⟨l.reverse.toArray⟩
  simp
theorem tx_mul (l : List Nat) (n : Int) : Txt.mul (tx l) n = tx (List.replicate n.toNat l).flatten := by
  unfold Txt.mul
  by_cases h : n < 1
  · rw [if_pos h, show n.toNat = 0 by omega]
    rfl
  · rw [if_neg h]
    by_cases h2 : (n == 1 || (tx l).length == 0) = true
    · rw [if_pos h2]
      rcases Bool.or_eq_true_iff.mp h2 with e | e
      · have e1 : n = 1 := eq_of_beq e
        subst e1
        show tx l = tx (List.replicate 1 l).flatten
        simp
      · have e1 : l.length = 0 := by
          rw [← tx_len]
          exact eq_of_beq e
        have e2 : l = [] := List.length_eq_zero_iff.mp e1
        subst e2
        simp
    · rw [if_neg h2]
      have key : ∀ (m : Nat) (acc : Array Nat), (List.replicate m l.toArray).foldl (· ++ ·) acc = (acc.toList ++ (List.replicate m l).flatten).toArray := by
        intro m
        induction m with
        | zero => intro acc; simp
        | succ m ih =>
          intro acc
          rw [List.replicate_succ, List.foldl_cons, ih]
          simp [List.replicate_succ]
      show (⟨(List.replicate n.toNat l.toArray).foldl (· ++ ·) #[]⟩ : Str) = _
      rw [key]
      simp [tx]
theorem mul_ok {l : List Nat} {n : Int} (h : l.length * n.toNat ≤ 16777216) (h0 : -(2 ^ 63) ≤ n) (hn : n < 2 ^ 63) : MulOk (tx l) n := by
  refine ⟨?_, fun h1 h2 => ?_, fun h1 h2 => ?_⟩
  · rw [Bool.or_eq_false_iff]
    exact ⟨decide_eq_false (by omega), decide_eq_false (by omega)⟩
  · rw [tx_len]
    intro z
    have p : 0 < n := by omega
    have z3 : (2 ^ 63 - 1 : Int) / n < l.length := z
    have z4 : (2 ^ 63 - 1 : Int) < l.length * n := by
      have := (Int.ediv_lt_iff_lt_mul p).mp z3
      omega
    have e : (l.length : Int) * n = ((l.length * n.toNat : Nat) : Int) := by
      rw [Int.natCast_mul, Int.toNat_of_nonneg (by omega)]
    rw [e] at z4
    omega
  · rw [tx_len]
    exact decide_eq_false (by rw [sizeLine_eq]; omega)
theorem tx_cut (l : List Nat) (lo hi : Option Int) : cutS (tx l) lo hi = tx ((l.drop (HT.sIx l.length 0 lo)).take (HT.sIx l.length l.length hi - HT.sIx l.length 0 lo)) := by
  unfold cutS
  rw [tx_len]
  rfl
theorem cut_to (l : List Nat) {k : Int} (h : 0 ≤ k) : cutS (tx l) none (some k) = tx (l.take k.toNat) := by
  obtain ⟨m, rfl⟩ : ∃ m : Nat, k = m := ⟨k.toNat, by omega⟩
  rw [tx_cut, HT.sIx_nat, HT.sIx_none, List.drop_zero, Nat.sub_zero, Int.toNat_natCast]
  congr 1
  by_cases h : m ≤ l.length
  · rw [Nat.min_eq_left h]
  · rw [Nat.min_eq_right (by omega), List.take_of_length_le (Nat.le_refl _), List.take_of_length_le (by omega)]
theorem cut_from (l : List Nat) {k : Int} (h : 0 ≤ k) : cutS (tx l) (some k) none = tx (l.drop k.toNat) := by
  obtain ⟨m, rfl⟩ : ∃ m : Nat, k = m := ⟨k.toNat, by omega⟩
  rw [tx_cut, HT.sIx_nat, HT.sIx_none, Int.toNat_natCast]
  congr 1
  by_cases h : m ≤ l.length
  · rw [Nat.min_eq_left h, List.take_of_length_le (by rw [List.length_drop]; omega)]
  · rw [Nat.min_eq_right (by omega), List.drop_of_length_le (Nat.le_refl _), List.drop_of_length_le (by omega)]
    simp
theorem cut_mid (l : List Nat) {i j : Int} (h : 0 ≤ i) (h' : 0 ≤ j) : cutS (tx l) (some i) (some j) = tx ((l.drop i.toNat).take (j.toNat - i.toNat)) := by
  obtain ⟨m, rfl⟩ : ∃ m : Nat, i = m := ⟨i.toNat, by omega⟩
  obtain ⟨n, rfl⟩ : ∃ m : Nat, j = m := ⟨j.toNat, by omega⟩
  rw [tx_cut, HT.sIx_nat, HT.sIx_nat, Int.toNat_natCast, Int.toNat_natCast]
  congr 1
  by_cases h : m ≤ l.length
  · rw [Nat.min_eq_left h]
    by_cases h2 : n ≤ l.length
    · rw [Nat.min_eq_left h2]
    · rw [Nat.min_eq_right (by omega : l.length ≤ n), List.take_of_length_le (by rw [List.length_drop]; omega), List.take_of_length_le (by rw [List.length_drop]; omega)]
  · rw [Nat.min_eq_right (by omega : l.length ≤ m), List.drop_of_length_le (Nat.le_refl _), List.drop_of_length_le (by omega : l.length ≤ m)]
    simp
theorem cut_last (l : List Nat) : cutS (tx l) none (some (-1)) = tx l.dropLast := by
  rw [tx_cut, HT.sIx_none, List.drop_zero, Nat.sub_zero, List.dropLast_eq_take]
  congr 1
  have e : HT.sIx l.length l.length (some (-1)) = l.length - 1 := by
    show (if (-1 : Int) < 0 then ((-1 : Int) + (l.length : Int)).toNat else min (-1 : Int).toNat l.length) = _
    rw [if_pos (by decide)]
    omega
  rw [e]
theorem tx_join (ls : List (List Nat)) : Txt.join (tx []) (ls.map tx) = tx ls.flatten := by
  have key : ∀ (ks : List (List Nat)) (acc : List Nat), (ks.map tx).foldl (fun acc p => acc ++ (tx []).cps ++ p.cps) acc.toArray = (acc ++ ks.flatten).toArray := by
    intro ks
    induction ks with
    | nil => intro acc; simp
    | cons k ks ih =>
      intro acc
      rw [List.map_cons, List.foldl_cons]
      have e : acc.toArray ++ (tx []).cps ++ (tx k).cps = (acc ++ k).toArray := by
        show acc.toArray ++ ([] : List Nat).toArray ++ k.toArray = _
        simp
      rw [e, ih]
      simp
  cases ls with
  | nil => rfl
  | cons k ks =>
    have h := key ks k
    rw [List.flatten_cons]
    show (⟨_⟩ : Str) = _
    unfold tx at h ⊢
    exact congrArg Str.mk h
/-- small letters alone -/
def Low (l : List Nat) : Prop := ∀ c ∈ l, 97 ≤ c ∧ c ≤ 122
theorem Low.nil : Low [] := fun _ h => nomatch h
theorem Low.app {l k : List Nat} (a : Low l) (b : Low k) : Low (l ++ k) := fun c h => (List.mem_append.mp h).elim (a c) (b c)
theorem Low.take {l : List Nat} (a : Low l) (n : Nat) : Low (l.take n) := fun c h => a c (List.mem_of_mem_take h)
theorem Low.drop {l : List Nat} (a : Low l) (n : Nat) : Low (l.drop n) := fun c h => a c (List.mem_of_mem_drop h)
theorem Low.last {l : List Nat} (a : Low l) : Low l.dropLast := fun c h => a c (List.dropLast_subset l h)
theorem Low.rev {l : List Nat} (a : Low l) : Low l.reverse := fun c h => a c (List.mem_reverse.mp h)
theorem Low.rep {l : List Nat} (a : Low l) (n : Nat) : Low (List.replicate n l).flatten := fun c h => by
  obtain ⟨k, hk, hc⟩ := List.mem_flatten.mp h
  exact a c (by rw [← List.eq_of_mem_replicate hk]; exact hc)
theorem rep_len (n : Nat) (l : List Nat) : (List.replicate n l).flatten.length = n * l.length := by
  induction n with
  | zero => simp
  | succ n ih =>
    rw [List.replicate_succ, List.flatten_cons, List.length_append, ih, Nat.add_mul]
    omega
theorem nice_str {l : List Nat} (h : Low l) (hz : l.length ≤ 1000000) : Nice (.str (tx l)) :=
  (bd_str (n := l.length) (by rw [tx_len]; exact Nat.le_refl _) fun c hc => by have := h c hc; omega).nice (by omega) (by omega)
section
variable {K : PySem.W.Frag} {σ : L2.St} {H : Hp} {Q : VK} {l k : List Nat} {i j n : Int} {te : TE} {v : V} {m : Nat}
theorem s_addX (h : l.length + k.length ≤ 16777216) (q : Q (.str (tx (l ++ k))) H) : rPlus K (.str (tx l)) (.str (tx k)) H Q := s_addT (by rw [tx_len, tx_len, sizeLine_eq]; exact h) (by rw [tx_app]; exact q)
theorem s_mulX (h : l.length * n.toNat ≤ 16777216) (h0 : -(2 ^ 63) ≤ n) (hn : n < 2 ^ 63) (q : Q (.str (tx (List.replicate n.toNat l).flatten)) H) : rTimes (.str (tx l)) (.int n) H Q := s_mulT (mul_ok h h0 hn) (by rw [tx_mul]; exact q)
theorem dec_tx (l k : List Nat) : decide (tx l = tx k) = decide (l = k) := decide_eq_decide.mpr tx_inj
theorem s_eqX (q : Q (.bl (decide (l = k))) H) : rSame K (.str (tx l)) (.str (tx k)) H Q := s_eqT (by rw [dec_tx]; exact q)
theorem s_neX (q : Q (.bl (!decide (l = k))) H) : rDiff K (.str (tx l)) (.str (tx k)) H Q := s_neT (by rw [dec_tx]; exact q)
theorem s_lenX (h : l.length ≤ 16777216) (q : Q (.int l.length) H) : rLen K [.str (tx l)] H Q := s_lenS (by rw [tx_len, sizeLine_eq]; exact h) (by rw [tx_len]; exact q)
theorem s_ixX (h : l.length ≤ 16777216) (e : atI l i = some m) (q : Q (.str (tx [m])) H) : rIx K (.str (tx l)) (.int i) H Q := s_ixS (by rw [tx_len, sizeLine_eq]; exact h) e q
theorem s_pickX (h : l.length ≤ 16777216) (h0 : 0 ≤ i) (h1 : i < l.length) (q : ∀ (m : Nat) (hm : m < l.length), i = m → Q (.str (tx [l[m]])) H) : rIx K (.str (tx l)) (.int i) H Q := by
  obtain ⟨m, rfl⟩ : ∃ m : Nat, i = m := ⟨i.toNat, by omega⟩
  exact s_ixX h (atI_nat (List.getElem?_eq_getElem (by omega))) (q m (by omega) rfl)
theorem s_toX (h : l.length ≤ 16777216) (hi : 0 ≤ i) (q : Q (.str (tx (l.take i.toNat))) H) : rCut K (.str (tx l)) none (some i) H Q := .inl ⟨_, rfl, by rw [tx_len, sizeLine_eq]; exact h, by rw [cut_to _ hi]; exact q⟩
theorem s_fromX (h : l.length ≤ 16777216) (hi : 0 ≤ i) (q : Q (.str (tx (l.drop i.toNat))) H) : rCut K (.str (tx l)) (some i) none H Q := .inl ⟨_, rfl, by rw [tx_len, sizeLine_eq]; exact h, by rw [cut_from _ hi]; exact q⟩
theorem s_midX (h : l.length ≤ 16777216) (hi : 0 ≤ i) (hj : 0 ≤ j) (q : Q (.str (tx ((l.drop i.toNat).take (j.toNat - i.toNat)))) H) : rCut K (.str (tx l)) (some i) (some j) H Q := .inl ⟨_, rfl, by rw [tx_len, sizeLine_eq]; exact h, by rw [cut_mid _ hi hj]; exact q⟩
theorem s_lastX (h : l.length ≤ 16777216) (q : Q (.str (tx l.dropLast)) H) : rCut K (.str (tx l)) none (some (-1)) H Q := .inl ⟨_, rfl, by rw [tx_len, sizeLine_eq]; exact h, by rw [cut_last]; exact q⟩
theorem s_revX (q : te σ H fun x H1 => ∃ l, x = .str (tx l) ∧ l.length ≤ 16777216 ∧ Q (.str (tx l.reverse)) H1) (mono : ∀ R R' : VK, (∀ v H, R v H → R' v H) → te σ H R → te σ H R') : tRev K te σ H Q :=
  mono _ _ (fun v H1 h => by
    obtain ⟨l, rfl, hz, q⟩ := h
    exact .inl ⟨tx l, rfl, by rw [tx_len, sizeLine_eq]; exact hz, by rw [tx_rev]; exact q⟩) q
abbrev RevO (K : PySem.W.Frag) (x : V) (H1 : Hp) (Q : VK) : Prop := (∃ z, x = .str z ∧ z.length ≤ sizeLine ∧ Q (.str (revS z)) H1) ∨ (∃ a xs, x = .ref a ∧ SqL K H1 a xs ∧ ∀ p, H1 p = none → Q (.ref p) (upd H1 p (.lst xs.reverse)))
theorem s_rev0 (q : te σ H fun x H1 => RevO K x H1 Q) : tRev K te σ H Q := q
theorem rev_X (h : l.length ≤ 16777216) (q : Q (.str (tx l.reverse)) H) : RevO K (.str (tx l)) H Q := .inl ⟨tx l, rfl, by rw [tx_len, sizeLine_eq]; exact h, by rw [tx_rev]; exact q⟩
theorem rev_L {a : Addr} {xs : List V} (h : SqL K H a xs) (q : NewO True (.lst xs.reverse) H Q) : RevO K (.ref a) H Q := .inr ⟨a, xs, rfl, h, q.2⟩
theorem s_m1 {rr : V → List V → Hp → VK → Prop} {to te : TE} (q : to σ H fun x H1 => (∃ a, x = .str a) ∧ te σ H1 fun y H2 => rr x [y] H2 Q) : tM1 rr to te σ H Q := q
theorem s_join {p : Addr} {ls : List (List Nat)} (h : SqL K H p (ls.map fun l => V.str (tx l))) (hz : (ls.map List.length).sum ≤ 16777216) (q : Q (.str (tx ls.flatten)) H) : rJoin K (.str (tx [])) [.ref p] H Q := by
  refine ⟨_, p, ls.map tx, rfl, rfl, .inl (by rw [List.map_map]; exact h), ?_, by rw [tx_join]; exact q⟩
  rw [List.map_map, tx_len]
  have e : (Str.length ∘ tx) = List.length := funext fun l => tx_len l
  rw [e]
  simpa using hz
end
section
variable {K : PySem.W.Frag} {σ : L2.St} {ta : TA} {v v' : V} {n k : Nat} {En : Ends}
theorem s_par (q : ta σ H fun vs H1 => ∃ v v', vs = [v, v'] ∧ En.nx ((σ.set n (some v)).set k (some v')) H1) : tPar n k ta En σ H := q
theorem s_two {R : V → V → Prop} (q : R v v') : ∃ x y, [v, v'] = [x, y] ∧ R x y := ⟨v, v', rfl, q⟩
theorem s_isstr {z : Str} {R : Prop} (q : R) : (∃ a, V.str z = .str a) ∧ R := ⟨⟨z, rfl⟩, q⟩
end
/-! walks over a text -/
section
variable {K : PySem.W.Frag} {H1 Hi : Hp} {D : Addr} {l : List Nat} {acc : List V} {g : TG} {tt : TT} {te : TE} {vs : List Nat} {σ : L2.St} {Qd : Hp → Prop} {H : Hp} {tb : TS} {En : Ends}
theorem tx_at {l : List Nat} {i c : Nat} (h : (tx l).cps[i]? = some c) : l[i]? = some c := by
  have e : (tx l).cps[i]? = l[i]? := by
    show l.toArray[i]? = l[i]?
    simp
  rw [← e]
  exact h
theorem lcX (hD : H1 D = none) (Pv : Nat → List V → Hp → Prop) (h0 : Pv 0 [] H1)
    (hs : ∀ i d acc Hi, l[i]? = some d → Hi D = none → acc.length ≤ i → Pv i acc Hi → g (.str (tx [d])) (wipe σ vs) (upd Hi D (.lst acc)) fun σ2 H2 => wipe σ2 vs = wipe σ vs ∧ tt σ2 H2 fun b H3 =>
      if b = true then te σ2 H3 fun y H4 => ∃ acc, H4 D = some (.lst acc) ∧ acc.length < sizeLine ∧ PvD Pv D (i + 1) (upd H4 D (.lst (acc ++ [y]))) else PvD Pv D (i + 1) H3)
    (hd : ∀ acc Hi, Hi D = none → acc.length ≤ l.length → Pv l.length acc Hi → Qd (upd Hi D (.lst acc))) :
    ∃ W : Nat → Nat → Hp → Prop, (∃ m, W 0 m (upd H1 D (.lst []))) ∧ ∀ i m H, W i m H →
      ((Its (tx l)).stop i H ∧ Qd H) ∨ ((Its (tx l)).go i H ∧ ∃ Nx : Hp → Prop, (∀ H', Nx H' → ∃ m', m' < m ∧ W (i + 1) m' H') ∧ ∀ x H', (Its (tx l)).yld i H x H' → g x (wipe σ vs) H' fun σ2 H2 => wipe σ2 vs = wipe σ vs ∧ tt σ2 H2 fun b H3 =>
        if b = true then te σ2 H3 fun y H4 => ∃ acc, H4 D = some (.lst acc) ∧ acc.length < sizeLine ∧ Nx (upd H4 D (.lst (acc ++ [y]))) else Nx H3) := by
  have hsz : (tx l).cps.size = l.length := tx_len l
  refine ⟨fun i m H => m = l.length - i ∧ i ≤ l.length ∧ PvD Pv D i H, ⟨l.length, by simp, Nat.zero_le _, [], H1, rfl, hD, Nat.le_refl _, h0⟩, ?_⟩
  rintro i m H ⟨rfl, hi, acc, Hi, rfl, p1, p2, p3⟩
  by_cases hlt : i < l.length
  · refine .inr ⟨by show i < (tx l).cps.size; omega, PvD Pv D (i + 1), fun H' p' => ⟨l.length - (i + 1), by omega, rfl, hlt, p'⟩, fun x H' y => ?_⟩
    obtain ⟨e, c, hc, rfl⟩ := y
    subst e
    exact hs i c acc Hi (tx_at hc) p1 p2 p3
  · have e : i = l.length := by omega
    subst e
    exact .inl ⟨by show (tx l).cps.size ≤ _; omega, hd acc Hi p1 p2 p3⟩
theorem forX (Pv : Nat → L2.St → Hp → Prop) (h0 : Pv 0 σ H)
    (hs : ∀ i c σ H, l[i]? = some c → Pv i σ H → g (.str (tx [c])) σ H fun σ2 H2 => tb { En with nx := Pv (i + 1), ct := Pv (i + 1), bk := En.nx } σ2 H2) (hd : ∀ σ H, Pv l.length σ H → En.nx σ H) :
    ∃ W : Nat → Nat → L2.St → Hp → Prop, (∃ m, W 0 m σ H) ∧ ∀ i m σ H, W i m σ H →
      ((Its (tx l)).stop i H ∧ En.nx σ H) ∨ ((Its (tx l)).go i H ∧ ∃ N : L2.St → Hp → Prop, (∀ σ' H', N σ' H' → ∃ m', m' < m ∧ W (i + 1) m' σ' H') ∧ ∀ x H', (Its (tx l)).yld i H x H' → g x σ H' fun σ2 H2 => tb { En with nx := N, ct := N, bk := En.nx } σ2 H2) := by
  have hsz : (tx l).cps.size = l.length := tx_len l
  refine ⟨fun i m σ H => m = l.length - i ∧ i ≤ l.length ∧ Pv i σ H, ⟨l.length, by simp, Nat.zero_le _, h0⟩, ?_⟩
  rintro i m σ H ⟨rfl, hi, p⟩
  by_cases hlt : i < l.length
  · refine .inr ⟨by show i < (tx l).cps.size; omega, Pv (i + 1), fun σ' H' p' => ⟨l.length - (i + 1), by omega, rfl, hlt, p'⟩, fun x H' y => ?_⟩
    obtain ⟨e, c, hc, rfl⟩ := y
    subst e
    exact hs i c σ _ (tx_at hc) p
  · have e : i = l.length := by omega
    subst e
    exact .inl ⟨by show (tx l).cps.size ≤ _; omega, hd σ H p⟩
end
theorem at_0 {α : Type} {c : α} {r : List α} : atI (c :: r) 0 = some c := atI_nat (j := 0) rfl
theorem at_get {α : Type} {l : List α} {m : Nat} (h : m < l.length) : atI l (m : Int) = some l[m] := atI_nat (List.getElem?_eq_getElem h)
/-! literals -/
theorem lit_empty : ("" : Str) = tx [] := by decide +kernel
theorem lit_az : ("abcdefghijklmnopqrstuvwxyz" : Str) = tx [97, 98, 99, 100, 101, 102, 103, 104, 105, 106, 107, 108, 109, 110, 111, 112, 113, 114, 115, 116, 117, 118, 119, 120, 121, 122] := by decide +kernel
theorem lit_abc : ("abc" : Str) = tx [97, 98, 99] := by decide +kernel
theorem lit_abz : ("abz" : Str) = tx [97, 98, 122] := by decide +kernel
theorem low_az : Low [97, 98, 99, 100, 101, 102, 103, 104, 105, 106, 107, 108, 109, 110, 111, 112, 113, 114, 115, 116, 117, 118, 119, 120, 121, 122] := by unfold Low; decide +kernel
end
section
/-- one step of a reading (e: none past a statement's end) -/
local macro_rules
  | `(tactic| walk_at "e") => `(tactic| first
    | with_reducible refine s_ifs ?_
    | with_reducible refine s_test ?_
    | with_reducible refine s_truth ?_
    | with_reducible refine s_op ?_
    | with_reducible refine s_un ?_
    | with_reducible refine s_asg ?_
    | with_reducible refine s_ret ?_
    | with_reducible refine s_next ?_
    | with_reducible refine s_drop ?_
    | with_reducible refine s_c ?_
    | ((with_reducible refine s_var (v := ?v) ?e ?q); case e => exact rfl)
    | with_reducible refine s_name ?_
    | with_reducible refine s_exq ?_
    | with_reducible refine s_cons ?_
    | with_reducible refine s_nil ?_
    | with_reducible refine s_lst ?_
    | with_reducible refine s_tup ?_
    | with_reducible refine s_cb ?_
    | with_reducible refine s_call ?_
    | with_reducible refine s_and ?_
    | with_reducible refine s_or ?_
    | with_reducible refine s_not ?_
    | with_reducible refine s_andV ?_
    | with_reducible refine s_orV ?_
    | with_reducible refine s_notV ?_
    | with_reducible refine s_ife ?_
    | with_reducible refine s_chain ?_
    | with_reducible refine s_addI ?_
    | with_reducible refine s_sub ?_
    | with_reducible refine s_neg ?_
    | with_reducible refine s_eqI ?_
    | with_reducible refine s_eqX ?_
    | with_reducible refine s_eqT ?_
    | with_reducible refine s_eqB ?_
    | with_reducible refine s_eqNI ?_
    | with_reducible refine s_eqIN ?_
    | with_reducible refine s_eqNN ?_
    | with_reducible refine s_neI ?_
    | with_reducible refine s_neX ?_
    | with_reducible refine s_neT ?_
    | with_reducible refine s_neB ?_
    | with_reducible refine s_lt ?_
    | with_reducible refine s_le ?_
    | with_reducible refine s_gt ?_
    | with_reducible refine s_ge ?_
    | with_reducible refine s_isN ?_
    | with_reducible refine s_isS ?_
    | with_reducible refine s_truB ?_
    | with_reducible refine s_truI ?_
    | with_reducible refine s_truN ?_
    | with_reducible refine s_abs ?_
    | with_reducible refine s_min2 ?_
    | with_reducible refine s_max2 ?_
    | with_reducible refine s_intI ?_
    | with_reducible refine s_intB ?_
    | with_reducible refine s_ifT ?_
    | with_reducible refine s_ifF ?_
    | with_reducible refine s_ifnT ?_
    | with_reducible refine s_ifnF ?_
    | with_reducible refine s_gSub ?_
    | with_reducible refine s_gTup ?_
    | with_reducible refine s_augS ?_
    | ((with_reducible refine s_aug (x := ?v) ?e ?q); case e => exact rfl)
    | with_reducible refine s_yes ?_
    | with_reducible refine s_par ?_
    | with_reducible refine s_two ?_
    | with_reducible refine s_m1 ?_
    | with_reducible refine s_isstr ?_
    | with_reducible refine s_rev0 ?_
    | with_reducible refine s_gCons ?_
    | with_reducible refine s_gNil ?_
    | with_reducible refine s_ipI ?_
    | with_reducible refine s_ipA ?_
    | with_reducible refine s_sl ?_
    | with_reducible refine s_noPart ?_
    | with_reducible refine s_part ?_
    | with_reducible refine s_parte ?_
    | with_reducible refine s_for ?_
    | with_reducible refine s_lc ?_
    | with_reducible refine s_iL ?_
    | with_reducible refine s_iS ?_
    | with_reducible refine s_iT ?_
    | with_reducible refine s_itS ?_
    | with_reducible refine s_iR1 ?_
    | with_reducible refine s_iR2 ?_
    | with_reducible refine s_rg1 ?_
    | with_reducible refine s_rg2 ?_
    | with_reducible refine s_rg1e ?_
    | with_reducible refine s_rg2e ?_
    | with_reducible refine s_lrg ?_
    | with_reducible refine s_bm ?_
    | with_reducible refine s_bm0 ?_
    | with_reducible refine s_retN ?_)
  | `(tactic| walk_at "s") => `(tactic| first
    | with_reducible refine s_seq ?_
    | walk_at "e")

section
variable {K : PySem.W.Frag} {σ : L2.St} {H H0 : Hp} {Q : VK} {E : XK} {D : Addr} {b : Addr} {ys acc : List V} {m : Int} {ta : TA} {v v' : V} {n k : Nat} {En : Ends}
/-- a draw within a comprehension -/
theorem s_takeD (B : Bag K H0 b ys) (hD : (upd H0 b (.lst ys)) D = none) (h : 0 < m) (hl : m.natAbs.log2 < 9000)
    (q : ∀ (r : Int) (zs : List V), 0 ≤ r → r < m → Bag K H0 b zs → (upd H0 b (.lst zs)) D = none → Q (.int r) (upd (upd H0 b (.lst zs)) D (.lst acc))) :
    Fr (sp_take K) [.ref b, .int m] (upd (upd H0 b (.lst ys)) D (.lst acc)) Q E :=
  s_but hD ⟨_, _, rfl, b, H0, ys, m, rfl, rfl, rfl, B, h, hl, fun r zs h0 h1 B' hD' => q r zs h0 h1 B' hD'⟩
end
/-! ### words, rows -/
/-- what a maker of texts promises: the bag, a bound, a text between two lengths -/
def spText (K : PySem.W.Frag) (lo : Int) (hi : Int → Int) : Sp := sp2 fun x y H Q _ => ∃ (b : Addr) (H0 : Hp) (ys : List V) (m : Int), x = .ref b ∧ y = .int m ∧ H = upd H0 b (.lst ys) ∧ Bag K H0 b ys ∧ 1 ≤ m ∧ m ≤ 1000000 ∧
  ∀ (H' : Hp) (zs : List V) (l : List Nat), Same H0 H' → Bag K H' b zs → Low l → lo ≤ l.length → (l.length : Int) ≤ hi m → Q (.str (tx l)) (upd H' b (.lst zs))
abbrev sp_word (K : PySem.W.Frag) : Sp := spText K 1 fun m => m
abbrev sp_row (K : PySem.W.Frag) : Sp := spText K 2 fun m => max 2 m
section
variable {K : PySem.W.Frag} {H0 : Hp} {Q : VK} {E : XK} {b : Addr} {ys : List V} {m lo : Int} {hi : Int → Int}
theorem s_text (B : Bag K H0 b ys) (h : 1 ≤ m) (hl : m ≤ 1000000) (q : ∀ (H' : Hp) (zs : List V) (l : List Nat), Same H0 H' → Bag K H' b zs → Low l → lo ≤ l.length → (l.length : Int) ≤ hi m → Q (.str (tx l)) (upd H' b (.lst zs))) : Fr (spText K lo hi) [.ref b, .int m] (upd H0 b (.lst ys)) Q E :=
  s_all ⟨_, _, rfl, b, H0, ys, m, rfl, rfl, rfl, B, h, hl, q⟩
end
def t_word (K : PySem.W.Frag) : TS :=
  (tSeq (tAsg (tTup (tCons (gCall (sp_take K) E1 (tCons (tVar 0) (tCons (tC (.int 24)) tNil))) (tCons (tOp (rPlus K) (tC (.int 1)) (gCall (sp_take K) E1 (tCons (tVar 0) (tCons (tC (.int 3)) tNil)))) tNil))) (gTup K 2 (gCons (gName 2) (gCons (gName 3) gNil))))
  (tSeq (tAsg (tSl (rCut K) (tC (.str "abcdefghijklmnopqrstuvwxyz")) (tPart (tVar 2)) (tPart (tOp (rPlus K) (tVar 2) (tVar 3)))) (gName 4))
  (tSeq (tPar 5 6 (tCons (gCall (sp_take K) E1 (tCons (tVar 0) (tCons (tC (.int 4)) tNil))) (tCons (tOp (rPlus K) (tC (.int 1)) (gCall (sp_take K) E1 (tCons (tVar 0) (tCons (tVar 1) tNil)))) tNil)))
  (tSeq (tAsg (tOp (rIx K) (tLst (tCons (tVar 6) (tCons (tOp (rPlus K) (tC (.int 1)) (gCall (sp_take K) E1 (tCons (tVar 0) (tCons (tC (.int 4)) tNil)))) tNil))) (tCB rInt (tCons (tOp rMore (tVar 5) (tC (.int 1))) tNil))) (gName 7))
  (tSeq (tAsg (tM1 (rJoin K) (tC (.str "")) (tLc (iRng1 (tCons (tVar 7) tNil)) (gName 9) tYes (tOp (rIx K) (tVar 4) (gCall (sp_take K) E1 (tCons (tVar 0) (tCons (tVar 3) tNil)))) [9])) (gName 8))
  (tSeq (tAsg (tSl (rCut K) (tOp rTimes (tVar 8) (tOp (rPlus K) (tOp rDiv (tVar 6) (tVar 7)) (tC (.int 1)))) tNoPart (tPart (tVar 6))) (gName 8))
  (tRet (tOp (rIx K) (tLst (tCons (tVar 8) (tCons (tVar 8) (tCons (tVar 8) (tCons (tRev K (tVar 8)) tNil))))) (tVar 5)))))))))

theorem pu_word {K : PySem.W.Frag} (vs : List V) (H : Hp) (Q : VK) (E : XK) (h : sp_word K vs H Q E) : t_word K { nx := fun _ H' => Q .non H', rt := Q } (start ["_law_bag_here", "_law_most", "_law_start", "_law_few", "_law_letters", "_law_way", "_law_size", "_law_many", "_law_word_here", "_law_k"] vs) H := by
  obtain ⟨_, _, rfl, b, H0, ys, m, rfl, rfl, rfl, B, m1, m2, hQ⟩ := h
  unfold t_word
  rw [lit_az, lit_empty]
  repeat' walk_at "s"
  refine s_take B (by decide) (lg (by decide) (by decide)) ?_
  intro st ys a1 a2 B
  repeat' walk_at "s"
  refine s_take B (by decide) (lg (by decide) (by decide)) ?_
  intro r ys b1 b2 B
  repeat' walk_at "s"
  refine newB B (sz_of rfl) fun p H1 e1 hp B => ?_
  refine s_gTup (SqT.of (B.see _ _ hp)) rfl ?_
  repeat' walk_at "s"
  refine s_midX (by decide) (by omega) (by omega) ?_
  obtain ⟨ls, hls, lw, ll⟩ : ∃ ls : List Nat, (([97, 98, 99, 100, 101, 102, 103, 104, 105, 106, 107, 108, 109, 110, 111, 112, 113, 114, 115, 116, 117, 118, 119, 120, 121, 122] : List Nat).drop st.toNat).take ((st + (1 + r)).toNat - st.toNat) = ls ∧ Low ls ∧ (ls.length : Int) = 1 + r := by
    refine ⟨_, rfl, (low_az.drop _).take _, ?_⟩
    rw [List.length_take, List.length_drop]
    show ((min _ (26 - st.toNat) : Nat) : Int) = _
    omega
  rw [hls]
  clear hls
  repeat' walk_at "s"
  refine s_take B (by decide) (lg (by decide) (by decide)) ?_
  intro way ys c1 c2 B
  repeat' walk_at "s"
  refine s_take B (by omega) (lg (by omega) (by omega)) ?_
  intro sz ys d1 d2 B
  repeat' walk_at "s"
  refine s_take B (by decide) (lg (by decide) (by decide)) ?_
  intro r4 ys f1 f2 B
  repeat' walk_at "s"
  refine newB B (sz_of rfl) fun p2 H2 e2 hp2 B => ?_
  repeat' walk_at "s"
  refine s_pickP (fun x => ∃ s : Int, x = .int s ∧ 1 ≤ s ∧ s ≤ 1000004) (B.see _ _ hp2) (by split <;> omega) (by show (_ : Int) < 2; split <;> omega) (fun x hx => ?_) fun x hx => ?_
  · rcases List.mem_cons.mp hx with rfl | hx
    · exact ⟨_, rfl, by omega, by omega⟩
    · rcases List.mem_singleton.mp hx with rfl
      exact ⟨_, rfl, by omega, by omega⟩
  obtain ⟨many, rfl, g1, g2⟩ := hx
  repeat' walk_at "s"
  refine s_rn1 (by omega) (by omega) ?_
  intro D hD
  refine lcR hD (fun i acc Hi => ∃ (H3 : Hp) (ys : List V) (cs : List Nat), Hi = upd H3 b (.lst ys) ∧ Same H2 H3 ∧ Bag K H3 b ys ∧ acc = cs.map (fun c => V.str (tx [c])) ∧ Low cs ∧ cs.length = i) ⟨H2, ys, [], rfl, Same.refl _, B, rfl, Low.nil, rfl⟩ (fun i acc Hi hi hn hl z => ?_) fun acc Hi hn hl z => ?_
  · obtain ⟨H3, ys, cs, rfl, e3, B, rfl, lc, hc⟩ := z
    repeat' walk_at "s"
    refine ⟨rfl, ?_⟩
    repeat' walk_at "s"
    refine s_takeD B hn (by omega) (lg (by omega) (by omega)) ?_
    intro r5 ys i1 i2 B hn
    refine s_pickX (by omega) i1 (by omega) fun q hq _ => ?_
    refine lc_put hn hl (by rw [sizeLine_eq]; omega) ⟨H3, ys, cs ++ [ls[q]], rfl, e3, B, by rw [List.map_append]; rfl, lc.app fun c hc => ?_, by rw [List.length_append, hc]; rfl⟩
    rcases List.mem_singleton.mp hc with rfl
    exact lw _ (List.getElem_mem hq)
  · obtain ⟨H3, ys, cs, rfl, e3, B, rfl, lc, hc⟩ := z
    refine doneB B hn fun H4 e4 h4 B => ?_
    refine s_join (ls := cs.map fun c => [c]) (by rw [List.map_map]; exact SqL.of (B.see _ _ h4)) ?_ ?_
    · rw [List.map_map]
      have e : ((List.length : List Nat → Nat) ∘ fun c => [c]) = fun _ => 1 := rfl
      rw [e, List.map_const', List.sum_replicate_nat]
      omega
    have ef : (cs.map fun c => [c]).flatten = cs := by
      clear hc lc h4 hl hn
      induction cs with
      | nil => rfl
      | cons c cs ih => rw [List.map_cons, List.flatten_cons, ih]; rfl
    rw [ef]
    repeat' walk_at "s"
    refine s_div ⟨by omega, (lg (by omega) (by omega))⟩ ?_
    repeat' walk_at "s"
    have hmul := Int.mul_ediv_add_emod (1 + sz) many
    have hmod := Int.emod_lt_of_pos (1 + sz) (show 0 < many by omega)
    have hmod0 := Int.emod_nonneg (1 + sz) (show many ≠ 0 by omega)
    generalize hdv : (1 + sz) / many = dv at hmul ⊢
    have dv0 : 0 ≤ dv := by
      rw [← hdv]
      exact Int.ediv_nonneg (by omega) (by omega)
    have hcm : (cs.length : Int) = many := by omega
    have hlen : ((cs.length * (dv + 1).toNat : Nat) : Int) = many * dv + many := by
      rw [Int.natCast_mul, Int.toNat_of_nonneg (by omega), hcm, Int.mul_add, Int.mul_one]
    refine s_mulX (by omega) (by omega) ?_ ?_
    · have h1 : 1 * dv ≤ many * dv := Int.mul_le_mul_of_nonneg_right g1 dv0
      omega
    repeat' walk_at "s"
    refine s_toX (by rw [rep_len, Nat.mul_comm]; omega) (by omega) ?_
    obtain ⟨w, hw, ww, wl⟩ : ∃ w : List Nat, (List.replicate (dv + 1).toNat cs).flatten.take (1 + sz).toNat = w ∧ Low w ∧ (w.length : Int) = 1 + sz := by
      refine ⟨_, rfl, (lc.rep _).take _, ?_⟩
      rw [List.length_take, rep_len, Nat.mul_comm]
      omega
    rw [hw]
    repeat' walk_at "s"
    refine .inl ⟨_, rfl, by rw [tx_len, sizeLine_eq]; omega, ?_⟩
    rw [tx_rev]
    repeat' walk_at "s"
    refine newB B (sz_of rfl) fun p5 H5 e5 hp5 B => ?_
    repeat' walk_at "s"
    refine s_pickP (fun x => ∃ l : List Nat, x = .str (tx l) ∧ Low l ∧ (l.length : Int) = 1 + sz) (B.see _ _ hp5) c1 c2 (fun x hx => ?_) fun x hx => ?_
    · simp only [List.mem_cons, List.not_mem_nil, or_false] at hx
      rcases hx with rfl | rfl | rfl | rfl
      · exact ⟨_, rfl, ww, wl⟩
      · exact ⟨_, rfl, ww, wl⟩
      · exact ⟨_, rfl, ww, wl⟩
      · exact ⟨_, rfl, ww.rev, by rw [List.length_reverse]; exact wl⟩
    obtain ⟨l, rfl, hl1, hl2⟩ := hx
    exact hQ _ _ _ ((((e1.trans e2).trans e3).trans e4).trans e5) B hl1 (by omega) (by show (l.length : Int) ≤ m; omega)
end
section
/-- one step of a reading (e: none past a statement's end) -/
local macro_rules
  | `(tactic| walk_at "e") => `(tactic| first
    | with_reducible refine s_ifs ?_
    | with_reducible refine s_test ?_
    | with_reducible refine s_truth ?_
    | with_reducible refine s_op ?_
    | with_reducible refine s_un ?_
    | with_reducible refine s_asg ?_
    | with_reducible refine s_ret ?_
    | with_reducible refine s_next ?_
    | with_reducible refine s_drop ?_
    | with_reducible refine s_c ?_
    | ((with_reducible refine s_var (v := ?v) ?e ?q); case e => exact rfl)
    | with_reducible refine s_name ?_
    | with_reducible refine s_exq ?_
    | with_reducible refine s_cons ?_
    | with_reducible refine s_nil ?_
    | with_reducible refine s_lst ?_
    | with_reducible refine s_tup ?_
    | with_reducible refine s_cb ?_
    | with_reducible refine s_call ?_
    | with_reducible refine s_and ?_
    | with_reducible refine s_or ?_
    | with_reducible refine s_not ?_
    | with_reducible refine s_andV ?_
    | with_reducible refine s_orV ?_
    | with_reducible refine s_notV ?_
    | with_reducible refine s_ife ?_
    | with_reducible refine s_chain ?_
    | with_reducible refine s_addI ?_
    | with_reducible refine s_sub ?_
    | with_reducible refine s_neg ?_
    | with_reducible refine s_eqI ?_
    | with_reducible refine s_eqX ?_
    | with_reducible refine s_eqT ?_
    | with_reducible refine s_eqB ?_
    | with_reducible refine s_eqNI ?_
    | with_reducible refine s_eqIN ?_
    | with_reducible refine s_eqNN ?_
    | with_reducible refine s_neI ?_
    | with_reducible refine s_neX ?_
    | with_reducible refine s_neT ?_
    | with_reducible refine s_neB ?_
    | with_reducible refine s_lt ?_
    | with_reducible refine s_le ?_
    | with_reducible refine s_gt ?_
    | with_reducible refine s_ge ?_
    | with_reducible refine s_isN ?_
    | with_reducible refine s_isS ?_
    | with_reducible refine s_truB ?_
    | with_reducible refine s_truI ?_
    | with_reducible refine s_truN ?_
    | with_reducible refine s_abs ?_
    | with_reducible refine s_min2 ?_
    | with_reducible refine s_max2 ?_
    | with_reducible refine s_intI ?_
    | with_reducible refine s_intB ?_
    | with_reducible refine s_ifT ?_
    | with_reducible refine s_ifF ?_
    | with_reducible refine s_ifnT ?_
    | with_reducible refine s_ifnF ?_
    | with_reducible refine s_gSub ?_
    | with_reducible refine s_gTup ?_
    | with_reducible refine s_augS ?_
    | ((with_reducible refine s_aug (x := ?v) ?e ?q); case e => exact rfl)
    | with_reducible refine s_yes ?_
    | with_reducible refine s_par ?_
    | with_reducible refine s_two ?_
    | with_reducible refine s_m1 ?_
    | with_reducible refine s_isstr ?_
    | with_reducible refine s_rev0 ?_
    | with_reducible refine s_gCons ?_
    | with_reducible refine s_gNil ?_
    | with_reducible refine s_ipI ?_
    | with_reducible refine s_ipA ?_
    | with_reducible refine s_sl ?_
    | with_reducible refine s_noPart ?_
    | with_reducible refine s_part ?_
    | with_reducible refine s_parte ?_
    | with_reducible refine s_for ?_
    | with_reducible refine s_lc ?_
    | with_reducible refine s_iL ?_
    | with_reducible refine s_iS ?_
    | with_reducible refine s_iT ?_
    | with_reducible refine s_itS ?_
    | with_reducible refine s_iR1 ?_
    | with_reducible refine s_iR2 ?_
    | with_reducible refine s_rg1 ?_
    | with_reducible refine s_rg2 ?_
    | with_reducible refine s_rg1e ?_
    | with_reducible refine s_rg2e ?_
    | with_reducible refine s_lrg ?_
    | with_reducible refine s_bm ?_
    | with_reducible refine s_bm0 ?_
    | with_reducible refine s_retN ?_)
  | `(tactic| walk_at "s") => `(tactic| first
    | with_reducible refine s_seq ?_
    | walk_at "e")
theorem low_abc : Low [97, 98, 99] := by unfold Low; decide +kernel
/-- the letters of z that differ from c, two of three at least -/
theorem other_len (c : Nat) : 2 ≤ (([97, 98, 99] : List Nat).filter fun d => !decide (d = c)).length := by
  by_cases h1 : 97 = c
  · subst h1; decide
  · by_cases h2 : 98 = c
    · subst h2; decide
    · by_cases h3 : 99 = c
      · subst h3; decide
      · simp [List.filter, h1, h2, h3]
def t_row (K : PySem.W.Frag) : TS :=
  (tSeq (tAsg (gCall (sp_word K) E1 (tCons (tVar 0) (tCons (tVar 1) tNil))) (gName 2))
  (tSeq (tIfS (tTest (tOp rLess (tCB (rLen K) (tCons (tVar 2) tNil)) (tC (.int 2)))) (tAsg (tOp (rPlus K) (tVar 2) (tVar 2)) (gName 2)) tNext)
  (tSeq (tPar 3 4 (tCons (gCall (sp_take K) E1 (tCons (tVar 0) (tCons (tC (.int 3)) tNil))) (tCons (gCall (sp_take K) E1 (tCons (tVar 0) (tCons (tC (.int 2)) tNil))) tNil)))
  (tSeq (tIfS (tTest (tOp (rSame K) (tVar 3) (tC (.int 1)))) (tRet (tOp (rPlus K) (tSl (rCut K) (tVar 2) tNoPart (tPart (tUn (rU fun i => .int (-i)) (tC (.int 1))))) (tOp (rIx K) (tLc (iStr (tC (.str "abc"))) (gName 5) (tTest (tOp (rDiff K) (tVar 5) (tOp (rIx K) (tVar 2) (tC (.int 0))))) (tVar 5) [5]) (tVar 4)))) tNext)
  (tRet (tOp (rIx K) (tLst (tCons (tVar 2) (tCons (tVar 2) (tCons (tOp (rPlus K) (tSl (rCut K) (tVar 2) tNoPart (tPart (tUn (rU fun i => .int (-i)) (tC (.int 1))))) (tOp (rIx K) (tVar 2) (tC (.int 0)))) tNil)))) (tVar 3)))))))

theorem pu_row {K : PySem.W.Frag} (vs : List V) (H : Hp) (Q : VK) (E : XK) (h : sp_row K vs H Q E) : t_row K { nx := fun _ H' => Q .non H', rt := Q } (start ["_law_bag_here", "_law_most", "_law_text", "_law_way", "_law_turn", "_law_letter"] vs) H := by
  obtain ⟨_, _, rfl, b, H0, ys, m, rfl, rfl, rfl, B, m1, m2, hQ⟩ := h
  unfold t_row
  rw [lit_abc]
  repeat' walk_at "s"
  refine s_text B m1 m2 ?_
  intro H1 ys l e1 B lw l1 l2
  replace l2 : (l.length : Int) ≤ m := l2
  repeat' walk_at "e"
  with_reducible refine s_seqR (fun σ H => ∃ l : List Nat, Low l ∧ 2 ≤ (l.length : Int) ∧ (l.length : Int) ≤ max 2 m ∧ σ = [some (.ref b), some (.int m), some (.str (tx l)), none, none, none] ∧ H = upd H1 b (.lst ys)) (fun σ H z => ?_) fun N hN => ?_
  · clear lw l1 l2 l
    obtain ⟨l, lw, l1, l2, rfl, rfl⟩ := z
    obtain ⟨c, r, rfl⟩ : ∃ c r, l = c :: r := by
      cases l with
      | nil => exact absurd l1 (by decide)
      | cons c r => exact ⟨c, r, rfl⟩
    repeat' walk_at "s"
    refine s_take B (by decide) (lg (by decide) (by decide)) ?_
    intro way ys c1 c2 B
    repeat' walk_at "s"
    refine s_take B (by decide) (lg (by decide) (by decide)) ?_
    intro tn ys d1 d2 B
    repeat' walk_at "s"
    have hc : Low [c] := fun d hd => by
      rcases List.mem_singleton.mp hd with rfl
      exact lw _ List.mem_cons_self
    refine s_if (fun h => ?_) fun h => ?_
    · repeat' walk_at "s"
      refine s_lastX (by omega) ?_
      repeat' walk_at "s"
      intro D hD
      refine lcX hD (fun i acc Hi => Hi = upd H1 b (.lst ys) ∧ acc = ((([97, 98, 99] : List Nat).take i).filter fun d => !decide (d = c)).map fun d => V.str (tx [d])) ⟨rfl, rfl⟩ (fun i d acc Hi hi hn hl z => ?_) fun acc Hi hn hl z => ?_
      · obtain ⟨rfl, rfl⟩ := z
        repeat' walk_at "s"
        refine ⟨rfl, ?_⟩
        repeat' walk_at "s"
        refine s_ixX (m := c) (by omega) at_0 ?_
        repeat' walk_at "s"
        have et : ([97, 98, 99] : List Nat).take (i + 1) = ([97, 98, 99] : List Nat).take i ++ [d] := by rw [List.take_add_one, hi]; rfl
        have hi3 : i < 3 := (List.getElem?_eq_some_iff.mp hi).1
        refine s_ifn (fun h => ?_) fun h => ?_
        · have h : ¬ d = c := fun e => h (by rw [e])
          repeat' walk_at "s"
          refine lc_put hn hl (by rw [sizeLine_eq]; omega) ⟨rfl, ?_⟩
          rw [et, List.filter_append, List.map_append]
          congr 1
          simp [List.filter, h]
        · have h : d = c := by
            have e : [d] = [c] := h
            exact List.head_eq_of_cons_eq e
          refine lc_no hn hl ⟨rfl, ?_⟩
          rw [et, List.filter_append]
          simp [List.filter, h]
      · obtain ⟨rfl, rfl⟩ := z
        refine doneB B hn fun H4 e4 h4 B => ?_
        repeat' walk_at "s"
        have ho := other_len c
        refine s_pickP (fun x => ∃ d, x = .str (tx [d]) ∧ Low [d]) (B.see _ _ h4) d1 (by rw [List.length_map]; have : (([97, 98, 99] : List Nat).take ([97, 98, 99] : List Nat).length) = [97, 98, 99] := rfl; rw [this]; omega) (fun x hx => ?_) fun x hx => ?_
        · obtain ⟨d, hd, rfl⟩ := List.mem_map.mp hx
          refine ⟨d, rfl, fun q hq => ?_⟩
          rcases List.mem_singleton.mp hq with rfl
          exact low_abc _ (List.mem_of_mem_take (List.mem_filter.mp hd).1)
        obtain ⟨d, rfl, ld⟩ := hx
        have e : ((c :: r).dropLast ++ [d]).length = (c :: r).length := by
          rw [List.length_append, List.length_dropLast]
          show (c :: r).length - 1 + 1 = _
          omega
        refine s_addX (by rw [← List.length_append, e]; omega) ?_
        exact hQ _ _ _ (e1.trans e4) B (lw.last.app ld) (by rw [e]; exact l1) (by rw [e]; exact l2)
    · repeat' walk_at "s"
      refine s_lastX (by omega) ?_
      repeat' walk_at "s"
      refine s_ixX (m := c) (by omega) at_0 ?_
      have e : ((c :: r).dropLast ++ [c]).length = (c :: r).length := by
        rw [List.length_append, List.length_dropLast]
        show (c :: r).length - 1 + 1 = _
        omega
      refine s_addX (by rw [← List.length_append, e]; omega) ?_
      repeat' walk_at "s"
      refine newB B (sz_of rfl) fun p5 H5 e5 hp5 B => ?_
      repeat' walk_at "s"
      refine s_pickP (fun x => ∃ k : List Nat, x = .str (tx k) ∧ Low k ∧ k.length = (c :: r).length) (B.see _ _ hp5) c1 c2 (fun x hx => ?_) fun x hx => ?_
      · simp only [List.mem_cons, List.not_mem_nil, or_false] at hx
        rcases hx with rfl | rfl | rfl
        · exact ⟨_, rfl, lw, rfl⟩
        · exact ⟨_, rfl, lw, rfl⟩
        · exact ⟨_, rfl, lw.last.app hc, e⟩
      obtain ⟨k, rfl, hk1, hk2⟩ := hx
      exact hQ _ _ _ (e1.trans e5) B hk1 (by rw [hk2]; exact l1) (by rw [hk2]; exact l2)
  · repeat' walk_at "s"
    refine s_lenX (by omega) ?_
    repeat' walk_at "s"
    refine s_if (fun h => ?_) fun h => ?_
    · repeat' walk_at "s"
      refine s_addX (by omega) ?_
      repeat' walk_at "s"
      exact hN _ _ ⟨_, lw.app lw, by rw [List.length_append]; omega, by rw [List.length_append]; omega, rfl, rfl⟩
    · repeat' walk_at "s"
      exact hN _ _ ⟨l, lw, by omega, by omega, rfl, rfl⟩
end
section
/-! ### list(range(i, j, k)) -/
def stV (i k : Int) (n : Nat) : List V := (List.range n).map fun m => V.int (i + (m : Nat) * k)
def tLstR3 (ta : TA) : TE := fun σ H Q => ta σ H fun vs H1 => ∃ (i j k : Int) (n : Nat), vs = [.int i, .int j, .int k] ∧ RgC i j k n ∧ NewO (n ≤ 16777216) (.lst (stV i k n)) H1 Q
theorem vals_st {i k : Int} {n : Nat} {acc : Array Value} (h : ItemsOf (fun m v => ∃ t, v = .int (i + m * k) t) acc n) : Vals (stV i k n) acc.toList := by
  have e : acc.toList.length = n := by rw [Array.length_toList]; exact h.1
  unfold stV
  rw [← e]
  refine vals_of_get acc.toList _ fun j u hj => ?_
  obtain ⟨t, rfl⟩ := h.2 j u (by rw [← hj, Array.getElem?_toList])
  exact ⟨t, rfl⟩
theorem pe_list3 {X : Cx} {a b c : Expr} {ta : TA} {p p2 pos q : Pos} (hc : X.calm = true) (hg : Gl X "list") (hm : X.mg "list" = none) (hg2 : Gl X "range") (hm2 : X.mg "range" = none) (ha : PA X [a, b, c] ta)
    (hs : starEach [a, b, c] X.env = (false, eval a X.env) :: starEach [b, c] X.env := by rfl) (hpl : (backTo q (starEach [b, c] X.env)).any (·.1) = false := by rfl)
    (na : starEach [.Call (.Name "range" p2) [a, b, c] [] q] X.env = (false, eval (.Call (.Name "range" p2) [a, b, c] [] q) X.env) :: starEach [] X.env := by rfl) :
    PE X (.Call (.Name "list" p) [.Call (.Name "range" p2) [a, b, c] [] q] [] pos) (tLstR3 ta) := by
  refine ⟨fun pins s σ H Q I h => ?_⟩
  refine Call_ (ld_blt I hg hm boot_list (PyProof.Rows.callWith_type1 (args_cons (Call_ (ld_blt I hg2 hm2 boot_range (PyProof.Rows.callWith_type1 (thn (ha.run q pins s σ H _ I h) fun us s1 ⟨vs, H1, I1, r1, q1⟩ => ?_) hs hpl))) na) na))
  obtain ⟨i, j, k, n, e, ⟨c0, c1, c2, c3⟩, hz, qq⟩ := q1
  subst e
  cases r1 with
  | cons r rr =>
    cases rr with
    | cons r' rr =>
      cases rr with
      | cons r'' rr =>
        cases rr
        obtain ⟨t, rfl⟩ := r
        obtain ⟨t', rfl⟩ := r'
        obtain ⟨t'', rfl⟩ := r''
        refine call_range_3 c0 (args_nil ?_) (.inl (PyProof.noPylong_small c1))
        have I2 : Inv X pins σ H1 { s1 with heap := s1.heap.push { cls := .type "range", data := .fields #[.int i t, .int j t', .int k t''] } } := I1.kept (t' := s1.toks) fun b o e => Heap.get?_push_of_some _ e
        refine call_list_range (n := n) (I2.ok.hd hc) (IsRange.new ..) c2 c3 (by omega) fun h' tk acc c' hk e' hi => ?_
        refine ⟨.ref _, upd H1 _ (.lst (stV i k n)), I2.laid hk (Nat.le_refl _) (show ObjOk X.prog X.w _ _ _ (.lst (stV i k n)) from ⟨?_, acc.toList, c', vals_st hi, ?_⟩), rfl, qq _ (I2.hok.fresh (Nat.le_refl _))⟩
        · unfold stV
          rw [List.length_map, List.length_range, sizeLine_eq]
          omega
        · rw [Array.toArray_toList]; exact e'
theorem rgC_up {i j k : Int} (hi : 0 ≤ i) (hij : i ≤ j) (hj : j ≤ 1000000) (hk : 1 ≤ k) (hk2 : k ≤ 1000000) : ∃ n : Nat, RgC i j k n ∧ n ≤ 1000000 ∧ ∀ m : Nat, m < n ↔ i + m * k < j := by
  have key : ∀ m : Nat, i < j → ((m : Int) ≤ (j - i - 1) / k ↔ i + m * k < j) := fun m h => by
    rw [Int.le_ediv_iff_mul_le (by omega)]
    omega
  have d0 : i < j → 0 ≤ (j - i - 1) / k := fun h => Int.ediv_nonneg (by omega) (by omega)
  have d1 : i < j → (j - i - 1) / k ≤ j - i - 1 := fun h => Int.ediv_le_self _ (by omega)
  have hr : Builtin.Range.rangeSize i j k = if i < j then (j - i - 1) / k + 1 else 0 := by
    unfold Builtin.Range.rangeSize
    rw [if_pos (by omega)]
  refine ⟨(if i < j then (j - i - 1) / k + 1 else 0 : Int).toNat, ⟨by omega, by omega, ?_, ?_⟩, ?_, fun m => ?_⟩
  · unfold Builtin.Range.small
    rw [hr]
    have d2 : i < j → i + ((j - i - 1) / k + 1) * k < 2 ^ 62 := fun h => by
      have := Int.ediv_mul_le (j - i - 1) (show k ≠ 0 by omega)
      rw [Int.add_mul, Int.one_mul]
      omega
    have d3 : i < j → 0 ≤ ((j - i - 1) / k + 1) * k := fun h => Int.mul_nonneg (by have := d0 h; omega) (by omega)
    simp only [Builtin.Range.rangeFitsLong, Bool.and_eq_true, Bool.or_eq_true, decide_eq_true_eq, beq_iff_eq, show k > 0 by omega, if_true]
    split
    · rename_i h
      have := d0 h
      have := d1 h
      have := d2 h
      have := d3 h
      omega
    · omega
  · rw [hr]
    split
    · rename_i h
      have := d0 h
      omega
    · rfl
  · split
    · rename_i h
      have := d1 h
      omega
    · omega
  · split
    · rename_i h
      have := d0 h
      have := key m h
      omega
    · rename_i h
      have : (0 : Int) ≤ m * k := Int.mul_nonneg (by omega) (by omega)
      omega
theorem s_lr3 {ta : TA} {σ : L2.St} {H : Hp} {Q : VK} (q : ta σ H fun vs H1 => ∃ (i j k : Int) (n : Nat), vs = [.int i, .int j, .int k] ∧ RgC i j k n ∧ NewO (n ≤ 16777216) (.lst (stV i k n)) H1 Q) : tLstR3 ta σ H Q := q
theorem s_tyL {K : PySem.W.Frag} {H : Hp} {a : Addr} {xs : List V} {R : Prop} (h : SqL K H a xs) (q : R) : tyV K "list" (.ref a) H ∧ R := by
  exact ⟨.inl ⟨rfl, xs, h⟩, q⟩
theorem s_revL {H : Hp} {Q : VK} {a : Addr} {xs : List V} (h : H a = some (.lst xs)) (q : Q .non (upd H a (.lst xs.reverse))) : rReverse (.ref a) [] H Q := ⟨a, xs, rfl, rfl, h, q⟩
/-- one step of a reading (e: none past a statement's end) -/
local macro_rules
  | `(tactic| walk_at "e") => `(tactic| first
    | with_reducible refine s_ifs ?_
    | with_reducible refine s_test ?_
    | with_reducible refine s_truth ?_
    | with_reducible refine s_op ?_
    | with_reducible refine s_un ?_
    | with_reducible refine s_asg ?_
    | with_reducible refine s_ret ?_
    | with_reducible refine s_next ?_
    | with_reducible refine s_drop ?_
    | with_reducible refine s_c ?_
    | ((with_reducible refine s_var (v := ?v) ?e ?q); case e => exact rfl)
    | with_reducible refine s_name ?_
    | with_reducible refine s_exq ?_
    | with_reducible refine s_cons ?_
    | with_reducible refine s_nil ?_
    | with_reducible refine s_lst ?_
    | with_reducible refine s_tup ?_
    | with_reducible refine s_cb ?_
    | with_reducible refine s_call ?_
    | with_reducible refine s_and ?_
    | with_reducible refine s_or ?_
    | with_reducible refine s_not ?_
    | with_reducible refine s_andV ?_
    | with_reducible refine s_orV ?_
    | with_reducible refine s_notV ?_
    | with_reducible refine s_ife ?_
    | with_reducible refine s_chain ?_
    | with_reducible refine s_addI ?_
    | with_reducible refine s_sub ?_
    | with_reducible refine s_neg ?_
    | with_reducible refine s_eqI ?_
    | with_reducible refine s_eqX ?_
    | with_reducible refine s_eqT ?_
    | with_reducible refine s_eqB ?_
    | with_reducible refine s_eqNI ?_
    | with_reducible refine s_eqIN ?_
    | with_reducible refine s_eqNN ?_
    | with_reducible refine s_neI ?_
    | with_reducible refine s_neX ?_
    | with_reducible refine s_neT ?_
    | with_reducible refine s_neB ?_
    | with_reducible refine s_lt ?_
    | with_reducible refine s_le ?_
    | with_reducible refine s_gt ?_
    | with_reducible refine s_ge ?_
    | with_reducible refine s_isN ?_
    | with_reducible refine s_isS ?_
    | with_reducible refine s_truB ?_
    | with_reducible refine s_truI ?_
    | with_reducible refine s_truN ?_
    | with_reducible refine s_abs ?_
    | with_reducible refine s_min2 ?_
    | with_reducible refine s_max2 ?_
    | with_reducible refine s_intI ?_
    | with_reducible refine s_intB ?_
    | with_reducible refine s_ifT ?_
    | with_reducible refine s_ifF ?_
    | with_reducible refine s_ifnT ?_
    | with_reducible refine s_ifnF ?_
    | with_reducible refine s_gSub ?_
    | with_reducible refine s_gTup ?_
    | with_reducible refine s_augS ?_
    | ((with_reducible refine s_aug (x := ?v) ?e ?q); case e => exact rfl)
    | with_reducible refine s_yes ?_
    | with_reducible refine s_par ?_
    | with_reducible refine s_two ?_
    | with_reducible refine s_m1 ?_
    | with_reducible refine s_isstr ?_
    | with_reducible refine s_rev0 ?_
    | with_reducible refine s_gCons ?_
    | with_reducible refine s_gNil ?_
    | with_reducible refine s_ipI ?_
    | with_reducible refine s_ipA ?_
    | with_reducible refine s_sl ?_
    | with_reducible refine s_noPart ?_
    | with_reducible refine s_part ?_
    | with_reducible refine s_parte ?_
    | with_reducible refine s_for ?_
    | with_reducible refine s_lc ?_
    | with_reducible refine s_iL ?_
    | with_reducible refine s_iS ?_
    | with_reducible refine s_iT ?_
    | with_reducible refine s_itS ?_
    | with_reducible refine s_iR1 ?_
    | with_reducible refine s_iR2 ?_
    | with_reducible refine s_rg1 ?_
    | with_reducible refine s_rg2 ?_
    | with_reducible refine s_rg1e ?_
    | with_reducible refine s_rg2e ?_
    | with_reducible refine s_lrg ?_
    | with_reducible refine s_lr3 ?_
    | with_reducible refine s_bm ?_
    | with_reducible refine s_bm0 ?_
    | with_reducible refine s_retN ?_)
  | `(tactic| walk_at "s") => `(tactic| first
    | with_reducible refine s_seq ?_
    | walk_at "e")

/-! any row -/
def sp_any_row (K : PySem.W.Frag) : Sp := sp2 fun x y H Q _ => ∃ (b : Addr) (H0 : Hp) (ys : List V) (m : Int), x = .ref b ∧ y = .int m ∧ H = upd H0 b (.lst ys) ∧ Bag K H0 b ys ∧ 2 ≤ m ∧ m ≤ 1000000 ∧
  ∀ (H' : Hp) (zs : List V) (l : List Nat), Same H0 H' → Bag K H' b zs → Low l → 2 ≤ l.length → (l.length : Int) ≤ m → Q (.str (tx l)) (upd H' b (.lst zs))
section
variable {K : PySem.W.Frag} {H0 : Hp} {Q : VK} {E : XK} {b : Addr} {ys : List V} {m : Int}
theorem s_any (B : Bag K H0 b ys) (h : 2 ≤ m) (hl : m ≤ 1000000) (q : ∀ (H' : Hp) (zs : List V) (l : List Nat), Same H0 H' → Bag K H' b zs → Low l → 2 ≤ l.length → (l.length : Int) ≤ m → Q (.str (tx l)) (upd H' b (.lst zs))) : Fr (sp_any_row K) [.ref b, .int m] (upd H0 b (.lst ys)) Q E :=
  s_all ⟨_, _, rfl, b, H0, ys, m, rfl, rfl, rfl, B, h, hl, q⟩
end
theorem flat_one (cs : List Nat) : (cs.map fun c => [c]).flatten = cs := by
  induction cs with
  | nil => rfl
  | cons c cs ih => rw [List.map_cons, List.flatten_cons, ih]; rfl
theorem sum_one (cs : List Nat) : ((cs.map fun c => [c]).map List.length).sum = cs.length := by
  rw [List.map_map]
  have e : ((List.length : List Nat → Nat) ∘ fun c => [c]) = fun _ => 1 := rfl
  rw [e, List.map_const', List.sum_replicate_nat, Nat.mul_one]
def t_any_row (K : PySem.W.Frag) : TS :=
  (tSeq (tIfS (tTest (tOp rMore (gCall (sp_take K) E1 (tCons (tVar 0) (tCons (tC (.int 3)) tNil))) (tC (.int 0)))) (tRet (gCall (sp_row K) E1 (tCons (tVar 0) (tCons (tVar 1) tNil)))) tNext)
  (tSeq (tAsg (tOp (rPlus K) (tC (.int 2)) (gCall (sp_take K) E1 (tCons (tVar 0) (tCons (tOp rMinus (tVar 1) (tC (.int 1))) tNil)))) (gName 2))
  (tRet (tM1 (rJoin K) (tC (.str "")) (tLc (iRng1 (tCons (tVar 2) tNil)) (gName 3) tYes (tOp (rIx K) (tC (.str "abcdefghijklmnopqrstuvwxyz")) (gCall (sp_take K) E1 (tCons (tVar 0) (tCons (tC (.int 26)) tNil)))) [3])))))

theorem pu_any_row {K : PySem.W.Frag} (vs : List V) (H : Hp) (Q : VK) (E : XK) (h : sp_any_row K vs H Q E) : t_any_row K { nx := fun _ H' => Q .non H', rt := Q } (start ["_law_bag_here", "_law_most", "_law_size", "_law_k"] vs) H := by
  obtain ⟨_, _, rfl, b, H0, ys, m, rfl, rfl, rfl, B, m1, m2, hQ⟩ := h
  unfold t_any_row
  rw [lit_az, lit_empty]
  repeat' walk_at "s"
  refine s_take B (by decide) (lg (by decide) (by decide)) ?_
  intro r ys a1 a2 B
  repeat' walk_at "s"
  refine s_if (fun h => ?_) fun h => ?_
  · repeat' walk_at "s"
    refine s_text B (by omega) m2 ?_
    intro H1 ys l e1 B lw l1 l2
    replace l2 : (l.length : Int) ≤ max 2 m := l2
    exact hQ _ _ _ e1 B lw (by omega) (by omega)
  · repeat' walk_at "s"
    refine s_take B (by omega) (lg (by omega) (by omega)) ?_
    intro sz ys b1 b2 B
    repeat' walk_at "s"
    refine s_rn1 (by omega) (by omega) ?_
    intro D hD
    refine lcR hD (fun i acc Hi => ∃ (ys : List V) (cs : List Nat), Hi = upd H0 b (.lst ys) ∧ Bag K H0 b ys ∧ acc = cs.map (fun c => V.str (tx [c])) ∧ Low cs ∧ cs.length = i) ⟨ys, [], rfl, B, rfl, Low.nil, rfl⟩ (fun i acc Hi hi hn hl z => ?_) fun acc Hi hn hl z => ?_
    · obtain ⟨ys, cs, rfl, B, rfl, lc, hc⟩ := z
      repeat' walk_at "s"
      refine ⟨rfl, ?_⟩
      repeat' walk_at "s"
      refine s_takeD B hn (by omega) (lg (by omega) (by omega)) ?_
      intro r5 ys i1 i2 B hn
      refine s_pickX (by decide) i1 i2 fun q hq _ => ?_
      refine lc_put hn hl (by rw [sizeLine_eq]; omega) ⟨ys, cs ++ [_], rfl, B, by rw [List.map_append]; rfl, lc.app fun c hc => ?_, by rw [List.length_append, hc]; rfl⟩
      rcases List.mem_singleton.mp hc with rfl
      exact low_az _ (List.getElem_mem hq)
    · obtain ⟨ys, cs, rfl, B, rfl, lc, hc⟩ := z
      refine doneB B hn fun H4 e4 h4 B => ?_
      refine s_join (ls := cs.map fun c => [c]) (by rw [List.map_map]; exact SqL.of (B.see _ _ h4)) (by rw [sum_one]; omega) ?_
      rw [flat_one]
      exact hQ _ _ _ e4 B lc (by omega) (by omega)
end
section
/-! ### data: equal, well shown -/
theorem len_rgI (i j : Int) : (rgI i j).length = (j - i).toNat := by
  unfold rgI
  rw [List.length_map, List.length_range]
theorem mem_rgI {i j m : Int} (h : m ∈ rgI i j) : i ≤ m ∧ m < j := by
  obtain ⟨k, hk, rfl⟩ := List.mem_map.mp h
  have := List.mem_range.mp hk
  omega
theorem nice_ints {ns : List Int} {n : Nat} (h : ∀ m ∈ ns, m.natAbs < 10 ^ 100) (hn : ns.length ≤ n) (hz : n ≤ 10000) : Nice (dI ns) := by
  refine Bd.nice (bd_list (c := 101) (k := 0) (n := n) (fun d hd => ?_) (by rw [List.length_map]; exact hn)) (by omega) (by omega)
  obtain ⟨m, hm, rfl⟩ := List.mem_map.mp hd
  exact bd_int (k := 99) (h m hm) (by omega)
theorem nice_int {m : Int} (h : m.natAbs < 10 ^ 100) : Nice (.int m) := Bd.nice (bd_int (k := 99) h (by omega)) (by omega) (by omega)
theorem nice_non : Nice .none := bd_none.nice (by omega) (by omega)
theorem nice_bl (c : Bool) : Nice (.bool c) := (bd_bool c).nice (by omega) (by omega)
theorem eqvAll_int : ∀ a b : List Int, PyData.eqvAll (a.map .int) (b.map .int) = decide (a = b)
  | [], [] => rfl
  | [], _ :: _ => rfl
  | _ :: _, [] => rfl
  | x :: xs, y :: ys => by
    show (x == y && PyData.eqvAll (xs.map .int) (ys.map .int)) = _
    rw [eqvAll_int xs ys]
    by_cases h : x = y
    · subst h
      simp
    · simp [h]
theorem eqv_dI (a b : List Int) : PyData.eqv (dI a) (dI b) = decide (a = b) := eqvAll_int a b
theorem shaped_dI (a : List Int) : SeqAt.shaped (dI a) = true := by
  have h : PyData.canLayAll0 (a.map .int) = true ∧ PyData.depthAll (a.map .int) ≤ 0 := by
    induction a with
    | nil => exact ⟨rfl, Nat.le_refl _⟩
    | cons x xs ih => exact ⟨ih.1, Nat.max_le.mpr ⟨Nat.le_refl _, ih.2⟩⟩
  unfold SeqAt.shaped
  rw [Bool.and_eq_true]
  refine ⟨h.1, decide_eq_true ?_⟩
  show PyData.depthAll (a.map .int) + 1 ≤ 64
  have := h.2
  omega
section
variable {K : PySem.W.Frag} {H H0 : Hp} {Q : VK} {p q b : Addr} {o o' u : HO} {xs ys : List Int}
/-- lists of ints compared -/
theorem s_eqLI (h1 : SqL K H p (xs.map V.int)) (h2 : SqL K H q (ys.map V.int)) (r : Q (.bl (decide (xs = ys))) H) : rSame K (.ref p) (.ref q) H Q :=
  s_eqD (d := dI xs) (e := dI ys) (dp_ints h1) (dp_ints h2) (shaped_dI _) (shaped_dI _) (by rw [eqv_dI]; exact r)
theorem s_neLI (h1 : SqL K H p (xs.map V.int)) (h2 : SqL K H q (ys.map V.int)) (r : Q (.bl (!decide (xs = ys))) H) : rDiff K (.ref p) (.ref q) H Q :=
  s_neD (d := dI xs) (e := dI ys) (dp_ints h1) (dp_ints h2) (shaped_dI _) (shaped_dI _) (by rw [eqv_dI]; exact r)
theorem upd_in (ne : p ≠ b) : upd (upd (upd H p o) b u) p o' = upd (upd H p o') b u := by
  rw [upd_comm (H := upd H p o) (Ne.symm ne), upd_upd]
end
end
section
/-- one step of a reading (e: none past a statement's end) -/
local macro_rules
  | `(tactic| walk_at "e") => `(tactic| first
    | with_reducible refine s_ifs ?_
    | with_reducible refine s_test ?_
    | with_reducible refine s_truth ?_
    | with_reducible refine s_op ?_
    | with_reducible refine s_un ?_
    | with_reducible refine s_asg ?_
    | with_reducible refine s_ret ?_
    | with_reducible refine s_next ?_
    | with_reducible refine s_drop ?_
    | with_reducible refine s_c ?_
    | ((with_reducible refine s_var (v := ?v) ?e ?q); case e => exact rfl)
    | with_reducible refine s_name ?_
    | with_reducible refine s_exq ?_
    | with_reducible refine s_cons ?_
    | with_reducible refine s_nil ?_
    | with_reducible refine s_lst ?_
    | with_reducible refine s_tup ?_
    | with_reducible refine s_cb ?_
    | with_reducible refine s_call ?_
    | with_reducible refine s_and ?_
    | with_reducible refine s_or ?_
    | with_reducible refine s_not ?_
    | with_reducible refine s_andV ?_
    | with_reducible refine s_orV ?_
    | with_reducible refine s_notV ?_
    | with_reducible refine s_ife ?_
    | with_reducible refine s_chain ?_
    | with_reducible refine s_addI ?_
    | with_reducible refine s_sub ?_
    | with_reducible refine s_neg ?_
    | with_reducible refine s_eqI ?_
    | with_reducible refine s_eqX ?_
    | with_reducible refine s_eqT ?_
    | with_reducible refine s_eqB ?_
    | with_reducible refine s_eqNI ?_
    | with_reducible refine s_eqIN ?_
    | with_reducible refine s_eqNN ?_
    | with_reducible refine s_neI ?_
    | with_reducible refine s_neX ?_
    | with_reducible refine s_neT ?_
    | with_reducible refine s_neB ?_
    | with_reducible refine s_lt ?_
    | with_reducible refine s_le ?_
    | with_reducible refine s_gt ?_
    | with_reducible refine s_ge ?_
    | with_reducible refine s_isN ?_
    | with_reducible refine s_isS ?_
    | with_reducible refine s_truB ?_
    | with_reducible refine s_truI ?_
    | with_reducible refine s_truN ?_
    | with_reducible refine s_abs ?_
    | with_reducible refine s_min2 ?_
    | with_reducible refine s_max2 ?_
    | with_reducible refine s_intI ?_
    | with_reducible refine s_intB ?_
    | with_reducible refine s_ifT ?_
    | with_reducible refine s_ifF ?_
    | with_reducible refine s_ifnT ?_
    | with_reducible refine s_ifnF ?_
    | with_reducible refine s_gSub ?_
    | with_reducible refine s_gTup ?_
    | with_reducible refine s_augS ?_
    | ((with_reducible refine s_aug (x := ?v) ?e ?q); case e => exact rfl)
    | with_reducible refine s_yes ?_
    | with_reducible refine s_par ?_
    | with_reducible refine s_two ?_
    | with_reducible refine s_m1 ?_
    | with_reducible refine s_isstr ?_
    | with_reducible refine s_rev0 ?_
    | with_reducible refine s_gCons ?_
    | with_reducible refine s_gNil ?_
    | with_reducible refine s_ipI ?_
    | with_reducible refine s_ipA ?_
    | with_reducible refine s_sl ?_
    | with_reducible refine s_noPart ?_
    | with_reducible refine s_part ?_
    | with_reducible refine s_parte ?_
    | with_reducible refine s_for ?_
    | with_reducible refine s_lc ?_
    | with_reducible refine s_iL ?_
    | with_reducible refine s_iS ?_
    | with_reducible refine s_iT ?_
    | with_reducible refine s_itS ?_
    | with_reducible refine s_iR1 ?_
    | with_reducible refine s_iR2 ?_
    | with_reducible refine s_rg1 ?_
    | with_reducible refine s_rg2 ?_
    | with_reducible refine s_rg1e ?_
    | with_reducible refine s_rg2e ?_
    | with_reducible refine s_lrg ?_
    | with_reducible refine s_lr3 ?_
    | with_reducible refine s_bm ?_
    | with_reducible refine s_bm0 ?_
    | with_reducible refine s_retN ?_)
  | `(tactic| walk_at "s") => `(tactic| first
    | with_reducible refine s_seq ?_
    | walk_at "e")

theorem s_isi {K : PySem.W.Frag} {H : Hp} {Q : VK} {x : V} {T1 T2 : String} {r : Bool} (t : TyX K H x (.type T1)) (h : kitB T1 T2 = some r) (q : Q (.bl r) H) : rIsi K [x, .ty T2] H Q := ⟨x, .ty T2, .type T1, .type T2, r, rfl, .ty _, t, kit_ty h, q⟩
theorem isi_str {K : PySem.W.Frag} {H : Hp} {Q : VK} {z : Str} (q : Q (.bl true) H) : rIsi K [.str z, .ty "str"] H Q := s_isi (.base (.str _)) (by decide +kernel) q
theorem isi_int {K : PySem.W.Frag} {H : Hp} {Q : VK} {i : Int} (q : Q (.bl true) H) : rIsi K [.int i, .ty "int"] H Q := s_isi (.base (.int _)) (by decide +kernel) q
theorem at_int {α : Type} {l : List α} {k : Int} (h0 : 0 ≤ k) (h : k.toNat < l.length) : atI l k = some l[k.toNat] := by
  obtain ⟨m, rfl⟩ : ∃ m : Nat, k = m := ⟨k.toNat, by omega⟩
  exact at_get h
/-! ### rows made by calls -/
/-- the row that a call of the place k makes -/
def mk (l : List Nat) (k : Nat) : List Nat := l.take k ++ l ++ l.drop (k + 1)
theorem mk_len {l : List Nat} {k : Nat} (h : k < l.length) : (mk l k).length = 2 * l.length - 1 := by
  unfold mk
  rw [List.length_append, List.length_append, List.length_take, List.length_drop]
  omega
theorem mk_low {l : List Nat} {k : Nat} (h : Low l) : Low (mk l k) := ((h.take _).app h).app (h.drop _)
theorem mk_cut {l : List Nat} {k : Nat} (h : k < l.length) : l.take k ++ l.take k ++ [l[k]] ++ l.drop (k + 1) ++ l.drop (k + 1) = mk l k := by
  unfold mk
  have e : l.take k ++ [l[k]] ++ l.drop (k + 1) = l := by
    rw [List.append_assoc, List.singleton_append, List.getElem_cons_drop, List.take_append_drop]
  conv => rhs; rw [show l.take k ++ l = l.take k ++ (l.take k ++ [l[k]] ++ l.drop (k + 1)) by rw [e]]
  simp only [List.append_assoc]
/-- the row, a place: what made | the law's own slices make of them -/
def spMk (K : PySem.W.Frag) : Sp := sp2 fun x y H Q _ => ∃ (l : List Nat) (k : Int), x = .str (tx l) ∧ y = .int k ∧ 0 ≤ k ∧ k < l.length ∧ l.length ≤ 5000000 ∧ Q (.str (tx (mk l k.toNat))) H
abbrev sp_made (K : PySem.W.Frag) : Sp := spMk K
abbrev sp_called (K : PySem.W.Frag) : Sp := spMk K
def sp_call (K : PySem.W.Frag) : Sp := sp2 fun x y H Q _ => ∃ (l : List Nat) (k : Int), x = .str (tx l) ∧ y = .int k ∧ 0 ≤ k ∧ k < l.length ∧ 2 * l.length ≤ 1001 ∧ Q (.str (tx (mk l k.toNat))) H
section
variable {K : PySem.W.Frag} {H : Hp} {Q : VK} {E : XK} {l : List Nat} {k : Int}
theorem s_mk (h0 : 0 ≤ k) (h1 : k < l.length) (h2 : l.length ≤ 5000000) (q : Q (.str (tx (mk l k.toNat))) H) : Fr (spMk K) [.str (tx l), .int k] H Q E := s_all ⟨_, _, rfl, l, k, rfl, rfl, h0, h1, h2, q⟩
theorem s_callN (h0 : 0 ≤ k) (h1 : k < l.length) (h2 : 2 * l.length ≤ 1001) (q : Q (.str (tx (mk l k.toNat))) H) : Fr (sp_call K) [.str (tx l), .int k] H Q E := s_all ⟨_, _, rfl, l, k, rfl, rfl, h0, h1, h2, q⟩
end
def t_made (K : PySem.W.Frag) : TS :=
  (tRet (tOp (rPlus K) (tOp (rPlus K) (tSl (rCut K) (tVar 0) tNoPart (tPart (tVar 1))) (tVar 0)) (tSl (rCut K) (tVar 0) (tPart (tOp (rPlus K) (tVar 1) (tC (.int 1)))) tNoPart)))

theorem pu_made {K : PySem.W.Frag} (vs : List V) (H : Hp) (Q : VK) (E : XK) (h : sp_made K vs H Q E) : t_made K { nx := fun _ H' => Q .non H', rt := Q } (start ["row", "place"] vs) H := by
  obtain ⟨_, _, rfl, l, k, rfl, rfl, h0, h1, h2, hQ⟩ := h
  unfold t_made
  repeat' walk_at "s"
  refine s_toX (by omega) h0 ?_
  repeat' walk_at "s"
  refine s_addX (by rw [List.length_take]; omega) ?_
  repeat' walk_at "s"
  refine s_fromX (by omega) (by omega) ?_
  refine s_addX (by rw [List.length_append, List.length_take, List.length_drop]; omega) ?_
  rw [show (k + 1).toNat = k.toNat + 1 by omega]
  exact hQ
def t_called (K : PySem.W.Frag) : TS :=
  (tSeq (tPar 2 3 (tCons (tSl (rCut K) (tVar 0) tNoPart (tPart (tVar 1))) (tCons (tSl (rCut K) (tVar 0) (tPart (tOp (rPlus K) (tVar 1) (tC (.int 1)))) tNoPart) tNil)))
  (tRet (tOp (rPlus K) (tOp (rPlus K) (tOp (rPlus K) (tOp (rPlus K) (tVar 2) (tVar 2)) (tOp (rIx K) (tVar 0) (tVar 1))) (tVar 3)) (tVar 3))))

theorem pu_called {K : PySem.W.Frag} (vs : List V) (H : Hp) (Q : VK) (E : XK) (h : sp_called K vs H Q E) : t_called K { nx := fun _ H' => Q .non H', rt := Q } (start ["_law_row_here", "_law_place", "_law_ahead", "_law_behind"] vs) H := by
  obtain ⟨_, _, rfl, l, k, rfl, rfl, h0, h1, h2, hQ⟩ := h
  unfold t_called
  repeat' walk_at "s"
  refine s_toX (by omega) h0 ?_
  repeat' walk_at "s"
  refine s_fromX (by omega) (by omega) ?_
  repeat' walk_at "s"
  refine s_addX (by rw [List.length_take]; omega) ?_
  repeat' walk_at "s"
  have hk : k.toNat < l.length := by omega
  refine s_ixX (m := l[k.toNat]) (by omega) (at_int h0 hk) ?_
  refine s_addX (by rw [List.length_append, List.length_take]; show _ + 1 ≤ _; omega) ?_
  repeat' walk_at "s"
  refine s_addX (by rw [List.length_append, List.length_append, List.length_take, List.length_drop]; show _ + 1 + _ ≤ _; omega) ?_
  repeat' walk_at "s"
  refine s_addX (by rw [List.length_append, List.length_append, List.length_append, List.length_take, List.length_drop]; show _ + 1 + _ + _ ≤ _; omega) ?_
  rw [show (k + 1).toNat = k.toNat + 1 by omega, mk_cut hk]
  exact hQ
def t_call (K : PySem.W.Frag) : TS :=
  (tSeq (tIfS (tNot (tTest (tChain rLessE rLess (tC (.int 0)) (tVar 1) (tCB (rLen K) (tCons (tVar 0) tNil))))) tNever tNext)
  (tSeq (tIfS (tTest (tOp rMore (tOp rMinus (tOp rTimes (tC (.int 2)) (tCB (rLen K) (tCons (tVar 0) tNil))) (tC (.int 1))) (tC (.int 1000)))) tNever tNext)
  (tRet (gCall (sp_made K) E1 (tCons (tVar 0) (tCons (tVar 1) tNil))))))

theorem pu_call {K : PySem.W.Frag} (vs : List V) (H : Hp) (Q : VK) (E : XK) (h : sp_call K vs H Q E) : t_call K { nx := fun _ H' => Q .non H', rt := Q } (start ["row", "place"] vs) H := by
  obtain ⟨_, _, rfl, l, k, rfl, rfl, h0, h1, h2, hQ⟩ := h
  unfold t_call
  repeat' walk_at "s"
  refine s_if (fun _ => ?_) fun z => absurd h0 z
  repeat' walk_at "s"
  refine s_lenX (by omega) ?_
  repeat' walk_at "s"
  refine s_ifn (fun z => absurd h1 z) fun _ => ?_
  repeat' walk_at "s"
  refine s_lenX (by omega) ?_
  repeat' walk_at "s"
  refine s_mulI (mulW (by omega) (by omega)) ?_
  repeat' walk_at "s"
  refine s_if (fun z => by omega) fun _ => ?_
  repeat' walk_at "s"
  exact s_mk h0 h1 (by omega) hQ
end
section
/-- one step of a reading (e: none past a statement's end) -/
local macro_rules
  | `(tactic| walk_at "e") => `(tactic| first
    | with_reducible refine s_ifs ?_
    | with_reducible refine s_test ?_
    | with_reducible refine s_truth ?_
    | with_reducible refine s_op ?_
    | with_reducible refine s_un ?_
    | with_reducible refine s_asg ?_
    | with_reducible refine s_ret ?_
    | with_reducible refine s_next ?_
    | with_reducible refine s_drop ?_
    | with_reducible refine s_c ?_
    | ((with_reducible refine s_var (v := ?v) ?e ?q); case e => exact rfl)
    | with_reducible refine s_name ?_
    | with_reducible refine s_exq ?_
    | with_reducible refine s_cons ?_
    | with_reducible refine s_nil ?_
    | with_reducible refine s_lst ?_
    | with_reducible refine s_tup ?_
    | with_reducible refine s_cb ?_
    | with_reducible refine s_call ?_
    | with_reducible refine s_and ?_
    | with_reducible refine s_or ?_
    | with_reducible refine s_not ?_
    | with_reducible refine s_andV ?_
    | with_reducible refine s_orV ?_
    | with_reducible refine s_notV ?_
    | with_reducible refine s_ife ?_
    | with_reducible refine s_chain ?_
    | with_reducible refine s_addI ?_
    | with_reducible refine s_sub ?_
    | with_reducible refine s_neg ?_
    | with_reducible refine s_eqI ?_
    | with_reducible refine s_eqX ?_
    | with_reducible refine s_eqT ?_
    | with_reducible refine s_eqB ?_
    | with_reducible refine s_eqNI ?_
    | with_reducible refine s_eqIN ?_
    | with_reducible refine s_eqNN ?_
    | with_reducible refine s_neI ?_
    | with_reducible refine s_neX ?_
    | with_reducible refine s_neT ?_
    | with_reducible refine s_neB ?_
    | with_reducible refine s_lt ?_
    | with_reducible refine s_le ?_
    | with_reducible refine s_gt ?_
    | with_reducible refine s_ge ?_
    | with_reducible refine s_isN ?_
    | with_reducible refine s_isS ?_
    | with_reducible refine s_truB ?_
    | with_reducible refine s_truI ?_
    | with_reducible refine s_truN ?_
    | with_reducible refine s_abs ?_
    | with_reducible refine s_min2 ?_
    | with_reducible refine s_max2 ?_
    | with_reducible refine s_intI ?_
    | with_reducible refine s_intB ?_
    | with_reducible refine s_ifT ?_
    | with_reducible refine s_ifF ?_
    | with_reducible refine s_ifnT ?_
    | with_reducible refine s_ifnF ?_
    | with_reducible refine s_gSub ?_
    | with_reducible refine s_gTup ?_
    | with_reducible refine s_augS ?_
    | ((with_reducible refine s_aug (x := ?v) ?e ?q); case e => exact rfl)
    | with_reducible refine s_yes ?_
    | with_reducible refine s_par ?_
    | with_reducible refine s_two ?_
    | with_reducible refine s_m1 ?_
    | with_reducible refine s_isstr ?_
    | with_reducible refine s_rev0 ?_
    | with_reducible refine s_gCons ?_
    | with_reducible refine s_gNil ?_
    | with_reducible refine s_ipI ?_
    | with_reducible refine s_ipA ?_
    | with_reducible refine s_sl ?_
    | with_reducible refine s_noPart ?_
    | with_reducible refine s_part ?_
    | with_reducible refine s_parte ?_
    | with_reducible refine s_for ?_
    | with_reducible refine s_lc ?_
    | with_reducible refine s_iL ?_
    | with_reducible refine s_iS ?_
    | with_reducible refine s_iT ?_
    | with_reducible refine s_itS ?_
    | with_reducible refine s_iR1 ?_
    | with_reducible refine s_iR2 ?_
    | with_reducible refine s_rg1 ?_
    | with_reducible refine s_rg2 ?_
    | with_reducible refine s_rg1e ?_
    | with_reducible refine s_rg2e ?_
    | with_reducible refine s_lrg ?_
    | with_reducible refine s_lr3 ?_
    | with_reducible refine s_bm ?_
    | with_reducible refine s_bm0 ?_
    | with_reducible refine s_retN ?_)
  | `(tactic| walk_at "s") => `(tactic| first
    | with_reducible refine s_seq ?_
    | walk_at "e")

/-! ### walks with numbers -/
section
variable {K : PySem.W.Frag} {a : Addr} {xs : List V} {g : TG} {tb : TS} {En : Ends} {σ : L2.St} {H : Hp} {ts : TA}
theorem s_iE {R : It → Hp → Prop} (q : ts σ H fun vs H1 => ∃ a xs, vs = [.ref a] ∧ SqL K H1 a xs ∧ R (Ite K a) H1) : iEnum K ts σ H R := q
theorem s_itE {R : Addr → Prop} (h : SqL K H a xs) (q : R a) : ∃ p ys, [V.ref a] = [.ref p] ∧ SqL K H p ys ∧ R p := ⟨a, xs, rfl, h, q⟩
theorem forE (Pv : Nat → L2.St → Hp → Prop) (h0 : Pv 0 σ H) (hl : ∀ i σ H, i ≤ xs.length → Pv i σ H → SqL K H a xs)
    (hs : ∀ i x T σ H, xs[i]? = some x → i < xs.length → H T = none → Pv i σ H → g (.ref T) σ (upd H T (.tup [.int (i : Nat), x])) fun σ2 H2 => tb { En with nx := Pv (i + 1), ct := Pv (i + 1), bk := En.nx } σ2 H2) (hd : ∀ σ H, Pv xs.length σ H → En.nx σ H) :
    ∃ W : Nat → Nat → L2.St → Hp → Prop, (∃ m, W 0 m σ H) ∧ ∀ i m σ H, W i m σ H →
      ((Ite K a).stop i H ∧ En.nx σ H) ∨ ((Ite K a).go i H ∧ ∃ N : L2.St → Hp → Prop, (∀ σ' H', N σ' H' → ∃ m', m' < m ∧ W (i + 1) m' σ' H') ∧ ∀ x H', (Ite K a).yld i H x H' → g x σ H' fun σ2 H2 => tb { En with nx := N, ct := N, bk := En.nx } σ2 H2) := by
  refine ⟨fun i m σ H => m = xs.length - i ∧ i ≤ xs.length ∧ Pv i σ H, ⟨xs.length, by simp, Nat.zero_le _, h0⟩, ?_⟩
  rintro i m σ H ⟨rfl, hi, p⟩
  have q := hl i σ H hi p
  by_cases hlt : i < xs.length
  · refine .inr ⟨⟨xs, xs[i], q, List.getElem?_eq_getElem hlt⟩, Pv (i + 1), fun σ' H' p' => ⟨xs.length - (i + 1), by omega, rfl, hlt, p'⟩, fun x H' y => ?_⟩
    obtain ⟨T, z, rfl, hT, rfl, hz⟩ := y
    exact hs i z T σ H (hz xs q) hlt hT p
  · have e : i = xs.length := by omega
    subst e
    exact .inl ⟨⟨xs, q, Nat.le_refl _⟩, hd σ H p⟩
end
/-! ### a list that grows beside the bag: it stands outermost -/
section
variable {K : PySem.W.Frag} {H1 H : Hp} {Q : VK} {p b : Addr} {acc ys : List V} {o : HO} {y : V} {C : Prop}
theorem newD (B : Bag K H1 b ys) (hp : (upd H1 b (.lst ys)) p = none) (hC : C) (q : ∀ r H2, Same H1 H2 → H2 r = some o → Bag K H2 b ys → (upd H2 b (.lst ys)) p = none → Q (.ref r) (upd (upd H2 b (.lst ys)) p (.lst acc))) :
    NewO C o (upd (upd H1 b (.lst ys)) p (.lst acc)) Q := by
  refine ⟨hC, fun r hr => ?_⟩
  have ne : r ≠ p := fun e => by
    rw [e, upd_same] at hr
    cases hr
  rw [upd_ne ne] at hr
  have nb : r ≠ b := fun e => by
    rw [e, upd_same] at hr
    cases hr
  rw [upd_ne nb] at hr
  have hpb : p ≠ b := fun e => by
    rw [e, upd_same] at hp
    cases hp
  rw [upd_comm (H := upd H1 b (.lst ys)) (Ne.symm ne), upd_comm (H := H1) (Ne.symm nb)]
  refine q r (upd H1 r o) (same_new hr) upd_same (B.same (same_new hr) (by rw [upd_ne (Ne.symm nb)]; exact B.off)) ?_
  rw [upd_ne hpb] at hp ⊢
  rw [upd_ne (Ne.symm ne)]
  exact hp
theorem toB (o : HO) (B : Bag K H1 b ys) (hp : (upd H1 b (.lst ys)) p = none) : ∃ H', Same H1 H' ∧ H' p = some o ∧ Bag K H' b ys ∧ upd (upd H1 b (.lst ys)) p o = upd H' b (.lst ys) := by
  have ne : p ≠ b := fun e => by
    rw [e, upd_same] at hp
    cases hp
  rw [upd_ne ne] at hp
  exact ⟨upd H1 p o, same_new hp, upd_same, B.same (same_new hp) (by rw [upd_ne (Ne.symm ne)]; exact B.off), upd_comm (Ne.symm ne)⟩
theorem Bag.seeD (B : Bag K H1 b ys) (hp : (upd H1 b (.lst ys)) p = none) : Same H1 (upd (upd H1 b (.lst ys)) p o) := B.see.trans (same_new hp)
end
/-! ### stories -/
/-- calls of a row whose last place is l -/
def Sto (l : Int) (ns : List Int) : Prop := ∀ i (h : i < ns.length), 0 ≤ ns[i] ∧ ns[i] ≤ l * 2 ^ i
theorem sto_nil (l : Int) : Sto l [] := fun i h => absurd h (by simp)
theorem sto_cons {l n : Int} {ns : List Int} : Sto l (n :: ns) ↔ (0 ≤ n ∧ n ≤ l) ∧ Sto (2 * l) ns := by
  constructor
  · intro h
    refine ⟨?_, fun i hi => ?_⟩
    · have z := h 0 (by simp)
      rw [Int.pow_zero, Int.mul_one] at z
      exact z
    · have z := h (i + 1) (by simpa using hi)
      rw [Int.pow_succ, Int.mul_comm ((2 : Int) ^ i) 2, ← Int.mul_assoc, Int.mul_comm l 2] at z
      exact z
  · rintro ⟨h0, h⟩ i hi
    cases i with
    | zero =>
      rw [Int.pow_zero, Int.mul_one]
      exact h0
    | succ i =>
      have z := h i (by simpa using hi)
      rw [Int.pow_succ, Int.mul_comm ((2 : Int) ^ i) 2, ← Int.mul_assoc, Int.mul_comm l 2]
      exact z
theorem sto_snoc {l n : Int} {ns : List Int} (h : Sto l ns) (h0 : 0 ≤ n) (h1 : n ≤ l * 2 ^ ns.length) : Sto l (ns ++ [n]) := fun i hi => by
  by_cases c : i < ns.length
  · rw [List.getElem_append_left c]
    exact h i c
  · rw [List.length_append, List.length_singleton] at hi
    have e : i = ns.length := by omega
    subst e
    rw [List.getElem_append_right (Nat.le_refl _)]
    simpa using ⟨h0, h1⟩
theorem pow_le {i j : Nat} (h : i ≤ j) : (2 : Int) ^ i ≤ 2 ^ j := by
  have := Nat.pow_le_pow_right (show 0 < 2 by decide) h
  exact_mod_cast this
theorem pow_pos (i : Nat) : (1 : Int) ≤ 2 ^ i := by
  have := Nat.one_le_two_pow (n := i)
  exact_mod_cast this
/-- a doubled last place stays below a great number -/
theorem dbl_lt {l : Int} {i : Nat} (h0 : 0 ≤ l) (h : l ≤ 10 ^ 100) (hi : i ≤ 100) : 0 ≤ l * 2 ^ i ∧ l * 2 ^ i ≤ 10 ^ 131 := by
  refine ⟨Int.mul_nonneg h0 (by have := pow_pos i; omega), Int.le_trans (Int.mul_le_mul h (pow_le hi) (by have := pow_pos i; omega) (by decide)) (by decide +kernel)⟩
/-- the law's doubling -/
def sp_zdoubled (K : PySem.W.Frag) : Sp := sp2 fun x y H Q _ => ∃ (l k : Int), x = .int l ∧ y = .int k ∧ 0 ≤ l ∧ l ≤ 10 ^ 100 ∧ 0 ≤ k ∧ k ≤ 100 ∧ Q (.int (l * 2 ^ k.toNat)) H
/-- a story drawn -/
def sp_story (K : PySem.W.Frag) : Sp := sp3 fun x y z H Q _ => ∃ (b : Addr) (H0 : Hp) (ys : List V) (l k : Int), x = .ref b ∧ y = .int l ∧ z = .int k ∧ H = upd H0 b (.lst ys) ∧ Bag K H0 b ys ∧ 0 ≤ l ∧ l ≤ 10 ^ 100 ∧ 0 ≤ k ∧ k ≤ 100 ∧
  ∀ (H' : Hp) (zs : List V) (p : Addr) (ns : List Int), Same H0 H' → Bag K H' b zs → H' p = some (.lst (ns.map V.int)) → H0 p = none → Sto l ns → (ns.length : Int) = k → Q (.ref p) (upd H' b (.lst zs))
def t_zdoubled (K : PySem.W.Frag) : TS :=
  (tSeq (tFor (iRng1 (tCons (tVar 1) tNil)) (gName 2)
  (tAsg (tOp rTimes (tC (.int 2)) (tVar 0)) (gName 0)))
  (tRet (tVar 0)))
theorem pu_zdoubled {K : PySem.W.Frag} (vs : List V) (H : Hp) (Q : VK) (E : XK) (h : sp_zdoubled K vs H Q E) : t_zdoubled K { nx := fun _ H' => Q .non H', rt := Q } (start ["_law_last", "_law_calls", "_law_k"] vs) H := by
  obtain ⟨_, _, rfl, l, k, rfl, rfl, l0, l1, k0, k1, hQ⟩ := h
  unfold t_zdoubled
  repeat' walk_at "s"
  refine s_rn1 (by omega) (by omega) ?_
  refine for_range (fun i σ H' => H' = H ∧ ∃ x2, σ = [some (.int (l * 2 ^ i)), some (.int k), x2]) ⟨rfl, none, by rw [Int.pow_zero, Int.mul_one]; rfl⟩ (fun i σ H' hi z => ?_) fun σ H' z => ?_
  · obtain ⟨rfl, x2, rfl⟩ := z
    have hb := dbl_lt l0 l1 (i := i) (by omega)
    repeat' walk_at "s"
    refine s_mulI (mulW (by omega) (by omega)) ?_
    repeat' walk_at "s"
    have e : 2 * (l * 2 ^ i) = l * 2 ^ (i + 1) := by rw [Int.pow_succ, Int.mul_comm 2 (l * 2 ^ i), Int.mul_assoc]
    rw [e]
    exact ⟨rfl, _, rfl⟩
  · obtain ⟨rfl, x2, rfl⟩ := z
    repeat' walk_at "s"
    exact hQ
def t_story (K : PySem.W.Frag) : TS :=
  (tSeq (tAsg (tLst tNil) (gName 3))
  (tSeq (tFor (iRng1 (tCons (tVar 2) tNil)) (gName 4)
  (tSeq (tAsg (tIf (tTest (tOp (rDiff K) (tVar 3) (tLst tNil))) (tOp rTimes (tC (.int 2)) (tOp (rIx K) (tVar 3) (tUn (rU fun i => .int (-i)) (tC (.int 1))))) (tC (.int 0))) (gName 5))
  (tSeq (tAsg (tLst (tCons (tC (.int 0)) (tCons (tVar 1) (tCons (tOp rDiv (tVar 1) (tC (.int 2))) (tCons (tVar 5) (tCons (gCall (sp_take K) E1 (tCons (tVar 0) (tCons (tOp (rPlus K) (tVar 1) (tC (.int 1))) tNil))) (tCons (gCall (sp_take K) E1 (tCons (tVar 0) (tCons (tOp (rPlus K) (tVar 1) (tC (.int 1))) tNil))) tNil))))))) (gName 6))
  (tSeq (tDrop (tBM K "list" rAppend (tVar 3) (tCons (tOp (rIx K) (tVar 6) (gCall (sp_take K) E1 (tCons (tVar 0) (tCons (tC (.int 6)) tNil)))) tNil)))
  (tAsg (tOp rTimes (tC (.int 2)) (tVar 1)) (gName 1))))))
  (tRet (tVar 3))))
theorem pu_story {K : PySem.W.Frag} (vs : List V) (H : Hp) (Q : VK) (E : XK) (h : sp_story K vs H Q E) : t_story K { nx := fun _ H' => Q .non H', rt := Q } (start ["_law_bag_here", "_law_last", "_law_calls", "_law_found", "_law_k", "_law_again", "_law_some"] vs) H := by
  obtain ⟨_, _, _, rfl, b, H0, ys, l, k, rfl, rfl, rfl, rfl, B, l0, l1, k0, k1, hQ⟩ := h
  unfold t_story
  repeat' walk_at "s"
  refine ⟨sz_of rfl, fun p hp => ?_⟩
  repeat' walk_at "s"
  refine s_rn1 (by omega) (by omega) ?_
  have p0 : H0 p = none := by
    by_cases e : p = b
    · rw [e]; exact B.off
    · rw [upd_ne e] at hp; exact hp
  refine for_range (fun i σ H' => ∃ (H1 : Hp) (ys : List V) (ns : List Int) (x4 x5 x6 : Option V), Same H0 H1 ∧ Bag K H1 b ys ∧ (upd H1 b (.lst ys)) p = none ∧ Sto l ns ∧ ns.length = i ∧ H' = upd (upd H1 b (.lst ys)) p (.lst (ns.map V.int)) ∧ σ = [some (.ref b), some (.int (l * 2 ^ i)), some (.int k), some (.ref p), x4, x5, x6])
    ⟨H0, ys, [], _, _, _, Same.refl _, B, hp, sto_nil l, rfl, rfl, by rw [Int.pow_zero, Int.mul_one]; rfl⟩ (fun i σ H' hi z => ?_) fun σ H' z => ?_
  · clear B hp ys
    obtain ⟨H1, ys, ns, x4, x5, x6, e1, B, hp, hst, hl, rfl, rfl⟩ := z
    have hb := dbl_lt l0 l1 (i := i) (by omega)
    generalize hL : l * 2 ^ i = L at hb
    repeat' walk_at "e"
    with_reducible refine s_seqR (fun σ H => ∃ (H1 : Hp) (x5 : Int), Same H0 H1 ∧ Bag K H1 b ys ∧ (upd H1 b (.lst ys)) p = none ∧ H = upd (upd H1 b (.lst ys)) p (.lst (ns.map V.int)) ∧ 0 ≤ x5 ∧ x5 ≤ L ∧ σ = [some (.ref b), some (.int L), some (.int k), some (.ref p), some (.int (0 + (i : Nat))), some (.int x5), x6]) (fun σ H z => ?_) fun N hN => ?_
    · clear e1 B hp H1
      obtain ⟨H1, x5, e1, B, hp, rfl, h50, h51, rfl⟩ := z
      repeat' walk_at "s"
      refine s_div ⟨by decide, by decide⟩ ?_
      repeat' walk_at "s"
      refine s_takeD B hp (by omega) (lg (by omega) (by omega)) ?_
      intro r1 ys a1 a2 B hp
      repeat' walk_at "s"
      refine s_takeD B hp (by omega) (lg (by omega) (by omega)) ?_
      intro r2 ys b1 b2 B hp
      repeat' walk_at "s"
      refine newD B hp (sz_of rfl) fun q H2 e2 hq B hp => ?_
      repeat' walk_at "s"
      refine s_tyL (SqL.of upd_same) ?_
      repeat' walk_at "s"
      refine s_takeD B hp (by decide) (lg (by decide) (by decide)) ?_
      intro r3 ys c1 c2 B hp
      repeat' walk_at "s"
      refine s_pickP (fun x => ∃ s : Int, x = .int s ∧ 0 ≤ s ∧ s ≤ L) (B.seeD hp _ _ hq) c1 c2 (fun x hx => ?_) fun x hx => ?_
      · simp only [List.mem_cons, List.not_mem_nil, or_false] at hx
        rcases hx with rfl | rfl | rfl | rfl | rfl | rfl
        all_goals exact ⟨_, rfl, by omega, by omega⟩
      obtain ⟨s, rfl, s0, s1⟩ := hx
      repeat' walk_at "s"
      refine s_app upd_same (by rw [List.length_map, sizeLine_eq]; omega) ?_
      rw [upd_upd]
      repeat' walk_at "s"
      refine s_mulI (mulW (by omega) (by omega)) ?_
      repeat' walk_at "s"
      have e : 2 * L = l * 2 ^ (i + 1) := by rw [Int.pow_succ, ← Int.mul_assoc, hL, Int.mul_comm L 2]
      rw [e]
      exact ⟨H2, ys, ns ++ [s], _, _, _, e1.trans e2, B, hp, sto_snoc hst s0 (by rw [hl, hL]; exact s1), by rw [List.length_append, hl]; rfl, by rw [List.map_append]; rfl, rfl⟩
    · repeat' walk_at "s"
      refine newD B hp (sz_of rfl) fun q H2 e2 hq B hp => ?_
      refine s_neLI (xs := ns) (ys := []) (SqL.of upd_same) (SqL.of (B.seeD hp _ _ hq)) ?_
      repeat' walk_at "s"
      refine s_ifn (fun c => ?_) fun c => ?_
      · obtain ⟨ms, m, rfl⟩ : ∃ ms m, ns = ms ++ [m] := ⟨ns.dropLast, ns.getLast c, (List.dropLast_concat_getLast c).symm⟩
        rw [List.length_append, List.length_singleton] at hl
        have hm := hst ms.length (by rw [List.length_append, List.length_singleton]; omega)
        rw [List.getElem_append_right (Nat.le_refl _)] at hm
        simp only [Nat.sub_self, List.getElem_cons_zero] at hm
        have hL2 : L = 2 * (l * 2 ^ ms.length) := by
          rw [← hL, ← hl, Int.pow_succ, ← Int.mul_assoc, Int.mul_comm 2]
        repeat' walk_at "s"
        refine s_ixL (v := .int m) (SqL.of upd_same) (by rw [List.map_append]; exact atI_last _ _) ?_
        repeat' walk_at "s"
        refine s_mulI (mulW (by omega) (by omega)) ?_
        repeat' walk_at "s"
        exact hN _ _ ⟨H2, _, e1.trans e2, B, hp, rfl, by omega, by omega, rfl⟩
      · repeat' walk_at "s"
        exact hN _ _ ⟨H2, _, e1.trans e2, B, hp, rfl, by omega, by omega, rfl⟩
  · obtain ⟨H1, ys, ns, x4, x5, x6, e1, B, hp, hst, hl, rfl, rfl⟩ := z
    obtain ⟨H2, e2, h2, B, eq⟩ := toB (.lst (ns.map V.int)) B hp
    rw [eq]
    repeat' walk_at "s"
    exact hQ _ _ _ _ (e1.trans e2) B h2 p0 hst (by omega)
end
section
/-- one step of a reading (e: none past a statement's end) -/
local macro_rules
  | `(tactic| walk_at "e") => `(tactic| first
    | with_reducible refine s_ifs ?_
    | with_reducible refine s_test ?_
    | with_reducible refine s_truth ?_
    | with_reducible refine s_op ?_
    | with_reducible refine s_un ?_
    | with_reducible refine s_asg ?_
    | with_reducible refine s_ret ?_
    | with_reducible refine s_next ?_
    | with_reducible refine s_drop ?_
    | with_reducible refine s_c ?_
    | ((with_reducible refine s_var (v := ?v) ?e ?q); case e => exact rfl)
    | with_reducible refine s_name ?_
    | with_reducible refine s_exq ?_
    | with_reducible refine s_cons ?_
    | with_reducible refine s_nil ?_
    | with_reducible refine s_lst ?_
    | with_reducible refine s_tup ?_
    | with_reducible refine s_cb ?_
    | with_reducible refine s_call ?_
    | with_reducible refine s_and ?_
    | with_reducible refine s_or ?_
    | with_reducible refine s_not ?_
    | with_reducible refine s_andV ?_
    | with_reducible refine s_orV ?_
    | with_reducible refine s_notV ?_
    | with_reducible refine s_ife ?_
    | with_reducible refine s_chain ?_
    | with_reducible refine s_addI ?_
    | with_reducible refine s_sub ?_
    | with_reducible refine s_neg ?_
    | with_reducible refine s_eqI ?_
    | with_reducible refine s_eqX ?_
    | with_reducible refine s_eqT ?_
    | with_reducible refine s_eqB ?_
    | with_reducible refine s_eqNI ?_
    | with_reducible refine s_eqIN ?_
    | with_reducible refine s_eqNN ?_
    | with_reducible refine s_neI ?_
    | with_reducible refine s_neX ?_
    | with_reducible refine s_neT ?_
    | with_reducible refine s_neB ?_
    | with_reducible refine s_lt ?_
    | with_reducible refine s_le ?_
    | with_reducible refine s_gt ?_
    | with_reducible refine s_ge ?_
    | with_reducible refine s_isN ?_
    | with_reducible refine s_isS ?_
    | with_reducible refine s_truB ?_
    | with_reducible refine s_truI ?_
    | with_reducible refine s_truN ?_
    | with_reducible refine s_abs ?_
    | with_reducible refine s_min2 ?_
    | with_reducible refine s_max2 ?_
    | with_reducible refine s_intI ?_
    | with_reducible refine s_intB ?_
    | with_reducible refine s_ifT ?_
    | with_reducible refine s_ifF ?_
    | with_reducible refine s_ifnT ?_
    | with_reducible refine s_ifnF ?_
    | with_reducible refine s_gSub ?_
    | with_reducible refine s_gTup ?_
    | with_reducible refine s_augS ?_
    | ((with_reducible refine s_aug (x := ?v) ?e ?q); case e => exact rfl)
    | with_reducible refine s_yes ?_
    | with_reducible refine s_par ?_
    | with_reducible refine s_two ?_
    | with_reducible refine s_m1 ?_
    | with_reducible refine s_isstr ?_
    | with_reducible refine s_rev0 ?_
    | with_reducible refine s_gCons ?_
    | with_reducible refine s_gNil ?_
    | with_reducible refine s_ipI ?_
    | with_reducible refine s_ipA ?_
    | with_reducible refine s_sl ?_
    | with_reducible refine s_noPart ?_
    | with_reducible refine s_part ?_
    | with_reducible refine s_parte ?_
    | with_reducible refine s_for ?_
    | with_reducible refine s_lc ?_
    | with_reducible refine s_iL ?_
    | with_reducible refine s_iE ?_
    | with_reducible refine s_iS ?_
    | with_reducible refine s_iT ?_
    | with_reducible refine s_itS ?_
    | with_reducible refine s_iR1 ?_
    | with_reducible refine s_iR2 ?_
    | with_reducible refine s_iR3 ?_
    | with_reducible refine s_rg1 ?_
    | with_reducible refine s_rg2 ?_
    | with_reducible refine s_rg1e ?_
    | with_reducible refine s_rg2e ?_
    | with_reducible refine s_lrg ?_
    | with_reducible refine s_lr3 ?_
    | with_reducible refine s_bm ?_
    | with_reducible refine s_bm0 ?_
    | with_reducible refine s_retN ?_)
  | `(tactic| walk_at "s") => `(tactic| first
    | with_reducible refine s_seq ?_
    | walk_at "e")

/-! ### calls one after another -/
def fol (l : List Nat) (ns : List Int) : List Nat := ns.foldl (fun r n => mk r n.toNat) l
theorem fol_app (l : List Nat) (a c : List Int) : fol l (a ++ c) = fol (fol l a) c := List.foldl_append
theorem sto_take {l : Int} {ns : List Int} (h : Sto l ns) (i : Nat) : Sto l (ns.take i) := fun j hj => by
  rw [List.getElem_take]
  exact h j (by rw [List.length_take] at hj; omega)
theorem sto_drop {l : Int} {ns : List Int} (h : Sto l ns) (i : Nat) : Sto (l * 2 ^ i) (ns.drop i) := fun j hj => by
  rw [List.getElem_drop]
  have z := h (i + j) (by rw [List.length_drop] at hj; omega)
  rw [Int.pow_add, ← Int.mul_assoc] at z
  exact z
theorem fol_len : ∀ {ns : List Int} {l : List Nat}, 1 ≤ l.length → Sto ((l.length : Int) - 1) ns → ((fol l ns).length : Int) = ((l.length : Int) - 1) * 2 ^ ns.length + 1
  | [], l, _, _ => by
    show (l.length : Int) = ((l.length : Int) - 1) * 2 ^ 0 + 1
    rw [Int.pow_zero]
    omega
  | n :: r, l, h, s => by
    obtain ⟨⟨h0, h1⟩, s⟩ := sto_cons.mp s
    have hm := mk_len (l := l) (k := n.toNat) (by omega)
    have e : ((mk l n.toNat).length : Int) - 1 = 2 * ((l.length : Int) - 1) := by omega
    have z := fol_len (ns := r) (l := mk l n.toNat) (by omega) (by rw [e]; exact s)
    show ((fol (mk l n.toNat) r).length : Int) = _
    rw [z, e, List.length_cons, Int.pow_succ, Int.mul_comm 2, Int.mul_assoc, Int.mul_comm 2]
theorem fol_low : ∀ {ns : List Int} {l : List Nat}, Low l → Low (fol l ns)
  | [], _, h => h
  | n :: r, l, h => fol_low (ns := r) (mk_low h)
theorem nice_strs {ls : List (List Nat)} {n : Nat} (h : ∀ l ∈ ls, Low l ∧ l.length ≤ 1000) (hn : ls.length ≤ n) (hz : n ≤ 1000) : Nice (.list (ls.map fun l => .str (tx l))) := by
  refine Bd.nice (bd_list (c := 10002) (k := 0) (n := n) (fun d hd => ?_) (by rw [List.length_map]; exact hn)) (by omega) (by omega)
  obtain ⟨l, hl, rfl⟩ := List.mem_map.mp hd
  obtain ⟨h1, h2⟩ := h l hl
  exact (bd_str (n := 1000) (by rw [tx_len]; exact h2) fun c hc => by have := h1 c hc; omega).mono (by omega) (Nat.le_refl _)
theorem dp_txs {K : PySem.W.Frag} {H : Hp} {a : Addr} {ls : List (List Nat)} (h : SqL K H a (ls.map fun l => V.str (tx l))) : Dp K H (.ref a) (.list (ls.map fun l => .str (tx l))) := .lst h (dpAll_map _ _ (fun l => .str (tx l)) ls)
/-! lists cut, copied, changed -/
section
variable {K : PySem.W.Frag} {H H0 : Hp} {Q : VK} {E : XK} {a b p : Addr} {xs ys : List V} {lo hi : Option Int} {o : HO} {C : Prop}
theorem cutV_to {xs : List V} {k : Int} (h : 0 ≤ k) : cutV xs none (some k) = xs.take k.toNat := by
  obtain ⟨m, rfl⟩ : ∃ m : Nat, k = m := ⟨k.toNat, by omega⟩
  unfold cutV
  rw [HT.sIx_nat, HT.sIx_none, List.drop_zero, Nat.sub_zero, Int.toNat_natCast]
  by_cases h : m ≤ xs.length
  · rw [Nat.min_eq_left h]
  · rw [Nat.min_eq_right (by omega), List.take_of_length_le (Nat.le_refl _), List.take_of_length_le (by omega)]
theorem cutV_from {xs : List V} {k : Int} (h : 0 ≤ k) : cutV xs (some k) none = xs.drop k.toNat := by
  obtain ⟨m, rfl⟩ : ∃ m : Nat, k = m := ⟨k.toNat, by omega⟩
  unfold cutV
  rw [HT.sIx_nat, HT.sIx_none, Int.toNat_natCast]
  by_cases h : m ≤ xs.length
  · rw [Nat.min_eq_left h, List.take_of_length_le (by rw [List.length_drop]; omega)]
  · rw [Nat.min_eq_right (by omega), List.drop_of_length_le (Nat.le_refl _), List.drop_of_length_le (by omega)]
    simp
theorem s_cutN (h : SqL K H a xs) (q : NewO True (.lst (cutV xs lo hi)) H Q) : rCut K (.ref a) lo hi H Q := s_cutL h q.2
theorem s_listN (h : SqL K H a xs) (q : NewO True (.lst xs) H Q) : rListOf K [.ref a] H Q := .inl ⟨a, xs, rfl, .inl h, q.2⟩
theorem s_listX {l : List Nat} (h : l.length ≤ 16777216) (q : NewO True (.lst (l.map fun c => V.str (tx [c]))) H Q) : rListOf K [.str (tx l)] H Q := .inr ⟨tx l, rfl, by rw [tx_len, sizeLine_eq]; exact h, q.2⟩
/-- as newB, with the place's freshness -/
theorem newF (B : Bag K H0 b ys) (hC : C) (q : ∀ p H', H0 p = none → Same H0 H' → H' p = some o → Bag K H' b ys → Q (.ref p) (upd H' b (.lst ys))) : NewO C o (upd H0 b (.lst ys)) Q :=
  ⟨hC, bag_new B fun p hp _ B' => q p _ hp (same_new hp) upd_same B'⟩
/-- a list changed that the bag may look at -/
theorem bag_chg {xs' : List V} (B : Bag K H b ys) (h : H p = some (.lst xs)) (hx : ∀ ns : List Int, xs = ns.map V.int → ns.length ≤ 1000 → (∀ m ∈ ns, 0 ≤ m) → ∃ ms : List Int, xs' = ms.map V.int ∧ (∀ m ∈ ms, 0 ≤ m) ∧ ms.length ≤ 1000) : Bag K (upd H p (.lst xs')) b ys := by
  obtain ⟨off, c, a0, a1, a2, ns, rfl, hS, hn, hl, r⟩ := B
  have nb : b ≠ p := fun e => by
    rw [e, h] at off
    cases off
  have hoff : upd H p (.lst xs') b = none := by rw [upd_ne nb]; exact off
  by_cases e : c = p
  · subst e
    rcases hS with (z | ⟨o, z⟩) | z
    · rw [h] at z
      cases z
      obtain ⟨ms, rfl, h1, h2⟩ := hx ns rfl hl hn
      exact ⟨hoff, c, a0, a1, a2, ms, rfl, SqL.of upd_same, h1, h2, r⟩
    · rw [h] at z
      cases z
    · exact ⟨hoff, c, a0, a1, a2, ns, rfl, .inr z, hn, hl, r⟩
  · refine ⟨hoff, c, a0, a1, a2, ns, rfl, ?_, hn, hl, r⟩
    rcases hS with (z | ⟨o, z⟩) | z
    · exact .inl (.inl (by rw [upd_ne e]; exact z))
    · exact .inl (.inr ⟨o, by rw [upd_ne e]; exact z⟩)
    · exact .inr z
theorem upd_out {u : HO} (B : Bag K H b ys) (h : H p = some o) : upd (upd H b (.lst ys)) p u = upd (upd H p u) b (.lst ys) := upd_comm fun e => by
  have z := B.off
  rw [e, h] at z
  cases z
end
def sp_follow (K : PySem.W.Frag) : Sp := sp2 fun x y H Q _ => ∃ (l : List Nat) (p : Addr) (ns : List Int), x = .str (tx l) ∧ y = .ref p ∧ SqL K H p (ns.map V.int) ∧ 2 ≤ l.length ∧ Sto ((l.length : Int) - 1) ns ∧ ((l.length : Int) - 1) * 2 ^ ns.length + 1 ≤ 1000 ∧
  ∀ H', Same H H' → Q (.str (tx (fol l ns))) H'
theorem s_fol {K : PySem.W.Frag} {H : Hp} {Q : VK} {E : XK} {l : List Nat} {p : Addr} {ns : List Int} (hp : SqL K H p (ns.map V.int)) (h2 : 2 ≤ l.length) (hs : Sto ((l.length : Int) - 1) ns) (hb : ((l.length : Int) - 1) * 2 ^ ns.length + 1 ≤ 1000) (q : ∀ H', Same H H' → Q (.str (tx (fol l ns))) H') :
    sp_follow K [.str (tx l), .ref p] H Q E := ⟨_, _, rfl, l, p, ns, rfl, rfl, hp, h2, hs, hb, q⟩
def t_follow (K : PySem.W.Frag) : TS :=
  (tSeq (tAsg (tOp rMinus (tCB (rLen K) (tCons (tVar 0) tNil)) (tC (.int 1))) (gName 2))
  (tSeq (tFor (iEnum K (tCons (tVar 1) tNil)) (gTup K 2 (gCons (gName 3) (gCons (gName 4) gNil)))
  (tSeq (tIfS (tNot (tTest (tChain rLessE rLessE (tC (.int 0)) (tVar 4) (tVar 2)))) tNever tNext)
  (tAsg (tOp rTimes (tC (.int 2)) (tVar 2)) (gName 2))))
  (tSeq (tIfS (tTest (tOp rMore (tOp (rPlus K) (tVar 2) (tC (.int 1))) (tC (.int 1000)))) tNever tNext)
  (tSeq (tFor (iList K (tVar 1)) (gName 4)
  (tAsg (gCall (sp_made K) E1 (tCons (tVar 0) (tCons (tVar 4) tNil))) (gName 0)))
  (tRet (tVar 0))))))
theorem pu_follow {K : PySem.W.Frag} (vs : List V) (H : Hp) (Q : VK) (E : XK) (h : sp_follow K vs H Q E) : t_follow K { nx := fun _ H' => Q .non H', rt := Q } (start ["row", "calls", "last", "at", "place"] vs) H := by
  obtain ⟨_, _, rfl, l, p, ns, rfl, rfl, hp, l0, hst, hb, hQ⟩ := h
  have hb1 : ∀ i, i ≤ ns.length → ((l.length : Int) - 1) * 2 ^ i ≤ 999 ∧ 1 ≤ ((l.length : Int) - 1) * 2 ^ i := fun i hi => by
    have h1 : ((l.length : Int) - 1) * 2 ^ i ≤ ((l.length : Int) - 1) * 2 ^ ns.length := Int.mul_le_mul_of_nonneg_left (pow_le hi) (by omega)
    have h2 : ((l.length : Int) - 1) * 1 ≤ ((l.length : Int) - 1) * 2 ^ i := Int.mul_le_mul_of_nonneg_left (pow_pos i) (by omega)
    omega
  have hb0 := hb1 0 (Nat.zero_le _)
  rw [Int.pow_zero, Int.mul_one] at hb0
  unfold t_follow
  repeat' walk_at "s"
  refine s_lenX (by omega) ?_
  repeat' walk_at "s"
  refine s_itE hp ?_
  refine forE (xs := ns.map V.int) (fun i σ H' => Same H H' ∧ ∃ x3 x4, σ = [some (.str (tx l)), some (.ref p), some (.int (((l.length : Int) - 1) * 2 ^ i)), x3, x4]) ⟨Same.refl _, none, none, by rw [Int.pow_zero, Int.mul_one]; rfl⟩ (fun i σ H' _ z => z.1.seq hp) (fun i x T σ H' hx hi hT z => ?_) fun σ H' z => ?_
  · obtain ⟨e, x3, x4, rfl⟩ := z
    rw [List.length_map] at hi
    obtain ⟨n, rfl, hn⟩ := int_at hx
    have hn2 : n = ns[i] := by
      rw [List.getElem?_eq_getElem hi] at hn
      exact (Option.some.inj hn).symm
    have hs := hst i hi
    rw [← hn2] at hs
    have hbi := hb1 i (by omega)
    refine s_gTup (SqT.of upd_same) rfl ?_
    repeat' walk_at "s"
    refine s_if (fun _ => ?_) fun z => absurd hs.1 z
    repeat' walk_at "s"
    refine s_ifn (fun z => absurd hs.2 z) fun _ => ?_
    repeat' walk_at "s"
    refine s_mulI (mulW (by omega) (by omega)) ?_
    repeat' walk_at "s"
    have e2 : 2 * (((l.length : Int) - 1) * 2 ^ i) = ((l.length : Int) - 1) * 2 ^ (i + 1) := by rw [Int.pow_succ, Int.mul_comm 2 (((l.length : Int) - 1) * 2 ^ i), Int.mul_assoc]
    rw [e2]
    exact ⟨e.trans (same_new hT), _, _, rfl⟩
  · obtain ⟨e, x3, x4, rfl⟩ := z
    rw [List.length_map]
    have hbn := hb1 ns.length (Nat.le_refl _)
    repeat' walk_at "s"
    refine s_if (fun z => by omega) fun _ => ?_
    repeat' walk_at "s"
    have hp' := e.seq hp
    refine s_itL hp' ?_
    refine for_list (xs := ns.map V.int) (fun i σ H2 => H2 = H' ∧ ∃ x2 x4, σ = [some (.str (tx (fol l (ns.take i)))), some (.ref p), x2, x3, x4]) ⟨rfl, _, _, rfl⟩ (fun i σ H2 _ z => by rw [z.1]; exact hp') (fun i x σ H2 hx z => ?_) fun σ H2 z => ?_
    · obtain ⟨rfl, x2, x4, rfl⟩ := z
      obtain ⟨n, rfl, hn⟩ := int_at hx
      have hi : i < ns.length := (List.getElem?_eq_some_iff.mp hn).1
      have hn2 : n = ns[i] := ((List.getElem?_eq_some_iff.mp hn).2).symm
      have hs := hst i hi
      rw [← hn2] at hs
      have hl := fol_len (l := l) (by omega) (sto_take hst i)
      have hbi := hb1 i (by omega)
      rw [List.length_take, Nat.min_eq_left (by omega)] at hl
      repeat' walk_at "s"
      refine s_mk hs.1 (by omega) (by omega) ?_
      repeat' walk_at "s"
      have e3 : fol l (ns.take (i + 1)) = mk (fol l (ns.take i)) n.toNat := by
        rw [List.take_add_one, hn, fol_app]
        rfl
      rw [e3]
      exact ⟨rfl, _, _, rfl⟩
    · obtain ⟨rfl, x2, x4, rfl⟩ := z
      rw [List.length_map, List.take_of_length_le (Nat.le_refl _)]
      repeat' walk_at "s"
      exact hQ _ e
end
section
/-- one step of a reading (e: none past a statement's end) -/
local macro_rules
  | `(tactic| walk_at "e") => `(tactic| first
    | with_reducible refine s_ifs ?_
    | with_reducible refine s_test ?_
    | with_reducible refine s_truth ?_
    | with_reducible refine s_op ?_
    | with_reducible refine s_un ?_
    | with_reducible refine s_asg ?_
    | with_reducible refine s_ret ?_
    | with_reducible refine s_next ?_
    | with_reducible refine s_drop ?_
    | with_reducible refine s_c ?_
    | ((with_reducible refine s_var (v := ?v) ?e ?q); case e => exact rfl)
    | with_reducible refine s_name ?_
    | with_reducible refine s_exq ?_
    | with_reducible refine s_cons ?_
    | with_reducible refine s_nil ?_
    | with_reducible refine s_lst ?_
    | with_reducible refine s_tup ?_
    | with_reducible refine s_cb ?_
    | with_reducible refine s_call ?_
    | with_reducible refine s_and ?_
    | with_reducible refine s_or ?_
    | with_reducible refine s_not ?_
    | with_reducible refine s_andV ?_
    | with_reducible refine s_orV ?_
    | with_reducible refine s_notV ?_
    | with_reducible refine s_ife ?_
    | with_reducible refine s_chain ?_
    | with_reducible refine s_addI ?_
    | with_reducible refine s_sub ?_
    | with_reducible refine s_neg ?_
    | with_reducible refine s_eqI ?_
    | with_reducible refine s_eqX ?_
    | with_reducible refine s_eqT ?_
    | with_reducible refine s_eqB ?_
    | with_reducible refine s_eqNI ?_
    | with_reducible refine s_eqIN ?_
    | with_reducible refine s_eqNN ?_
    | with_reducible refine s_neI ?_
    | with_reducible refine s_neX ?_
    | with_reducible refine s_neT ?_
    | with_reducible refine s_neB ?_
    | with_reducible refine s_lt ?_
    | with_reducible refine s_le ?_
    | with_reducible refine s_gt ?_
    | with_reducible refine s_ge ?_
    | with_reducible refine s_isN ?_
    | with_reducible refine s_isS ?_
    | with_reducible refine s_truB ?_
    | with_reducible refine s_truI ?_
    | with_reducible refine s_truN ?_
    | with_reducible refine s_abs ?_
    | with_reducible refine s_min2 ?_
    | with_reducible refine s_max2 ?_
    | with_reducible refine s_intI ?_
    | with_reducible refine s_intB ?_
    | with_reducible refine s_ifT ?_
    | with_reducible refine s_ifF ?_
    | with_reducible refine s_ifnT ?_
    | with_reducible refine s_ifnF ?_
    | with_reducible refine s_gSub ?_
    | with_reducible refine s_gTup ?_
    | with_reducible refine s_augS ?_
    | ((with_reducible refine s_aug (x := ?v) ?e ?q); case e => exact rfl)
    | with_reducible refine s_yes ?_
    | with_reducible refine s_par ?_
    | with_reducible refine s_two ?_
    | with_reducible refine s_m1 ?_
    | with_reducible refine s_isstr ?_
    | with_reducible refine s_rev0 ?_
    | with_reducible refine s_gCons ?_
    | with_reducible refine s_gNil ?_
    | with_reducible refine s_ipI ?_
    | with_reducible refine s_ipA ?_
    | with_reducible refine s_sl ?_
    | with_reducible refine s_noPart ?_
    | with_reducible refine s_part ?_
    | with_reducible refine s_parte ?_
    | with_reducible refine s_for ?_
    | with_reducible refine s_lc ?_
    | with_reducible refine s_iL ?_
    | with_reducible refine s_iE ?_
    | with_reducible refine s_iS ?_
    | with_reducible refine s_iT ?_
    | with_reducible refine s_itS ?_
    | with_reducible refine s_iR1 ?_
    | with_reducible refine s_iR2 ?_
    | with_reducible refine s_iR3 ?_
    | with_reducible refine s_rg1 ?_
    | with_reducible refine s_rg2 ?_
    | with_reducible refine s_rg1e ?_
    | with_reducible refine s_rg2e ?_
    | with_reducible refine s_lrg ?_
    | with_reducible refine s_lr3 ?_
    | with_reducible refine s_bm ?_
    | with_reducible refine s_bm0 ?_
    | with_reducible refine s_retN ?_)
  | `(tactic| walk_at "s") => `(tactic| first
    | with_reducible refine s_seq ?_
    | walk_at "e")

/-! ### heaps that only grow -/
section
variable {K : PySem.W.Frag} {H H0 Hi : Hp} {Q : VK} {E : XK} {a b p D : Addr} {xs ys acc : List V} {o : HO} {C : Prop} {ns ms : List Int} {ts : TA} {σ : L2.St}
theorem newS (hC : C) (q : ∀ p H', H p = none → Same H H' → H' p = some o → Q (.ref p) H') : NewO C o H Q := ⟨hC, fun p hp => q p _ hp (same_new hp) upd_same⟩
theorem doneS (hD : Hi D = none) (q : ∀ H', Same Hi H' → H' D = some o → Q (.ref D) H') : DoneC Q D (upd Hi D o) := q _ (same_new hD) upd_same
theorem s_sorted (h : SqL K H a (ns.map V.int)) (hp : ns.Perm ms) (hs : ms.Pairwise (· ≤ ·)) (q : NewO True (.lst (ms.map V.int)) H Q) : rSortedI K [.ref a] H Q := by
  refine ⟨a, ns, rfl, h, fun ns' p p1 p2 fr => ?_⟩
  have e : ns' = ms := List.Perm.eq_of_pairwise (fun x y _ _ h1 h2 => Int.le_antisymm h1 h2) p2 hs (p1.trans hp)
  rw [e]
  exact q.2 p fr
theorem s_addN {zs : List V} (h1 : H a = some (.lst xs)) (h2 : H b = some (.lst zs)) (h : xs.length + zs.length ≤ 16777216) (q : NewO True (.lst (xs ++ zs)) H Q) : rPlus K (.ref a) (.ref b) H Q := s_addL h1 h2 (small_sz h) q.2
theorem s_mulN {i : Int} (h : H a = some (.lst xs)) (h1 : -(2 ^ 63) ≤ i) (h2 : i < 2 ^ 63) (h3 : xs.length * i.toNat ≤ 16777216) (q : NewO True (.lst (List.replicate i.toNat xs).flatten) H Q) : rTimes (.ref a) (.int i) H Q := s_mulL h h1 h2 (small_sz h3) q.2
/-- a callee that sees neither the list at D nor the bag -/
theorem s_hid2 {sp : Sp} {vs : List V} (B : Bag K H0 b ys) (hD : (upd H0 b (.lst ys)) D = none) (q : sp vs H0 (fun v H' => H' b = none → (upd H' b (.lst ys)) D = none → Q v (upd (upd H' b (.lst ys)) D (.lst acc))) fun c d H' => H' b = none → (upd H' b (.lst ys)) D = none → E c d (upd (upd H' b (.lst ys)) D (.lst acc))) :
    Fr sp vs (upd (upd H0 b (.lst ys)) D (.lst acc)) Q E := by
  have ne : D ≠ b := fun e => by
    rw [e, upd_same] at hD
    cases hD
  refine ⟨[(D, acc), (b, ys)], H0, rfl, fun m hm => ?_, ?_⟩
  · rcases List.mem_cons.mp hm with rfl | hm
    · rw [upd_ne ne] at hD
      exact hD
    · rcases List.mem_singleton.mp hm with rfl
      exact B.off
  · have key : ∀ (H' : Hp), Off [(D, acc), (b, ys)] H' ↔ (H' b = none ∧ (upd H' b (.lst ys)) D = none) := fun H' => by
      rw [upd_ne ne]
      exact ⟨fun o => ⟨o (b, ys) (by simp), o (D, acc) (by simp)⟩, fun o m hm => by
        rcases List.mem_cons.mp hm with rfl | hm
        · exact o.2
        · rcases List.mem_singleton.mp hm with rfl
          exact o.1⟩
    have e1 : (fun v H' => Off [(D, acc), (b, ys)] H' → Q v (lay [(D, acc), (b, ys)] H')) = fun v H' => H' b = none → (upd H' b (.lst ys)) D = none → Q v (upd (upd H' b (.lst ys)) D (.lst acc)) := by
      funext v H'
      exact propext ⟨fun z n1 n2 => z ((key H').mpr ⟨n1, n2⟩), fun z o => z ((key H').mp o).1 ((key H').mp o).2⟩
    have e2 : (fun c d H' => Off [(D, acc), (b, ys)] H' → E c d (lay [(D, acc), (b, ys)] H')) = fun c d H' => H' b = none → (upd H' b (.lst ys)) D = none → E c d (upd (upd H' b (.lst ys)) D (.lst acc)) := by
      funext c d H'
      exact propext ⟨fun z n1 n2 => z ((key H').mpr ⟨n1, n2⟩), fun z o => z ((key H').mp o).1 ((key H').mp o).2⟩
    rw [e1, e2]
    exact q
theorem s_iR3 {R : It → Hp → Prop} (q : ts σ H fun vs H1 => ∃ (i j c : Int) (n : Nat), vs = [.int i, .int j, .int c] ∧ RgC i j c n ∧ R (Itc i c n) H1) : iRng3 ts σ H R := q
/-- range(i, j, -1) -/
theorem s_rnD {R : Int → Int → Nat → Prop} {i j : Int} (h : -(2 ^ 62) ≤ i ∧ i < 2 ^ 62 ∧ -(2 ^ 62) ≤ j ∧ j < 2 ^ 62) (q : R i (-1) (i - j).toNat) : ∃ (i' j' c : Int) (n : Nat), [V.int i, V.int j, V.int (-1)] = [.int i', .int j', .int c] ∧ RgC i' j' c n ∧ R i' c n :=
  ⟨i, j, -1, _, rfl, RgC.neg h.1 h.2.1 h.2.2.1 h.2.2.2, q⟩
end
/-! ### places shown -/
/-- the place that is shown -/
def shownI (l c p : Int) : Int := if p < c then p else if p ≤ c + l then p - c else p - l
/-- the places that show a place -/
def showL (l c p : Int) : List Int := if p < c then [p, p + c] else if p = c then [2 * c] else [p + c, p + l]
def sp_shown (K : PySem.W.Frag) : Sp := sp3 fun x y z H Q _ => ∃ l c p : Int, x = .int l ∧ y = .int c ∧ z = .int p ∧ Q (.int (shownI l c p)) H
def sp_showing (K : PySem.W.Frag) : Sp := sp3 fun x y z H Q _ => ∃ l c p : Int, x = .int l ∧ y = .int c ∧ z = .int p ∧ c.natAbs < 10 ^ 200 ∧ ∀ q, H q = none → Q (.ref q) (upd H q (.lst ((showL l c p).map V.int)))
theorem s_shown {K : PySem.W.Frag} {H : Hp} {Q : VK} {E : XK} {l c p : Int} (q : Q (.int (shownI l c p)) H) : Fr (sp_shown K) [.int l, .int c, .int p] H Q E := s_all ⟨_, _, _, rfl, l, c, p, rfl, rfl, rfl, q⟩
theorem s_showing {K : PySem.W.Frag} {H : Hp} {Q : VK} {E : XK} {l c p : Int} (hc : c.natAbs < 10 ^ 200) (q : NewO True (.lst ((showL l c p).map V.int)) H Q) : Fr (sp_showing K) [.int l, .int c, .int p] H Q E := s_all ⟨_, _, _, rfl, l, c, p, rfl, rfl, rfl, hc, q.2⟩
theorem shown_le {l c p : Int} (h0 : 0 ≤ c) (h1 : c ≤ l) (h2 : 0 ≤ p) (h3 : p ≤ 2 * l) : 0 ≤ shownI l c p ∧ shownI l c p ≤ l := by
  unfold shownI
  split
  · omega
  · split <;> omega
theorem mem_showL {l c p m : Int} (h0 : 0 ≤ c) (h1 : c ≤ l) (h2 : 0 ≤ p) (h3 : p ≤ l) : m ∈ showL l c p ↔ 0 ≤ m ∧ m ≤ 2 * l ∧ shownI l c m = p := by
  unfold showL shownI
  by_cases a : p < c
  · rw [if_pos a]
    simp only [List.mem_cons, List.not_mem_nil, or_false]
    split <;> (try split) <;> omega
  · rw [if_neg a]
    by_cases b : p = c
    · rw [if_pos b]
      simp only [List.mem_cons, List.not_mem_nil, or_false]
      split <;> (try split) <;> omega
    · rw [if_neg b]
      simp only [List.mem_cons, List.not_mem_nil, or_false]
      split <;> (try split) <;> omega
theorem nodup_showL {l c p : Int} (h0 : 0 ≤ c) (h1 : c ≤ l) (h2 : 0 ≤ p) (h3 : p ≤ l) : (showL l c p).Nodup := by
  unfold showL
  by_cases a : p < c
  · rw [if_pos a]
    simp
    omega
  · rw [if_neg a]
    by_cases b : p = c
    · rw [if_pos b]
      simp
    · rw [if_neg b]
      simp
      omega
theorem len_showL (l c p : Int) : (showL l c p).length ≤ 2 := by
  unfold showL
  split
  · exact Nat.le_refl _
  · split
    · exact Nat.le_succ 1
    · exact Nat.le_refl _
/-- a letter of the made row is the letter of the place that it shows -/
theorem mk_at {l : List Nat} {k i : Nat} (hk : k < l.length) (hi : i < 2 * l.length - 1) : (mk l k)[i]? = l[(shownI ((l.length : Int) - 1) k i).toNat]? := by
  unfold mk shownI
  have e1 : (l.take k ++ l).length = k + l.length := by rw [List.length_append, List.length_take]; omega
  by_cases a : (i : Int) < k
  · rw [if_pos a, List.getElem?_append_left (by omega), List.getElem?_append_left (by rw [List.length_take]; omega), List.getElem?_take, if_pos (by omega), Int.toNat_natCast]
  · rw [if_neg a]
    by_cases c : (i : Int) ≤ k + ((l.length : Int) - 1)
    · rw [if_pos c, List.getElem?_append_left (by omega), List.getElem?_append_right (by rw [List.length_take]; omega), List.length_take, Nat.min_eq_left (by omega)]
      congr 1
      omega
    · rw [if_neg c, List.getElem?_append_right (by omega), e1, List.getElem?_drop]
      congr 1
      omega
def t_shown (K : PySem.W.Frag) : TS :=
  (tSeq (tIfS (tTest (tOp rLess (tVar 2) (tVar 1))) (tRet (tVar 2)) tNext)
  (tSeq (tIfS (tTest (tOp rLessE (tVar 2) (tOp (rPlus K) (tVar 1) (tVar 0)))) (tRet (tOp rMinus (tVar 2) (tVar 1))) tNext)
  (tRet (tOp rMinus (tVar 2) (tVar 0)))))
theorem pu_shown {K : PySem.W.Frag} (vs : List V) (H : Hp) (Q : VK) (E : XK) (h : sp_shown K vs H Q E) : t_shown K { nx := fun _ H' => Q .non H', rt := Q } (start ["last", "called", "place"] vs) H := by
  obtain ⟨_, _, _, rfl, l, c, p, rfl, rfl, rfl, hQ⟩ := h
  unfold t_shown
  unfold shownI at hQ
  repeat' walk_at "s"
  refine s_if (fun h1 => ?_) fun h1 => ?_
  · repeat' walk_at "s"
    rw [if_pos h1] at hQ
    exact hQ
  · rw [if_neg h1] at hQ
    repeat' walk_at "s"
    refine s_if (fun h2 => ?_) fun h2 => ?_
    · rw [if_pos h2] at hQ
      repeat' walk_at "s"
      exact hQ
    · rw [if_neg h2] at hQ
      repeat' walk_at "s"
      exact hQ
def t_showing (K : PySem.W.Frag) : TS :=
  (tSeq (tIfS (tTest (tOp rLess (tVar 2) (tVar 1))) (tRet (tLst (tCons (tVar 2) (tCons (tOp (rPlus K) (tVar 2) (tVar 1)) tNil)))) tNext)
  (tSeq (tIfS (tTest (tOp (rSame K) (tVar 2) (tVar 1))) (tRet (tLst (tCons (tOp rTimes (tC (.int 2)) (tVar 1)) tNil))) tNext)
  (tRet (tLst (tCons (tOp (rPlus K) (tVar 2) (tVar 1)) (tCons (tOp (rPlus K) (tVar 2) (tVar 0)) tNil))))))
theorem pu_showing {K : PySem.W.Frag} (vs : List V) (H : Hp) (Q : VK) (E : XK) (h : sp_showing K vs H Q E) : t_showing K { nx := fun _ H' => Q .non H', rt := Q } (start ["last", "called", "place"] vs) H := by
  obtain ⟨_, _, _, rfl, l, c, p, rfl, rfl, rfl, hc, hQ⟩ := h
  unfold t_showing
  unfold showL at hQ
  repeat' walk_at "s"
  refine s_if (fun h1 => ?_) fun h1 => ?_
  · repeat' walk_at "s"
    rw [if_pos h1] at hQ
    exact ⟨sz_of rfl, hQ⟩
  · rw [if_neg h1] at hQ
    repeat' walk_at "s"
    refine s_if (fun h2 => ?_) fun h2 => ?_
    · rw [if_pos h2] at hQ
      repeat' walk_at "s"
      refine s_mulI (mulW (by decide) hc) ?_
      repeat' walk_at "s"
      exact ⟨sz_of rfl, hQ⟩
    · rw [if_neg h2] at hQ
      repeat' walk_at "s"
      exact ⟨sz_of rfl, hQ⟩
end
section
theorem mul_bd {x y a b : Int} (h1 : 0 ≤ x) (h2 : x ≤ a) (h3 : 0 ≤ y) (h4 : y ≤ b) : 0 ≤ x * y ∧ x * y ≤ a * b := ⟨Int.mul_nonneg h1 h3, Int.mul_le_mul h2 h4 h3 (Int.le_trans h1 h2)⟩
theorem same_put {H0 H1 : Hp} {p : Addr} {o : HO} (e : Same H0 H1) (h : H0 p = none) : Same H0 (upd H1 p o) := fun x z hx => by
  have ne : x ≠ p := fun q => by
    rw [q, h] at hx
    cases hx
  rw [upd_ne ne]
  exact e x z hx
theorem lit_a1 : ("a" : Str) = tx [97] := by decide +kernel
theorem lit_b1 : ("b" : Str) = tx [98] := by decide +kernel
theorem low_1 {c : Nat} (h0 : 97 ≤ c) (h : c ≤ 122) : Low [c] := fun x hx => by
  rcases List.mem_singleton.mp hx with rfl
  exact ⟨h0, h⟩
def TxOk (x : V) : Prop := ∃ w : List Nat, x = .str (tx w) ∧ Low w ∧ 1 ≤ w.length ∧ w.length ≤ 1000
theorem s_listT {K : PySem.W.Frag} {H : Hp} {Q : VK} {a : Addr} {xs : List V} (h : SqT K H a xs) (q : NewO True (.lst xs) H Q) : rListOf K [.ref a] H Q := .inl ⟨a, xs, rfl, .inr h, q.2⟩
theorem same_none {H0 H1 : Hp} {p : Addr} (e : Same H0 H1) (h : H1 p = none) : H0 p = none := by
  cases q : H0 p with
  | none => rfl
  | some z =>
    rw [e _ _ q] at h
    cases h
theorem s_orT {K : PySem.W.Frag} {ta tb : TE} {σ : L2.St} {H : Hp} {Q : VK} (q : ta σ H fun x H1 => ∃ k, TruV K x H1 k ∧ if k = true then Q x H1 else tb σ H1 Q) : tOrT K ta tb σ H Q := q
theorem s_orC {K : PySem.W.Frag} {σ : L2.St} {H : Hp} {Q : VK} {l : List Nat} {v : V} (P : V → Prop) (hz : l.length ≤ 16777216) (h1 : l.length ≠ 0 → P (.str (tx l))) (h2 : P v) (q : ∀ x, P x → Q x H) : ∃ k, TruV K (.str (tx l)) H k ∧ if k = true then Q (.str (tx l)) H else tC v σ H Q := by
  refine ⟨(((tx l).length : Int) != 0), ⟨by rw [tx_len, sizeLine_eq]; exact hz, rfl⟩, ?_⟩
  refine ite2 (fun h => q _ (h1 fun e => ?_)) fun _ => q _ h2
  rw [tx_len, e] at h
  cases h
theorem tupleText_le : ∀ ts : List Str, (tupleText ts).length ≤ 3 + piled ts := fun ts => by
  unfold tupleText
  rw [Str.length_append, Str.length_append]
  have e1 : ((("(" : String) : Str)).length = 1 := by decide +kernel
  have e3 : (((if ts.length == 1 then ",)" else ")" : String) : Str)).length ≤ 2 := by split <;> decide +kernel
  rw [e1]
  by_cases h : ts = []
  · subst h
    show 1 + (Str.join ", " []).length + _ ≤ _
    have e2 : (Str.join ", " []).length = 0 := by decide +kernel
    rw [e2, piled_nil]
    omega
  · have := join_length_add ts h
    omega
theorem bd_tuple {c k n : Nat} {ds : List PyData} (h : ∀ d ∈ ds, Bd c k d) (hn : ds.length ≤ n) : Bd (3 + n * (c + 2)) (k + 1) (.tuple ds) := by
  obtain ⟨q1, q2, q3, q4⟩ := bd_all h
  refine ⟨?_, q1, q2, ?_⟩
  · show (tupleText (PyData.shownAll ds)).length ≤ _
    refine Nat.le_trans (tupleText_le _) ?_
    have l := piled_le _ q4
    rw [shownAll_map, List.length_map] at l
    rw [shownAll_map]
    have := Nat.mul_le_mul_right (c + 2) hn
    omega
  · show PyData.depthAll ds + 1 ≤ k + 1
    omega
theorem bd_tx {l : List Nat} {n : Nat} (h : Low l) (hz : l.length ≤ n) : Bd (10 * n + 2) 0 (.str (tx l)) := bd_str (by rw [tx_len]; exact hz) fun c hc => by have := h c hc; omega
theorem no_ints {x : Str} {xs : List V} {R : List Int → Prop} : ∀ ns : List Int, V.str x :: xs = ns.map V.int → R ns := fun ns e => by
  cases ns with
  | nil => cases e
  | cons n ns => cases e
section
variable {K : PySem.W.Frag} {H1 Hi : Hp} {a D : Addr} {xs acc : List V} {g : TG} {tt : TT} {te : TE} {vs : List Nat} {σ : L2.St} {Qd : Hp → Prop} {i n : Nat} {y : V} {lo : Int}
theorem lcT (hD : H1 D = none) (Pv : Nat → List V → Hp → Prop) (h0 : Pv 0 [] H1) (hl : ∀ i acc Hi, Pv i acc Hi → SqT K Hi a xs)
    (hs : ∀ i x acc Hi, xs[i]? = some x → i < xs.length → Hi D = none → acc.length ≤ i → Pv i acc Hi → g x (wipe σ vs) (upd Hi D (.lst acc)) fun σ2 H2 => wipe σ2 vs = wipe σ vs ∧ tt σ2 H2 fun b H3 =>
      if b = true then te σ2 H3 fun y H4 => ∃ acc, H4 D = some (.lst acc) ∧ acc.length < sizeLine ∧ PvD Pv D (i + 1) (upd H4 D (.lst (acc ++ [y]))) else PvD Pv D (i + 1) H3)
    (hd : ∀ acc Hi, Hi D = none → acc.length ≤ xs.length → Pv xs.length acc Hi → Qd (upd Hi D (.lst acc))) :
    ∃ W : Nat → Nat → Hp → Prop, (∃ m, W 0 m (upd H1 D (.lst []))) ∧ ∀ i m H, W i m H →
      ((Itt K a).stop i H ∧ Qd H) ∨ ((Itt K a).go i H ∧ ∃ Nx : Hp → Prop, (∀ H', Nx H' → ∃ m', m' < m ∧ W (i + 1) m' H') ∧ ∀ x H', (Itt K a).yld i H x H' → g x (wipe σ vs) H' fun σ2 H2 => wipe σ2 vs = wipe σ vs ∧ tt σ2 H2 fun b H3 =>
        if b = true then te σ2 H3 fun y H4 => ∃ acc, H4 D = some (.lst acc) ∧ acc.length < sizeLine ∧ Nx (upd H4 D (.lst (acc ++ [y]))) else Nx H3) := by
  refine lc_tup (xs := xs) (PvD Pv D) ⟨[], H1, rfl, hD, Nat.le_refl _, h0⟩ (fun i H _ p => ?_) (fun i x H e p => ?_) fun H p => ?_
  · obtain ⟨acc, Hi, rfl, h1, _, h2⟩ := p
    exact same_tup (same_new h1) (hl i acc Hi h2)
  · obtain ⟨acc, Hi, rfl, h1, h2, h3⟩ := p
    exact hs i x acc Hi e (List.getElem?_eq_some_iff.mp e).1 h1 h2 h3
  · obtain ⟨acc, Hi, rfl, h1, h2, h3⟩ := p
    exact hd acc Hi h1 h2 h3
end
/-- a new thing while a comprehension's list is hidden -/
theorem newH {H : Hp} {Q : VK} {D : Addr} {acc : List V} {o : HO} {C : Prop} (hD : H D = none) (hC : C) (q : ∀ r H2, Same H H2 → H2 r = some o → H2 D = none → Q (.ref r) (upd H2 D (.lst acc))) : NewO C o (upd H D (.lst acc)) Q := by
  refine ⟨hC, fun r hr => ?_⟩
  have ne : r ≠ D := fun e => by
    rw [e, upd_same] at hr
    cases hr
  rw [upd_ne ne] at hr
  rw [upd_comm (Ne.symm ne)]
  exact q r _ (same_new hr) upd_same (by rw [upd_ne (Ne.symm ne)]; exact hD)
theorem uD {n : Nat} (h : n + 65 < cLine) : n + 1 < cLine := by omega
section
variable {K : PySem.W.Frag} {H : Hp} {Q : VK} {a : Addr}
theorem s_sum {ns : List Int} (h : SqL K H a (ns.map V.int)) (q : Q (.int ns.sum) H) : rSum K [.ref a] H Q := ⟨a, ns, rfl, h, q⟩
theorem s_repr {v : V} {d : PyData} (h : Dp K H v d) (n : Nice d) (q : Q (.str d.shown) H) : rRepr K [v] H Q := ⟨v, d, rfl, h, n.sh, n.sw, n.sz, q⟩
end
end
section
/-- one step of a reading (e: none past a statement's end) -/
local macro_rules
  | `(tactic| walk_at "e") => `(tactic| first
    | with_reducible refine s_ifs ?_
    | with_reducible refine s_test ?_
    | with_reducible refine s_truth ?_
    | with_reducible refine s_op ?_
    | with_reducible refine s_un ?_
    | with_reducible refine s_asg ?_
    | with_reducible refine s_ret ?_
    | with_reducible refine s_next ?_
    | with_reducible refine s_drop ?_
    | with_reducible refine s_c ?_
    | ((with_reducible refine s_var (v := ?v) ?e ?q); case e => exact rfl)
    | with_reducible refine s_name ?_
    | with_reducible refine s_exq ?_
    | with_reducible refine s_cons ?_
    | with_reducible refine s_nil ?_
    | with_reducible refine s_lst ?_
    | with_reducible refine s_tup ?_
    | with_reducible refine s_cb ?_
    | with_reducible refine s_call ?_
    | with_reducible refine s_and ?_
    | with_reducible refine s_or ?_
    | with_reducible refine s_not ?_
    | with_reducible refine s_andV ?_
    | with_reducible refine s_orV ?_
    | with_reducible refine s_notV ?_
    | with_reducible refine s_ife ?_
    | with_reducible refine s_chain ?_
    | with_reducible refine s_addI ?_
    | with_reducible refine s_sub ?_
    | with_reducible refine s_neg ?_
    | with_reducible refine s_eqI ?_
    | with_reducible refine s_eqX ?_
    | with_reducible refine s_eqT ?_
    | with_reducible refine s_eqB ?_
    | with_reducible refine s_eqNI ?_
    | with_reducible refine s_eqIN ?_
    | with_reducible refine s_eqNN ?_
    | with_reducible refine s_neI ?_
    | with_reducible refine s_neX ?_
    | with_reducible refine s_neT ?_
    | with_reducible refine s_neB ?_
    | with_reducible refine s_lt ?_
    | with_reducible refine s_le ?_
    | with_reducible refine s_gt ?_
    | with_reducible refine s_ge ?_
    | with_reducible refine s_isN ?_
    | with_reducible refine s_isS ?_
    | with_reducible refine s_truB ?_
    | with_reducible refine s_truI ?_
    | with_reducible refine s_truN ?_
    | with_reducible refine s_abs ?_
    | with_reducible refine s_min2 ?_
    | with_reducible refine s_max2 ?_
    | with_reducible refine s_intI ?_
    | with_reducible refine s_intB ?_
    | with_reducible refine s_ifT ?_
    | with_reducible refine s_ifF ?_
    | with_reducible refine s_ifnT ?_
    | with_reducible refine s_ifnF ?_
    | with_reducible refine s_gSub ?_
    | with_reducible refine s_gTup ?_
    | with_reducible refine s_augS ?_
    | ((with_reducible refine s_aug (x := ?v) ?e ?q); case e => exact rfl)
    | with_reducible refine s_yes ?_
    | with_reducible refine s_par ?_
    | with_reducible refine s_two ?_
    | with_reducible refine s_m1 ?_
    | with_reducible refine s_isstr ?_
    | with_reducible refine s_rev0 ?_
    | with_reducible refine s_gCons ?_
    | with_reducible refine s_gNil ?_
    | with_reducible refine s_ipI ?_
    | with_reducible refine s_ipA ?_
    | with_reducible refine s_sl ?_
    | with_reducible refine s_noPart ?_
    | with_reducible refine s_part ?_
    | with_reducible refine s_parte ?_
    | with_reducible refine s_for ?_
    | with_reducible refine s_lc ?_
    | with_reducible refine s_iL ?_
    | with_reducible refine s_iE ?_
    | with_reducible refine s_iS ?_
    | with_reducible refine s_iT ?_
    | with_reducible refine s_itS ?_
    | with_reducible refine s_iR1 ?_
    | with_reducible refine s_iR2 ?_
    | with_reducible refine s_iR3 ?_
    | with_reducible refine s_rg1 ?_
    | with_reducible refine s_rg2 ?_
    | with_reducible refine s_rg1e ?_
    | with_reducible refine s_rg2e ?_
    | with_reducible refine s_lrg ?_
    | with_reducible refine s_lr3 ?_
    | with_reducible refine s_bm ?_
    | with_reducible refine s_bm0 ?_
    | with_reducible refine s_retN ?_)
  | `(tactic| walk_at "s") => `(tactic| first
    | with_reducible refine s_seq ?_
    | walk_at "e")

/-! ### a dict: texts, each with a list of places -/
abbrev kT (t : List Nat) : Key := Sum.inr (tx t)
def kvs (ks : List (List Nat)) (ps : List Addr) : List (Key × V) := (ks.zip ps).map fun q => (kT q.1, V.ref q.2)
abbrev Gr : Type := List (List Nat × List Int)
def ins (g : Gr) (t : List Nat) (k : Int) : Gr := if t ∈ g.map Prod.fst then g.map (fun e => if e.1 = t then (e.1, e.2 ++ [k]) else e) else g ++ [(t, [k])]
theorem kT_eq {t u : List Nat} : (kT t = kT u) ↔ t = u := ⟨fun h => tx_inj.mp (Sum.inr.inj h), fun h => by rw [h]⟩
theorem valV_no {t : List Nat} : ∀ {ks : List (List Nat)} {ps : List Addr}, t ∉ ks → valV (kvs ks ps) (kT t) = none := fun {ks} => by
  induction ks with
  | nil => intro ps _; rfl
  | cons u ks ih =>
    intro ps h
    cases ps with
    | nil => rfl
    | cons p ps =>
      show valV ((kT u, V.ref p) :: kvs ks ps) (kT t) = none
      rw [valV_neg (fun e => h (by rw [kT_eq.mp e]; exact List.mem_cons_self))]
      exact ih fun q => h (List.mem_cons_of_mem _ q)
theorem valV_yes {t : List Nat} : ∀ {ks : List (List Nat)} {ps : List Addr}, ps.length = ks.length → t ∈ ks → ∃ (i : Nat) (p : Addr), ks[i]? = some t ∧ ps[i]? = some p ∧ valV (kvs ks ps) (kT t) = some (.ref p) := fun {ks} => by
  induction ks with
  | nil => intro ps _ h; cases h
  | cons u ks ih =>
    intro ps hl h
    cases ps with
    | nil => cases hl
    | cons p ps =>
      by_cases e : u = t
      · subst e
        exact ⟨0, p, rfl, rfl, valV_pos (p := (kT u, V.ref p)) rfl⟩
      · obtain ⟨i, p', h1, h2, h3⟩ := ih (ps := ps) (by simpa using hl) ((List.mem_cons.mp h).elim (fun q => absurd q.symm e) id)
        exact ⟨i + 1, p', h1, h2, by
          show valV ((kT u, V.ref p) :: kvs ks ps) (kT t) = _
          rw [valV_neg (fun q => e (kT_eq.mp q))]
          exact h3⟩
theorem kvs_snoc {ks : List (List Nat)} {ps : List Addr} (h : ps.length = ks.length) (t : List Nat) (p : Addr) : kvs (ks ++ [t]) (ps ++ [p]) = kvs ks ps ++ [(kT t, V.ref p)] := by
  unfold kvs
  rw [List.zip_append h.symm, List.map_append]
  rfl
theorem putK_old {κ : Type} [DecidableEq κ] {l : List (κ × V)} {k : κ} {v x : V} (h : valV l k = some x) : putK l k v = l.map fun kv => if kv.1 = k then (kv.1, v) else kv := by
  unfold putK
  rw [valV_any, h]
  rfl
theorem kvs_put {t : List Nat} {q : Addr} : ∀ {ks : List (List Nat)} {ps : List Addr} {i : Nat}, ks.Nodup → ps.length = ks.length → ks[i]? = some t → (kvs ks ps).map (fun kv => if kv.1 = kT t then (kv.1, V.ref q) else kv) = kvs ks (ps.set i q) := fun {ks} => by
  induction ks with
  | nil => intro ps i _ _ h; cases h
  | cons u ks ih =>
    intro ps i nd hl h
    obtain ⟨n1, n2⟩ := List.nodup_cons.mp nd
    cases ps with
    | nil => cases hl
    | cons p ps =>
      have hl2 : ps.length = ks.length := by simpa using hl
      show (if kT u = kT t then (kT u, V.ref q) else (kT u, V.ref p)) :: (kvs ks ps).map _ = _
      cases i with
      | zero =>
        have e : u = t := Option.some.inj h
        subst e
        rw [if_pos rfl]
        show (kT u, V.ref q) :: _ = (kT u, V.ref q) :: kvs ks ps
        congr 1
        unfold kvs
        rw [List.map_map]
        refine List.map_congr_left fun z hz => ?_
        show (if kT z.1 = kT u then _ else _) = _
        rw [if_neg]
        intro e
        rw [← kT_eq.mp e] at n1
        exact n1 (List.of_mem_zip hz).1
      | succ i =>
        rw [if_neg (fun e => n1 (by rw [kT_eq.mp e]; exact List.mem_of_getElem? h))]
        show _ = (kT u, V.ref p) :: kvs ks (ps.set i q)
        rw [← ih n2 hl2 h]
/-- the dict at d: the texts of g, the lists at ps -/
structure Gd (H : Hp) (d : Addr) (g : Gr) (ps : List Addr) : Prop where
  hd : H d = some (.dK (kvs (g.map Prod.fst) ps))
  len : ps.length = g.length
  at_ : ∀ (i : Nat) (e : List Nat × List Int) (p : Addr), g[i]? = some e → ps[i]? = some p → H p = some (.lst (e.2.map V.int))
  keys : (g.map Prod.fst).Nodup
theorem ins_old {g : Gr} {t : List Nat} {k : Int} (h : t ∈ g.map Prod.fst) : (ins g t k).map Prod.fst = g.map Prod.fst ∧ (ins g t k).length = g.length ∧ ∀ (i : Nat) (e : List Nat × List Int), g[i]? = some e → (ins g t k)[i]? = some (if e.1 = t then (e.1, e.2 ++ [k]) else e) := by
  have e : ins g t k = g.map (fun e => if e.1 = t then (e.1, e.2 ++ [k]) else e) := if_pos h
  rw [e]
  refine ⟨?_, List.length_map _, fun i x hx => by rw [List.getElem?_map, hx]; rfl⟩
  rw [List.map_map]
  refine List.map_congr_left fun x _ => ?_
  show (if x.1 = t then (x.1, x.2 ++ [k]) else x).1 = x.1
  split <;> rfl
theorem ins_new {g : Gr} {t : List Nat} {k : Int} (h : t ∉ g.map Prod.fst) : ins g t k = g ++ [(t, [k])] := if_neg h
theorem ins_keys {g : Gr} {t : List Nat} {k : Int} (nd : (g.map Prod.fst).Nodup) : ((ins g t k).map Prod.fst).Nodup := by
  by_cases h : t ∈ g.map Prod.fst
  · rw [(ins_old h).1]
    exact nd
  · rw [ins_new h, List.map_append]
    refine List.nodup_append.mpr ⟨nd, List.nodup_cons.mpr ⟨fun q => (nomatch q), List.nodup_nil⟩, fun a ha c hc => ?_⟩
    rcases List.mem_singleton.mp hc with rfl
    intro e
    rw [e] at ha
    exact h ha
theorem gd_put {H H' : Hp} {d q : Addr} {g : Gr} {ps : List Addr} {t : List Nat} {k : Int} (G : Gd H d g ps) (e : ∀ p ∈ ps, H' p = H p) (hq : ∀ xs : List Int, (∀ (i : Nat) (e : List Nat × List Int), g[i]? = some e → e.1 = t → xs = e.2) → (t ∉ g.map Prod.fst → xs = []) → H' q = some (.lst ((xs ++ [k]).map V.int))) (hd : H' d = some (.dK (putK (kvs (g.map Prod.fst) ps) (kT t) (.ref q)))) :
    ∃ ps', Gd H' d (ins g t k) ps' ∧ ∀ p ∈ ps', p ∈ ps ∨ p = q := by
  by_cases h : t ∈ g.map Prod.fst
  · obtain ⟨h1, h2, h3⟩ := ins_old (k := k) h
    obtain ⟨i, p, k1, k2, k3⟩ := valV_yes (ps := ps) (by rw [List.length_map]; exact G.len) h
    have hi : i < g.length := by
      have := (List.getElem?_eq_some_iff.mp k1).1
      rw [List.length_map] at this
      exact this
    have k4 : (g[i]).1 = t := by
      rw [List.getElem?_map, List.getElem?_eq_getElem hi] at k1
      exact Option.some.inj k1
    have uni : ∀ (j : Nat) (e : List Nat × List Int), g[j]? = some e → e.1 = t → j = i := fun j e hj he => by
      have hj2 := (List.getElem?_eq_some_iff.mp hj).1
      have z1 : (g.map Prod.fst)[j]? = some t := by rw [List.getElem?_map, hj]; exact congrArg some he
      exact (List.getElem?_inj (by rw [List.length_map]; exact hj2) G.keys).mp (z1.trans k1.symm)
    refine ⟨ps.set i q, ⟨?_, by rw [List.length_set, h2]; exact G.len, fun j e' p' e1 e2 => ?_, by rw [h1]; exact G.keys⟩, fun p' hp' => (List.mem_or_eq_of_mem_set hp').imp id id⟩
    · rw [hd, putK_old k3, kvs_put G.keys (by rw [List.length_map]; exact G.len) k1, h1]
    · have hj : j < g.length := by rw [← h2]; exact (List.getElem?_eq_some_iff.mp e1).1
      have e3 := h3 j _ (List.getElem?_eq_getElem hj)
      rw [e1] at e3
      have e4 := Option.some.inj e3
      by_cases c : i = j
      · subst c
        rw [List.getElem?_set_self (by rw [G.len]; exact hi)] at e2
        cases e2
        rw [if_pos k4] at e4
        rw [e4]
        exact hq _ (fun j e hj2 he => by
          have := uni j e hj2 he
          subst this
          rw [List.getElem?_eq_getElem hi] at hj2
          rw [Option.some.inj hj2]) fun z => absurd h z
      · rw [List.getElem?_set_ne c] at e2
        rw [if_neg (fun z => c (uni j _ (List.getElem?_eq_getElem hj) z).symm)] at e4
        rw [e4, e _ (List.mem_of_getElem? e2)]
        exact G.at_ j _ p' (List.getElem?_eq_getElem hj) e2
  · rw [ins_new h]
    refine ⟨ps ++ [q], ⟨?_, by rw [List.length_append, List.length_append, G.len]; rfl, fun j e' p' e1 e2 => ?_, ?_⟩, fun p' hp' => (List.mem_append.mp hp').imp id fun z => List.mem_singleton.mp z⟩
    · rw [hd, putK_new _ (valV_no h), List.map_append]
      rw [show [(t, [k])].map Prod.fst = [t] from rfl, kvs_snoc (by rw [List.length_map]; exact G.len)]
    · by_cases c : j < g.length
      · rw [List.getElem?_append_left c] at e1
        rw [List.getElem?_append_left (by rw [G.len]; exact c)] at e2
        rw [e _ (List.mem_of_getElem? e2)]
        exact G.at_ j _ p' e1 e2
      · have hj : j = g.length := by
          have := (List.getElem?_eq_some_iff.mp e1).1
          rw [List.length_append, List.length_singleton] at this
          omega
        subst hj
        rw [List.getElem?_append_right (Nat.le_refl _), Nat.sub_self] at e1
        rw [List.getElem?_append_right (by rw [G.len]; exact Nat.le_refl _), G.len, Nat.sub_self] at e2
        cases e1
        cases e2
        have hqq := hq [] (fun i e hi he => absurd (by rw [← he]; exact List.mem_map_of_mem (List.mem_of_getElem? hi)) h) fun _ => rfl
        exact hqq
    · have := ins_keys (k := k) (t := t) G.keys
      rw [ins_new h] at this
      exact this
theorem valV_at {t : List Nat} {p : Addr} : ∀ {ks : List (List Nat)} {ps : List Addr} {i : Nat}, ks.Nodup → ks[i]? = some t → ps[i]? = some p → valV (kvs ks ps) (kT t) = some (.ref p) := fun {ks} => by
  induction ks with
  | nil => intro ps i _ h; cases h
  | cons u ks ih =>
    intro ps i nd h1 h2
    obtain ⟨n1, n2⟩ := List.nodup_cons.mp nd
    cases ps with
    | nil => cases h2
    | cons q ps =>
      cases i with
      | zero =>
        have e1 : u = t := Option.some.inj h1
        have e2 : q = p := Option.some.inj h2
        rw [← e1, ← e2]
        exact valV_pos (p := (kT u, V.ref q)) rfl
      | succ i =>
        show valV ((kT u, V.ref q) :: kvs ks ps) (kT t) = _
        rw [valV_neg (fun e => n1 (by rw [kT_eq.mp e]; exact List.mem_of_getElem? h1))]
        exact ih n2 h1 h2
/-! ### steps with dicts -/
section
variable {H1 : Hp} {D d : Addr} {o : Obj} {es : List (Key × V)} {g : TG} {tt : TT} {te : TE} {vs : List Nat} {σ : L2.St} {Qd : Hp → Prop}
theorem lcK (hD : H1 D = none) (Pv : Nat → List V → Hp → Prop) (h0 : Pv 0 [] H1) (hl : ∀ i acc Hi, Hi D = none → Pv i acc Hi → Hi d = some (.frz o (.dK es)))
    (hs : ∀ i k v acc Hi, es[i]? = some (k, v) → i < es.length → Hi D = none → acc.length ≤ i → Pv i acc Hi → g (kV k) (wipe σ vs) (upd Hi D (.lst acc)) fun σ2 H2 => wipe σ2 vs = wipe σ vs ∧ tt σ2 H2 fun b H3 =>
      if b = true then te σ2 H3 fun y H4 => ∃ acc, H4 D = some (.lst acc) ∧ acc.length < sizeLine ∧ PvD Pv D (i + 1) (upd H4 D (.lst (acc ++ [y]))) else PvD Pv D (i + 1) H3)
    (hd : ∀ acc Hi, Hi D = none → acc.length ≤ es.length → Pv es.length acc Hi → Qd (upd Hi D (.lst acc))) :
    ∃ W : Nat → Nat → Hp → Prop, (∃ m, W 0 m (upd H1 D (.lst []))) ∧ ∀ i m H, W i m H →
      ((Itk d o es).stop i H ∧ Qd H) ∨ ((Itk d o es).go i H ∧ ∃ Nx : Hp → Prop, (∀ H', Nx H' → ∃ m', m' < m ∧ W (i + 1) m' H') ∧ ∀ x H', (Itk d o es).yld i H x H' → g x (wipe σ vs) H' fun σ2 H2 => wipe σ2 vs = wipe σ vs ∧ tt σ2 H2 fun b H3 =>
        if b = true then te σ2 H3 fun y H4 => ∃ acc, H4 D = some (.lst acc) ∧ acc.length < sizeLine ∧ Nx (upd H4 D (.lst (acc ++ [y]))) else Nx H3) := by
  refine ⟨fun i m H => m = es.length - i ∧ i ≤ es.length ∧ PvD Pv D i H, ⟨es.length, by simp, Nat.zero_le _, [], H1, rfl, hD, Nat.le_refl _, h0⟩, ?_⟩
  rintro i m H ⟨rfl, hi, acc, Hi, rfl, p1, p2, p3⟩
  have hf : (upd Hi D (.lst acc)) d = some (.frz o (.dK es)) := same_new p1 _ _ (hl i acc Hi p1 p3)
  by_cases hlt : i < es.length
  · refine .inr ⟨⟨hf, hlt⟩, PvD Pv D (i + 1), fun H' p' => ⟨es.length - (i + 1), by omega, rfl, hlt, p'⟩, fun x H' y => ?_⟩
    obtain ⟨e, k, v, hk, rfl⟩ := y
    subst e
    exact hs i k v acc Hi hk hlt p1 p2 p3
  · have e : i = es.length := by omega
    subst e
    exact .inl ⟨⟨hf, Nat.le_refl _⟩, hd acc Hi p1 p2 p3⟩
end
section
variable {K : PySem.W.Frag} {σ : L2.St} {H : Hp} {Q : VK} {td ty tx te : TE} {D : Ends}
theorem s_dsetd (q : td σ H fun x H1 => ∃ a, x = .ref a ∧ IsD H1 a ∧ ty σ H1 fun y H2 => tx σ H2 fun z H3 => ∃ (kvs : List (Key × V)) (k : Key), H3 a = some (.dK kvs) ∧ y = kV k ∧ kvs.length < sizeLine ∧
  (∀ v, valV kvs k = some v → Q v H3) ∧ (valV kvs k = none → Q z (upd H3 a (.dK (putK kvs k z))))) : tDSetd td ty tx σ H Q := q
theorem s_items (q : te σ H fun x H1 => LiI.rItemsL x H1 Q) : LiI.tListItems te σ H Q := q
theorem s_dget2 (q : td σ H fun x H1 => ∃ a, x = .ref a ∧ IsD H1 a ∧ ty σ H1 fun y H2 => tx σ H2 fun z H3 => ∃ o, DGet H3 a y o ∧ Q (o.getD z) H3) : tDGet2 td ty tx σ H Q := q
theorem s_dget (q : td σ H fun x H1 => ty σ H1 fun y H2 => ∃ a v, x = .ref a ∧ DGet H2 a y (some v) ∧ Q v H2) : tDGet td ty σ H Q := q
theorem s_dput {tv : TE} (q : tv σ H fun v H1 => td σ H1 fun x H2 => ty σ H2 fun y H3 => ∃ a H4, x = .ref a ∧ DPut H3 a y v H4 ∧ D.nx σ H4) : sDPut td ty tv D σ H := q
theorem s_lockE {d : Addr} {u : HO} (h : H d = some u) (m : Mut (some u)) (q : ∀ od, te σ (upd H d (.frz od u)) fun v H' => H' d = some (.frz od u) ∧ Q v (upd H' d u)) : tLockE te σ H Q := ⟨d, u, h, m, q⟩
theorem s_iK {R : It → Hp → Prop} (q : td σ H fun x H1 => ∃ d o, x = .ref d ∧ ((∃ kvs, H1 d = some (.frz o (.dK kvs)) ∧ R (Itk d o kvs) H1) ∨ ∃ kvs, H1 d = some (.frz o (.dT kvs)) ∧ R (Itkt d o kvs) H1)) : iKeys td σ H R := q
end
/-! ### elders -/
def mid (l : List Nat) : Nat := (l.length - 1) / 2
def isC (l : List Nat) (k : Nat) : Bool := decide (l.take k = (l.drop k).take k) && decide ((l.drop (2 * k + 1)).take (mid l - k) = l.drop (k + mid l + 1))
def cand (l : List Nat) (k : Nat) : List Nat := (l.drop k).take (mid l + 1)
def stepE (l : List Nat) (g : Gr) (k : Nat) : Gr := if isC l k = true then ins g (cand l k) k else g
def eldN (l : List Nat) (n : Nat) : Gr := (List.range n).foldl (stepE l) []
def eld (l : List Nat) : Gr := eldN l (if l.length % 2 = 1 then mid l + 1 else 0)
theorem eldN_succ (l : List Nat) (n : Nat) : eldN l (n + 1) = stepE l (eldN l n) n := by
  unfold eldN
  rw [List.range_succ, List.foldl_append]
  rfl
theorem isC_mk {l : List Nat} {k : Nat} (ho : l.length % 2 = 1) (hk : k ≤ mid l) : isC l k = decide (mk (cand l k) k = l) := by
  have hm : l.length = 2 * mid l + 1 := by unfold mid; omega
  unfold isC
  rw [← Bool.decide_and]
  refine decide_eq_decide.mpr ?_
  have e1 : (cand l k).take k = (l.drop k).take k := by
    unfold cand
    rw [List.take_take, Nat.min_eq_left (by omega)]
  have e2 : (cand l k).drop (k + 1) = (l.drop (2 * k + 1)).take (mid l - k) := by
    unfold cand
    rw [List.drop_take, List.drop_drop, show k + (k + 1) = 2 * k + 1 by omega, show mid l + 1 - (k + 1) = mid l - k by omega]
  have e3 : l = l.take k ++ cand l k ++ l.drop (k + mid l + 1) := by
    unfold cand
    rw [List.append_assoc]
    conv => lhs; rw [← List.take_append_drop k l]
    congr 1
    conv => lhs; rw [← List.take_append_drop (mid l + 1) (l.drop k)]
    rw [List.drop_drop, Nat.add_assoc]
  have e4 : mk (cand l k) k = (cand l k).take k ++ cand l k ++ (cand l k).drop (k + 1) := rfl
  rw [e4, e1, e2]
  constructor
  · rintro ⟨h1, h2⟩
    rw [← h1, h2]
    exact e3.symm
  · intro h
    have h2 := h.trans e3
    have hl : ((l.drop k).take k).length = (l.take k).length := by
      rw [List.length_take, List.length_take, List.length_drop]
      omega
    rw [List.append_assoc, List.append_assoc] at h2
    obtain ⟨h3, h4⟩ := List.append_inj h2 hl
    exact ⟨h3.symm, (List.append_inj h4 rfl).2⟩
theorem cand_len {l : List Nat} {k : Nat} (ho : l.length % 2 = 1) (hk : k ≤ mid l) : (cand l k).length = mid l + 1 := by
  have hm : l.length = 2 * mid l + 1 := by unfold mid; omega
  unfold cand
  rw [List.length_take, List.length_drop]
  omega
/-- what the dict holds: rows of so many letters, places in order -/
theorem stepE_ok {l : List Nat} {n m : Nat} {g : Gr} (hn : n < m) (h : (g.map Prod.fst).Nodup ∧ g.length ≤ n ∧ ∀ e ∈ g, (∃ k, k ≤ n ∧ e.1 = cand l k) ∧ e.2.length ≤ n ∧ ∀ x ∈ e.2, 0 ≤ x ∧ x ≤ (m : Int)) :
    ((stepE l g n).map Prod.fst).Nodup ∧ (stepE l g n).length ≤ n + 1 ∧ ∀ e ∈ stepE l g n, (∃ k, k ≤ n + 1 ∧ e.1 = cand l k) ∧ e.2.length ≤ n + 1 ∧ ∀ x ∈ e.2, 0 ≤ x ∧ x ≤ (m : Int) := by
  unfold stepE
  split
  · by_cases c : cand l n ∈ g.map Prod.fst
    · obtain ⟨h1, h2, h3⟩ := ins_old (k := (n : Int)) c
      refine ⟨ins_keys h.1, by rw [h2]; have := h.2.1; omega, fun e he => ?_⟩
      obtain ⟨i, hi⟩ := List.mem_iff_getElem?.mp he
      have hi2 : i < g.length := by rw [← h2]; exact (List.getElem?_eq_some_iff.mp hi).1
      have h4 := h3 i _ (List.getElem?_eq_getElem hi2)
      rw [hi] at h4
      rw [Option.some.inj h4]
      obtain ⟨⟨k, k1, k2⟩, k3, k4⟩ := h.2.2 _ (List.getElem_mem hi2)
      split
      · refine ⟨⟨k, by omega, k2⟩, by rw [List.length_append, List.length_singleton]; omega, fun x hx => (List.mem_append.mp hx).elim (k4 x) fun q => ?_⟩
        rcases List.mem_singleton.mp q with rfl
        exact ⟨by omega, by omega⟩
      · exact ⟨⟨k, by omega, k2⟩, by omega, k4⟩
    · rw [ins_new c]
      refine ⟨by have := ins_keys (k := (n : Int)) (t := cand l n) h.1; rw [ins_new c] at this; exact this, by rw [List.length_append, List.length_singleton]; have := h.2.1; omega, fun e he => (List.mem_append.mp he).elim (fun q => ?_) fun q => ?_⟩
      · obtain ⟨⟨k, k1, k2⟩, k3, k4⟩ := h.2.2 e q
        exact ⟨⟨k, by omega, k2⟩, by omega, k4⟩
      · rcases List.mem_singleton.mp q with rfl
        refine ⟨⟨n, by omega, rfl⟩, by show 1 ≤ n + 1; omega, fun x hx => ?_⟩
        rcases List.mem_singleton.mp hx with rfl
        exact ⟨by omega, by omega⟩
  · refine ⟨h.1, by have := h.2.1; omega, fun e he => ?_⟩
    obtain ⟨⟨k, k1, k2⟩, k3, k4⟩ := h.2.2 e he
    exact ⟨⟨k, by omega, k2⟩, by omega, k4⟩
theorem eldN_ok (l : List Nat) (m : Nat) : ∀ n, n ≤ m → ((eldN l n).map Prod.fst).Nodup ∧ (eldN l n).length ≤ n ∧ ∀ e ∈ eldN l n, (∃ k, k ≤ n ∧ e.1 = cand l k) ∧ e.2.length ≤ n ∧ ∀ x ∈ e.2, 0 ≤ x ∧ x ≤ (m : Int) := fun n => by
  induction n with
  | zero => intro _; exact ⟨List.nodup_nil, Nat.le_refl _, fun e he => nomatch he⟩
  | succ n ih =>
    intro hn
    rw [eldN_succ]
    exact stepE_ok (by omega) (ih (by omega))
abbrev dEe (e : List Nat × List Int) : PyData := .tuple [.str (tx e.1), dI e.2]
abbrev dE (g : Gr) : PyData := .list (g.map dEe)
theorem nice_dE {l : List Nat} (h : Low l) (hz : l.length ≤ 1000) : Nice (dE (eld l)) := by
  unfold eld
  have hm : mid l ≤ 500 := by unfold mid; omega
  obtain ⟨_, h2, h3⟩ := eldN_ok l 501 (if l.length % 2 = 1 then mid l + 1 else 0) (by split <;> omega)
  generalize hn : (if l.length % 2 = 1 then mid l + 1 else 0) = n at *
  have hn2 : n ≤ 501 := by rw [← hn]; split <;> omega
  refine (bd_list (c := 3 + 2 * (12000 + 2)) (k := 2) (n := 501) (fun d hd => ?_) (by rw [List.length_map]; omega)).nice (by decide) (by decide)
  obtain ⟨e, he, rfl⟩ := List.mem_map.mp hd
  obtain ⟨⟨k, _, k2⟩, k3, k4⟩ := h3 e he
  refine bd_tuple (c := 12000) (k := 1) (n := 2) (fun d hd => ?_) (by exact Nat.le_refl 2)
  simp only [List.mem_cons, List.not_mem_nil, or_false] at hd
  rcases hd with rfl | rfl
  · rw [k2]
    refine (bd_tx (n := 1000) ((h.drop _).take _) ?_).mono (by decide) (by decide)
    rw [List.length_take, List.length_drop]
    omega
  · refine (bd_list (c := 5) (k := 0) (n := 501) (fun d hd => ?_) (by rw [List.length_map]; omega)).mono (by decide) (by decide)
    obtain ⟨x, hx, rfl⟩ := List.mem_map.mp hd
    have := k4 x hx
    exact bd_int (k := 3) (by omega) (by decide)
def sp_elder_last (K : PySem.W.Frag) : Sp := sp1 fun x H Q _ => ∃ l : List Nat, x = .str (tx l) ∧ 1 ≤ l.length ∧ l.length ≤ 1000000 ∧ Q (.int (mid l)) H
def sp_is_called (K : PySem.W.Frag) : Sp := sp2 fun x y H Q _ => ∃ (l : List Nat) (k : Int), x = .str (tx l) ∧ y = .int k ∧ l.length % 2 = 1 ∧ l.length ≤ 1000000 ∧ 0 ≤ k ∧ k ≤ mid l ∧ Q (.bl (isC l k.toNat)) H
/-- the list of elders, as it lies in memory -/
structure El (K : PySem.W.Frag) (H0 H : Hp) (r : Addr) (g : Gr) (ts ps : List Addr) : Prop where
  hr : H r = some (.lst (ts.map V.ref))
  lt : ts.length = g.length
  lp : ps.length = g.length
  at_ : ∀ (i : Nat) (e : List Nat × List Int), g[i]? = some e → ∃ t p, ts[i]? = some t ∧ ps[i]? = some p ∧ H t = some (.tup [.str (tx e.1), .ref p]) ∧ H p = some (.lst (e.2.map V.int))
  fr : H0 r = none
  fp : ∀ p ∈ ps, H0 p = none
  np : r ∉ ps
def sp_elders (K : PySem.W.Frag) : Sp := sp1 fun x H Q _ => ∃ l : List Nat, x = .str (tx l) ∧ 1 ≤ l.length ∧ l.length ≤ 1000000 ∧ ∀ r ts ps H', Same H H' → El K H H' r (eld l) ts ps → Q (.ref r) H'
def sp_zelders (K : PySem.W.Frag) : Sp := sp1 fun x H Q _ => ∃ l : List Nat, x = .str (tx l) ∧ 1 ≤ l.length ∧ l.length ≤ 1000000 ∧ ∀ r H', Same H H' → Dp K H' (.ref r) (dE (eld l)) → Q (.ref r) H'
theorem dp_el {K : PySem.W.Frag} {H : Hp} {r : Addr} {g : Gr} {ts ps : List Addr} (hr : H r = some (.lst (ts.map V.ref))) (hlt : ts.length = g.length) (hat : ∀ (i : Nat) (e : List Nat × List Int), g[i]? = some e → ∃ t p, ts[i]? = some t ∧ ps[i]? = some p ∧ H t = some (.tup [.str (tx e.1), .ref p]) ∧ H p = some (.lst (e.2.map V.int))) : Dp K H (.ref r) (dE g) := by
  have go : ∀ (g : Gr) (ts ps : List Addr), ts.length = g.length → (∀ (i : Nat) (e : List Nat × List Int), g[i]? = some e → ∃ t p, ts[i]? = some t ∧ ps[i]? = some p ∧ H t = some (.tup [.str (tx e.1), .ref p]) ∧ H p = some (.lst (e.2.map V.int))) → DpAll K H (ts.map V.ref) (g.map dEe) := fun g => by
    induction g with
    | nil =>
      intro ts ps hl _
      cases ts with
      | nil => exact .nil
      | cons t ts => cases hl
    | cons e g ih =>
      intro ts ps hl h
      obtain ⟨t, p, h1, h2, h3, h4⟩ := h 0 e rfl
      cases ts with
      | nil => cases hl
      | cons t' ts =>
        cases h1
        cases ps with
        | nil => cases h2
        | cons p' ps => exact .cons (.tup (SqT.of h3) (.cons (.str _) (.cons (dp_ints (SqL.of h4)) .nil))) (ih ts ps (by simpa using hl) fun i e he => h (i + 1) e he)
  exact .lst (SqL.of hr) (go g ts ps hlt hat)
theorem El.dp {K : PySem.W.Frag} {H0 H : Hp} {r : Addr} {g : Gr} {ts ps : List Addr} (h : El K H0 H r g ts ps) : Dp K H (.ref r) (dE g) := dp_el h.hr h.lt h.at_
def t_elder_last (K : PySem.W.Frag) : TS :=
  (tRet (tOp rDiv (tOp rMinus (tCB (rLen K) (tCons (tVar 0) tNil)) (tC (.int 1))) (tC (.int 2))))
theorem pu_elder_last {K : PySem.W.Frag} (vs : List V) (H : Hp) (Q : VK) (E : XK) (h : sp_elder_last K vs H Q E) : t_elder_last K { nx := fun _ H' => Q .non H', rt := Q } (start ["row"] vs) H := by
  obtain ⟨_, rfl, l, rfl, h1, h2, hQ⟩ := h
  unfold t_elder_last
  repeat' walk_at "s"
  refine s_lenX (by omega) ?_
  repeat' walk_at "s"
  refine s_div ⟨by decide, lg (by decide) (by decide)⟩ ?_
  rw [show ((l.length : Int) - 1) / 2 = (mid l : Int) by unfold mid; omega]
  exact hQ
def t_is_called (K : PySem.W.Frag) : TS :=
  (tSeq (tAsg (tOp (rPlus K) (tOp (rPlus K) (tVar 1) (gCall (sp_elder_last K) E1 (tCons (tVar 0) tNil))) (tC (.int 1))) (gName 2))
  (tRet (tAndV (tOp (rSame K) (tSl (rCut K) (tVar 0) tNoPart (tPart (tVar 1))) (tSl (rCut K) (tVar 0) (tPart (tVar 1)) (tPart (tOp rTimes (tC (.int 2)) (tVar 1))))) (tOp (rSame K) (tSl (rCut K) (tVar 0) (tPart (tOp (rPlus K) (tOp rTimes (tC (.int 2)) (tVar 1)) (tC (.int 1)))) (tPart (tVar 2))) (tSl (rCut K) (tVar 0) (tPart (tVar 2)) tNoPart)))))
theorem pu_is_called {K : PySem.W.Frag} (vs : List V) (H : Hp) (Q : VK) (E : XK) (h : sp_is_called K vs H Q E) : t_is_called K { nx := fun _ H' => Q .non H', rt := Q } (start ["row", "place", "middle"] vs) H := by
  obtain ⟨_, _, rfl, l, k, rfl, rfl, ho, h2, k0, k1, hQ⟩ := h
  have hm : l.length = 2 * mid l + 1 := by unfold mid; omega
  obtain ⟨k, rfl⟩ := Int.eq_ofNat_of_zero_le k0
  rw [Int.toNat_natCast] at hQ
  unfold t_is_called
  repeat' walk_at "s"
  refine s_all ⟨_, rfl, l, rfl, by omega, h2, ?_⟩
  repeat' walk_at "s"
  refine s_toX (by omega) (by omega) ?_
  repeat' walk_at "s"
  refine s_mulI (mulW (by omega) (by omega)) ?_
  repeat' walk_at "s"
  refine s_midX (by omega) (by omega) (by omega) ?_
  rw [Int.toNat_natCast, show (2 * (k : Int)).toNat - k = k by omega]
  unfold isC at hQ
  repeat' walk_at "s"
  refine s_if (fun c => ?_) fun c => ?_
  · rw [decide_eq_true c, Bool.true_and] at hQ
    repeat' walk_at "s"
    refine s_mulI (mulW (by omega) (by omega)) ?_
    repeat' walk_at "s"
    refine s_midX (by omega) (by omega) (by omega) ?_
    repeat' walk_at "s"
    refine s_fromX (by omega) (by omega) ?_
    repeat' walk_at "s"
    rw [show (2 * (k : Int) + 1).toNat = 2 * k + 1 by omega, show ((k : Int) + (mid l : Int) + 1).toNat = k + mid l + 1 by omega, show k + mid l + 1 - (2 * k + 1) = mid l - k by omega]
    exact hQ
  · rw [decide_eq_false c, Bool.false_and] at hQ
    exact hQ
def t_elders (K : PySem.W.Frag) : TS :=
  (tSeq (tAsg tDNewK (gName 1))
  (tSeq (tIfS (tTest (tOp (rSame K) (tOp rMod (tCB (rLen K) (tCons (tVar 0) tNil)) (tC (.int 2))) (tC (.int 1)))) (tSeq (tAsg (gCall (sp_elder_last K) E1 (tCons (tVar 0) tNil)) (gName 2))
  (tFor (iRng1 (tCons (tOp (rPlus K) (tVar 2) (tC (.int 1))) tNil)) (gName 3)
  (tIfS (gTruth K (gCall (sp_is_called K) E1 (tCons (tVar 0) (tCons (tVar 3) tNil)))) (tDrop (tBM K "list" rAppend (tDSetd (tVar 1) (tSl (rCut K) (tVar 0) (tPart (tVar 3)) (tPart (tOp (rPlus K) (tOp (rPlus K) (tVar 3) (tVar 2)) (tC (.int 1))))) (tLst tNil)) (tCons (tVar 3) tNil))) tNext))) tNext)
  (tRet (LiI.tListItems (tVar 1)))))
theorem pu_elders {K : PySem.W.Frag} (vs : List V) (H : Hp) (Q : VK) (E : XK) (h : sp_elders K vs H Q E) : t_elders K { nx := fun _ H' => Q .non H', rt := Q } (start ["row", "found", "last", "place"] vs) H := by
  obtain ⟨_, rfl, l, rfl, h1, h2, hQ⟩ := h
  unfold t_elders
  repeat' walk_at "s"
  intro d hd
  repeat' walk_at "e"
  with_reducible refine s_seqR (fun σ H' => ∃ (ps : List Addr) (x2 x3 : Option V), Same H H' ∧ Gd H' d (eld l) ps ∧ (∀ p ∈ ps, H p = none) ∧ σ = [some (.str (tx l)), some (.ref d), x2, x3]) (fun σ H' z => ?_) fun N hN => ?_
  rotate_left
  · repeat' walk_at "s"
    refine s_lenX (by omega) ?_
    repeat' walk_at "s"
    refine s_mod (by decide) ?_
    repeat' walk_at "s"
    have G0 : Gd (upd H d (.dK [])) d [] [] := ⟨upd_same, rfl, fun i e p h => (nomatch h), List.nodup_nil⟩
    refine s_if (fun c => ?_) fun c => ?_
    · have ho : l.length % 2 = 1 := by omega
      repeat' walk_at "s"
      refine s_all ⟨_, rfl, l, rfl, h1, h2, ?_⟩
      have hm : l.length = 2 * mid l + 1 := by unfold mid; omega
      repeat' walk_at "s"
      refine s_rn1 (by omega) (by omega) ?_
      refine for_range (fun i σ H' => ∃ (ps : List Addr) (x3 : Option V), Same H H' ∧ Gd H' d (eldN l i) ps ∧ ps.Nodup ∧ (∀ p ∈ ps, H p = none) ∧ σ = [some (.str (tx l)), some (.ref d), some (.int (mid l)), x3])
        ⟨[], _, same_new hd, G0, List.nodup_nil, fun p hp => (nomatch hp), rfl⟩ (fun i σ H' hi z => ?_) fun σ H' z => ?_
      · obtain ⟨ps, x3, e0, G, nd, fp, rfl⟩ := z
        have hi2 : i ≤ mid l := by omega
        have hb := eldN_ok l i i (Nat.le_refl _)
        rw [eldN_succ]
        unfold stepE
        repeat' walk_at "s"
        refine s_all ⟨_, _, rfl, l, _, rfl, rfl, ho, h2, by omega, by omega, ?_⟩
        rw [show (0 + (i : Int)).toNat = i by omega, Int.zero_add]
        repeat' walk_at "s"
        cases hc : isC l i with
        | false =>
          refine iteF ?_
          repeat' walk_at "s"
          exact ⟨ps, _, e0, G, nd, fp, rfl⟩
        | true =>
          refine iteT ?_
          rw [if_pos rfl]
          repeat' walk_at "s"
          refine s_dsetd ?_
          repeat' walk_at "s"
          refine ⟨d, rfl, .inl ⟨_, .inl G.hd⟩, ?_⟩
          repeat' walk_at "s"
          refine s_midX (by omega) (by omega) (by omega) ?_
          rw [Int.toNat_natCast, show ((i : Int) + (mid l : Int) + 1).toNat - i = mid l + 1 by omega]
          repeat' walk_at "s"
          refine newS (sz_of rfl) fun z H1 fz e1 hz => ?_
          have hlk : (kvs ((eldN l i).map Prod.fst) ps).length < sizeLine := by
            unfold kvs
            rw [List.length_map, List.length_zip, List.length_map, G.len, sizeLine_eq]
            have := hb.2.1
            omega
          have fd : ∀ p ∈ ps, p ≠ d := fun p hp e => by
            obtain ⟨j, hj⟩ := List.mem_iff_getElem?.mp hp
            have hj2 : j < (eldN l i).length := by rw [← G.len]; exact (List.getElem?_eq_some_iff.mp hj).1
            have := G.at_ j _ p (List.getElem?_eq_getElem hj2) hj
            rw [e, G.hd] at this
            cases this
          have fz0 : H z = none := same_none e0 fz
          have zps : ∀ p ∈ ps, p ≠ z := fun p hp e => by
            obtain ⟨j, hj⟩ := List.mem_iff_getElem?.mp hp
            have hj2 : j < (eldN l i).length := by rw [← G.len]; exact (List.getElem?_eq_some_iff.mp hj).1
            have := G.at_ j _ p (List.getElem?_eq_getElem hj2) hj
            rw [e, fz] at this
            cases this
          have e1p : ∀ p ∈ ps, H1 p = H' p := fun p hp => by
            obtain ⟨j, hj⟩ := List.mem_iff_getElem?.mp hp
            have hj2 : j < (eldN l i).length := by rw [← G.len]; exact (List.getElem?_eq_some_iff.mp hj).1
            have := G.at_ j _ p (List.getElem?_eq_getElem hj2) hj
            rw [this, e1 _ _ this]
          refine ⟨_, kT (cand l i), e1 _ _ G.hd, rfl, hlk, fun v hv => ?_, fun hv => ?_⟩
          · by_cases c : cand l i ∈ (eldN l i).map Prod.fst
            · obtain ⟨j, p, k1, k2, k3⟩ := valV_yes (ps := ps) (by rw [List.length_map]; exact G.len) c
              rw [k3] at hv
              cases hv
              have hj : j < (eldN l i).length := by rw [← G.len]; exact (List.getElem?_eq_some_iff.mp k2).1
              have hp := G.at_ j _ p (List.getElem?_eq_getElem hj) k2
              have hmp := List.mem_of_getElem? k2
              refine s_tyL (SqL.of (e1 _ _ hp)) ?_
              repeat' walk_at "s"
              refine s_app (e1 _ _ hp) ?_ ?_
              · have := (hb.2.2 _ (List.getElem_mem hj)).2.1
                rw [List.length_map, sizeLine_eq]
                omega
              obtain ⟨i1, i2, i3⟩ := ins_old (k := (i : Int)) c
              refine ⟨ps, _, same_put (e0.trans e1) (fp _ hmp), ⟨?_, by rw [i2]; exact G.len, fun j' e' p' a1 a2 => ?_, by rw [i1]; exact hb.1⟩, nd, fp, rfl⟩
              · rw [upd_ne (Ne.symm (fd _ hmp)), i1]
                exact e1 _ _ G.hd
              · have hj' : j' < (eldN l i).length := by rw [← i2]; exact (List.getElem?_eq_some_iff.mp a1).1
                have a3 := i3 j' _ (List.getElem?_eq_getElem hj')
                rw [a1] at a3
                have a4 := Option.some.inj a3
                have k4 : ((eldN l i)[j]).1 = cand l i := by
                  rw [List.getElem?_map, List.getElem?_eq_getElem hj] at k1
                  exact Option.some.inj k1
                by_cases q : j' = j
                · subst q
                  rw [k2] at a2
                  cases a2
                  rw [upd_same, a4, if_pos k4]
                  rw [List.map_append]
                  rfl
                · have np : p' ≠ p := fun e => q ((List.getElem?_inj (by rw [G.len]; exact hj') nd).mp (by rw [a2, k2, e]))
                  have nk : ¬ ((eldN l i)[j']).1 = cand l i := fun e => q ((List.getElem?_inj (l := (eldN l i).map Prod.fst) (by rw [List.length_map]; exact hj') hb.1).mp (by
                    rw [k1, List.getElem?_map, List.getElem?_eq_getElem hj']
                    exact congrArg some e))
                  rw [upd_ne np, a4, if_neg nk, e1p _ (List.mem_of_getElem? a2)]
                  exact G.at_ j' _ p' (List.getElem?_eq_getElem hj') a2
            · rw [valV_no c] at hv
              cases hv
          · have c : cand l i ∉ (eldN l i).map Prod.fst := fun c => by
              obtain ⟨j, p, k1, k2, k3⟩ := valV_yes (ps := ps) (by rw [List.length_map]; exact G.len) c
              rw [k3] at hv
              cases hv
            have zd : z ≠ d := fun e => by
              have := G.hd
              rw [← e, fz] at this
              cases this
            have hz2 : (upd H1 d (.dK (putK (kvs ((eldN l i).map Prod.fst) ps) (kT (cand l i)) (.ref z)))) z = some (.lst []) := by rw [upd_ne zd]; exact hz
            refine s_tyL (SqL.of hz2) ?_
            repeat' walk_at "s"
            refine s_app hz2 (by rw [sizeLine_eq]; decide) ?_
            rw [ins_new c]
            have hnone : H d = none := hd
            refine ⟨ps ++ [z], _, same_put (same_put (e0.trans e1) hd) fz0, ⟨?_, by rw [List.length_append, List.length_append, G.len]; rfl, fun j' e' p' a1 a2 => ?_, ?_⟩, ?_, fun p hp => (List.mem_append.mp hp).elim (fp p) fun q => ?_, rfl⟩
            · rw [upd_ne (Ne.symm zd), upd_same, putK_new _ hv, List.map_append, show [(cand l i, [(i : Int)])].map Prod.fst = [cand l i] from rfl, kvs_snoc (by rw [List.length_map]; exact G.len)]
            · by_cases q : j' < (eldN l i).length
              · rw [List.getElem?_append_left q] at a1
                rw [List.getElem?_append_left (by rw [G.len]; exact q)] at a2
                have hmp := List.mem_of_getElem? a2
                rw [upd_ne (zps _ hmp), upd_ne (fd _ hmp), e1p _ hmp]
                exact G.at_ j' _ p' a1 a2
              · have hj : j' = (eldN l i).length := by
                  have := (List.getElem?_eq_some_iff.mp a1).1
                  rw [List.length_append, List.length_singleton] at this
                  omega
                subst hj
                rw [List.getElem?_append_right (Nat.le_refl _), Nat.sub_self] at a1
                rw [List.getElem?_append_right (by rw [G.len]; exact Nat.le_refl _), G.len, Nat.sub_self] at a2
                cases a1
                cases a2
                exact upd_same
            · have := ins_keys (k := (i : Int)) (t := cand l i) hb.1
              rw [ins_new c] at this
              exact this
            · refine List.nodup_append.mpr ⟨nd, List.nodup_cons.mpr ⟨fun q => (nomatch q), List.nodup_nil⟩, fun a ha c hc => ?_⟩
              rcases List.mem_singleton.mp hc with rfl
              exact zps a ha
            · rcases List.mem_singleton.mp q with rfl
              exact fz0
      · obtain ⟨ps, x3, e0, G, nd, fp, rfl⟩ := z
        rw [show ((mid l : Int) + 1).toNat = mid l + 1 by omega] at G
        exact hN _ _ ⟨ps, _, _, e0, by unfold eld; rw [if_pos ho]; exact G, fp, rfl⟩
    · repeat' walk_at "s"
      exact hN _ _ ⟨[], _, _, same_new hd, by unfold eld; rw [if_neg (by omega)]; exact G0, fun p hp => (nomatch hp), rfl⟩
  obtain ⟨ps, x2, x3, e0, G, fp, rfl⟩ := z
  repeat' walk_at "s"
  refine s_items ?_
  repeat' walk_at "s"
  refine ⟨d, _, rfl, G.hd, fun H2 r ts e2 fr ft nr hr hp => ?_⟩
  have hl : ts.length = (eld l).length := by
    have := Paired.length hp
    unfold kvs at this
    rw [List.length_map, List.length_zip, List.length_map, G.len, Nat.min_self] at this
    exact this
  refine hQ r ts ps H2 (e0.trans e2) ⟨hr, hl, G.len, fun i e he => ?_, same_none e0 fr, fp, fun hm => ?_⟩
  · have hi : i < (eld l).length := (List.getElem?_eq_some_iff.mp he).1
    have h4 : ts[i]? = some ts[i] := List.getElem?_eq_getElem (by rw [hl]; exact hi)
    have hpi : i < ps.length := by rw [G.len]; exact hi
    have h5 : ps[i]? = some ps[i] := List.getElem?_eq_getElem hpi
    have h6 : (((eld l).map Prod.fst).zip ps)[i]? = some (e.1, ps[i]) := List.getElem?_zip_eq_some.mpr ⟨by rw [List.getElem?_map, he]; rfl, h5⟩
    obtain ⟨y, y1, y2⟩ := LiI.paired_get hp h4
    unfold kvs at y1
    rw [List.getElem?_map, h6] at y1
    cases y1
    exact ⟨_, _, h4, h5, y2, e2 _ _ (G.at_ i e _ he h5)⟩
  · obtain ⟨j, hj⟩ := List.mem_iff_getElem?.mp hm
    have hj2 : j < (eld l).length := by rw [← G.len]; exact (List.getElem?_eq_some_iff.mp hj).1
    have := G.at_ j _ r (List.getElem?_eq_getElem hj2) hj
    rw [fr] at this
    cases this
def t_zelders (K : PySem.W.Frag) : TS :=
  (tSeq (tAsg (tTup (tCons (tOp rDiv (tOp (rPlus K) (tCB (rLen K) (tCons (tVar 0) tNil)) (tC (.int 1))) (tC (.int 2))) (tCons tDNewK tNil))) (gTup K 2 (gCons (gName 1) (gCons (gName 2) gNil))))
  (tSeq (tFor (iRng1 (tCons (tOp rTimes (tVar 1) (tOp rMod (tCB (rLen K) (tCons (tVar 0) tNil)) (tC (.int 2)))) tNil)) (gName 3)
  (tSeq (tAsg (tSl (rCut K) (tVar 0) (tPart (tVar 3)) (tPart (tOp (rPlus K) (tVar 3) (tVar 1)))) (gName 4))
  (tIfS (tTest (tOp (rSame K) (gCall (sp_called K) E1 (tCons (tVar 4) (tCons (tVar 3) tNil))) (tVar 0))) (sDPut (tVar 2) (tVar 4) (tOp (rPlus K) (tDGet2 (tVar 2) (tVar 4) (tLst tNil)) (tLst (tCons (tVar 3) tNil)))) tNext)))
  (tRet (tLockE (tLc (iKeys (tVar 2)) (gName 4) tYes (tTup (tCons (tVar 4) (tCons (tDGet (tVar 2) (tVar 4)) tNil))) [4])))))
theorem pu_zelders {K : PySem.W.Frag} (vs : List V) (H : Hp) (Q : VK) (E : XK) (h : sp_zelders K vs H Q E) : t_zelders K { nx := fun _ H' => Q .non H', rt := Q } (start ["_law_row_here", "_law_size", "_law_found", "_law_place_here", "_law_one"] vs) H := by
  obtain ⟨_, rfl, l, rfl, h1, h2, hQ⟩ := h
  have hml : mid l ≤ 500000 := by unfold mid; omega
  unfold t_zelders
  repeat' walk_at "s"
  refine s_lenX (by omega) ?_
  repeat' walk_at "s"
  refine s_div ⟨by decide, lg (by decide) (by decide)⟩ ?_
  repeat' walk_at "s"
  intro d hd
  repeat' walk_at "s"
  refine newS (sz_of rfl) fun p0 H1 _ e1 hp0 => ?_
  refine s_gTup (SqT.of hp0) rfl ?_
  have G0 : Gd (upd H d (.dK [])) d [] [] := ⟨upd_same, rfl, fun i e p h => (nomatch h), List.nodup_nil⟩
  have G1 : Gd H1 d [] [] := ⟨e1 _ _ upd_same, rfl, fun i e p h => (nomatch h), List.nodup_nil⟩
  have e0 : Same H H1 := (same_new hd).trans e1
  repeat' walk_at "s"
  refine s_lenX (by omega) ?_
  repeat' walk_at "s"
  refine s_mod (by decide) ?_
  have hsz : ((l.length : Int) + 1) / 2 * ((l.length : Int) % 2) = ((if l.length % 2 = 1 then mid l + 1 else 0 : Nat) : Int) := by
    unfold mid
    split
    · rw [show (l.length : Int) % 2 = 1 by omega]
      omega
    · rw [show (l.length : Int) % 2 = 0 by omega, Int.mul_zero]
      rfl
  have hle : (if l.length % 2 = 1 then mid l + 1 else 0 : Nat) ≤ 500001 := by
    unfold mid
    split <;> omega
  refine s_mulI (mulW (by omega) (by omega)) ?_
  rw [hsz]
  repeat' walk_at "s"
  refine s_rn1 (by omega) (by omega) ?_
  refine for_range (fun i σ H' => ∃ (ps : List Addr) (x3 x4 : Option V), Same H H' ∧ Gd H' d (eldN l i) ps ∧ σ = [some (.str (tx l)), some (.int (((l.length : Int) + 1) / 2)), some (.ref d), x3, x4])
    ⟨[], _, _, e0, G1, rfl⟩ (fun i σ H' hi z => ?_) fun σ H' z => ?_
  · clear G0 G1 e0 hsz
    obtain ⟨ps, x3, x4, e0, G, rfl⟩ := z
    have ho : l.length % 2 = 1 := by
      by_cases c : l.length % 2 = 1
      · exact c
      · rw [if_neg c] at hi
        exact absurd hi (by simp)
    rw [if_pos ho] at hi
    have hi2 : i ≤ mid l := by omega
    have hb := eldN_ok l i i (Nat.le_refl _)
    have hcl := cand_len ho hi2
    rw [eldN_succ, Int.zero_add]
    unfold stepE
    repeat' walk_at "s"
    refine s_midX (by omega) (by omega) (by omega) ?_
    rw [Int.toNat_natCast, show ((i : Int) + ((l.length : Int) + 1) / 2).toNat - i = mid l + 1 by unfold mid; omega]
    repeat' walk_at "s"
    refine s_mk (l := cand l i) (by omega) (by omega) (by omega) ?_
    rw [Int.toNat_natCast]
    repeat' walk_at "s"
    have hdec : decide (mk (cand l i) i = l) = isC l i := (isC_mk ho hi2).symm
    have e4 : (l.drop i).take (mid l + 1) = cand l i := rfl
    rw [hdec]
    cases hc : isC l i with
    | false =>
      refine iteF ?_
      repeat' walk_at "s"
      exact ⟨ps, _, _, e0, G, rfl⟩
    | true =>
      refine iteT ?_
      rw [if_pos rfl, e4]
      refine s_dput ?_
      repeat' walk_at "s"
      refine s_dget2 ?_
      repeat' walk_at "s"
      refine ⟨d, rfl, .inl ⟨_, .inl G.hd⟩, ?_⟩
      repeat' walk_at "s"
      refine newS (sz_of rfl) fun z H1 fz e1 hz => ?_
      refine ⟨_, DGet.k (k := kT (cand l i)) (e1 _ _ G.hd), ?_⟩
      repeat' walk_at "s"
      refine newS (sz_of rfl) fun p2 H2 _ e2 hp2 => ?_
      have old : ∀ p ∈ ps, ∃ (j : Nat) (hj : j < (eldN l i).length), ps[j]? = some p ∧ H' p = some (.lst (((eldN l i)[j]).2.map V.int)) := fun p hp => by
        obtain ⟨j, hj⟩ := List.mem_iff_getElem?.mp hp
        have hj2 : j < (eldN l i).length := by rw [← G.len]; exact (List.getElem?_eq_some_iff.mp hj).1
        exact ⟨j, hj2, hj, G.at_ j _ p (List.getElem?_eq_getElem hj2) hj⟩
      obtain ⟨pa, ys, ea, hpa, y1, y2, y3⟩ : ∃ (pa : Addr) (ys : List Int), (valV (kvs ((eldN l i).map Prod.fst) ps) (kT (cand l i))).getD (.ref z) = .ref pa ∧ H2 pa = some (.lst (ys.map V.int)) ∧ (∀ (j : Nat) (e : List Nat × List Int), (eldN l i)[j]? = some e → e.1 = cand l i → ys = e.2) ∧ (cand l i ∉ (eldN l i).map Prod.fst → ys = []) ∧ ys.length ≤ i := by
        by_cases c : cand l i ∈ (eldN l i).map Prod.fst
        · obtain ⟨j, p, k1, k2, k3⟩ := valV_yes (ps := ps) (by rw [List.length_map]; exact G.len) c
          have hj : j < (eldN l i).length := by rw [← G.len]; exact (List.getElem?_eq_some_iff.mp k2).1
          refine ⟨p, ((eldN l i)[j]).2, by rw [k3]; rfl, (e1.trans e2) _ _ (G.at_ j _ p (List.getElem?_eq_getElem hj) k2), fun j' e he h => ?_, fun q => absurd c q, (hb.2.2 _ (List.getElem_mem hj)).2.1⟩
          have hj' := (List.getElem?_eq_some_iff.mp he).1
          have q : j' = j := (List.getElem?_inj (l := (eldN l i).map Prod.fst) (by rw [List.length_map]; exact hj') hb.1).mp (by
            rw [k1, List.getElem?_map, he]
            exact congrArg some h)
          subst q
          rw [List.getElem?_eq_getElem hj] at he
          rw [Option.some.inj he]
        · exact ⟨z, [], by rw [valV_no c]; rfl, e2 _ _ hz, fun j e he h => absurd (by rw [← h]; exact List.mem_map_of_mem (List.mem_of_getElem? he)) c, fun _ => rfl, Nat.zero_le _⟩
      rw [ea]
      refine s_addN hpa hp2 (by rw [List.length_map]; show ys.length + 1 ≤ _; omega) (newS trivial fun q H3 fq e3 hq => ?_)
      repeat' walk_at "s"
      have ee := (e1.trans e2).trans e3
      have hd3 := ee _ _ G.hd
      refine ⟨d, _, rfl, DPut.k (k := kT (cand l i)) hd3 ?_, ?_⟩
      · unfold kvs
        rw [List.length_map, List.length_zip, List.length_map, G.len, sizeLine_eq]
        have := hb.2.1
        omega
      have qd : q ≠ d := fun e => by
        rw [e, (e1.trans e2) _ _ G.hd] at fq
        cases fq
      have pd : ∀ p ∈ ps, p ≠ d := fun p hp e => by
        obtain ⟨j, hj, k1, k2⟩ := old p hp
        rw [e, G.hd] at k2
        cases k2
      obtain ⟨ps', G', _⟩ := gd_put (H' := upd H3 d (.dK (putK (kvs ((eldN l i).map Prod.fst) ps) (kT (cand l i)) (.ref q)))) (q := q) (t := cand l i) (k := (i : Int)) G (fun p hp => by
          obtain ⟨j, hj, k1, k2⟩ := old p hp
          rw [upd_ne (pd p hp), k2]
          exact ee _ _ k2) (fun xs x1 x2 => by
          rw [upd_ne qd, hq]
          have e5 : xs = ys := by
            by_cases c : cand l i ∈ (eldN l i).map Prod.fst
            · obtain ⟨e, he, h⟩ := List.mem_map.mp c
              obtain ⟨j, hj⟩ := List.mem_iff_getElem?.mp he
              rw [x1 j e hj h, y1 j e hj h]
            · rw [x2 c, y2 c]
          rw [e5, List.map_append]
          rfl) upd_same
      exact ⟨ps', _, _, same_put (e0.trans ee) hd, G', rfl⟩
  · clear G0 G1 e0 hsz
    obtain ⟨ps, x3, x4, e0, G, rfl⟩ := z
    have hG : Gd H' d (eld l) ps := by
      have : eld l = eldN l (((if l.length % 2 = 1 then mid l + 1 else 0 : Nat) : Int).toNat) := by rw [Int.toNat_natCast]; rfl
      rw [this]
      exact G
    have hb := eldN_ok l 500001 (if l.length % 2 = 1 then mid l + 1 else 0) hle
    have hbl : (eld l).length ≤ 500001 := Nat.le_trans hb.2.1 hle
    clear G hb
    repeat' walk_at "s"
    refine s_lockE hG.hd trivial fun od => ?_
    repeat' walk_at "s"
    refine s_iK ?_
    repeat' walk_at "s"
    refine ⟨d, od, rfl, .inl ⟨_, upd_same, ?_⟩⟩
    intro D hD
    have hkl : (kvs ((eld l).map Prod.fst) ps).length = (eld l).length := by
      unfold kvs
      rw [List.length_map, List.length_zip, List.length_map, hG.len, Nat.min_self]
    refine lcK (es := kvs ((eld l).map Prod.fst) ps) hD (fun i acc Hi => Same (upd H' d (.frz od (.dK (kvs ((eld l).map Prod.fst) ps)))) Hi ∧ ∃ ts : List Addr, acc = ts.map V.ref ∧ ts.length = i ∧ ∀ (j : Nat) (t : Addr), ts[j]? = some t → ∃ e p, (eld l)[j]? = some e ∧ ps[j]? = some p ∧ Hi t = some (.tup [.str (tx e.1), .ref p]))
      ⟨Same.refl _, [], rfl, rfl, fun j t h => nomatch h⟩ (fun i acc Hi _ z => z.1 _ _ upd_same) (fun i k v acc Hi e hi hnD hl z => ?_) fun acc Hi hnD hl z => ?_
    · obtain ⟨ec, ts, rfl, hts, hat⟩ := z
      have hi2 : i < (eld l).length := by rw [← hkl]; exact hi
      have hpi : i < ps.length := by rw [hG.len]; exact hi2
      have hz : (((eld l).map Prod.fst).zip ps)[i]? = some (((eld l)[i]).1, ps[i]) := List.getElem?_zip_eq_some.mpr ⟨by rw [List.getElem?_map, List.getElem?_eq_getElem hi2]; rfl, List.getElem?_eq_getElem hpi⟩
      have ek : k = kT ((eld l)[i]).1 ∧ v = .ref ps[i] := by
        unfold kvs at e
        rw [List.getElem?_map, hz] at e
        cases e
        exact ⟨rfl, rfl⟩
      obtain ⟨rfl, rfl⟩ := ek
      have hv : valV (kvs ((eld l).map Prod.fst) ps) (kT ((eld l)[i]).1) = some (.ref ps[i]) := valV_at hG.keys (by rw [List.getElem?_map, List.getElem?_eq_getElem hi2]; rfl) (List.getElem?_eq_getElem hpi)
      show gName 4 (.str (tx ((eld l)[i]).1)) _ _ _
      repeat' walk_at "s"
      refine ⟨rfl, ?_⟩
      repeat' walk_at "s"
      refine s_dget ?_
      repeat' walk_at "s"
      refine ⟨d, .ref ps[i], rfl, .inl ⟨_, _, .inr ⟨od, (ec.trans (same_new hnD)) _ _ upd_same⟩, rfl, hv.symm⟩, ?_⟩
      repeat' walk_at "s"
      refine newH hnD (sz_of rfl) fun t H9 e9 ht hnD => ?_
      refine lc_put hnD hl (by rw [sizeLine_eq]; omega) ⟨ec.trans e9, ts ++ [t], by rw [List.map_append]; rfl, by rw [List.length_append, List.length_singleton]; omega, fun j t' h => ?_⟩
      by_cases c : j < ts.length
      · rw [List.getElem?_append_left c] at h
        obtain ⟨e, p, h1, h2, h3⟩ := hat j t' h
        exact ⟨e, p, h1, h2, e9 _ _ h3⟩
      · have hj : j = ts.length := by
          have := (List.getElem?_eq_some_iff.mp h).1
          rw [List.length_append, List.length_singleton] at this
          omega
        subst hj
        rw [List.getElem?_append_right (Nat.le_refl _), Nat.sub_self] at h
        cases h
        rw [hts]
        exact ⟨_, _, List.getElem?_eq_getElem hi2, List.getElem?_eq_getElem hpi, ht⟩
    · obtain ⟨ec, ts, rfl, hts, hat⟩ := z
      rw [hkl] at hts
      refine doneS hnD fun H6 e6 h6 => ?_
      have hf := (ec.trans e6) _ _ upd_same
      refine ⟨hf, ?_⟩
      have off : ∀ {a : Addr} {x : HO}, H6 a = some x → (∀ o u, x ≠ .frz o u) → (upd H6 d (.dK (kvs ((eld l).map Prod.fst) ps))) a = some x := fun {a x} h n => by
        have ne : a ≠ d := fun e => by
          rw [e, hf] at h
          exact n _ _ (Option.some.inj h).symm
        rw [upd_ne ne]
        exact h
      have S6 : Same H (upd H6 d (.dK (kvs ((eld l).map Prod.fst) ps))) := fun a x hx => by
        have ne : a ≠ d := fun e => by
          rw [e, hd] at hx
          cases hx
        rw [upd_ne ne]
        exact e6 _ _ (ec _ _ (by rw [upd_ne ne]; exact e0 _ _ hx))
      refine hQ D _ S6 ?_
      have at6 : ∀ (i : Nat) (e : List Nat × List Int), (eld l)[i]? = some e → ∃ t p, ts[i]? = some t ∧ ps[i]? = some p ∧ (upd H6 d (.dK (kvs ((eld l).map Prod.fst) ps))) t = some (.tup [.str (tx e.1), .ref p]) ∧ (upd H6 d (.dK (kvs ((eld l).map Prod.fst) ps))) p = some (.lst (e.2.map V.int)) := fun i e he => by
        have hi : i < (eld l).length := (List.getElem?_eq_some_iff.mp he).1
        have hti : i < ts.length := by omega
        obtain ⟨e', p, h1, h2, h3⟩ := hat i _ (List.getElem?_eq_getElem hti)
        rw [he] at h1
        cases h1
        refine ⟨_, p, List.getElem?_eq_getElem hti, h2, off (e6 _ _ h3) (fun _ _ z => nomatch z), off ?_ (fun _ _ z => nomatch z)⟩
        have hp := hG.at_ i e p he h2
        have ne : p ≠ d := fun q => by
          rw [q, hG.hd] at hp
          cases hp
        exact e6 _ _ (ec _ _ (by rw [upd_ne ne]; exact hp))
      have hr6 := off h6 (fun _ _ z => nomatch z)
      exact dp_el hr6 hts at6
end
section
/-- one step of a reading (e: none past a statement's end) -/
local macro_rules
  | `(tactic| walk_at "e") => `(tactic| first
    | with_reducible refine s_ifs ?_
    | with_reducible refine s_test ?_
    | with_reducible refine s_truth ?_
    | with_reducible refine s_op ?_
    | with_reducible refine s_un ?_
    | with_reducible refine s_asg ?_
    | with_reducible refine s_ret ?_
    | with_reducible refine s_next ?_
    | with_reducible refine s_drop ?_
    | with_reducible refine s_c ?_
    | ((with_reducible refine s_var (v := ?v) ?e ?q); case e => exact rfl)
    | with_reducible refine s_name ?_
    | with_reducible refine s_exq ?_
    | with_reducible refine s_cons ?_
    | with_reducible refine s_nil ?_
    | with_reducible refine s_lst ?_
    | with_reducible refine s_tup ?_
    | with_reducible refine s_cb ?_
    | with_reducible refine s_call ?_
    | with_reducible refine s_and ?_
    | with_reducible refine s_or ?_
    | with_reducible refine s_not ?_
    | with_reducible refine s_andV ?_
    | with_reducible refine s_orV ?_
    | with_reducible refine s_notV ?_
    | with_reducible refine s_ife ?_
    | with_reducible refine s_chain ?_
    | with_reducible refine s_addI ?_
    | with_reducible refine s_sub ?_
    | with_reducible refine s_neg ?_
    | with_reducible refine s_eqI ?_
    | with_reducible refine s_eqX ?_
    | with_reducible refine s_eqT ?_
    | with_reducible refine s_eqB ?_
    | with_reducible refine s_eqNI ?_
    | with_reducible refine s_eqIN ?_
    | with_reducible refine s_eqNN ?_
    | with_reducible refine s_neI ?_
    | with_reducible refine s_neX ?_
    | with_reducible refine s_neT ?_
    | with_reducible refine s_neB ?_
    | with_reducible refine s_lt ?_
    | with_reducible refine s_le ?_
    | with_reducible refine s_gt ?_
    | with_reducible refine s_ge ?_
    | with_reducible refine s_isN ?_
    | with_reducible refine s_isS ?_
    | with_reducible refine s_truB ?_
    | with_reducible refine s_truI ?_
    | with_reducible refine s_truN ?_
    | with_reducible refine s_abs ?_
    | with_reducible refine s_min2 ?_
    | with_reducible refine s_max2 ?_
    | with_reducible refine s_intI ?_
    | with_reducible refine s_intB ?_
    | with_reducible refine s_ifT ?_
    | with_reducible refine s_ifF ?_
    | with_reducible refine s_ifnT ?_
    | with_reducible refine s_ifnF ?_
    | with_reducible refine s_gSub ?_
    | with_reducible refine s_gTup ?_
    | with_reducible refine s_augS ?_
    | ((with_reducible refine s_aug (x := ?v) ?e ?q); case e => exact rfl)
    | with_reducible refine s_yes ?_
    | with_reducible refine s_par ?_
    | with_reducible refine s_two ?_
    | with_reducible refine s_m1 ?_
    | with_reducible refine s_isstr ?_
    | with_reducible refine s_rev0 ?_
    | with_reducible refine s_gCons ?_
    | with_reducible refine s_gNil ?_
    | with_reducible refine s_ipI ?_
    | with_reducible refine s_ipA ?_
    | with_reducible refine s_sl ?_
    | with_reducible refine s_noPart ?_
    | with_reducible refine s_part ?_
    | with_reducible refine s_parte ?_
    | with_reducible refine s_for ?_
    | with_reducible refine s_lc ?_
    | with_reducible refine s_iL ?_
    | with_reducible refine s_iS ?_
    | with_reducible refine s_iT ?_
    | with_reducible refine s_itS ?_
    | with_reducible refine s_iR1 ?_
    | with_reducible refine s_iR2 ?_
    | with_reducible refine s_rg1 ?_
    | with_reducible refine s_rg2 ?_
    | with_reducible refine s_rg1e ?_
    | with_reducible refine s_rg2e ?_
    | with_reducible refine s_lrg ?_
    | with_reducible refine s_bm ?_
    | with_reducible refine s_bm0 ?_
    | with_reducible refine s_retN ?_)
  | `(tactic| walk_at "s") => `(tactic| first
    | with_reducible refine s_seq ?_
    | walk_at "e")
/-! ### roots -/
/-- l repeats its first t letters -/
def Cy (l : List Nat) (t : Nat) : Prop := l.length % t = 0 ∧ ∀ i, i < l.length → l[i]? = l[i % t]?
/-- the least one -/
def Rt (l : List Nat) (s : Nat) : Prop := 1 ≤ s ∧ Cy l s ∧ ∀ t, 1 ≤ t → t < s → ¬ Cy l t
theorem rt_uniq {l : List Nat} {s t : Nat} (a : Rt l s) (b : Rt l t) : s = t := by
  rcases Nat.lt_trichotomy s t with h | h | h
  · exact absurd a.2.1 (b.2.2 s a.1 h)
  · exact h
  · exact absurd b.2.1 (a.2.2 t b.1 h)
theorem rt_le {l : List Nat} {s : Nat} (a : Rt l s) (h : 1 ≤ l.length) : s ≤ l.length := Nat.le_of_dvd h (Nat.dvd_of_mod_eq_zero a.2.1.1)
theorem cy_all (l : List Nat) : Cy l l.length := ⟨Nat.mod_self _, fun i h => by rw [Nat.mod_eq_of_lt h]⟩
theorem cy_cut {l : List Nat} {t : Nat} (ht : 1 ≤ t) (h : l.length % t = 0) : l.drop t = l.take (l.length - t) ↔ Cy l t := by
  constructor
  · intro e
    refine ⟨h, fun i => ?_⟩
    induction i using Nat.strongRecOn with
    | _ i ih =>
      intro hi
      by_cases c : i < t
      · rw [Nat.mod_eq_of_lt c]
      · have h1 := ih (i - t) (by omega) (by omega)
        have h2 : (l.drop t)[i - t]? = (l.take (l.length - t))[i - t]? := by rw [e]
        rw [List.getElem?_drop, List.getElem?_take, if_pos (by omega), show t + (i - t) = i by omega] at h2
        rw [h2, h1]
        congr 1
        conv => rhs; rw [show i = (i - t) + t by omega, Nat.add_mod_right]
  · intro c
    refine List.ext_getElem? fun i => ?_
    rw [List.getElem?_drop, List.getElem?_take]
    by_cases hi : i < l.length - t
    · rw [if_pos hi, c.2 (t + i) (by omega), c.2 i (by omega)]
      congr 1
      rw [Nat.add_mod_left]
    · rw [if_neg hi]
      exact List.getElem?_eq_none (by omega)
theorem rep_at {w : List Nat} {q i : Nat} (h : i < q * w.length) : (List.replicate q w).flatten[i]? = w[i % w.length]? := by
  induction q generalizing i with
  | zero => omega
  | succ q ih =>
    rw [List.replicate_succ, List.flatten_cons]
    by_cases c : i < w.length
    · rw [List.getElem?_append_left c, Nat.mod_eq_of_lt c]
    · have e : (q + 1) * w.length = q * w.length + w.length := by rw [Nat.add_mul, Nat.one_mul]
      rw [List.getElem?_append_right (by omega), ih (by omega)]
      congr 1
      conv => rhs; rw [show i = (i - w.length) + w.length by omega, Nat.add_mod_right]
theorem cy_rep {l : List Nat} {t : Nat} (ht : 1 ≤ t) (hl : t ≤ l.length) (h : l.length % t = 0) : (List.replicate (l.length / t) (l.take t)).flatten = l ↔ Cy l t := by
  have hw : (l.take t).length = t := by rw [List.length_take]; omega
  have hm : l.length / t * t = l.length := Nat.div_mul_cancel (Nat.dvd_of_mod_eq_zero h)
  have at_ : ∀ i, i < l.length → (List.replicate (l.length / t) (l.take t)).flatten[i]? = l[i % t]? := fun i hi => by
    rw [rep_at (by rw [hw, hm]; exact hi), hw, List.getElem?_take, if_pos (Nat.mod_lt _ ht)]
  constructor
  · intro e
    refine ⟨h, fun i hi => ?_⟩
    rw [← at_ i hi, e]
  · intro c
    refine List.ext_getElem? fun i => ?_
    by_cases hi : i < l.length
    · rw [at_ i hi, c.2 i hi]
    · rw [List.getElem?_eq_none (show (List.replicate (l.length / t) (l.take t)).flatten.length ≤ i by rw [rep_len, hw, hm]; omega), List.getElem?_eq_none (show l.length ≤ i by omega)]
theorem rt_self {l : List Nat} {s : Nat} (a : Rt l s) (h : 1 ≤ l.length) : Rt (l.take s) s := by
  have hs := rt_le a h
  have hw : (l.take s).length = s := by rw [List.length_take]; omega
  refine ⟨a.1, ⟨by rw [hw, Nat.mod_self], fun i hi => by rw [Nat.mod_eq_of_lt (by omega)]⟩, fun t h1 h2 c => a.2.2 t h1 h2 ?_⟩
  have c1 := c.1
  rw [hw] at c1
  have d : t ∣ s := Nat.dvd_of_mod_eq_zero c1
  refine ⟨Nat.mod_eq_zero_of_dvd (Nat.dvd_trans d (Nat.dvd_of_mod_eq_zero a.2.1.1)), fun i hi => ?_⟩
  have hr : i % s < s := Nat.mod_lt _ (by omega)
  have z := c.2 (i % s) (by omega)
  rw [List.getElem?_take, if_pos hr, List.getElem?_take, if_pos (Nat.lt_of_lt_of_le (Nat.mod_lt _ h1) (by omega)), Nat.mod_mod_of_dvd _ d] at z
  rw [a.2.1.2 i hi, z]
theorem per_gcd (f : Nat → Option Nat) : ∀ t s : Nat, (∀ i, f (i + t) = f i) → (∀ i, f (i + s) = f i) → ∀ i, f (i + Nat.gcd t s) = f i := by
  have mul : ∀ t : Nat, (∀ i, f (i + t) = f i) → ∀ k i, f (i + t * k) = f i := fun t ht k => by
    induction k with
    | zero => intro i; rfl
    | succ k ih => intro i; rw [Nat.mul_succ, ← Nat.add_assoc, ht, ih]
  intro t s
  induction t, s using Nat.gcd.induction with
  | H0 s => intro _ hs i; rw [Nat.gcd_zero_left]; exact hs i
  | H1 t s _ ih =>
    intro ht hs
    rw [Nat.gcd_rec]
    refine ih (fun i => ?_) ht
    have e := mul t ht (s / t) (i + s % t)
    rw [Nat.add_assoc, Nat.mod_add_div, hs] at e
    exact e.symm
theorem rt_rep {l : List Nat} {s k : Nat} (a : Rt l s) (h : 1 ≤ l.length) (hk : 1 ≤ k) : Rt (List.replicate k l).flatten s := by
  have hs := rt_le a h
  have hN : (List.replicate k l).flatten.length = k * l.length := rep_len k l
  have hle : l.length ≤ k * l.length := Nat.le_mul_of_pos_left _ hk
  have ds : s ∣ l.length := Nat.dvd_of_mod_eq_zero a.2.1.1
  have low : ∀ i, i < l.length → (List.replicate k l).flatten[i]? = l[i]? := fun i hi => by rw [rep_at (by omega), Nat.mod_eq_of_lt hi]
  have cs : Cy (List.replicate k l).flatten s := by
    refine ⟨by rw [hN]; exact Nat.mod_eq_zero_of_dvd (Nat.dvd_trans ds (Nat.dvd_mul_left _ _)), fun i hi => ?_⟩
    rw [hN] at hi
    have hm : i % l.length < l.length := Nat.mod_lt _ h
    have hms : i % s < s := Nat.mod_lt _ a.1
    rw [rep_at hi, a.2.1.2 _ hm, Nat.mod_mod_of_dvd _ ds, low _ (by omega)]
  refine ⟨a.1, cs, fun t h1 h2 c => ?_⟩
  have dt : t ∣ k * l.length := by rw [← hN]; exact Nat.dvd_of_mod_eq_zero c.1
  have f1 : ∀ u, 1 ≤ u → Cy (List.replicate k l).flatten u → ∀ i, (List.replicate k l).flatten[i % (k * l.length)]? = (List.replicate k l).flatten[i % u]? := fun u hu cu i => by
    have hm : i % (k * l.length) < k * l.length := Nat.mod_lt _ (by omega)
    rw [cu.2 _ (by omega), Nat.mod_mod_of_dvd _ (by rw [← hN]; exact Nat.dvd_of_mod_eq_zero cu.1)]
  have per : ∀ u, 1 ≤ u → Cy (List.replicate k l).flatten u → ∀ i, (List.replicate k l).flatten[(i + u) % (k * l.length)]? = (List.replicate k l).flatten[i % (k * l.length)]? := fun u hu cu i => by
    rw [f1 u hu cu, f1 u hu cu, Nat.add_mod_right]
  have pg := per_gcd (fun i => (List.replicate k l).flatten[i % (k * l.length)]?) t s (per t h1 c) (per s a.1 cs)
  have g1 : 1 ≤ Nat.gcd t s := Nat.gcd_pos_of_pos_left _ h1
  have g2 : Nat.gcd t s ≤ t := Nat.le_of_dvd h1 (Nat.gcd_dvd_left _ _)
  have pgk : ∀ q i, (List.replicate k l).flatten[(i + Nat.gcd t s * q) % (k * l.length)]? = (List.replicate k l).flatten[i % (k * l.length)]? := fun q => by
    induction q with
    | zero => intro i; rfl
    | succ q ih => intro i; rw [Nat.mul_succ, ← Nat.add_assoc]; exact (pg _).trans (ih i)
  refine a.2.2 (Nat.gcd t s) g1 (by omega) ⟨Nat.mod_eq_zero_of_dvd (Nat.dvd_trans (Nat.gcd_dvd_right _ _) ds), fun i hi => ?_⟩
  have z := pgk (i / Nat.gcd t s) (i % Nat.gcd t s)
  rw [Nat.mod_add_div] at z
  have hm : i % Nat.gcd t s < Nat.gcd t s := Nat.mod_lt _ g1
  rw [Nat.mod_eq_of_lt (show i < k * l.length by omega), Nat.mod_eq_of_lt (show i % Nat.gcd t s < k * l.length by omega), low i hi, low _ (by omega)] at z
  exact z
theorem rep_take {l : List Nat} {k s : Nat} (hk : 1 ≤ k) (hs : s ≤ l.length) : (List.replicate k l).flatten.take s = l.take s := by
  obtain ⟨q, rfl⟩ : ∃ q, k = q + 1 := ⟨k - 1, by omega⟩
  rw [List.replicate_succ, List.flatten_cons, List.take_append_of_le_length hs]

/-- the root of a text -/
def sp_root (K : PySem.W.Frag) : Sp := sp1 fun x H Q _ => ∃ l : List Nat, x = .str (tx l) ∧ 1 ≤ l.length ∧ l.length ≤ 1000000 ∧ ∀ s, Rt l s → Q (.str (tx (l.take s))) H
abbrev sp_zroot (K : PySem.W.Frag) : Sp := sp_root K
section
variable {K : PySem.W.Frag} {H : Hp} {Q : VK} {E : XK} {l : List Nat}
theorem s_root (h1 : 1 ≤ l.length) (h2 : l.length ≤ 1000000) (q : ∀ s, Rt l s → Q (.str (tx (l.take s))) H) : Fr (sp_root K) [.str (tx l)] H Q E := s_all ⟨_, rfl, l, rfl, h1, h2, q⟩
end
def t_root (K : PySem.W.Frag) : TS :=
  (tSeq (tAsg (tC (.int 1)) (gName 1))
  (tSeq (tWhile (tAnd (tTest (tOp rLess (tVar 1) (tCB (rLen K) (tCons (tVar 0) tNil)))) (tOr (tTest (tOp rMore (tOp rMod (tCB (rLen K) (tCons (tVar 0) tNil)) (tVar 1)) (tC (.int 0)))) (tTest (tOp (rDiff K) (tSl (rCut K) (tVar 0) (tPart (tVar 1)) tNoPart) (tSl (rCut K) (tVar 0) tNoPart (tPart (tOp rMinus (tCB (rLen K) (tCons (tVar 0) tNil)) (tVar 1))))))))
  (tAug 1 (tC (.int 1)) (ipAdd K)))
  (tRet (tSl (rCut K) (tVar 0) tNoPart (tPart (tVar 1))))))

theorem pu_root {K : PySem.W.Frag} (vs : List V) (H : Hp) (Q : VK) (E : XK) (h : sp_root K vs H Q E) : t_root K { nx := fun _ H' => Q .non H', rt := Q } (start ["text", "size"] vs) H := by
  obtain ⟨_, rfl, l, rfl, h1, h2, hQ⟩ := h
  unfold t_root
  repeat' walk_at "e"
  walk_at "s"
  repeat' walk_at "e"
  walk_at "s"
  refine ⟨fun m σ H' => H' = H ∧ ∃ s : Nat, m = l.length - s ∧ 1 ≤ s ∧ s ≤ l.length ∧ (∀ t, 1 ≤ t → t < s → ¬ Cy l t) ∧ σ = [some (.str (tx l)), some (.int s)], ⟨_, rfl, 1, rfl, by omega, h1, fun t _ _ => by omega, rfl⟩, fun m σ H' z => ?_⟩
  obtain ⟨rfl, s, rfl, s1, s2, hs, rfl⟩ := z
  have next : ¬ Cy l s → s < l.length → ∃ m', m' < l.length - s ∧ (H' = H' ∧ ∃ s' : Nat, m' = l.length - s' ∧ 1 ≤ s' ∧ s' ≤ l.length ∧ (∀ t, 1 ≤ t → t < s' → ¬ Cy l t) ∧ ([some (.str (tx l)), some (.int ((s : Int) + 1))] : L2.St) = [some (.str (tx l)), some (.int s')]) := fun hc hl =>
    ⟨_, by omega, rfl, s + 1, rfl, by omega, by omega, fun t t1 t2 => by
      by_cases e : t = s
      · subst e; exact hc
      · exact hs t t1 (by omega), rfl⟩
  have stop : Cy l s → Q (.str (tx (l.take s))) H' := fun c => hQ s ⟨s1, c, hs⟩
  repeat' walk_at "s"
  refine s_lenX (by omega) ?_
  repeat' walk_at "s"
  refine s_if (fun c => ?_) fun c => ?_
  · repeat' walk_at "s"
    refine s_lenX (by omega) ?_
    repeat' walk_at "s"
    refine s_mod (by omega) ?_
    repeat' walk_at "s"
    have hmod : ((l.length : Int) % (s : Int)) = ((l.length % s : Nat) : Int) := rfl
    rw [hmod]
    refine s_if (fun d => ?_) fun d => ?_
    · refine iteT ⟨_, fun _ _ z => z, ?_⟩
      repeat' walk_at "s"
      exact next (fun cy => by have := cy.1; omega) (by omega)
    · repeat' walk_at "s"
      refine s_fromX (by omega) (by omega) ?_
      repeat' walk_at "s"
      refine s_lenX (by omega) ?_
      repeat' walk_at "s"
      refine s_toX (by omega) (by omega) ?_
      repeat' walk_at "s"
      have e1 : ((l.length : Int) - (s : Int)).toNat = l.length - s := by omega
      rw [e1, Int.toNat_natCast]
      have key := cy_cut (l := l) s1 (by omega)
      refine s_ifn (fun d2 => ?_) fun d2 => ?_
      · refine ⟨_, fun _ _ z => z, ?_⟩
        repeat' walk_at "s"
        exact next (fun cy => d2 (key.mpr cy)) (by omega)
      · repeat' walk_at "s"
        refine s_toX (by omega) (by omega) ?_
        rw [Int.toNat_natCast]
        exact stop (key.mp d2)
  · refine iteF ?_
    repeat' walk_at "s"
    refine s_toX (by omega) (by omega) ?_
    rw [Int.toNat_natCast]
    have e : s = l.length := by omega
    exact stop (by rw [e]; exact cy_all l)
def t_zroot (K : PySem.W.Frag) : TS :=
  (tSeq (tFor (iRng2 (tCons (tC (.int 1)) (tCons (tCB (rLen K) (tCons (tVar 0) tNil)) tNil))) (gName 1)
  (tIfS (tAnd (tTest (tOp (rSame K) (tOp rMod (tCB (rLen K) (tCons (tVar 0) tNil)) (tVar 1)) (tC (.int 0)))) (tTest (tOp (rSame K) (tOp rTimes (tSl (rCut K) (tVar 0) tNoPart (tPart (tVar 1))) (tOp rDiv (tCB (rLen K) (tCons (tVar 0) tNil)) (tVar 1))) (tVar 0)))) (tRet (tSl (rCut K) (tVar 0) tNoPart (tPart (tVar 1)))) tNext))
  (tRet (tVar 0)))

theorem pu_zroot {K : PySem.W.Frag} (vs : List V) (H : Hp) (Q : VK) (E : XK) (h : sp_zroot K vs H Q E) : t_zroot K { nx := fun _ H' => Q .non H', rt := Q } (start ["_law_text", "_law_size"] vs) H := by
  obtain ⟨_, rfl, l, rfl, h1, h2, hQ⟩ := h
  unfold t_zroot
  repeat' walk_at "s"
  refine s_lenX (by omega) ?_
  repeat' walk_at "s"
  refine s_rn2 (by omega) ?_
  refine for_range (fun i σ H' => H' = H ∧ (∀ t, 1 ≤ t → t < i + 1 → ¬ Cy l t) ∧ ∃ x1, σ = [some (.str (tx l)), x1]) ⟨rfl, fun t _ _ => by omega, none, rfl⟩ (fun i σ H' hi z => ?_) fun σ H' z => ?_
  · obtain ⟨rfl, hs, x1, rfl⟩ := z
    have next : ¬ Cy l (i + 1) → (H' = H' ∧ (∀ t, 1 ≤ t → t < i + 1 + 1 → ¬ Cy l t) ∧ ∃ x1, ([some (.str (tx l)), some (.int (1 + (i : Nat)))] : L2.St) = [some (.str (tx l)), x1]) := fun hc =>
      ⟨rfl, fun t t1 t2 => by
        by_cases e : t = i + 1
        · subst e; exact hc
        · exact hs t t1 (by omega), _, rfl⟩
    have hi2 : i + 1 < l.length := by omega
    repeat' walk_at "s"
    refine s_lenX (by omega) ?_
    repeat' walk_at "s"
    refine s_mod (by omega) ?_
    repeat' walk_at "s"
    have hmod : ((l.length : Int) % (1 + (i : Int))) = ((l.length % (i + 1) : Nat) : Int) := by
      rw [show (1 + (i : Int)) = ((i + 1 : Nat) : Int) by omega]
      rfl
    have hdiv : ((l.length : Int) / (1 + (i : Int))) = ((l.length / (i + 1) : Nat) : Int) := by
      rw [show (1 + (i : Int)) = ((i + 1 : Nat) : Int) by omega]
      rfl
    rw [hmod]
    refine s_if (fun d => ?_) fun d => ?_
    · have hz : l.length % (i + 1) = 0 := by omega
      have key := cy_rep (l := l) (t := i + 1) (by omega) (by omega) hz
      repeat' walk_at "s"
      refine s_toX (by omega) (by omega) ?_
      repeat' walk_at "s"
      refine s_lenX (by omega) ?_
      repeat' walk_at "s"
      refine s_div ⟨by omega, lg (by omega) (by omega)⟩ ?_
      rw [hdiv, show (1 + (i : Int)).toNat = i + 1 by omega]
      have hw : (l.take (i + 1)).length = i + 1 := by rw [List.length_take]; omega
      have hm : l.length / (i + 1) * (i + 1) = l.length := Nat.div_mul_cancel (Nat.dvd_of_mod_eq_zero hz)
      refine s_mulX ?_ (Int.le_trans (by decide : -(2 ^ 63 : Int) ≤ 0) (Int.natCast_nonneg _)) ?_ ?_
      · rw [hw, Int.toNat_natCast, Nat.mul_comm, hm]
        omega
      · have : l.length / (i + 1) ≤ l.length := Nat.div_le_self _ _
        omega
      rw [Int.toNat_natCast]
      repeat' walk_at "s"
      refine s_if (fun c => ?_) fun c => ?_
      · repeat' walk_at "s"
        refine s_toX (by omega) (by omega) ?_
        rw [show (1 + (i : Int)).toNat = i + 1 by omega]
        exact hQ _ ⟨by omega, key.mp c, hs⟩
      · repeat' walk_at "s"
        exact next fun cy => c (key.mpr cy)
    · repeat' walk_at "s"
      exact next fun cy => by have := cy.1; omega
  · obtain ⟨rfl, hs, x1, rfl⟩ := z
    have z := hQ l.length ⟨h1, cy_all l, fun t t1 t2 => hs t t1 (by omega)⟩
    rw [List.take_of_length_le (Nat.le_refl _)] at z
    repeat' walk_at "s"
    exact z
end
section
/-- the first n letters of the word for ever -/
def rep (l : List Nat) (n : Nat) : List Nat := ((List.replicate (n / l.length + 1) l).flatten).take n
theorem rep_le (l : List Nat) (n : Nat) : (rep l n).length ≤ n := by
  unfold rep
  rw [List.length_take]
  exact Nat.min_le_left _ _
theorem low_rp {l : List Nat} (h : Low l) (n : Nat) : Low (rep l n) := (h.rep _).take _
def tw (l : List Nat) (a c : Int) : List Nat := rep l a.toNat ++ rep l (c - a + 1).toNat
open Classical in
/-- the first condition that does not hold -/
noncomputable def fl (l : List Nat) (a b c : Int) : Option Int :=
  if l.length < 2 ∨ ¬ Rt l l.length then some 0 else if ¬ (a < b ∧ b ≤ c) then some 1 else if (b - a) % (l.length : Int) ≠ 0 then some 2 else if a % (l.length : Int) = 0 then some 3
  else if (c - 2 * a) % (l.length : Int) ≠ 0 then some 4 else if l[0]? = l[(a % (l.length : Int)).toNat]? then none else some 5
theorem fl_none {l : List Nat} {a b c : Int} (h : fl l a b c = none) : 2 ≤ l.length ∧ a < b ∧ b ≤ c := by
  unfold fl at h
  split at h
  · cases h
  rename_i h1
  split at h
  · cases h
  rename_i h2
  exact ⟨by have : ¬ l.length < 2 := fun z => h1 (.inl z); omega, by omega, by omega⟩
section
variable {l : List Nat} {a b c : Int}
theorem fl_0 (h : l.length < 2 ∨ ¬ Rt l l.length) : fl l a b c = some 0 := by
  unfold fl
  rw [if_pos h]
theorem fl_1 (h : ¬ (l.length < 2 ∨ ¬ Rt l l.length)) (h1 : ¬ (a < b ∧ b ≤ c)) : fl l a b c = some 1 := by
  unfold fl
  rw [if_neg h, if_pos h1]
theorem fl_2 (h : ¬ (l.length < 2 ∨ ¬ Rt l l.length)) (h1 : ¬ ¬ (a < b ∧ b ≤ c)) (h2 : (b - a) % (l.length : Int) ≠ 0) : fl l a b c = some 2 := by
  unfold fl
  rw [if_neg h, if_neg h1, if_pos h2]
theorem fl_3 (h : ¬ (l.length < 2 ∨ ¬ Rt l l.length)) (h1 : ¬ ¬ (a < b ∧ b ≤ c)) (h2 : ¬ (b - a) % (l.length : Int) ≠ 0) (h3 : a % (l.length : Int) = 0) : fl l a b c = some 3 := by
  unfold fl
  rw [if_neg h, if_neg h1, if_neg h2, if_pos h3]
theorem fl_4 (h : ¬ (l.length < 2 ∨ ¬ Rt l l.length)) (h1 : ¬ ¬ (a < b ∧ b ≤ c)) (h2 : ¬ (b - a) % (l.length : Int) ≠ 0) (h3 : ¬ a % (l.length : Int) = 0) (h4 : (c - 2 * a) % (l.length : Int) ≠ 0) : fl l a b c = some 4 := by
  unfold fl
  rw [if_neg h, if_neg h1, if_neg h2, if_neg h3, if_pos h4]
theorem fl_5 (h : ¬ (l.length < 2 ∨ ¬ Rt l l.length)) (h1 : ¬ ¬ (a < b ∧ b ≤ c)) (h2 : ¬ (b - a) % (l.length : Int) ≠ 0) (h3 : ¬ a % (l.length : Int) = 0) (h4 : ¬ (c - 2 * a) % (l.length : Int) ≠ 0) (h5 : ¬ l[0]? = l[(a % (l.length : Int)).toNat]?) : fl l a b c = some 5 := by
  unfold fl
  rw [if_neg h, if_neg h1, if_neg h2, if_neg h3, if_neg h4, if_neg h5]
theorem fl_6 (h : ¬ (l.length < 2 ∨ ¬ Rt l l.length)) (h1 : ¬ ¬ (a < b ∧ b ≤ c)) (h2 : ¬ (b - a) % (l.length : Int) ≠ 0) (h3 : ¬ a % (l.length : Int) = 0) (h4 : ¬ (c - 2 * a) % (l.length : Int) ≠ 0) (h5 : l[0]? = l[(a % (l.length : Int)).toNat]?) : fl l a b c = none := by
  unfold fl
  rw [if_neg h, if_neg h1, if_neg h2, if_neg h3, if_neg h4, if_pos h5]
end
theorem rt_whole {l : List Nat} {s : Nat} (r : Rt l s) (h : 1 ≤ l.length) : l.take s = l ↔ Rt l l.length := by
  have hs := rt_le r h
  constructor
  · intro e
    have : s = l.length := by
      have := congrArg List.length e
      rw [List.length_take] at this
      omega
    rw [← this]
    exact r
  · intro q
    rw [rt_uniq r q, List.take_of_length_le (Nat.le_refl _)]
/-! ### twins: the plain law -/
/-- the letter of a place of the word for ever -/
def lt (l : List Nat) (x : Int) : Option Nat := l[(x % (l.length : Int)).toNat]?
theorem lt_add {l : List Nat} {x y : Int} (h : (l.length : Int) ∣ x - y) : lt l x = lt l y := by
  unfold lt
  rw [Int.emod_eq_emod_iff_emod_sub_eq_zero.mpr (Int.emod_eq_zero_of_dvd h)]
theorem lt_nat (l : List Nat) (i : Nat) : lt l i = l[i % l.length]? := by
  unfold lt
  rw [show ((i : Int) % (l.length : Int)).toNat = i % l.length by omega]
theorem rep_get {l : List Nat} (h : 1 ≤ l.length) (n i : Nat) : (rep l n)[i]? = if i < n then l[i % l.length]? else none := by
  unfold rep
  rw [List.getElem?_take]
  refine ite_congr rfl (fun hi => ?_) fun _ => rfl
  refine rep_at ?_
  have q := Nat.lt_div_mul_add (a := n) (b := l.length) (by omega)
  rw [Nat.add_mul, Nat.one_mul]
  omega
theorem rep_length {l : List Nat} (h : 1 ≤ l.length) (n : Nat) : (rep l n).length = n := by
  unfold rep
  rw [List.length_take, rep_len]
  have q := Nat.lt_div_mul_add (a := n) (b := l.length) (by omega)
  rw [Nat.add_mul, Nat.one_mul]
  omega
theorem tw_length {l : List Nat} {a c : Int} (h : 1 ≤ l.length) (h0 : 0 ≤ a) (h1 : a ≤ c + 1) (h2 : 0 ≤ c) : ((tw l a c).length : Int) = c + 1 := by
  unfold tw
  rw [List.length_append, rep_length h, rep_length h]
  omega
theorem tw_get {l : List Nat} {a c : Int} (h : 1 ≤ l.length) (h0 : 0 ≤ a) (h1 : a ≤ c + 1) (i : Nat) : (tw l a c)[i]? = if (i : Int) < a then lt l i else if (i : Int) ≤ c then lt l ((i : Int) - a) else none := by
  unfold tw
  by_cases c1 : (i : Int) < a
  · rw [if_pos c1, List.getElem?_append_left (by rw [rep_length h]; omega), rep_get h, if_pos (by omega), lt_nat]
  · rw [if_neg c1, List.getElem?_append_right (by rw [rep_length h]; omega), rep_length h, rep_get h]
    by_cases c2 : (i : Int) ≤ c
    · rw [if_pos c2, if_pos (by omega), ← lt_nat, show ((i - a.toNat : Nat) : Int) = i - a by omega]
    · rw [if_neg c2, if_neg (by omega)]
theorem mk_get {l : List Nat} {p : Nat} (h : p < l.length) (i : Nat) : (mk l p)[i]? = if i < p then l[i]? else if i < p + l.length then l[i - p]? else l[i + 1 - l.length]? := by
  unfold mk
  have e : (l.take p).length = p := by rw [List.length_take]; omega
  by_cases c1 : i < p
  · rw [if_pos c1, List.append_assoc, List.getElem?_append_left (by omega), List.getElem?_take, if_pos c1]
  · rw [if_neg c1]
    by_cases c2 : i < p + l.length
    · rw [if_pos c2, List.append_assoc, List.getElem?_append_right (by omega), e, List.getElem?_append_left (by omega)]
    · rw [if_neg c2, List.getElem?_append_right (by rw [List.length_append]; omega), List.length_append, e, List.getElem?_drop]
      congr 1
      omega
/-- the five conditions -/
structure TwOk (l : List Nat) (a b c : Int) : Prop where
  n2 : 2 ≤ l.length
  rt : Rt l l.length
  ab : a < b
  bc : b ≤ c
  d2 : (l.length : Int) ∣ b - a
  d3 : ¬ (l.length : Int) ∣ a
  d4 : (l.length : Int) ∣ c - 2 * a
  d5 : lt l 0 = lt l a
theorem twok_fl {l : List Nat} {a b c : Int} (t : TwOk l a b c) : fl l a b c = none := by
  refine fl_6 (fun q => q.elim (fun q => by have := t.n2; omega) fun q => q t.rt) (fun q => q ⟨t.ab, t.bc⟩) (fun q => q (Int.emod_eq_zero_of_dvd t.d2)) (fun q => t.d3 (Int.dvd_of_emod_eq_zero q)) (fun q => q (Int.emod_eq_zero_of_dvd t.d4)) ?_
  have := t.d5
  unfold lt at this
  rw [Int.zero_emod] at this
  exact this
theorem twok_call {l : List Nat} {a b c : Int} (t : TwOk l a b c) (a0 : 0 ≤ a) : mk (tw l b c) a.toNat = mk (tw l a c) b.toNat := by
  obtain ⟨n2, _, ab, bc, d2, _, d4, d5⟩ := t
  have n1 : 1 ≤ l.length := by omega
  have z1 := tw_length n1 (a := b) (c := c) (by omega) (by omega) (by omega)
  have z2 := tw_length n1 (a := a) (c := c) (by omega) (by omega) (by omega)
  refine List.ext_getElem? fun i => ?_
  rw [mk_get (by omega), mk_get (by omega)]
  have g1 := fun j => tw_get n1 (a := b) (c := c) (by omega) (by omega) j
  have g2 := fun j => tw_get n1 (a := a) (c := c) (by omega) (by omega) j
  generalize tw l b c = u at *
  generalize tw l a c = v at *
  by_cases c1 : (i : Int) < a
  · rw [if_pos (by omega), if_pos (by omega), g1, g2, if_pos (by omega), if_pos (by omega)]
  rw [if_neg (by omega)]
  by_cases c2 : (i : Int) < b
  · rw [if_pos (by omega), if_pos (by omega), g1, g2, if_pos (by omega), if_neg (by omega), if_pos (by omega)]
    congr 1
    omega
  rw [if_neg (show ¬ i < b.toNat by omega)]
  by_cases c3 : (i : Int) < a + b
  · rw [if_pos (by omega), if_pos (by omega), g1, g2, if_pos (by omega), if_pos (by omega)]
    refine lt_add ?_
    rw [show ((i - a.toNat : Nat) : Int) - ((i - b.toNat : Nat) : Int) = b - a by omega]
    exact d2
  by_cases c4 : (i : Int) ≤ a + c
  · rw [if_pos (by omega), if_pos (by omega), g1, g2, if_neg (by omega), if_pos (by omega), if_neg (by omega), if_pos (by omega)]
    congr 1
    omega
  rw [if_neg (by omega)]
  by_cases c5 : (i : Int) ≤ b + c
  · rw [if_pos (by omega), g1, g2, if_neg (show ¬ ((i - b.toNat : Nat) : Int) < a by omega), if_pos (show ((i - b.toNat : Nat) : Int) ≤ c by omega)]
    by_cases c6 : (i : Int) - c < b
    · rw [if_pos (by omega)]
      refine lt_add ?_
      rw [show ((i + 1 - u.length : Nat) : Int) - (((i - b.toNat : Nat) : Int) - a) = (b - a) - (c - 2 * a) by omega]
      exact Int.dvd_sub d2 d4
    · rw [if_neg (by omega), if_pos (by omega), show ((i + 1 - u.length : Nat) : Int) - b = 0 by omega, d5]
      refine lt_add ?_
      rw [show a - (((i - b.toNat : Nat) : Int) - a) = - (c - 2 * a) by omega]
      exact Int.dvd_neg.mpr d4
  · rw [if_neg (by omega), g1, g2]
    by_cases c6 : (i : Int) ≤ 2 * c
    · rw [if_neg (by omega), if_pos (by omega), if_neg (by omega), if_pos (by omega)]
      refine lt_add ?_
      rw [show ((i + 1 - u.length : Nat) : Int) - b - (((i + 1 - v.length : Nat) : Int) - a) = - (b - a) by omega]
      exact Int.dvd_neg.mpr d2
    · rw [if_neg (by omega), if_neg (by omega), if_neg (by omega), if_neg (by omega)]
theorem rt_turn {l : List Nat} (R : Rt l l.length) {r : Nat} (r0 : 0 < r) (r1 : r < l.length) (h : ∀ i, l[(i + r) % l.length]? = l[i % l.length]?) : False := by
  have pg := per_gcd (fun i => l[i % l.length]?) r l.length h (fun i => by rw [Nat.add_mod_right])
  have g1 : 1 ≤ Nat.gcd r l.length := Nat.gcd_pos_of_pos_left _ r0
  have g2 : Nat.gcd r l.length ≤ r := Nat.le_of_dvd r0 (Nat.gcd_dvd_left _ _)
  refine R.2.2 _ g1 (by omega) ⟨Nat.mod_eq_zero_of_dvd (Nat.gcd_dvd_right _ _), fun i hi => ?_⟩
  have pk : ∀ q i, l[(i + Nat.gcd r l.length * q) % l.length]? = l[i % l.length]? := fun q => by
    induction q with
    | zero => intro i; rfl
    | succ q ih => intro i; rw [Nat.mul_succ, ← Nat.add_assoc]; exact (pg _).trans (ih i)
  have z := pk (i / Nat.gcd r l.length) (i % Nat.gcd r l.length)
  rw [Nat.mod_add_div] at z
  have hm : i % Nat.gcd r l.length < Nat.gcd r l.length := Nat.mod_lt _ g1
  rw [Nat.mod_eq_of_lt hi, Nat.mod_eq_of_lt (show i % Nat.gcd r l.length < l.length by omega)] at z
  exact z
theorem twok_ne {l : List Nat} {a b c : Int} (t : TwOk l a b c) (a0 : 0 ≤ a) : tw l b c ≠ tw l a c := by
  intro e
  obtain ⟨n2, R, ab, bc, d2, d3, d4, d5⟩ := t
  have n1 : 1 ≤ l.length := by omega
  have le : (l.length : Int) ≤ b - a := Int.le_of_dvd (by omega) d2
  have m0 := Int.emod_nonneg a (show (l.length : Int) ≠ 0 by omega)
  have m1 := Int.emod_lt_of_pos a (show (0 : Int) < l.length by omega)
  refine rt_turn R (r := (a % (l.length : Int)).toNat) (by have : ¬ a % (l.length : Int) = 0 := fun z => d3 (Int.dvd_of_emod_eq_zero z); omega) (by omega) fun i => ?_
  have hi : i % l.length < l.length := Nat.mod_lt _ (by omega)
  have z : (tw l b c)[a.toNat + i % l.length]? = (tw l a c)[a.toNat + i % l.length]? := by rw [e]
  rw [tw_get n1 (by omega) (by omega), tw_get n1 (by omega) (by omega), if_pos (by omega), if_neg (by omega), if_pos (by omega)] at z
  have z2 : lt l ((i % l.length : Nat) : Int) = l[i % l.length]? := by rw [lt_nat, Nat.mod_mod]
  rw [show ((a.toNat + i % l.length : Nat) : Int) - a = ((i % l.length : Nat) : Int) by omega, z2] at z
  rw [← z, ← lt_nat]
  refine lt_add ?_
  have q1 := Int.mul_ediv_add_emod a (l.length : Int)
  have q2 := Nat.div_add_mod i l.length
  generalize hk : i % l.length = k at *
  refine ⟨(i / l.length : Nat) - a / (l.length : Int), ?_⟩
  rw [Int.mul_sub]
  have : ((l.length * (i / l.length) : Nat) : Int) = (l.length : Int) * ((i / l.length : Nat) : Int) := Int.natCast_mul _ _
  omega
/-! ### words that are no repetition -/
theorem rt_of {l : List Nat} (h : 1 ≤ l.length) (q : ∀ d, 1 ≤ d → d < l.length → l.length % d = 0 → (∀ i, i < l.length → l[i]? = l[i % d]?) → False) : Rt l l.length := ⟨h, cy_all l, fun t h1 h2 c => q t h1 h2 c.1 c.2⟩
theorem rt_ab {x y : Nat} (ne : x ≠ y) {s t : Nat} (hs : 1 ≤ s) (ht : 1 ≤ t) : Rt (List.replicate s x ++ List.replicate t y) (s + t) := by
  have hl : (List.replicate s x ++ List.replicate t y).length = s + t := by rw [List.length_append, List.length_replicate, List.length_replicate]
  have at_ : ∀ i, (List.replicate s x ++ List.replicate t y)[i]? = if i < s then some x else if i < s + t then some y else none := fun i => by
    by_cases c : i < s
    · rw [if_pos c, List.getElem?_append_left (by rw [List.length_replicate]; exact c), List.getElem?_replicate, if_pos c]
    · rw [if_neg c, List.getElem?_append_right (by rw [List.length_replicate]; omega), List.getElem?_replicate, List.length_replicate]
      by_cases c2 : i < s + t
      · rw [if_pos c2, if_pos (by omega)]
      · rw [if_neg c2, if_neg (by omega)]
  rw [← hl]
  refine rt_of (by omega) fun d h1 h2 hd q => ?_
  rw [hl] at h2 hd q
  have z1 := q (s + t - 1) (by omega)
  have e1 : (s + t - 1) % d = d - 1 := by
    obtain ⟨k, hk⟩ := Nat.dvd_of_mod_eq_zero hd
    have hk1 : 1 ≤ k := by
      rcases Nat.eq_zero_or_pos k with h | h
      · rw [h, Nat.mul_zero] at hk
        omega
      · exact h
    obtain ⟨j, rfl⟩ : ∃ j, k = j + 1 := ⟨k - 1, by omega⟩
    rw [Nat.mul_succ] at hk
    rw [show s + t - 1 = d - 1 + d * j by omega, Nat.add_mul_mod_self_left, Nat.mod_eq_of_lt (by omega)]
  rw [e1, at_, at_, if_neg (by omega), if_pos (by omega)] at z1
  have hd2 : s ≤ d - 1 := by
    by_cases c : d - 1 < s
    · rw [if_pos c] at z1
      exact absurd (Option.some.inj z1).symm ne
    · omega
  have z2 := q d h2
  rw [Nat.mod_self, at_, at_, if_neg (by omega), if_pos h2, if_pos (by omega)] at z2
  exact ne (Option.some.inj z2).symm
theorem rt_aba {x y : Nat} (ne : x ≠ y) {t : Nat} (ht : 1 ≤ t) : Rt ([x] ++ List.replicate t y ++ [x]) (t + 2) := by
  have hl : ([x] ++ List.replicate t y ++ [x]).length = t + 2 := by simp
  have at_ : ∀ i, i < t + 2 → ([x] ++ List.replicate t y ++ [x])[i]? = if i = 0 then some x else if i < t + 1 then some y else some x := fun i hi => by
    by_cases c : i < t + 1
    · rw [List.getElem?_append_left (by simp; omega)]
      by_cases c0 : i = 0
      · rw [if_pos c0, c0]
        rfl
      · rw [if_neg c0, if_pos c, List.getElem?_append_right (by simp; omega), List.getElem?_replicate, if_pos (by simp; omega)]
    · rw [if_neg (by omega), if_neg c, List.getElem?_append_right (by simp; omega), show i - ([x] ++ List.replicate t y).length = 0 by simp; omega]
      rfl
  rw [← hl]
  refine rt_of (by omega) fun d h1 h2 hd q => ?_
  rw [hl] at h2 hd q
  have z1 := q (t + 1) (by omega)
  have e1 : (t + 1) % d = d - 1 := by
    obtain ⟨k, hk⟩ := Nat.dvd_of_mod_eq_zero hd
    have hk1 : 1 ≤ k := by
      rcases Nat.eq_zero_or_pos k with h | h
      · rw [h, Nat.mul_zero] at hk
        omega
      · exact h
    obtain ⟨j, rfl⟩ : ∃ j, k = j + 1 := ⟨k - 1, by omega⟩
    rw [Nat.mul_succ] at hk
    rw [show t + 1 = d - 1 + d * j by omega, Nat.add_mul_mod_self_left, Nat.mod_eq_of_lt (by omega)]
  rw [e1, at_ _ (by omega), at_ _ (by omega), if_neg (by omega), if_neg (by omega)] at z1
  by_cases c : d - 1 = 0
  · have z2 := q 1 (by omega)
    have hd1 : d = 1 := by omega
    rw [hd1, at_ _ (by omega), at_ _ (by omega), if_neg (by omega), if_pos (by omega), if_pos (by omega)] at z2
    exact ne (Option.some.inj z2).symm
  · rw [if_neg c, if_pos (by omega)] at z1
    exact ne (Option.some.inj z1)
/-! ### each letter several times -/
def wide (l : List Nat) (k : Nat) : List Nat := (l.map fun e => (List.replicate k [e]).flatten).flatten
theorem rep1_at {e k i : Nat} (h : i < k) : ((List.replicate k [e]).flatten)[i]? = some e := by
  rw [rep_at (by simp; omega)]
  simp [Nat.mod_one]
theorem wide_length (l : List Nat) (k : Nat) : (wide l k).length = l.length * k := by
  unfold wide
  induction l with
  | nil => simp
  | cons x l ih => rw [List.map_cons, List.flatten_cons, List.length_append, ih, rep_len, List.length_singleton, List.length_cons, Nat.succ_mul]; omega
theorem wide_at {k : Nat} (hk : 1 ≤ k) : ∀ (l : List Nat) (i : Nat), (wide l k)[i]? = l[i / k]? := fun l => by
  induction l with
  | nil => intro i; simp [wide]
  | cons x l ih =>
    intro i
    show ((List.replicate k [x]).flatten ++ wide l k)[i]? = _
    by_cases c : i < k
    · rw [List.getElem?_append_left (by rw [rep_len]; simp; exact c), rep1_at c, Nat.div_eq_of_lt c]
      rfl
    · rw [List.getElem?_append_right (by rw [rep_len]; simp; omega), rep_len, List.length_singleton, Nat.mul_one, ih]
      have e : i / k = (i - k) / k + 1 := by
        conv => lhs; rw [show i = (i - k) + k by omega]
        exact Nat.add_div_right _ hk
      rw [e]
      rfl
theorem wide_lt {l : List Nat} {k : Nat} (hk : 1 ≤ k) (hl : 1 ≤ l.length) (x : Int) : lt (wide l k) (x * k) = lt l x := by
  unfold lt
  rw [wide_length, wide_at hk, Int.natCast_mul, Int.mul_comm x, Int.mul_comm (l.length : Int), Int.mul_emod_mul_of_pos _ _ (by omega)]
  congr 1
  have := Int.emod_nonneg x (show (l.length : Int) ≠ 0 by omega)
  obtain ⟨m, hm⟩ := Int.eq_ofNat_of_zero_le this
  rw [hm]
  rw [show ((k : Int) * (m : Int)).toNat = k * m by rw [← Int.natCast_mul]; rfl, Nat.mul_div_cancel_left _ (by omega)]
  rfl
theorem wide_rt {l : List Nat} {k : Nat} (hk : 1 ≤ k) (h2 : 2 ≤ l.length) (R : Rt l l.length) : Rt (wide l k) (wide l k).length := by
  have hlk : 1 ≤ l.length * k := Nat.mul_pos (by omega) hk
  have hW := wide_length l k
  refine rt_of (by omega) fun d d1 d2 hd q => ?_
  rw [hW] at d2 hd q
  have per : ∀ i, l[(i + d) / k % l.length]? = l[i / k % l.length]? := fun i => by
    have f : ∀ j, l[j / k % l.length]? = (wide l k)[j % d]? := fun j => by
      have e : (wide l k)[j % (l.length * k)]? = l[j / k % l.length]? := by
        rw [wide_at hk]
        congr 1
        rw [Nat.mul_comm, Nat.mod_mul_right_div_self]
      rw [← e, q _ (Nat.mod_lt _ (by omega)), Nat.mod_mod_of_dvd _ (Nat.dvd_of_mod_eq_zero hd)]
    rw [f, f, Nat.add_mod_right]
  by_cases c : d % k = 0
  · obtain ⟨e, rfl⟩ := Nat.dvd_of_mod_eq_zero c
    have he : 1 ≤ e := by
      rcases Nat.eq_zero_or_pos e with h | h
      · rw [h, Nat.mul_zero] at d1
        omega
      · exact h
    have hlt : e < l.length := by
      rw [Nat.mul_comm k e] at d2
      exact Nat.lt_of_mul_lt_mul_right d2
    refine rt_turn R he hlt fun i => ?_
    have z := per (i * k)
    rw [Nat.mul_comm k e, ← Nat.add_mul, Nat.mul_div_cancel _ (by omega), Nat.mul_div_cancel _ (by omega)] at z
    exact z
  · -- the word is of one letter
    have hk0 : 0 < k := hk
    have hr := Nat.mod_lt d hk0
    have hdd := Nat.div_add_mod d k
    refine rt_turn R (r := 1) (by omega) (by omega) fun i => ?_
    have step : ∀ j, l[(j + d / k + 1) % l.length]? = l[(j + d / k) % l.length]? := fun j => by
      have z1 := per (k * j)
      have z2 := per (k * j + (k - 1))
      rw [Nat.mul_div_cancel_left _ hk0] at z1
      rw [show k * j + (k - 1) = (k - 1) + k * j by omega, Nat.add_mul_div_left _ _ hk0, Nat.div_eq_of_lt (show k - 1 < k by omega), Nat.zero_add] at z2
      rw [← z2] at z1
      have e1 : (k * j + d) / k = j + d / k := by
        rw [Nat.add_comm, Nat.add_mul_div_left _ _ hk0, Nat.add_comm]
      have e2 : (k - 1 + k * j + d) / k = j + d / k + 1 := by
        rw [show k - 1 + k * j + d = (k - 1 + d % k - k) + k * (j + d / k + 1) by rw [Nat.mul_add, Nat.mul_add]; omega, Nat.add_mul_div_left _ _ hk0, Nat.div_eq_of_lt (by omega), Nat.zero_add]
      rw [e1, e2] at z1
      exact z1.symm
    -- from any place
    have z := step (i + (l.length * (d / k) - d / k))
    have hle : d / k ≤ l.length * (d / k) := Nat.le_mul_of_pos_left _ (by omega)
    rw [show i + (l.length * (d / k) - d / k) + d / k + 1 = (i + 1) + l.length * (d / k) by omega, show i + (l.length * (d / k) - d / k) + d / k = i + l.length * (d / k) by omega, Nat.add_mul_mod_self_left, Nat.add_mul_mod_self_left] at z
    exact z
theorem twok_wide {l : List Nat} {a b c k : Int} (t : TwOk l a b c) (hk : 1 ≤ k) : TwOk (wide l k.toNat) (a * k) (b * k) (c * k) := by
  obtain ⟨n2, R, ab, bc, d2, d3, d4, d5⟩ := t
  obtain ⟨k, rfl⟩ := Int.eq_ofNat_of_zero_le (show 0 ≤ k by omega)
  have hk1 : 1 ≤ k := by omega
  have hW := wide_length l k
  have hL : ((wide l k).length : Int) = (l.length : Int) * k := by rw [hW, Int.natCast_mul]
  have hle : l.length * 1 ≤ l.length * k := Nat.mul_le_mul_left _ hk1
  show TwOk (wide l k) _ _ _
  refine ⟨by omega, wide_rt hk1 n2 R, Int.mul_lt_mul_of_pos_right ab (by omega), Int.mul_le_mul_of_nonneg_right bc (by omega), ?_, fun q => d3 ?_, ?_, ?_⟩
  · rw [hL, ← Int.sub_mul]
    exact Int.mul_dvd_mul d2 (Int.dvd_refl _)
  · rw [hL] at q
    exact Int.dvd_of_mul_dvd_mul_right (by omega) q
  · rw [hL, ← Int.mul_assoc, ← Int.sub_mul]
    exact Int.mul_dvd_mul d4 (Int.dvd_refl _)
  · have z := wide_lt hk1 (show 1 ≤ l.length by omega) 0
    rw [Int.zero_mul] at z
    rw [z, wide_lt hk1 (by omega)]
    exact d5
end
section
/-- one step of a reading (e: none past a statement's end) -/
local macro_rules
  | `(tactic| walk_at "e") => `(tactic| first
    | with_reducible refine s_ifs ?_
    | with_reducible refine s_test ?_
    | with_reducible refine s_truth ?_
    | with_reducible refine s_op ?_
    | with_reducible refine s_un ?_
    | with_reducible refine s_asg ?_
    | with_reducible refine s_ret ?_
    | with_reducible refine s_next ?_
    | with_reducible refine s_drop ?_
    | with_reducible refine s_c ?_
    | ((with_reducible refine s_var (v := ?v) ?e ?q); case e => exact rfl)
    | with_reducible refine s_name ?_
    | with_reducible refine s_exq ?_
    | with_reducible refine s_cons ?_
    | with_reducible refine s_nil ?_
    | with_reducible refine s_lst ?_
    | with_reducible refine s_tup ?_
    | with_reducible refine s_cb ?_
    | with_reducible refine s_call ?_
    | with_reducible refine s_and ?_
    | with_reducible refine s_or ?_
    | with_reducible refine s_not ?_
    | with_reducible refine s_andV ?_
    | with_reducible refine s_orV ?_
    | with_reducible refine s_notV ?_
    | with_reducible refine s_ife ?_
    | with_reducible refine s_chain ?_
    | with_reducible refine s_addI ?_
    | with_reducible refine s_sub ?_
    | with_reducible refine s_neg ?_
    | with_reducible refine s_eqI ?_
    | with_reducible refine s_eqX ?_
    | with_reducible refine s_eqT ?_
    | with_reducible refine s_eqB ?_
    | with_reducible refine s_eqNI ?_
    | with_reducible refine s_eqIN ?_
    | with_reducible refine s_eqNN ?_
    | with_reducible refine s_neI ?_
    | with_reducible refine s_neX ?_
    | with_reducible refine s_neT ?_
    | with_reducible refine s_neB ?_
    | with_reducible refine s_lt ?_
    | with_reducible refine s_le ?_
    | with_reducible refine s_gt ?_
    | with_reducible refine s_ge ?_
    | with_reducible refine s_isN ?_
    | with_reducible refine s_isS ?_
    | with_reducible refine s_truB ?_
    | with_reducible refine s_truI ?_
    | with_reducible refine s_truN ?_
    | with_reducible refine s_abs ?_
    | with_reducible refine s_min2 ?_
    | with_reducible refine s_max2 ?_
    | with_reducible refine s_intI ?_
    | with_reducible refine s_intB ?_
    | with_reducible refine s_ifT ?_
    | with_reducible refine s_ifF ?_
    | with_reducible refine s_ifnT ?_
    | with_reducible refine s_ifnF ?_
    | with_reducible refine s_gSub ?_
    | with_reducible refine s_gTup ?_
    | with_reducible refine s_augS ?_
    | ((with_reducible refine s_aug (x := ?v) ?e ?q); case e => exact rfl)
    | with_reducible refine s_yes ?_
    | with_reducible refine s_par ?_
    | with_reducible refine s_two ?_
    | with_reducible refine s_m1 ?_
    | with_reducible refine s_isstr ?_
    | with_reducible refine s_rev0 ?_
    | with_reducible refine s_gCons ?_
    | with_reducible refine s_gNil ?_
    | with_reducible refine s_ipI ?_
    | with_reducible refine s_ipA ?_
    | with_reducible refine s_sl ?_
    | with_reducible refine s_noPart ?_
    | with_reducible refine s_part ?_
    | with_reducible refine s_parte ?_
    | with_reducible refine s_for ?_
    | with_reducible refine s_lc ?_
    | with_reducible refine s_iL ?_
    | with_reducible refine s_iE ?_
    | with_reducible refine s_iS ?_
    | with_reducible refine s_iT ?_
    | with_reducible refine s_itS ?_
    | with_reducible refine s_iR1 ?_
    | with_reducible refine s_iR2 ?_
    | with_reducible refine s_iR3 ?_
    | with_reducible refine s_rg1 ?_
    | with_reducible refine s_rg2 ?_
    | with_reducible refine s_rg1e ?_
    | with_reducible refine s_rg2e ?_
    | with_reducible refine s_lrg ?_
    | with_reducible refine s_lr3 ?_
    | with_reducible refine s_bm ?_
    | with_reducible refine s_bm0 ?_
    | with_reducible refine s_retN ?_)
  | `(tactic| walk_at "s") => `(tactic| first
    | with_reducible refine s_seq ?_
    | walk_at "e")

def sp_repeated (K : PySem.W.Frag) : Sp := sp2 fun x y H Q _ => ∃ (l : List Nat) (n : Int), x = .str (tx l) ∧ y = .int n ∧ 1 ≤ l.length ∧ l.length ≤ 10000 ∧ 0 ≤ n ∧ n ≤ 10000 ∧ Q (.str (tx (rep l n.toNat))) H
abbrev sp_zrepeated (K : PySem.W.Frag) : Sp := sp_repeated K
def sp_ztwins (K : PySem.W.Frag) : Sp := sp1 fun x H Q _ => ∃ (p : Addr) (l : List Nat) (a b c : Int), x = .ref p ∧ SqT K H p [.str (tx l), .int a, .int b, .int c] ∧ l.length ≤ 10000 ∧ 1 ≤ l.length ∧ 0 ≤ a ∧ a ≤ b ∧ b ≤ c ∧ c ≤ 9000 ∧ NewO True (.tup [.str (tx (tw l b c)), .str (tx (tw l a c))]) H Q
abbrev cas (l : List Nat) (a b c : Int) : HO := .tup [.str (tx l), .int a, .int b, .int c]
def sp_ztwin_case (K : PySem.W.Frag) : Sp := sp2 fun x y H Q _ => ∃ (b : Addr) (H0 : Hp) (ys : List V) (m : Int), x = .ref b ∧ y = .int m ∧ H = upd H0 b (.lst ys) ∧ Bag K H0 b ys ∧ 30 ≤ m ∧ m ≤ 999 ∧
  ∀ (H' : Hp) (zs : List V) (p : Addr) (l : List Nat) (u o c : Int), Same H0 H' → Bag K H' b zs → H' p = some (cas l u o c) → Low l → 3 ≤ l.length → l.length ≤ 6 → (l.length : Int) ≤ c → 1 ≤ u → u < o → o ≤ c → c ≤ max 46 m → Q (.ref p) (upd H' b (.lst zs))
def sp_ztriple_case (K : PySem.W.Frag) : Sp := sp1 fun x H Q _ => ∃ (b : Addr) (H0 : Hp) (ys : List V), x = .ref b ∧ H = upd H0 b (.lst ys) ∧ Bag K H0 b ys ∧
  ∀ (H' : Hp) (zs : List V) (p : Addr) (l : List Nat) (u o c : Int), Same H0 H' → Bag K H' b zs → H' p = some (cas l u o c) → Low l → 4 ≤ l.length → l.length ≤ 12 → 1 ≤ u → u < o → o ≤ c → c ≤ 44 → Q (.ref p) (upd H' b (.lst zs))
def sp_zplace (K : PySem.W.Frag) : Sp := sp2 fun x y H Q _ => ∃ (b : Addr) (H0 : Hp) (ys : List V) (m : Int), x = .ref b ∧ y = .int m ∧ H = upd H0 b (.lst ys) ∧ Bag K H0 b ys ∧ 0 ≤ m ∧ m ≤ 1000000 ∧
  ∀ (H' : Hp) (zs : List V) (v : Int), Same H0 H' → Bag K H' b zs → 0 ≤ v → v ≤ m → Q (.int v) (upd H' b (.lst zs))
/-- a row drawn: up to n letters -/
def spRowB (K : PySem.W.Frag) (n : Nat) : Sp := sp1 fun x H Q _ => ∃ (b : Addr) (H0 : Hp) (ys : List V), x = .ref b ∧ H = upd H0 b (.lst ys) ∧ Bag K H0 b ys ∧
  ∀ (H' : Hp) (zs : List V) (l : List Nat), Same H0 H' → Bag K H' b zs → Low l → 2 ≤ l.length → l.length ≤ n → Q (.str (tx l)) (upd H' b (.lst zs))
abbrev sp_zscene (K : PySem.W.Frag) : Sp := spRowB K 300
abbrev sp_zlong_row (K : PySem.W.Frag) : Sp := spRowB K 1000
section
variable {K : PySem.W.Frag} {H H0 : Hp} {Q : VK} {E : XK} {l : List Nat} {n m : Int} {b : Addr} {ys : List V}
theorem s_zrepeated (h1 : 1 ≤ l.length) (h2 : l.length ≤ 10000) (h3 : 0 ≤ n) (h4 : n ≤ 10000) (q : Q (.str (tx (rep l n.toNat))) H) : Fr (sp_zrepeated K) [.str (tx l), .int n] H Q E := s_all ⟨_, _, rfl, l, n, rfl, rfl, h1, h2, h3, h4, q⟩
theorem s_zplace (B : Bag K H0 b ys) (h0 : 0 ≤ m) (h1 : m ≤ 1000000) (q : ∀ (H' : Hp) (zs : List V) (v : Int), Same H0 H' → Bag K H' b zs → 0 ≤ v → v ≤ m → Q (.int v) (upd H' b (.lst zs))) : Fr (sp_zplace K) [.ref b, .int m] (upd H0 b (.lst ys)) Q E :=
  s_all ⟨_, _, rfl, b, H0, ys, m, rfl, rfl, rfl, B, h0, h1, q⟩
theorem s_rowB {n : Nat} (B : Bag K H0 b ys) (q : ∀ (H' : Hp) (zs : List V) (l : List Nat), Same H0 H' → Bag K H' b zs → Low l → 2 ≤ l.length → l.length ≤ n → Q (.str (tx l)) (upd H' b (.lst zs))) : Fr (spRowB K n) [.ref b] (upd H0 b (.lst ys)) Q E :=
  s_all ⟨_, rfl, b, H0, ys, rfl, rfl, B, q⟩
end
theorem lit_ab : ("ab" : Str) = tx [97, 98] := by decide +kernel
theorem lit_aab : ("aab" : Str) = tx [97, 97, 98] := by decide +kernel
theorem flat_ones (cs : List Nat) : (cs.map fun c => [c]).flatten = cs := by
  induction cs with
  | nil => rfl
  | cons c cs ih => rw [List.map_cons, List.flatten_cons, ih]; rfl
theorem sum_ones (cs : List Nat) : ((cs.map fun c => [c]).map List.length).sum = cs.length := by
  rw [List.map_map]
  have e : ((List.length : List Nat → Nat) ∘ fun c => [c]) = fun _ => 1 := rfl
  rw [e, List.map_const', List.sum_replicate_nat, Nat.mul_one]
theorem low_at {l : List Nat} (h : Low l) {q : Nat} (hq : q < l.length) : Low [l[q]] := fun c hc => by
  rcases List.mem_singleton.mp hc with rfl
  exact h _ (List.getElem_mem hq)
def t_zrepeated (K : PySem.W.Frag) : TS :=
  (tRet (tSl (rCut K) (tOp rTimes (tVar 0) (tOp (rPlus K) (tOp rDiv (tVar 1) (tCB (rLen K) (tCons (tVar 0) tNil))) (tC (.int 1)))) tNoPart (tPart (tVar 1))))
theorem pu_zrepeated {K : PySem.W.Frag} (vs : List V) (H : Hp) (Q : VK) (E : XK) (h : sp_zrepeated K vs H Q E) : t_zrepeated K { nx := fun _ H' => Q .non H', rt := Q } (start ["_law_word_here", "_law_many"] vs) H := by
  obtain ⟨_, _, rfl, l, n, rfl, rfl, h1, h2, h3, h4, hQ⟩ := h
  unfold t_zrepeated
  repeat' walk_at "s"
  refine s_lenX (by omega) ?_
  repeat' walk_at "s"
  refine s_div ⟨by omega, lg (by omega) (by omega)⟩ ?_
  have hd : n / (l.length : Int) = ((n.toNat / l.length : Nat) : Int) := by
    conv => lhs; rw [show n = (n.toNat : Int) by omega]
    rfl
  have hdl : n.toNat / l.length ≤ n.toNat := Nat.div_le_self _ _
  have hm : n.toNat / l.length * l.length ≤ n.toNat := Nat.div_mul_le_self _ _
  rw [hd]
  repeat' walk_at "s"
  generalize hq : n.toNat / l.length = q at hdl hm ⊢
  have e1 : ((q : Int) + 1).toNat = q + 1 := by omega
  refine s_mulX ?_ (by omega) (by omega) ?_
  · rw [e1, Nat.mul_add, Nat.mul_comm]
    omega
  repeat' walk_at "s"
  rw [e1]
  refine s_toX ?_ h3 ?_
  · rw [rep_len, Nat.add_mul]
    omega
  subst hq
  exact hQ
def t_ztwins (K : PySem.W.Frag) : TS :=
  (tSeq (tAsg (tVar 0) (gTup K 4 (gCons (gName 1) (gCons (gName 2) (gCons (gName 3) (gCons (gName 4) gNil))))))
  (tSeq (tAsg (tOp (rPlus K) (gCall (sp_zrepeated K) E1 (tCons (tVar 1) (tCons (tVar 3) tNil))) (gCall (sp_zrepeated K) E1 (tCons (tVar 1) (tCons (tOp (rPlus K) (tOp rMinus (tVar 4) (tVar 3)) (tC (.int 1))) tNil)))) (gName 5))
  (tRet (tTup (tCons (tVar 5) (tCons (tOp (rPlus K) (gCall (sp_zrepeated K) E1 (tCons (tVar 1) (tCons (tVar 2) tNil))) (gCall (sp_zrepeated K) E1 (tCons (tVar 1) (tCons (tOp (rPlus K) (tOp rMinus (tVar 4) (tVar 2)) (tC (.int 1))) tNil)))) tNil))))))
theorem pu_ztwins {K : PySem.W.Frag} (vs : List V) (H : Hp) (Q : VK) (E : XK) (h : sp_ztwins K vs H Q E) : t_ztwins K { nx := fun _ H' => Q .non H', rt := Q } (start ["_law_case", "_law_word_here", "_law_one", "_law_other", "_law_last", "_law_first"] vs) H := by
  obtain ⟨_, rfl, p, l, a, b, c, rfl, hP, h2, l2, a0, ab, bc, c1, hN⟩ := h
  unfold t_ztwins
  repeat' walk_at "s"
  refine s_gTup hP rfl ?_
  repeat' walk_at "s"
  refine s_zrepeated (by omega) (by omega) (by omega) (by omega) ?_
  repeat' walk_at "s"
  refine s_zrepeated (by omega) (by omega) (by omega) (by omega) ?_
  have z1 := rep_le l b.toNat
  have z2 := rep_le l (c - b + 1).toNat
  have z3 := rep_le l a.toNat
  have z4 := rep_le l (c - a + 1).toNat
  refine s_addX (by omega) ?_
  repeat' walk_at "s"
  refine s_zrepeated (by omega) (by omega) (by omega) (by omega) ?_
  repeat' walk_at "s"
  refine s_zrepeated (by omega) (by omega) (by omega) (by omega) ?_
  refine s_addX (by omega) ?_
  repeat' walk_at "s"
  exact ⟨sz_of rfl, hN.2⟩
def t_ztwin_case (K : PySem.W.Frag) : TS :=
  (tSeq (tAsg (tOp (rPlus K) (tC (.int 3)) (gCall (sp_take K) E1 (tCons (tVar 0) (tCons (tC (.int 4)) tNil)))) (gName 2))
  (tSeq (tAsg (tOp (rPlus K) (tC (.int 1)) (gCall (sp_take K) E1 (tCons (tVar 0) (tCons (tOp rMinus (tVar 2) (tC (.int 1))) tNil)))) (gName 3))
  (tSeq (tAsg (gCall (sp_take K) E1 (tCons (tVar 0) (tCons (tC (.int 24)) tNil))) (gName 4))
  (tSeq (tAsg (tSl (rCut K) (tC (.str "abcdefghijklmnopqrstuvwxyz")) (tPart (tVar 4)) (tPart (tOp (rPlus K) (tVar 4) (tC (.int 3))))) (gName 5))
  (tSeq (tAsg (tM1 (rJoin K) (tC (.str "")) (tLc (iRng1 (tCons (tVar 2) tNil)) (gName 12) tYes (tOp (rIx K) (tVar 5) (gCall (sp_take K) E1 (tCons (tVar 0) (tCons (tC (.int 3)) tNil)))) [12])) (gName 6))
  (tSeq (tAsg (tOp (rPlus K) (tOp (rPlus K) (tSl (rCut K) (tVar 6) tNoPart (tPart (tVar 3))) (tOp (rIx K) (tVar 6) (tC (.int 0)))) (tSl (rCut K) (tVar 6) (tPart (tOp (rPlus K) (tVar 3) (tC (.int 1)))) tNoPart)) (gName 7))
  (tSeq (tIfS (tTest (tOp (rDiff K) (gCall (sp_zroot K) E1 (tCons (tVar 7) tNil)) (tVar 7))) (tSeq (tAsg (tOp (rPlus K) (tOp rTimes (tOp (rIx K) (tVar 5) (tC (.int 0))) (tOp (rPlus K) (tVar 3) (tC (.int 1)))) (tOp rTimes (tOp (rIx K) (tVar 5) (tC (.int 1))) (tOp rMinus (tOp rMinus (tVar 2) (tVar 3)) (tC (.int 1))))) (gName 7))
  (tIfS (tTest (tOp (rSame K) (tVar 3) (tOp rMinus (tVar 2) (tC (.int 1))))) (tAsg (tOp (rPlus K) (tOp (rPlus K) (tOp (rIx K) (tVar 5) (tC (.int 0))) (tOp rTimes (tOp (rIx K) (tVar 5) (tC (.int 1))) (tOp rMinus (tVar 2) (tC (.int 2))))) (tOp (rIx K) (tVar 5) (tC (.int 0)))) (gName 7)) tNext)) tNext)
  (tSeq (tAsg (tOp (rPlus K) (tVar 3) (tOp rTimes (tVar 2) (gCall (sp_take K) E1 (tCons (tVar 0) (tCons (tC (.int 4)) tNil))))) (gName 8))
  (tSeq (tAsg (tOp (rPlus K) (tVar 8) (tOp rTimes (tVar 2) (tOp (rPlus K) (tC (.int 1)) (gCall (sp_take K) E1 (tCons (tVar 0) (tCons (tC (.int 2)) tNil)))))) (gName 9))
  (tSeq (tAsg (tOp rTimes (tC (.int 2)) (tVar 8)) (gName 10))
  (tSeq (tWhile (tTest (tOp rLess (tVar 10) (tVar 9)))
  (tAsg (tOp (rPlus K) (tVar 10) (tVar 2)) (gName 10)))
  (tSeq (tWhile (tTest (tOp rMoreE (tOp rMinus (tVar 10) (tVar 2)) (tVar 9)))
  (tAsg (tOp rMinus (tVar 10) (tVar 2)) (gName 10)))
  (tSeq (tAsg (tOp (rPlus K) (tVar 10) (tOp rTimes (tVar 2) (gCall (sp_take K) E1 (tCons (tVar 0) (tCons (tOp (rPlus K) (tC (.int 1)) (tOp rDiv (tCB rMax2 (tCons (tC (.int 0)) (tCons (tOp rMinus (tVar 1) (tVar 10)) tNil))) (tVar 2))) tNil))))) (gName 11))
  (tRet (tTup (tCons (tVar 7) (tCons (tVar 8) (tCons (tVar 9) (tCons (tVar 11) tNil)))))))))))))))))))
theorem pu_ztwin_case {K : PySem.W.Frag} (vs : List V) (H : Hp) (Q : VK) (E : XK) (h : sp_ztwin_case K vs H Q E) : t_ztwin_case K { nx := fun _ H' => Q .non H', rt := Q } (start ["_law_bag_here", "_law_most", "_law_size", "_law_shift", "_law_start", "_law_letters", "_law_text", "_law_word_here", "_law_one", "_law_other", "_law_least", "_law_last", "_law_k"] vs) H := by
  obtain ⟨_, _, rfl, b, H0, ys, m, rfl, rfl, rfl, B, m1, m2, hQ⟩ := h
  unfold t_ztwin_case
  rw [lit_az, lit_empty]
  repeat' walk_at "s"
  refine s_take B (by decide) (lg (by decide) (by decide)) ?_
  intro r1 ys a1 a2 B
  repeat' walk_at "s"
  refine s_take B (by omega) (lg (by omega) (by omega)) ?_
  intro r2 ys b1 b2 B
  repeat' walk_at "s"
  refine s_take B (by decide) (lg (by decide) (by decide)) ?_
  intro st ys c1 c2 B
  repeat' walk_at "s"
  refine s_midX (by decide) (by omega) (by omega) ?_
  obtain ⟨ls, hls, lw, ll⟩ : ∃ ls : List Nat, (([97, 98, 99, 100, 101, 102, 103, 104, 105, 106, 107, 108, 109, 110, 111, 112, 113, 114, 115, 116, 117, 118, 119, 120, 121, 122] : List Nat).drop st.toNat).take ((st + 3).toNat - st.toNat) = ls ∧ Low ls ∧ ls.length = 3 := by
    refine ⟨_, rfl, (low_az.drop _).take _, ?_⟩
    rw [List.length_take, List.length_drop]
    show min _ (26 - st.toNat) = _
    omega
  rw [hls]
  clear hls
  generalize hn : 3 + r1 = n at *
  generalize hs : 1 + r2 = s at *
  repeat' walk_at "s"
  refine s_rn1 (by omega) (by omega) ?_
  intro D hD
  refine lcR hD (fun i acc Hi => ∃ (H3 : Hp) (ys : List V) (cs : List Nat), Hi = upd H3 b (.lst ys) ∧ Same H0 H3 ∧ Bag K H3 b ys ∧ acc = cs.map (fun c => V.str (tx [c])) ∧ Low cs ∧ cs.length = i) ⟨H0, ys, [], rfl, Same.refl _, B, rfl, Low.nil, rfl⟩ (fun i acc Hi hi hn hl z => ?_) fun acc Hi hn' hl z => ?_
  · obtain ⟨H3, ys, cs, rfl, e3, B, rfl, lc, hc⟩ := z
    repeat' walk_at "s"
    refine ⟨rfl, ?_⟩
    repeat' walk_at "s"
    refine s_takeD B hn (by omega) (lg (by omega) (by omega)) ?_
    intro r5 ys i1 i2 B hn
    refine s_pickX (by omega) i1 (by omega) fun q hq _ => ?_
    refine lc_put hn hl (by rw [sizeLine_eq]; omega) ⟨H3, ys, cs ++ [ls[q]], rfl, e3, B, by rw [List.map_append]; rfl, lc.app fun c hc => ?_, by rw [List.length_append, hc]; rfl⟩
    rcases List.mem_singleton.mp hc with rfl
    exact lw _ (List.getElem_mem hq)
  clear B hD ys
  obtain ⟨H3, ys, cs, rfl, e3, B, rfl, lc, hc⟩ := z
  refine doneB B hn' fun H4 e4 h4 B => ?_
  refine s_join (ls := cs.map fun c => [c]) (by rw [List.map_map]; exact SqL.of (B.see _ _ h4)) ?_ ?_
  · rw [List.map_map]
    have e : ((List.length : List Nat → Nat) ∘ fun c => [c]) = fun _ => 1 := rfl
    rw [e, List.map_const', List.sum_replicate_nat]
    omega
  have ef : (cs.map fun c => [c]).flatten = cs := by
    clear hc lc h4 hl hn'
    induction cs with
    | nil => rfl
    | cons c cs ih => rw [List.map_cons, List.flatten_cons, ih]; rfl
  rw [ef]
  have e4 := e3.trans e4
  clear e3 hn'
  repeat' walk_at "s"
  refine s_toX (by omega) (by omega) ?_
  repeat' walk_at "s"
  refine s_pickX (by omega) (by decide) (by omega) fun q hq _ => ?_
  refine s_addX (by rw [List.length_take]; simp only [List.length_singleton]; omega) ?_
  repeat' walk_at "s"
  refine s_fromX (by omega) (by omega) ?_
  refine s_addX (by rw [List.length_append, List.length_take, List.length_drop]; simp only [List.length_singleton]; omega) ?_
  obtain ⟨w, hw, ww, wl⟩ : ∃ w : List Nat, cs.take s.toNat ++ [cs[q]] ++ cs.drop (s + 1).toNat = w ∧ Low w ∧ (w.length : Int) = n := by
    refine ⟨_, rfl, ((lc.take _).app fun c hc => ?_).app (lc.drop _), ?_⟩
    · rcases List.mem_singleton.mp hc with rfl
      exact lc _ (List.getElem_mem hq)
    · rw [List.length_append, List.length_append, List.length_take, List.length_drop, List.length_singleton]
      omega
  rw [hw]
  clear hw hq
  repeat' walk_at "e"
  with_reducible refine s_seqR (fun σ H => ∃ (H1 : Hp) (ys : List V) (w : List Nat) (x6 x12 : Option V), Same H0 H1 ∧ Bag K H1 b ys ∧ H = upd H1 b (.lst ys) ∧ Low w ∧ (w.length : Int) = n ∧ σ = [some (.ref b), some (.int m), some (.int n), some (.int s), some (.int st), some (.str (tx ls)), x6, some (.str (tx w)), none, none, none, none, x12]) (fun σ H z => ?_) fun N hN => ?_
  · obtain ⟨H1, ys, w, x6, x12, e1, B, rfl, ww, wl, rfl⟩ := z
    repeat' walk_at "s"
    refine s_take B (by decide) (lg (by decide) (by decide)) ?_
    intro r3 ys d1 d2 B
    have g1 := mul_bd (x := n) (y := r3) (a := 6) (b := 3) (by omega) (by omega) d1 (by omega)
    refine s_mulI (mulW (by omega) (by omega)) ?_
    repeat' walk_at "s"
    refine s_take B (by decide) (lg (by decide) (by decide)) ?_
    intro r4 ys f1 f2 B
    repeat' walk_at "s"
    have g2 := mul_bd (x := n) (y := 1 + r4) (a := 6) (b := 2) (by omega) (by omega) (by omega) (by omega)
    have g3 : n * 1 ≤ n * (1 + r4) := Int.mul_le_mul_of_nonneg_left (by omega) (by omega)
    refine s_mulI (mulW (by omega) (by omega)) ?_
    repeat' walk_at "s"
    generalize hu : s + n * r3 = u at *
    generalize ho : u + n * (1 + r4) = o at *
    have u1 : 1 ≤ u := by omega
    have u2 : u ≤ 23 := by omega
    have o1 : u + n ≤ o := by omega
    have o2 : o ≤ 35 := by omega
    clear g1 g2 g3 hu ho d1 d2 f1 f2
    repeat' walk_at "s"
    refine s_mulI (mulW (by omega) (by omega)) ?_
    repeat' walk_at "e"
    with_reducible refine s_seqR (fun σ H => H = upd H1 b (.lst ys) ∧ ∃ L : Int, o ≤ L ∧ L ≤ 46 ∧ σ = [some (.ref b), some (.int m), some (.int n), some (.int s), some (.int st), some (.str (tx ls)), x6, some (.str (tx w)), some (.int u), some (.int o), some (.int L), none, x12]) (fun σ H z => ?_) fun N hN => ?_
    rotate_left
    · refine ⟨fun M σ H' => H' = upd H1 b (.lst ys) ∧ ∃ L : Int, M = (o - L).toNat ∧ 0 ≤ L ∧ (L = 2 * u ∨ L < o + n) ∧ σ = [some (.ref b), some (.int m), some (.int n), some (.int s), some (.int st), some (.str (tx ls)), x6, some (.str (tx w)), some (.int u), some (.int o), some (.int L), none, x12], ⟨_, rfl, 2 * u, rfl, by omega, .inl rfl, rfl⟩, fun M σ H' z => ?_⟩
      obtain ⟨rfl, L, rfl, L0, L1, rfl⟩ := z
      repeat' walk_at "s"
      refine s_if (fun d => ?_) fun d => ?_
      · refine ⟨_, fun _ _ z => z, ?_⟩
        repeat' walk_at "s"
        exact ⟨_, by omega, rfl, L + n, rfl, by omega, by omega, rfl⟩
      · exact hN _ _ ⟨rfl, L, by omega, by omega, rfl⟩
    obtain ⟨rfl, L, L0, L1, rfl⟩ := z
    repeat' walk_at "e"
    with_reducible refine s_seqR (fun σ H => H = upd H1 b (.lst ys) ∧ ∃ L : Int, o ≤ L ∧ L ≤ 46 ∧ σ = [some (.ref b), some (.int m), some (.int n), some (.int s), some (.int st), some (.str (tx ls)), x6, some (.str (tx w)), some (.int u), some (.int o), some (.int L), none, x12]) (fun σ H z => ?_) fun N hN => ?_
    rotate_left
    · refine ⟨fun M σ H' => H' = upd H1 b (.lst ys) ∧ ∃ L : Int, M = L.toNat ∧ o ≤ L ∧ L ≤ 46 ∧ σ = [some (.ref b), some (.int m), some (.int n), some (.int s), some (.int st), some (.str (tx ls)), x6, some (.str (tx w)), some (.int u), some (.int o), some (.int L), none, x12], ⟨_, rfl, L, rfl, L0, L1, rfl⟩, fun M σ H' z => ?_⟩
      clear L0 L1 L
      obtain ⟨rfl, L, rfl, L0, L1, rfl⟩ := z
      repeat' walk_at "s"
      refine s_if (fun d => ?_) fun d => ?_
      · refine ⟨_, fun _ _ z => z, ?_⟩
        repeat' walk_at "s"
        exact ⟨_, by omega, rfl, L - n, rfl, by omega, by omega, rfl⟩
      · exact hN _ _ ⟨rfl, L, by omega, by omega, rfl⟩
    clear L0 L1 L
    obtain ⟨rfl, L, L0, L1, rfl⟩ := z
    repeat' walk_at "s"
    refine s_div ⟨by omega, lg (by omega) (by omega)⟩ ?_
    have q1 := Int.mul_ediv_add_emod (max 0 (m - L)) n
    have q2 := Int.emod_nonneg (max 0 (m - L)) (show n ≠ 0 by omega)
    have q3 : 0 ≤ max 0 (m - L) / n := Int.ediv_nonneg (by omega) (by omega)
    have q4 : max 0 (m - L) / n ≤ max 0 (m - L) := Int.ediv_le_self _ (by omega)
    generalize hd : max 0 (m - L) / n = d at *
    repeat' walk_at "s"
    refine s_take B (by omega) (lg (by omega) (by omega)) ?_
    intro r5 ys k1 k2 B
    have q5 : n * r5 ≤ n * d := Int.mul_le_mul_of_nonneg_left (by omega) (by omega)
    have q6 : 0 ≤ n * r5 := Int.mul_nonneg (by omega) k1
    refine s_mulI (mulW (by omega) (by omega)) ?_
    repeat' walk_at "s"
    refine newB B (sz_of rfl) fun p H2 e2 hp B => ?_
    exact hQ H2 ys p w u o _ (e1.trans e2) B hp ww (by omega) (by omega) (by omega) u1 (by omega) (by omega) (by omega)
  · repeat' walk_at "s"
    refine s_hid B ⟨_, rfl, w, rfl, by omega, by omega, fun t r h0 => ?_⟩
    repeat' walk_at "s"
    refine s_ifn (fun d => ?_) fun d => ?_
    · repeat' walk_at "s"
      refine s_pickX (by omega) (by decide) (by omega) fun i1 hi1 _ => ?_
      repeat' walk_at "s"
      refine s_mulX (by rw [List.length_singleton]; omega) (by omega) (by omega) ?_
      repeat' walk_at "s"
      refine s_pickX (by omega) (by decide) (by omega) fun i2 hi2 _ => ?_
      repeat' walk_at "s"
      refine s_mulX (by rw [List.length_singleton]; omega) (by omega) (by omega) ?_
      refine s_addX (by rw [rep_len, rep_len, List.length_singleton, List.length_singleton]; omega) ?_
      have lo1 : ∀ (q : Nat) (hq : q < ls.length), Low [ls[q]] := fun q hq c hc => by
        rcases List.mem_singleton.mp hc with rfl
        exact lw _ (List.getElem_mem hq)
      repeat' walk_at "s"
      refine s_if (fun d2 => ?_) fun d2 => ?_
      · repeat' walk_at "s"
        refine s_pickX (by omega) (by decide) (by omega) fun i1 hi1 _ => ?_
        repeat' walk_at "s"
        refine s_pickX (by omega) (by decide) (by omega) fun i2 hi2 _ => ?_
        repeat' walk_at "s"
        refine s_mulX (by rw [List.length_singleton]; omega) (by omega) (by omega) ?_
        refine s_addX (by rw [rep_len, List.length_singleton, List.length_singleton]; omega) ?_
        repeat' walk_at "s"
        refine s_pickX (by omega) (by decide) (by omega) fun i3 hi3 _ => ?_
        refine s_addX (by rw [List.length_append, rep_len, List.length_singleton, List.length_singleton, List.length_singleton]; omega) ?_
        repeat' walk_at "s"
        exact hN _ _ ⟨H4, ys, _, _, _, e4, B, rfl, ((lo1 _ _).app ((lo1 _ _).rep _)).app (lo1 _ _), by rw [List.length_append, List.length_append, rep_len, List.length_singleton, List.length_singleton, List.length_singleton]; omega, rfl⟩
      · repeat' walk_at "s"
        exact hN _ _ ⟨H4, ys, _, _, _, e4, B, rfl, ((lo1 _ _).rep _).app ((lo1 _ _).rep _), by rw [List.length_append, rep_len, rep_len, List.length_singleton, List.length_singleton]; omega, rfl⟩
    · repeat' walk_at "s"
      exact hN _ _ ⟨H4, ys, w, _, _, e4, B, rfl, ww, wl, rfl⟩
def t_zplace (K : PySem.W.Frag) : TS :=
  (tRet (tOp (rIx K) (tLst (tCons (tC (.int 0)) (tCons (tVar 1) (tCons (tOp rDiv (tVar 1) (tC (.int 2))) (tCons (gCall (sp_take K) E1 (tCons (tVar 0) (tCons (tOp (rPlus K) (tVar 1) (tC (.int 1))) tNil))) (tCons (gCall (sp_take K) E1 (tCons (tVar 0) (tCons (tOp (rPlus K) (tVar 1) (tC (.int 1))) tNil))) tNil)))))) (gCall (sp_take K) E1 (tCons (tVar 0) (tCons (tC (.int 5)) tNil)))))
theorem pu_zplace {K : PySem.W.Frag} (vs : List V) (H : Hp) (Q : VK) (E : XK) (h : sp_zplace K vs H Q E) : t_zplace K { nx := fun _ H' => Q .non H', rt := Q } (start ["_law_bag_here", "_law_last"] vs) H := by
  obtain ⟨_, _, rfl, b, H0, ys, m, rfl, rfl, rfl, B, m0, m1, hQ⟩ := h
  unfold t_zplace
  repeat' walk_at "s"
  refine s_div ⟨by decide, lg (by decide) (by decide)⟩ ?_
  repeat' walk_at "s"
  refine s_take B (by omega) (lg (by omega) (by omega)) ?_
  intro r1 ys a1 a2 B
  repeat' walk_at "s"
  refine s_take B (by omega) (lg (by omega) (by omega)) ?_
  intro r2 ys b1 b2 B
  repeat' walk_at "s"
  refine newB B (sz_of rfl) fun p H1 e1 hp B => ?_
  repeat' walk_at "s"
  refine s_take B (by decide) (lg (by decide) (by decide)) ?_
  intro r3 ys c1 c2 B
  refine s_pickP (fun x => ∃ v : Int, x = .int v ∧ 0 ≤ v ∧ v ≤ m) (B.see _ _ hp) c1 c2 (fun x hx => ?_) fun x hx => ?_
  · simp only [List.mem_cons, List.not_mem_nil, or_false] at hx
    rcases hx with rfl | rfl | rfl | rfl | rfl
    all_goals exact ⟨_, rfl, by omega, by omega⟩
  obtain ⟨v, rfl, v0, v1⟩ := hx
  exact hQ H1 ys v e1 B v0 v1
def t_ztriple_case (K : PySem.W.Frag) : TS :=
  (tSeq (tPar 1 2 (tCons (tOp (rPlus K) (tC (.int 1)) (gCall (sp_take K) E1 (tCons (tVar 0) (tCons (tC (.int 4)) tNil)))) (tCons (tOp (rPlus K) (tC (.int 1)) (gCall (sp_take K) E1 (tCons (tVar 0) (tCons (tC (.int 3)) tNil)))) tNil)))
  (tSeq (tAsg (tM1 (rJoin K) (tC (.str "")) (tLc (iRng1 (tCons (tVar 1) tNil)) (gName 8) tYes (tOp (rIx K) (tC (.str "ab")) (gCall (sp_take K) E1 (tCons (tVar 0) (tCons (tC (.int 2)) tNil)))) [8])) (gName 3))
  (tSeq (tAsg (tOp (rPlus K) (tOp (rIx K) (tVar 3) (tC (.int 0))) (tM1 (rJoin K) (tC (.str "")) (tLc (iRng1 (tCons (tVar 2) tNil)) (gName 8) tYes (tOp (rIx K) (tC (.str "abc")) (gCall (sp_take K) E1 (tCons (tVar 0) (tCons (tC (.int 3)) tNil)))) [8]))) (gName 4))
  (tSeq (tAsg (tOp (rPlus K) (tOp (rPlus K) (tVar 3) (tVar 4)) (tVar 3)) (gName 5))
  (tSeq (tIfS (tTest (tOp (rDiff K) (gCall (sp_zroot K) E1 (tCons (tVar 5) tNil)) (tVar 5))) (tAsg (tOp (rPlus K) (tOp (rPlus K) (tOp rTimes (tC (.str "a")) (tOp (rPlus K) (tVar 1) (tC (.int 1)))) (tOp rTimes (tC (.str "b")) (tVar 2))) (tOp rTimes (tC (.str "a")) (tVar 1))) (gName 5)) tNext)
  (tSeq (tAsg (tOp (rPlus K) (tC (.int 2)) (gCall (sp_take K) E1 (tCons (tVar 0) (tCons (tC (.int 2)) tNil)))) (gName 6))
  (tSeq (tAsg (tOp (rPlus K) (tVar 1) (tOp rTimes (tCB (rLen K) (tCons (tVar 5) tNil)) (tOp (rPlus K) (tC (.int 1)) (gCall (sp_take K) E1 (tCons (tVar 0) (tCons (tOp rMinus (tVar 6) (tC (.int 1))) tNil)))))) (gName 7))
  (tRet (tTup (tCons (tVar 5) (tCons (tVar 1) (tCons (tVar 7) (tCons (tOp (rPlus K) (tOp rTimes (tC (.int 2)) (tVar 1)) (tOp rTimes (tCB (rLen K) (tCons (tVar 5) tNil)) (tVar 6))) tNil)))))))))))))
theorem pu_ztriple_case {K : PySem.W.Frag} (vs : List V) (H : Hp) (Q : VK) (E : XK) (h : sp_ztriple_case K vs H Q E) : t_ztriple_case K { nx := fun _ H' => Q .non H', rt := Q } (start ["_law_bag_here", "_law_one", "_law_more", "_law_front", "_law_middle", "_law_word_here", "_law_many", "_law_other", "_law_k"] vs) H := by
  obtain ⟨_, rfl, b, H0, ys, rfl, rfl, B, hQ⟩ := h
  unfold t_ztriple_case
  rw [lit_empty, lit_ab, lit_abc, lit_a1, lit_b1]
  have low_ab : Low [97, 98] := by unfold Low; decide
  repeat' walk_at "s"
  refine s_take B (by decide) (lg (by decide) (by decide)) ?_
  intro r1 ys a1 a2 B
  repeat' walk_at "s"
  refine s_take B (by decide) (lg (by decide) (by decide)) ?_
  intro r2 ys b1 b2 B
  repeat' walk_at "s"
  generalize hu : 1 + r1 = u at *
  generalize hm : 1 + r2 = m at *
  repeat' walk_at "s"
  refine s_rn1 (by omega) (by omega) ?_
  intro D hD
  refine lcR hD (fun i acc Hi => ∃ (H3 : Hp) (ys : List V) (cs : List Nat), Hi = upd H3 b (.lst ys) ∧ Same H0 H3 ∧ Bag K H3 b ys ∧ acc = cs.map (fun c => V.str (tx [c])) ∧ Low cs ∧ cs.length = i) ⟨H0, ys, [], rfl, Same.refl _, B, rfl, Low.nil, rfl⟩ (fun i acc Hi hi hn hl z => ?_) fun acc Hi hn' hl z => ?_
  · obtain ⟨H3, ys, cs, rfl, e3, B, rfl, lc, hc⟩ := z
    repeat' walk_at "s"
    refine ⟨rfl, ?_⟩
    repeat' walk_at "s"
    refine s_takeD B hn (by decide) (lg (by decide) (by decide)) ?_
    intro r5 ys i1 i2 B hn
    refine s_pickX (by decide) i1 i2 fun q hq _ => ?_
    refine lc_put hn hl (by rw [sizeLine_eq]; omega) ⟨H3, ys, cs ++ [([97, 98] : List Nat)[q]], rfl, e3, B, by rw [List.map_append]; rfl, lc.app (low_at low_ab hq), by rw [List.length_append, hc]; rfl⟩
  clear B hD ys
  obtain ⟨H3, ys, fs, rfl, e3, B, rfl, lf, hf⟩ := z
  refine doneB B hn' fun H4 e4 h4 B => ?_
  refine s_join (ls := fs.map fun c => [c]) (by rw [List.map_map]; exact SqL.of (B.see _ _ h4)) (by rw [sum_ones]; omega) ?_
  rw [flat_ones]
  have e4 := e3.trans e4
  clear e3 hn' h4 hl
  repeat' walk_at "s"
  refine s_pickX (by omega) (by decide) (by omega) fun q0 hq0 _ => ?_
  repeat' walk_at "s"
  refine s_rn1 (by omega) (by omega) ?_
  intro D hD
  refine lcR hD (fun i acc Hi => ∃ (H3 : Hp) (ys : List V) (cs : List Nat), Hi = upd H3 b (.lst ys) ∧ Same H4 H3 ∧ Bag K H3 b ys ∧ acc = cs.map (fun c => V.str (tx [c])) ∧ Low cs ∧ cs.length = i) ⟨H4, ys, [], rfl, Same.refl _, B, rfl, Low.nil, rfl⟩ (fun i acc Hi hi hn hl z => ?_) fun acc Hi hn' hl z => ?_
  · obtain ⟨H3, ys, cs, rfl, e3, B, rfl, lc, hc⟩ := z
    repeat' walk_at "s"
    refine ⟨rfl, ?_⟩
    repeat' walk_at "s"
    refine s_takeD B hn (by decide) (lg (by decide) (by decide)) ?_
    intro r5 ys i1 i2 B hn
    refine s_pickX (by decide) i1 i2 fun q hq _ => ?_
    refine lc_put hn hl (by rw [sizeLine_eq]; omega) ⟨H3, ys, cs ++ [([97, 98, 99] : List Nat)[q]], rfl, e3, B, by rw [List.map_append]; rfl, lc.app (low_at low_abc hq), by rw [List.length_append, hc]; rfl⟩
  clear hD
  obtain ⟨H5, ys, ms, rfl, e5, B, rfl, lm, hms⟩ := z
  refine doneB B hn' fun H6 e6 h6 B => ?_
  refine s_join (ls := ms.map fun c => [c]) (by rw [List.map_map]; exact SqL.of (B.see _ _ h6)) (by rw [sum_ones]; omega) ?_
  rw [flat_ones]
  have e6 := e4.trans (e5.trans e6)
  clear e5 hn' h6 hl e4
  refine s_addX (by simp only [List.length_singleton]; omega) ?_
  repeat' walk_at "s"
  refine s_addX (by rw [List.length_append, List.length_singleton]; omega) ?_
  repeat' walk_at "s"
  refine s_addX (by rw [List.length_append, List.length_append, List.length_singleton]; omega) ?_
  obtain ⟨w, hw, ww, wl⟩ : ∃ w : List Nat, fs ++ ([fs[q0]] ++ ms) ++ fs = w ∧ Low w ∧ (w.length : Int) = 2 * u + m + 1 := by
    refine ⟨_, rfl, (lf.app ((low_at lf hq0).app lm)).app lf, ?_⟩
    rw [List.length_append, List.length_append, List.length_append, List.length_singleton]
    omega
  rw [hw]
  clear hw
  repeat' walk_at "e"
  with_reducible refine s_seqR (fun σ H => ∃ (w : List Nat) (x3 x4 : Option V), H = upd H6 b (.lst ys) ∧ Low w ∧ (w.length : Int) = 2 * u + m + 1 ∧ σ = [some (.ref b), some (.int u), some (.int m), x3, x4, some (.str (tx w)), none, none, none]) (fun σ H z => ?_) fun N hN => ?_
  rotate_left
  · repeat' walk_at "s"
    refine s_hid B ⟨_, rfl, w, rfl, by omega, by omega, fun t r h0 => ?_⟩
    repeat' walk_at "s"
    refine s_ifn (fun d => ?_) fun d => ?_
    · repeat' walk_at "s"
      refine s_mulX (by rw [List.length_singleton]; omega) (by omega) (by omega) ?_
      repeat' walk_at "s"
      refine s_mulX (by rw [List.length_singleton]; omega) (by omega) (by omega) ?_
      refine s_addX (by rw [rep_len, rep_len, List.length_singleton, List.length_singleton]; omega) ?_
      repeat' walk_at "s"
      refine s_mulX (by rw [List.length_singleton]; omega) (by omega) (by omega) ?_
      refine s_addX (by rw [List.length_append, rep_len, rep_len, rep_len, List.length_singleton, List.length_singleton]; omega) ?_
      repeat' walk_at "s"
      exact hN _ _ ⟨_, _, _, rfl, (((low_1 (c := 97) (by decide) (by decide)).rep _).app ((low_1 (c := 98) (by decide) (by decide)).rep _)).app ((low_1 (c := 97) (by decide) (by decide)).rep _), by rw [List.length_append, List.length_append, rep_len, rep_len, rep_len, List.length_singleton, List.length_singleton]; omega, rfl⟩
    · repeat' walk_at "s"
      exact hN _ _ ⟨w, _, _, rfl, ww, wl, rfl⟩
  clear ww wl
  obtain ⟨w, x3, x4, rfl, ww, wl, rfl⟩ := z
  repeat' walk_at "s"
  refine s_take B (by decide) (lg (by decide) (by decide)) ?_
  intro r3 ys c1 c2 B
  repeat' walk_at "s"
  refine s_lenX (by omega) ?_
  repeat' walk_at "s"
  refine s_take B (by omega) (lg (by omega) (by omega)) ?_
  intro r4 ys d1 d2 B
  have g1 := mul_bd (x := (w.length : Int)) (y := 1 + r4) (a := 12) (b := 2) (by omega) (by omega) (by omega) (by omega)
  have g2 := mul_bd (x := (w.length : Int)) (y := 2 + r3) (a := 12) (b := 3) (by omega) (by omega) (by omega) (by omega)
  have g3 : (w.length : Int) * 1 ≤ (w.length : Int) * (1 + r4) := Int.mul_le_mul_of_nonneg_left (by omega) (by omega)
  have g4 : (w.length : Int) * (1 + r4) ≤ (w.length : Int) * (2 + r3) := Int.mul_le_mul_of_nonneg_left (by omega) (by omega)
  repeat' walk_at "s"
  refine s_mulI (mulW (by omega) (by omega)) ?_
  repeat' walk_at "s"
  refine s_mulI (mulW (by omega) (by omega)) ?_
  repeat' walk_at "s"
  refine s_lenX (by omega) ?_
  repeat' walk_at "s"
  refine s_mulI (mulW (by omega) (by omega)) ?_
  repeat' walk_at "s"
  refine newB B (sz_of rfl) fun p H7 e7 hp B => ?_
  exact hQ H7 ys p w u _ _ (e6.trans e7) B hp ww (by omega) (by omega) (by omega) (by omega) (by omega) (by omega)
def t_zscene (K : PySem.W.Frag) : TS :=
  (tSeq (tAsg (gCall (sp_take K) E1 (tCons (tVar 0) (tCons (tC (.int 8)) tNil))) (gName 1))
  (tSeq (tIfS (tTest (tOp rLess (tVar 1) (tC (.int 2)))) (tRet (gCall (sp_any_row K) E1 (tCons (tVar 0) (tCons (tOp (rIx K) (tLst (tCons (tC (.int 9)) (tCons (tC (.int 65)) tNil))) (tVar 1)) tNil)))) tNext)
  (tSeq (tIfS (tOr (tTest (tOp (rSame K) (tVar 1) (tC (.int 2)))) (tTest (tOp (rSame K) (tVar 1) (tC (.int 3))))) (tSeq (tAsg (tOp (rIx K) (tLst (tCons (gCall (sp_ztwin_case K) E1 (tCons (tVar 0) (tCons (tC (.int 32)) tNil))) (tCons (gCall (sp_ztriple_case K) E1 (tCons (tVar 0) tNil)) tNil))) (tOp rMinus (tVar 1) (tC (.int 2)))) (gName 2))
  (tRet (gCall (sp_called K) E1 (tCons (tOp (rIx K) (gCall (sp_ztwins K) E1 (tCons (tVar 2) tNil)) (tC (.int 0))) (tCons (tOp (rIx K) (tVar 2) (tC (.int 1))) tNil))))) tNext)
  (tSeq (tAsg (gCall (sp_row K) E1 (tCons (tVar 0) (tCons (tOp (rIx K) (tLst (tCons (tC (.int 33)) (tCons (tC (.int 9)) (tCons (tC (.int 9)) tNil)))) (tOp rMod (tVar 1) (tC (.int 3)))) tNil))) (gName 3))
  (tSeq (tFor (iRng1 (tCons (tOp (rIx K) (tLst (tCons (tC (.int 1)) (tCons (tC (.int 3)) (tCons (tC (.int 2)) tNil)))) (tOp rMod (tVar 1) (tC (.int 3)))) tNil)) (gName 4)
  (tAsg (gCall (sp_called K) E1 (tCons (tVar 3) (tCons (gCall (sp_zplace K) E1 (tCons (tVar 0) (tCons (tOp rMinus (tCB (rLen K) (tCons (tVar 3) tNil)) (tC (.int 1))) tNil))) tNil))) (gName 3)))
  (tSeq (tIfS (tTest (tOp (rSame K) (tVar 1) (tC (.int 7)))) (tSeq (tAsg (gCall (sp_take K) E1 (tCons (tVar 0) (tCons (tCB (rLen K) (tCons (tVar 3) tNil)) tNil))) (gName 5))
  (tAsg (tOp (rPlus K) (tOp (rPlus K) (tSl (rCut K) (tVar 3) tNoPart (tPart (tVar 5))) (tOp (rIx K) (tC (.str "abz")) (gCall (sp_take K) E1 (tCons (tVar 0) (tCons (tC (.int 3)) tNil))))) (tSl (rCut K) (tVar 3) (tPart (tOp (rPlus K) (tVar 5) (tC (.int 1)))) tNoPart)) (gName 3))) tNext)
  (tRet (tVar 3))))))))
theorem pu_zscene {K : PySem.W.Frag} (vs : List V) (H : Hp) (Q : VK) (E : XK) (h : sp_zscene K vs H Q E) : t_zscene K { nx := fun _ H' => Q .non H', rt := Q } (start ["_law_bag_here", "_law_way", "_law_case", "_law_row_here", "_law_k", "_law_at"] vs) H := by
  obtain ⟨_, rfl, b, H0, ys, rfl, rfl, B, hQ⟩ := h
  unfold t_zscene
  rw [lit_abz]
  repeat' walk_at "s"
  refine s_take B (by decide) (lg (by decide) (by decide)) ?_
  intro wy ys a1 a2 B
  repeat' walk_at "s"
  refine s_if (fun c => ?_) fun c => ?_
  · repeat' walk_at "s"
    refine newB B (sz_of rfl) fun p1 H1 e1 hp1 B => ?_
    repeat' walk_at "s"
    refine s_pickP (fun x => ∃ s : Int, x = .int s ∧ 2 ≤ s ∧ s ≤ 65) (B.see _ _ hp1) a1 c (fun x hx => ?_) fun x hx => ?_
    · simp only [List.mem_cons, List.not_mem_nil, or_false] at hx
      rcases hx with rfl | rfl
      all_goals exact ⟨_, rfl, by omega, by omega⟩
    obtain ⟨s, rfl, s0, s1⟩ := hx
    repeat' walk_at "s"
    refine s_any B s0 (by omega) fun H2 ys l e2 B ll l2 lm => ?_
    exact hQ H2 ys l (e1.trans e2) B ll l2 (by omega)
  repeat' walk_at "s"
  have twin : wy = 2 ∨ wy = 3 → ∀ σ D, σ = [some (.ref b), some (.int wy), none, none, none, none] → D.rt = Q → (tSeq (tAsg (tOp (rIx K) (tLst (tCons (gCall (sp_ztwin_case K) E1 (tCons (tVar 0) (tCons (tC (.int 32)) tNil))) (tCons (gCall (sp_ztriple_case K) E1 (tCons (tVar 0) tNil)) tNil))) (tOp rMinus (tVar 1) (tC (.int 2)))) (gName 2))
      (tRet (gCall (sp_called K) E1 (tCons (tOp (rIx K) (gCall (sp_ztwins K) E1 (tCons (tVar 2) tNil)) (tC (.int 0))) (tCons (tOp (rIx K) (tVar 2) (tC (.int 1))) tNil))))) D σ (upd H0 b (.lst ys)) := fun hw σ D hσ hD => by
    subst hσ
    repeat' walk_at "s"
    refine s_all ⟨_, _, rfl, b, H0, ys, 32, rfl, rfl, rfl, B, by decide, by decide, fun H2 ys p2 l u o c e2 B hp2 lw l3 l6 lc u1 uo oc cm => ?_⟩
    repeat' walk_at "s"
    refine s_all ⟨_, rfl, b, H2, ys, rfl, rfl, B, fun H3 ys p3 l' u' o' c' e3 B hp3 lw' l3' l6' u1' uo' oc' cm' => ?_⟩
    repeat' walk_at "s"
    refine newB B (sz_of rfl) fun p4 H4 e4 hp4 B => ?_
    repeat' walk_at "s"
    refine s_pickP (fun x => ∃ (p : Addr) (l : List Nat) (u o c : Int), x = .ref p ∧ H4 p = some (cas l u o c) ∧ Low l ∧ 1 ≤ l.length ∧ l.length ≤ 12 ∧ 1 ≤ u ∧ u < o ∧ o ≤ c ∧ c ≤ 46) (B.see _ _ hp4) (by omega) (by show wy - 2 < 2; omega) (fun x hx => ?_) fun x hx => ?_
    · simp only [List.mem_cons, List.not_mem_nil, or_false] at hx
      rcases hx with rfl | rfl
      · exact ⟨p2, l, u, o, c, rfl, e4 _ _ (e3 _ _ hp2), lw, by omega, by omega, u1, uo, oc, by omega⟩
      · exact ⟨p3, l', u', o', c', rfl, e4 _ _ hp3, lw', by omega, by omega, u1', uo', oc', by omega⟩
    obtain ⟨p5, l5, u5, o5, c5, rfl, hp5, lw5, l51, l52, u51, uo5, oc5, c51⟩ := hx
    repeat' walk_at "s"
    refine s_hid B ⟨_, rfl, p5, l5, u5, o5, c5, rfl, SqT.of hp5, by omega, by omega, by omega, by omega, by omega, by omega, newS trivial fun p6 H6 _ e6 hp6 nb => ?_⟩
    replace B := B.same e6 nb
    repeat' walk_at "s"
    refine s_ixT (SqT.of (B.see _ _ hp6)) at_0 ?_
    repeat' walk_at "s"
    refine s_ixT (SqT.of (B.see _ _ (e6 _ _ hp5))) (atI_nat (j := 1) rfl) ?_
    have tl := tw_length (l := l5) (a := o5) (c := c5) (by omega) (by omega) (by omega) (by omega)
    refine s_mk (by omega) (by omega) (by omega) ?_
    have ml := mk_len (l := tw l5 o5 c5) (k := u5.toNat) (by omega)
    have fin := hQ H6 ys (mk (tw l5 o5 c5) u5.toNat) (((e2.trans e3).trans e4).trans e6) B (mk_low ((low_rp lw5 _).app (low_rp lw5 _))) (by omega) (by omega)
    first
      | exact fin
      | (rw [hD]; exact fin)
  refine s_if (fun c2 => ?_) fun c2 => ?_
  · refine iteT ?_
    exact twin (.inl c2) _ _ rfl rfl
  repeat' walk_at "s"
  refine s_if (fun c3 => ?_) fun c3 => ?_
  · exact twin (.inr c3) _ _ rfl rfl
  clear twin
  repeat' walk_at "s"
  refine newB B (sz_of rfl) fun p1 H1 e1 hp1 B => ?_
  have m0 := Int.emod_nonneg wy (show (3 : Int) ≠ 0 by decide)
  have m1 := Int.emod_lt_of_pos wy (show (0 : Int) < 3 by decide)
  repeat' walk_at "s"
  refine s_mod (by decide) ?_
  refine s_pickP (fun x => ∃ s : Int, x = .int s ∧ 2 ≤ s ∧ s ≤ 33) (B.see _ _ hp1) m0 m1 (fun x hx => ?_) fun x hx => ?_
  · simp only [List.mem_cons, List.not_mem_nil, or_false] at hx
    rcases hx with rfl | rfl | rfl
    all_goals exact ⟨_, rfl, by omega, by omega⟩
  obtain ⟨s, rfl, s0, s1⟩ := hx
  repeat' walk_at "s"
  refine s_text B (by omega) (by omega) fun H2 ys l e2 B ll l2 lm => ?_
  repeat' walk_at "e"
  with_reducible refine s_seqR (fun σ H => ∃ (H3 : Hp) (ys : List V) (l : List Nat) (x4 : Option V), Same H0 H3 ∧ Bag K H3 b ys ∧ H = upd H3 b (.lst ys) ∧ Low l ∧ 2 ≤ l.length ∧ l.length ≤ 264 ∧ σ = [some (.ref b), some (.int wy), none, some (.str (tx l)), x4, none]) (fun σ H z => ?_) fun N hN => ?_
  rotate_left
  · repeat' walk_at "s"
    refine newB B (sz_of rfl) fun p2 H3 e3 hp2 B => ?_
    repeat' walk_at "s"
    refine s_mod (by decide) ?_
    refine s_pickP (fun x => ∃ s : Int, x = .int s ∧ 1 ≤ s ∧ s ≤ 3) (B.see _ _ hp2) m0 m1 (fun x hx => ?_) fun x hx => ?_
    · simp only [List.mem_cons, List.not_mem_nil, or_false] at hx
      rcases hx with rfl | rfl | rfl
      all_goals exact ⟨_, rfl, by omega, by omega⟩
    obtain ⟨t, rfl, t0, t1⟩ := hx
    repeat' walk_at "s"
    refine s_rn1 (by omega) (by omega) ?_
    refine for_range (fun j σ H => ∃ (H4 : Hp) (ys : List V) (l : List Nat) (x4 : Option V), Same H0 H4 ∧ Bag K H4 b ys ∧ H = upd H4 b (.lst ys) ∧ Low l ∧ 2 ≤ l.length ∧ l.length ≤ 33 * 2 ^ j ∧ σ = [some (.ref b), some (.int wy), none, some (.str (tx l)), x4, none])
      ⟨H3, ys, l, _, (e1.trans e2).trans e3, B, rfl, ll, by omega, by rw [Nat.pow_zero]; omega, rfl⟩ (fun j σ H hj z => ?_) fun σ H z => ?_
    · obtain ⟨H4, ys, l, x4, e4, B, rfl, ll, l2, lm, rfl⟩ := z
      have hj2 : j ≤ 2 := by omega
      have h8 : 2 ^ j ≤ 2 ^ 2 := Nat.pow_le_pow_right (by decide) hj2
      repeat' walk_at "s"
      refine s_lenX (by omega) ?_
      repeat' walk_at "s"
      refine s_zplace B (by omega) (by omega) fun H5 ys v e5 B v0 v1 => ?_
      refine s_mk v0 (by omega) (by omega) ?_
      have ml := mk_len (l := l) (k := v.toNat) (by omega)
      repeat' walk_at "s"
      exact ⟨H5, ys, _, _, e4.trans e5, B, rfl, mk_low ll, by omega, by rw [Nat.pow_succ]; omega, rfl⟩
    · obtain ⟨H4, ys, l, x4, e4, B, rfl, ll, l2, lm, rfl⟩ := z
      have h8 : 2 ^ t.toNat ≤ 2 ^ 3 := Nat.pow_le_pow_right (by decide) (by omega)
      exact hN _ _ ⟨H4, ys, l, _, e4, B, rfl, ll, l2, by omega, rfl⟩
  clear B e1 e2 ll l2 lm l hp1
  obtain ⟨H3, ys, l, x4, e3, B, rfl, ll, l2, lm, rfl⟩ := z
  repeat' walk_at "s"
  refine s_if (fun c7 => ?_) fun c7 => ?_
  · repeat' walk_at "s"
    refine s_lenX (by omega) ?_
    repeat' walk_at "s"
    refine s_take B (by omega) (lg (by omega) (by omega)) ?_
    intro at_ ys f1 f2 B
    repeat' walk_at "s"
    refine s_toX (by omega) f1 ?_
    repeat' walk_at "s"
    refine s_take B (by decide) (lg (by decide) (by decide)) ?_
    intro r5 ys g1 g2 B
    refine s_pickX (by decide) g1 g2 fun q hq _ => ?_
    refine s_addX (by rw [List.length_take]; simp only [List.length_singleton]; omega) ?_
    repeat' walk_at "s"
    refine s_fromX (by omega) (by omega) ?_
    refine s_addX (by rw [List.length_append, List.length_take, List.length_drop]; simp only [List.length_singleton]; omega) ?_
    repeat' walk_at "s"
    refine hQ H3 ys _ e3 B (((ll.take _).app (low_at (by unfold Low; decide) hq)).app (ll.drop _)) ?_ ?_
    all_goals
      rw [List.length_append, List.length_append, List.length_take, List.length_drop, List.length_singleton]
      omega
  · repeat' walk_at "s"
    exact hQ H3 ys l e3 B ll l2 (by omega)
def t_zlong_row (K : PySem.W.Frag) : TS :=
  (tSeq (tPar 1 2 (tCons (tOp (rIx K) (tLst (tCons (tC (.int 257)) (tCons (tC (.int 513)) (tCons (tC (.int 999)) (tCons (tOp (rPlus K) (tC (.int 2)) (gCall (sp_take K) E1 (tCons (tVar 0) (tCons (tC (.int 999)) tNil)))) tNil))))) (gCall (sp_take K) E1 (tCons (tVar 0) (tCons (tC (.int 4)) tNil)))) (tCons (gCall (sp_take K) E1 (tCons (tVar 0) (tCons (tC (.int 4)) tNil))) tNil)))
  (tSeq (tIfS (tTest (tOp rLess (tVar 2) (tC (.int 3)))) (tRet (tSl (rCut K) (tOp rTimes (tOp (rIx K) (tLst (tCons (tC (.str "a")) (tCons (tC (.str "ab")) (tCons (tC (.str "aab")) tNil)))) (tVar 2)) (tVar 1)) tNoPart (tPart (tVar 1)))) tNext)
  (tSeq (tAsg (gCall (sp_row K) E1 (tCons (tVar 0) (tCons (tC (.int 500)) tNil))) (gName 3))
  (tRet (gCall (sp_called K) E1 (tCons (tVar 3) (tCons (gCall (sp_zplace K) E1 (tCons (tVar 0) (tCons (tOp rMinus (tCB (rLen K) (tCons (tVar 3) tNil)) (tC (.int 1))) tNil))) tNil)))))))
theorem pu_zlong_row {K : PySem.W.Frag} (vs : List V) (H : Hp) (Q : VK) (E : XK) (h : sp_zlong_row K vs H Q E) : t_zlong_row K { nx := fun _ H' => Q .non H', rt := Q } (start ["_law_bag_here", "_law_size", "_law_way", "_law_row_here"] vs) H := by
  obtain ⟨_, rfl, b, H0, ys, rfl, rfl, B, hQ⟩ := h
  unfold t_zlong_row
  rw [lit_a1, lit_ab, lit_aab]
  repeat' walk_at "s"
  refine s_take B (by decide) (lg (by decide) (by decide)) ?_
  intro r1 ys a1 a2 B
  repeat' walk_at "s"
  refine newB B (sz_of rfl) fun p1 H1 e1 hp1 B => ?_
  repeat' walk_at "s"
  refine s_take B (by decide) (lg (by decide) (by decide)) ?_
  intro r2 ys b1 b2 B
  refine s_pickP (fun x => ∃ s : Int, x = .int s ∧ 2 ≤ s ∧ s ≤ 1000) (B.see _ _ hp1) b1 b2 (fun x hx => ?_) fun x hx => ?_
  · simp only [List.mem_cons, List.not_mem_nil, or_false] at hx
    rcases hx with rfl | rfl | rfl | rfl
    all_goals exact ⟨_, rfl, by omega, by omega⟩
  obtain ⟨s, rfl, s0, s1⟩ := hx
  repeat' walk_at "s"
  refine s_take B (by decide) (lg (by decide) (by decide)) ?_
  intro wy ys c1 c2 B
  repeat' walk_at "s"
  refine s_if (fun c => ?_) fun c => ?_
  · repeat' walk_at "s"
    refine newB B (sz_of rfl) fun p2 H2 e2 hp2 B => ?_
    repeat' walk_at "s"
    refine s_pickP (fun x => ∃ g : List Nat, x = .str (tx g) ∧ Low g ∧ 1 ≤ g.length ∧ g.length ≤ 3) (B.see _ _ hp2) c1 c (fun x hx => ?_) fun x hx => ?_
    · simp only [List.mem_cons, List.not_mem_nil, or_false] at hx
      rcases hx with rfl | rfl | rfl
      all_goals exact ⟨_, rfl, by unfold Low; decide, by decide, by decide⟩
    obtain ⟨g, rfl, lg', g1, g2⟩ := hx
    have hle := Nat.mul_le_mul g2 (show s.toNat ≤ 1000 by omega)
    have hge := Nat.mul_le_mul g1 (Nat.le_refl s.toNat)
    repeat' walk_at "s"
    refine s_mulX (by omega) (by omega) (by omega) ?_
    repeat' walk_at "s"
    have hrl := rep_len s.toNat g
    have hcm := Nat.mul_comm s.toNat g.length
    refine s_toX (by omega) (by omega) ?_
    refine hQ H2 ys _ (e1.trans e2) B ((lg'.rep _).take _) ?_ ?_
    all_goals
      rw [List.length_take]
      omega
  · repeat' walk_at "s"
    refine s_text B (by decide) (by decide) fun H2 ys l e2 B ll l2 lm => ?_
    repeat' walk_at "s"
    refine s_lenX (by omega) ?_
    repeat' walk_at "s"
    refine s_zplace B (by omega) (by omega) fun H3 ys v e3 B v0 v1 => ?_
    refine s_mk v0 (by omega) (by omega) ?_
    have ml := mk_len (l := l) (k := v.toNat) (by omega)
    exact hQ H3 ys _ ((e1.trans e2).trans e3) B (mk_low ll) (by omega) (by omega)
end
section
namespace OwX
open PySem PySem.W PySem.Calls PyProof.Rows
/-! ### an own error: __init__ says super().__init__('..'), then stores one field -/
/-- the text of such an __init__ -/
structure Txt0 (P : Program) (params : Arguments) (body : List Stmt) (scope : Scope) (slf prm fld lit : PySem.Str) : Prop where
  body : ∃ p0 p1 p2 j p3 p4 p5 p6 p7 p8 p9, body = [.Expr (.Call (.Attribute (.Call (.Name "super" p0) [] [] p1) "__init__" p2) [.Constant (.str lit) j p3] [] p4) p5, .Assign [.Attribute (.Name slf p6) fld p7] (.Name prm p8) p9] ∧
    ∀ env : Env, ∃ pl : Sem Bool, eval (.Call (.Attribute (.Call (.Name "super" p0) [] [] p1) "__init__" p2) [.Constant (.str lit) j p3] [] p4) env = (do
      let ov ← attributeBase (.Call (.Name "super" p0) [] [] p1) "__init__" env (eval (.Call (.Name "super" p0) [] [] p1) env)
      standAt p2.atName
      let (f, first) ← holding [ov] (getMethod ov "__init__" pl)
      callWith p4 f first (backTo p4 (starEach [.Constant (.str lit) j p3] env)) [])
  head : ∃ ar, (params.posonlyargs ++ params.args).head? = some ar ∧ ar.arg = slf
  nS : scope.names.lookup ("super" : PySem.Str) = some .globalImplicit
  nC : scope.names.lookup ("__class__" : PySem.Str) = some .free
  n1 : scope.names.lookup slf = some .local
  n2 : scope.names.lookup prm = some .local
  cel : ∀ x ∈ scope.names, x.2 ≠ .cell
  kind : scope.kind = .function
  co : scope.isCoroutine = false
  gen : scope.isGenerator = false
  ne : slf ≠ prm
  top : (P.main.scope.names.lookup ("super" : PySem.Str)).isSome = false
  d1 : (slf == ("__debug__" : PySem.Str)) = false
  d2 : (prm == ("__debug__" : PySem.Str)) = false
/-- what the module's part says of the class -/
structure ExI (P : Program) (K : Frag) (C fI cc cda : Addr) (qual : PySem.Str) (params : Arguments) (body : List Stmt) (scope : Scope) (slf prm fld : PySem.Str) : Prop where
  T : L2.OexC K C
  iC : findIn K (.ref C) "__init__" = some (some (.ref fI))
  fn : ∃ oc od kV doc pm an ct osl, K.lookup fI = some ⟨oc, od, .func (ksFn "__init__" qual params body scope .none kV doc pm an (.ref cda) ct cc), osl⟩
  bind : ∀ (kV doc pm : Value) (an : Option Addr) (ct : Value) (x u : Value), bindArgs (ksFn "__init__" qual params body scope .none kV doc pm an (.ref cda) ct cc) ⟨[x, u], []⟩ = pure [(slf, x), (prm, u)]
  tI : typeIn K (.ref fI) = some (.type "function")
  code : codeIn K (.ref cda) qual = true
  cdo : ∃ ccl cdd vs ccs file tf, K.lookup cda = some ⟨ccl, cdd, .fields vs, ccs⟩ ∧ vs[2]? = some (.str file tf) ∧ ((P.main.file : PySem.Str) == file) = true
  cell : ∃ cl cld csl, K.lookup cc = some ⟨cl, cld, .cell (some (.ref C)), csl⟩
  sub : mroIn K C (.ref C) = some true
  stat : nsIn K cStatics "thirdparty.any" = some none
  sup : ks_superIn K C C "__init__" = some (some (.builtin "ValueError.__init__"))
  subV : subIn K (.ref C) (.type "ValueError") = some true
  noat : findIn K (.ref C) fld = some none

section
variable {P : Program} {w : World} {A : Around} {K : Frag} {C fI cc cda e : Addr} {qual slf prm fld lit : PySem.Str} {params : Arguments} {body : List Stmt} {scope : Scope} {hp : Heap} {g : Array GenState} {d : Drawn} {t : Nat} {os : OsState} {E : Value → Shared → Prop}
/-- the wrapper called: the args are laid anew -/
theorem wrap_call {u t0 : Addr} {rest : List Value} {Q : Value → Shared → Prop} (T : L2.OexC K C) (X : K.In hp) (he : hp.get? e = some (HandSPX.excO C t0)) (hu : hp.get? u = some (kxs_mw "ValueError.__init__" e)) (hz : rest.length ≤ sizeLine)
    (hq : ∀ h' t1, (∀ b o, b ≠ e → hp.get? b = some o → h'.get? b = some o) → h'.get? e = some (HandSPX.excO C t1) → Q .none ⟨h', g, d, t, os⟩) :
    wpAny (model P w) A (call (.ref u) rest) Q E ⟨hp, g, d, t, os⟩ := by
  obtain ⟨nm, q, N, bs, bm, sn, sub, ab, col, dd, k0, k1, k2, k3, k5, hC, hbm⟩ := T.cls
  refine wpAny_call (codeAny_of_tree ?_)
  show wpAny _ A.in1 (callAny (.ref u) ⟨rest, []⟩) _ _ _
  simp only [callAny]
  refine wpAny_bind (wpAny_load hu ?_)
  have isw : (Value.type "method-wrapper" == Value.type "method" || Value.type "method-wrapper" == Value.type "builtin_function_or_method" || Value.type "method-wrapper" == Value.type "method-wrapper") = true := by decide
  simp only [kxs_mw, isw, if_true]
  refine KFB.if_so (by decide) ?_
  refine wpAny_bind (check_bound_init F.excBase_ValueError.toExcCallFacts (X _ _ hC) he rfl ?_)
  refine wpAny_bind (wpAny_pure (wpAny_pure ?_))
  refine ⟨plainId_quiet F.excBase_ValueError.init.plain _, codeAny_builtin F.excBase_ValueError.initEntry ?_⟩
  refine exc_init_tree (cls := .ref C) (t0 := t0) (dv := none) (c2 := .none) (c3 := .none) (b4 := .bool false) he hz fun h' k1 k2 _ => hq h' _ k1 k2

theorem inst0 {t0 : Addr} (he : hp.get? e = some (HandSPX.excO C t0)) : InstAt hp e (HandSPX.excO C t0) C none := ⟨he, rfl, rfl, trivial⟩
/-- __init__ walked -/
theorem init_run {mg mb : PySem.Str → Option Value} {t0 : Addr} {u : Value} {R : Result → Shared → Prop} (Z : Txt0 P params body scope slf prm fld lit) (M : ExI P K C fI cc cda qual params body scope slf prm fld) (X : K.In hp)
    (hg : hp.Ns mainGlobals mg) (hmg : mg "super" = none) (hb : hp.Ns builtinsNs mb) (hmb : mb "super" = some (.type "super")) (hl : hp.NoLimit) (room : A.depth < recursionLimit) (he : hp.get? e = some (HandSPX.excO C t0)) (heK : K.lookup e = none)
    (hq : ∀ h' t' dx t1, (∀ b o, b ≠ e → hp.get? b = some o → h'.get? b = some o) → hp.objs.size ≤ dx → dx ≠ e → h'.get? e = some { cls := .ref C, dict := some dx, data := .fields #[.ref t1, .none, .none, .none, .bool false, .none] } →
      h'.Ns1 dx (fun y => if y = fld then some u else none) → R (.ok (.ret .none)) ⟨h', g, d, t', os⟩) :
    codeAny (model P w) A (.call (.ref fI) ⟨[.ref e, u], []⟩) R ⟨hp, g, d, t, os⟩ := by
  obtain ⟨oc, od, kV, doc, pm, an, ct, osl, hfn⟩ := M.fn
  obtain ⟨p0, p1, p2, j, p3, p4, p5, p6, p7, p8, p9, hbody, hev⟩ := Z.body
  obtain ⟨ar, har, hslf⟩ := Z.head
  subst hbody
  refine ks_codeAny_call_defAt (fd := ksFn "__init__" qual params _ scope .none kV doc pm an (.ref cda) ct cc) (binds := [(slf, .ref e), (prm, u)]) room (X _ _ hfn) rfl hl (codeRec_of X M.code) rfl (.of_eq (M.bind _ _ _ _ _ _ _)) Z.cel (fun y hy => ?_) (fun h0 hns hk => ?_) Z.co Z.gen Z.kind
  · rcases List.mem_cons.mp hy with rfl | hy
    · exact Z.n1
    · rcases List.mem_singleton.mp hy with rfl
      exact Z.n2
  · have hK0 : K.In h0 := X.keeps hk
    obtain ⟨nm, q, N, bs, bm, sn, sub, ab, col, dd, k0, k1, k2, k3, k5, hC, hbm⟩ := M.T.cls
    have hcl : clsIn K C = some { name := nm, bases := bs, mro := .ref C :: bm, ns := N, qualname := q, hasDict := true, slotNames := sn, subclasses := sub, abstract := ab, collection := col, hasDel := false } := by
      unfold clsIn
      rw [hC] <;> rfl
    obtain ⟨ccl, cdd, vs, ccs, file, tf, hcd, hvs, hfile⟩ := M.cdo
    obtain ⟨cl, cld, csl, hcell⟩ := M.cell
    have he0 : h0.get? e = some (HandSPX.excO C t0) := hk _ _ he
    have elt : e < hp.objs.size := Heap.lt_size he
    have hvS : ([(slf, Value.ref e), (prm, u)] : List (PySem.Str × Value)).reverse.lookup slf = some (.ref e) := by
      show ([(prm, u), (slf, Value.ref e)] : List (PySem.Str × Value)).lookup slf = _
      have ne : (slf == prm) = false := by simpa using Z.ne
      simp [List.lookup, ne]
    have hvP : ([(slf, Value.ref e), (prm, u)] : List (PySem.Str × Value)).reverse.lookup prm = some u := by
      show ([(prm, u), (slf, Value.ref e)] : List (PySem.Str × Value)).lookup prm = _
      simp [List.lookup]
    have eC : e ≠ C := fun z => by
      have y := X _ _ hC
      rw [← z, he] at y
      cases y
    obtain ⟨pl, hev⟩ := hev (ksEnv qual scope hp.objs.size fI (.ref cda) cc)
    have hi : interactive (ksEnv qual scope hp.objs.size fI (.ref cda) cc) = false := by
      show (scope.kind == .module && _) = false
      rw [Z.kind]
      rfl
    refine ks_wpAt_execs_cons (ks_wpAt_Expr_any (hi := hi) (h := ks_wpAt_MethodCall (pl := pl) (ks_wpAt_super_base (env := ksEnv qual scope hp.objs.size fI (.ref cda) cc) Z.nS Z.nC (by decide) rfl (hK0 _ _ hfn) rfl har rfl (hK0 _ _ hcd) rfl hvs hfile Z.top ?_) hev))
    refine ks_loadName_global Z.kind Z.nS (loadGlobal_builtin (env := ksEnv qual scope hp.objs.size fI (.ref cda) cc) (hg.keeps hk) hmg (hb.keeps hk) hmb ⟨rfl, ?_⟩)
    refine wpAny_loadName_free Z.kind Z.nC rfl ⟨_, hK0 _ _ hcell, rfl⟩ ?_
    rw [hslf]
    refine wpAny_loadName_local Z.kind Z.n1 hns hvS ?_
    refine ks_wpAny_isType_cls (hK0 _ _ hC) rfl ⟨rfl, ?_⟩
    refine ks_wpAny_call_super (hK0 _ _ hC) rfl he0 rfl (fun c z => by cases z) (looks_mroIn hK0 M.sub) fun h1 e1 k1' => ?_
    have hK1 : K.In h1 := hK0.keeps k1'
    have along : alongIn K "__init__" (((Value.ref C :: bm).dropWhile (· != .ref C)).drop 1) = some (some (.builtin "ValueError.__init__")) := by
      have z := M.sup
      unfold ks_superIn at z
      rw [hcl] at z
      exact z
    have he1 := k1' _ _ he0
    refine kxs_getMethod kxs_ValueError e1 (looks_opaque hK1 M.stat) ((looks_clsIn hK1 hcl).andThen .now) rfl hK1 along ((inst0 he1).type.andThen (looks_subIn hK1 M.subV)) eC (by decide) ?_
    have kp : ∀ b o, h1.get? b = some o → (h1.push (kxs_mw "ValueError.__init__" e)).get? b = some o := fun b o z => Heap.get?_push_of_some _ z
    have hK2 : K.In (h1.push (kxs_mw "ValueError.__init__" e)) := hK1.keeps kp
    have hu2 : (h1.push (kxs_mw "ValueError.__init__" e)).get? h1.objs.size = some (kxs_mw "ValueError.__init__" e) := Heap.get?_push_size _ rfl
    refine kxs_callWith (i := "ValueError.__init__") (x := e) rfl ?_
    refine evalArgs_plain ?_
    refine args_cons (Calls.Constant_str (args_nil ⟨hu2, ?_⟩))
    refine wrap_call M.T hK2 (kp _ _ he1) hu2 (by show 1 ≤ sizeLine; rw [sizeLine_eq]; omega) fun h3 t1 k3' he3 => ?_
    have kk : ∀ b o, b ≠ e → h0.get? b = some o → h3.get? b = some o := fun b o hb z => k3' b o hb (kp _ _ (k1' _ _ z))
    have hK3 : K.In h3 := fun b o z => kk b o (fun eb => by
      rw [eb, heK] at z
      cases z) (hK0 b o z)
    have hns3 : h3.Ns hp.objs.size (fun y => ([(slf, Value.ref e), (prm, u)] : List (PySem.Str × Value)).reverse.lookup y) := by
      obtain ⟨oL, es, ep, hL, r⟩ := hns
      exact ⟨oL, es, ep, kk _ _ (Nat.ne_of_gt elt) hL, r⟩
    refine ks_wpAt_execs_cons (ks_wpAt_Assign_Attr (wpAt_of_wpAny (wpAny_Name (wpAny_loadName_local Z.kind Z.n2 hns3 hvP ?_) Z.d2)))
    refine wpAny_Name (wpAny_loadName_local Z.kind Z.n1 hns3 hvS ?_) Z.d1
    refine set_plain hK3 (inst0 he3) M.T.sa (HandSPX.exc_osa hK3 he3 hcl (show HandSPX.refsVE (.ref C :: bm) = true from hbm) rfl M.noat fun h4 t4 dx k4 d1 d2 hx hn => ?_)
    refine wpAt_of_wpAny (wpAny_pure ?_)
    refine hq h4 t4 dx t1 (fun b o hb z => k4 b o hb (kk b o hb (hk _ _ z))) (Nat.le_trans (Nat.le_of_lt ?_) d1) d2 hx hn
    obtain ⟨oL, _, _, hL, _⟩ := hns3
    exact Heap.lt_size hL

/-- C(u) -/
theorem make_run {mg mb : PySem.Str → Option Value} {u : Value} {R : Result → Shared → Prop} (Z : Txt0 P params body scope slf prm fld lit) (M : ExI P K C fI cc cda qual params body scope slf prm fld) (X : K.In hp)
    (hg : hp.Ns mainGlobals mg) (hmg : mg "super" = none) (hb : hp.Ns builtinsNs mb) (hmb : mb "super" = some (.type "super")) (hl : hp.NoLimit) (room : A.depth + 1 < recursionLimit)
    (hq : ∀ h' t' e dx t1, (∀ b o, hp.get? b = some o → h'.get? b = some o) → hp.objs.size ≤ e → hp.objs.size ≤ dx → dx ≠ e → h'.get? e = some { cls := .ref C, dict := some dx, data := .fields #[.ref t1, .none, .none, .none, .bool false, .none] } →
      h'.Ns1 dx (fun y => if y = fld then some u else none) → R (.ok (.ret (.ref e))) ⟨h', g, d, t', os⟩) :
    codeAny (model P w) A (.call (.ref C) ⟨[u], []⟩) R ⟨hp, g, d, t, os⟩ := by
  obtain ⟨nm, q, N, bs, bm, sn, sub, ab, col, dd, k0, k1, k2, k3, k5, hC, hbm⟩ := M.T.cls
  have kk : ∀ b o, hp.get? b = some o → ((hp.push (kdv_tup [u])).push (HandSPX.excO C hp.objs.size)).get? b = some o := fun b o z => Heap.get?_push_of_some _ (Heap.get?_push_of_some _ z)
  have hget : ((hp.push (kdv_tup [u])).push (HandSPX.excO C hp.objs.size)).get? (hp.objs.size + 1) = some (HandSPX.excO C hp.objs.size) := by heap_get
  have sz : ((hp.push (kdv_tup [u])).push (HandSPX.excO C hp.objs.size)).objs.size = hp.objs.size + 2 := by
    rw [Heap.size_push, Heap.size_push]
  have off : K.lookup (hp.objs.size + 1) = none := by
    cases z : K.lookup (hp.objs.size + 1) with
    | none => rfl
    | some o => exact absurd (Nat.lt_trans (Nat.lt_succ_self _) (Heap.lt_size (X _ _ z))) (Nat.lt_irrefl _)
  refine HandSPX.call_own F.excBase_ValueError (fun Y => HandSPX.refsVE_contains Y bm hbm) (X _ _ hC) (looks_findIn X M.iC) (fun self => bind_fn X self M.tI) (by show 1 ≤ sizeLine; rw [sizeLine_eq]; omega) ?_
  refine init_run (t0 := hp.objs.size) Z M (X.keeps kk) (hg.keeps kk) hmg (hb.keeps kk) hmb (hl.keeps kk) (by rw [L2.make_depth]; exact room) hget off fun h' t' dx t1 k d1 d2 hx hn => ?_
  refine ⟨rfl, hq h' t' (hp.objs.size + 1) dx t1 (fun b o z => k b o (fun eb => ?_) (kk b o z)) (Nat.le_succ _) (by omega) d2 hx hn⟩
  rw [eb] at z
  exact absurd (Nat.lt_trans (Nat.lt_succ_self _) (Heap.lt_size z)) (Nat.lt_irrefl _)
end
end OwX
end
section
/-! ### own errors: made, raised -/
section
variable {P : Program} {w : World} {K : PySem.W.Frag} {mg : Str → Option Value} {base : Heap} {N : List Str} {qual : Str} {scope : Scope} {f : Addr} {cdv : Value} {A : Around} {outer : List Env} {s : Shared} {H : Hp} {E : XK}
/-- what a def may let out -/
theorem takesX : Takes (cx P w K mg base N qual scope f cdv A outer s H E) (fun cls d _ H' => E cls d H') := takes_of rfl rfl rfl rfl
theorem ownsX : PassesOwn (model P w) (cx P w K mg base N qual scope f cdv A outer s H E).A (cx P w K mg base N qual scope f cdv A outer s H E).env (cx P w K mg base N qual scope f cdv A outer s H E).xe :=
  passes_of (X := cx P w K mg base N qual scope f cdv A outer s H E) (K := fun e s'' => L2.CX P w outer H s E e s'') rfl
end
/-- an error class of the module's name x, with one field -/
def ErrC (P : Program) (K : PySem.W.Frag) (mg : Str → Option Value) (x : Str) (C : Addr) (fld : Str) : Prop :=
  mg x = some (.ref C) ∧ mg "super" = none ∧ ∃ fI cc cda qual params body scope slf prm lit, OwX.Txt0 P params body scope slf prm fld lit ∧ OwX.ExI P K C fI cc cda qual params body scope slf prm fld
/-- C(e): the error's class, its dict -/
def tErr (C : Addr) (fld : Str) (te : TE) : L2.St → Hp → XK → Prop := fun σ H Q => tCons te tNil σ H fun vs H1 => ∃ v, vs = [v] ∧ ∀ d, H1 d = none → Q (.ref C) (some d) (upd H1 d (.xd [(fld, v)]))
theorem boot_super : bootBuiltins ("super" : Str) = some (.type "super") := by kernel_rfl
theorem pmk_err {X : Cx} {x fld : Str} {C : Addr} {p pos : Pos} {e : Expr} {te : TE} (ER : ErrC X.prog X.K X.mg x C fld) (hr : Room 1 X.A) (hg : Gl X x) (he : PE X e te) (hdb : (x == ("__debug__" : Str)) = false := by decide)
    (hst : starEach [e] X.env = (false, eval e X.env) :: starEach [] X.env := by rfl) : PMk X (.Call (.Name x p) [e] [] pos) (tErr C fld te) := by
  obtain ⟨hm, hms, fI, cc, cda, qual, params, body, scope, slf, prm, lit, Z, M⟩ := ER
  intro pins s σ H Q I h
  refine wpAny_Call_Name_kw (ld_glob I hg hm ?_ hdb)
  refine PySem.W.callWith_K (h₀ := X.base) I.ok.mod.kin M.T.kC (thn ((pa_cons he pa_nil hst).run pos pins s σ H _ I h) fun us s1 ⟨vs, H1, I1, r1, v, ev, q1⟩ => ⟨I1.kIn, ?_⟩) hst rfl
  subst ev
  cases r1 with
  | cons rv rn =>
    rename_i u us'
    cases rn
    obtain ⟨mb, hb, hmb⟩ := I1.mod.blt
    obtain ⟨hp, g, d, t, os⟩ := s1
    refine wpAny_call (codeAny_mono (OwX.make_run (R := fun r s' => ∃ v, r = .ok (.ret v) ∧ MkP X pins σ Q v s') Z M I1.kIn (I1.mod.glob.keeps I1.bk) hms (hb.keeps I1.bk) ((hmb _ (by decide +kernel)).trans boot_super) I1.nolimit (by have := hr.dp; omega)
      fun h' t' e' dx t1 k d1 d2 ne hx hn => ⟨_, rfl, ?_⟩) fun r s' hq => ?_)
    · obtain ⟨G, g1, g2⟩ := restrict h' fun b => decide (b ≠ e')
      have gk : ∀ b, b ≠ e' → G.get? b = h'.get? b := fun b hb => g1 b (decide_eq_true hb)
      have ge : G.get? e' = none := g2 e' (by simp)
      have off : ∀ b o, hp.get? b = some o → b ≠ e' := fun b o z => Nat.ne_of_lt (Nat.lt_of_lt_of_le (Heap.lt_size z) d1)
      have J : Inv X pins σ (upd H1 dx (.xd [(fld, v)])) ⟨G, g, d, t', os⟩ := I1.laid (t' := t') (fun b o z => (gk b (off b o z)).trans (k b o z)) d2 (show ObjOk X.prog X.w _ G dx (.xd [(fld, v)]) from
        ⟨_, hn.at fun o y => (gk dx ne).trans y, relO_put (fs := []) rv fun _ => True.intro⟩)
      refine ⟨e', _, _, ⟨G, g, d, t', os⟩, _, .ref C, some dx, rfl, J, fun b o z => ?_, ge, hx, ⟨rfl, rfl⟩, rfl, rfl, ?_, rfl, J.bare, raises_own M.T.exC M.T.tyC, q1 dx (I1.hok.fresh d2)⟩
      · by_cases eb : b = e'
        · rw [eb, ge] at z
          cases z
        · exact (gk b eb).symm.trans z
      · rw [upd_ne (Ne.symm ne)]
        exact I1.hok.fresh d1
    · obtain ⟨v', rfl, z⟩ := hq
      exact z
/-- raise C(e) -/
theorem ps_err {X : Cx} {W : WX} {x fld : Str} {C : Addr} {p pos pos' : Pos} {e : Expr} {te : TE} (hc : X.calm = true) (tk : Takes X W) (ER : ErrC X.prog X.K X.mg x C fld) (hr : Room 1 X.A) (hg : Gl X x) (he : PE X e te) (hdb : (x == ("__debug__" : Str)) = false := by decide)
    (hst : starEach [e] X.env = (false, eval e X.env) :: starEach [] X.env := by rfl) : PS X (.Raise (some (.Call (.Name x p) [e] [] pos)) none pos') (fun _ σ H => tErr C fld te σ H fun cls d H' => W cls d σ H') :=
  ps_raise hc tk (pmk_err ER hr hg he hdb hst)
end
section
namespace OwX
open PySem PySem.W PySem.Spec PySem.Calls PyProof.Rows
section
variable {P : Program} {w : World} {A : Around} {E : Value → Shared → Prop} {s : Shared} {K : Frag} {x D : Addr} {ox : Obj} {od : Option Obj}
/-- what a class says, so that isinstance asks its errors rightly -/
abbrev Asks (K : Frag) (D : Addr) : Prop := L2.ExcC K D
theorem class_of {Q : Option Value → Shared → Prop} (Y : Asks K D) (X : K.In s.heap) (I : InstAt s.heap x ox D od) (h : Q (some (.ref D)) { s with toks := s.toks + 1 }) : wpAny (model P w) A (getAttr? (.ref x) "__class__") Q E s := by
  have hfnd : findObj K D od "__class__" = some (.bind (.builtin "getset_descriptor.__get__") (.builtin "object.__class__")) := by
    obtain ⟨cd, hcd, _⟩ := any_some Y.hd
    unfold findObj
    rw [hcd, Option.bind_some, Y.ha, Option.bind_some]
    simp [Y.hn, Y.ht]
  obtain ⟨hp, g, d, t, os⟩ := s
  have T0 := I.type (M := model P w)
  have T1 := looks_findIn (M := model P w) X Y.hg
  have T2 := looks_findIn (M := model P w) X Y.hk
  have T3 := looks_find (M := model P w) X I hfnd
  have isE : Looks (model P w) hp (isInstance (.ref x) (.type "BaseException")) true := T0.andThen (looks_subIn X Y.hs)
  have no0 : (false && onTheHeap (Value.builtin "BaseException.__getattribute__")) = false := rfl
  have no2 : (Value.builtin "BaseException.__getattribute__" == Value.builtin "object.__getattribute__") = false := by decide +kernel
  have no1 : (onTheHeap (Value.ref D) && Value.builtin "BaseException.__getattribute__" == Value.builtin "object.__getattribute__") = false := by rw [no2]; rfl
  unfold getAttr?
  unfold getAttrBy? getAttrBy
  refine wpAny_bind (wpAny_mkText (wpAny_bind (wpAny_attempt (wpAny_holding (wpAny_bind (T0.at (wpAny_bind (T1.at ?_))))))))
  show wpAny _ _ (if (onTheHeap (Value.ref D) && Value.builtin "BaseException.__getattribute__" == Value.builtin "object.__getattribute__") = true then _ else _) _ (_) _
  rw [no1, if_neg Bool.false_ne_true]
  unfold getAttrByItsOwn
  unfold hookBefore
  refine wpAny_bind ?_
  rw [if_pos (show onTheHeap (Value.ref D) = true by rfl)]
  refine T2.at ?_
  refine wpAny_bind (wpAny_attempt (wpAny_holding (?_)))
  unfold callGetattribute
  rw [no0, if_neg Bool.false_ne_true]
  unfold boundAndCalled
  rw [show bindSpecial (.builtin "BaseException.__getattribute__") (.ref x) = _ from PySem.F.excAttr_ValueError.ga.bind (.ref x)]
  refine wpAny_bind (wpAny_pure ?_)
  show wpAny _ _ (call (.builtin "BaseException.__getattribute__") [.ref x, .str "__class__" t]) _ (_) _
  refine wpAny_call (codeAny_call_builtin (PySem.F.excAttr_ValueError.ga.plain) PySem.F.entry_bexc_ga ?_)
  refine @check_slot (model P w) _ _ ⟨hp, g, d, t + 1, os⟩ "BaseException.__getattribute__" "BaseException" "__getattribute__" (.ref x) [.str "__class__" t] [] _ (by decide +kernel) (by decide +kernel) isE (PySem.F.args_bexc_ga (.ref x) (.str "__class__" t)) ?_
  show wpAny _ _ (Builtin.«object.__getattribute__» _) _ _ _
  unfold Builtin.«object.__getattribute__»
  refine wpAny_bind (wpAny_of_eq (a := ((Value.ref x : Value), [Value.str "__class__" t])) (by first | rfl | (simp only [slotArgs] <;> rfl)) ?_)
  refine wpAny_bind (wpAny_pure (wpAny_bind (T0.at (wpAny_bind (T3.at ?_)))))
  show wpAny _ _ (holding [Value.builtin "object.__class__"] (call (.builtin "getset_descriptor.__get__") [.builtin "object.__class__", .ref x, .ref D]) >>= ret) _ _ (⟨hp, g, d, t + 1, os⟩ : Shared)
  refine wpAny_bind (wpAny_holding (wpAny_call (class_get (s := ⟨hp, g, d, t + 1, os⟩) (ox := ox) (od := od) X I Y.hm ?_)))
  refine wpAny_pure ?_
  show wpAny _ _ (handedOut (.ref D)) _ (_) _
  rw [handedOut_of (v := Value.ref D) rfl]
  first
    | exact wpAny_pure (wpAny_pure h)
    | exact wpAny_pure h
    | exact wpAny_pure (wpAny_bind (wpAny_pure (wpAny_pure h)))
theorem kit_err (Y : Asks K D) : KitX K (.ref x) (.ref D) (fun h => ∃ od, InstAt h x ox D od) where
  ty := fun _ _ _ ⟨_, I⟩ => I.type
  it := fun _ _ X _ => by
    obtain ⟨cdD, hcD, _⟩ := any_some Y.hd
    unfold clsIn at hcD
    split at hcD
    · rename_i c' d' cd' sl' ho
      exact fun A' Q' E' s' k q => by
        unfold isType loadHead
        exact wpAny_bind (wpAny_loadPart (k _ _ (X _ _ ho)) (wpAny_pure q))
    · cases hcD
  ne := fun h tp dd its n sl X htp => by
    obtain ⟨cdD, hcD, _⟩ := any_some Y.hd
    refine Bool.eq_false_iff.mpr fun q => ?_
    have e2 : D = tp := Value.ref.inj (beq_iff_eq.mp q)
    subst e2
    unfold clsIn at hcD
    split at hcD
    · rename_i c' d' cd' sl' ho
      have both := (X _ _ ho).symm.trans htp
      cases both
    · cases hcD
  ca := fun X ⟨_, I⟩ k => class_of Y X I k
end
end OwX
/-- isinstance(e, c), e the error that the suite holds, its dict tracked -/
def rIsErr (K : PySem.W.Frag) (D a : Addr) (dd : Option Addr) : List V → Hp → VK → Prop := fun xs H Q => ∃ (c : V) (cv : Value) (b : Bool), xs = [.ref a, c] ∧ (∀ u, RelV c u → u = cv) ∧ (∀ d, dd = some d → ∃ fs, H d = some (.xd fs)) ∧ PySem.W.kitOne K (.ref D) cv = some b ∧ Q (.bl b) H
theorem call_isErr {X : Cx} {a D : Addr} {oe : Obj} {dd : Option Addr} {pn : List (Addr × Obj)} (Y : OwX.Asks X.K D) (hz : Zc (.ref D) dd oe) (hf : ∃ vs, oe.data = .fields vs) : CallR (X.suite a ((a, oe) :: pn)) (.builtin "isinstance") (rIsErr X.K D a dd) := by
  intro pins s σ H xs us Q I r h
  obtain ⟨c, cv, b, rfl, hcv, hdd, e, q⟩ := h
  cases r with
  | cons rx rr =>
    cases rr with
    | cons rt rr =>
      cases rr
      cases rx
      have ec := hcv _ rt
      subst ec
      obtain ⟨hget, _⟩ := I.pin (a, oe) (List.mem_append.mpr (.inl List.mem_cons_self))
      obtain ⟨vs, hv⟩ := hf
      have J : ∃ od, PySem.W.InstAt s.heap a oe D od := by
        obtain ⟨oc, odd, oda, osl⟩ := oe
        obtain ⟨h1, h2⟩ := hz
        dsimp only at h1 h2 hv
        subst h1 h2 hv
        cases odd with
        | none => exact ⟨none, hget, rfl, rfl, trivial⟩
        | some d =>
          obtain ⟨fs, hd⟩ := hdd d rfl
          have hx : ObjOk X.prog X.w H s.heap d (.xd fs) := I.hok d _ hd
          obtain ⟨mA, hns, _⟩ := hx
          obtain ⟨o, _, _, ho, _⟩ := hns
          exact ⟨some o, hget, rfl, rfl, ho⟩
      exact PySem.W.kia_one (OwX.kit_err (ox := oe) Y) I.kIn J e (fun z => nomatch z) fun tk => ⟨.bl b, H, I.kept (t' := tk) fun _ _ z => z, rfl, q⟩
end
section
/-! ### the error classes, read off the module -/
def oclsB (K : PySem.W.Frag) (C : Addr) : Bool := match K.lookup C with
  | some ⟨.type "type", _, .cls cd, sl⟩ => (match cd.mro, sl.toList with
    | .ref C' :: bm, [_, _, _, _, some (.builtin n), _] => C' == C && (n == "ValueError.__new__" && (!cd.hasDel && (cd.hasDict && PySem.HandSPX.refsVE bm)))
    | _, _ => false)
  | _ => false
theorem oclsB_ok {K : PySem.W.Frag} {C : Addr} (q : oclsB K C = true) : ∃ nm q N bs bm sn sub ab col dd k0 k1 k2 k3 k5, K.lookup C = some (excClassObj nm q C N bs bm true sn sub ab col dd k0 k1 k2 k3 k5 "ValueError.__new__") ∧ PySem.HandSPX.refsVE bm = true := by
  unfold oclsB at q
  split at q
  · rename_i dd cd sl ho
    split at q
    · rename_i C' bm k0 k1 k2 k3 n k5 hm hs
      obtain ⟨q1, q⟩ := Bool.and_eq_true_iff.mp q
      obtain ⟨q2, q⟩ := Bool.and_eq_true_iff.mp q
      obtain ⟨q3, q⟩ := Bool.and_eq_true_iff.mp q
      obtain ⟨q4, q5⟩ := Bool.and_eq_true_iff.mp q
      have e1 : C' = C := eq_of_beq q1
      have e2 : n = "ValueError.__new__" := eq_of_beq q2
      subst e1 e2
      obtain ⟨nm, bs, mro, ns, qn, hd, sn, sub, ab, col, del⟩ := cd
      dsimp only at hm q3 q4
      subst hm q4
      have e3 : del = false := by
        cases del
        · rfl
        · cases q3
      subst e3
      obtain ⟨l⟩ := sl
      have e4 : l = [k0, k1, k2, k3, some (.builtin "ValueError.__new__"), k5] := hs
      subst e4
      exact ⟨_, _, _, _, _, _, _, _, _, _, _, _, _, _, _, ho, q5⟩
    · cases q
  · cases q
/-- one error class: the module's name, its field, its __init__'s text -/
structure ErD where
  x : Str
  fld : Str
  qual : Str
  params : Arguments
  body : List Stmt
  scope : Scope
def eC (K : PySem.W.Frag) (x : Str) : Addr := He.ga K x
def eI (K : PySem.W.Frag) (x : Str) : Addr := He.ma K (eC K x) "__init__"
abbrev ErW : Type := Option (Str × Str × Arguments × FuncBody × Scope × Addr × List Str × Addr × Value)
/-- the __init__ as it stands -/
def erW (K : PySem.W.Frag) (x : Str) : ErW := match K.lookup (eI K x) with
  | some ⟨_, _, .func fd, _⟩ => some (fd.name, fd.qualname, fd.params, fd.body, fd.scope, fd.globals, fd.closure.map (·.1), fd.builtins, fd.defaults)
  | _ => none
def ErD.val (d : ErD) : ErW := some ("__init__", d.qual, d.params, .stmts d.body, d.scope, mainGlobals, ["__class__"], builtinsNs, .none)
def opB {α : Type} [DecidableEq α] (a : Option α) (b : α) : Bool := decide (a = some b)
/-- the class's __init__: its cell, its code -/
def erFn (K : PySem.W.Frag) (file qual : Str) (x : Str) : Bool := match K.lookup (eI K x) with
  | some ⟨_, _, .func fd, _⟩ => (match fd.closure, fd.code with
    | [(_, cc)], .ref cda => PySem.W.codeIn K (.ref cda) qual && ((match K.lookup cc with
      | some ⟨_, _, .cell (some (.ref D)), _⟩ => decide (D = eC K x)
      | _ => false) && (match K.lookup cda with
      | some ⟨_, _, .fields vs, _⟩ => (match (vs[2]? : Option Value) with
        | some (Value.str fl _) => file == fl
        | _ => false)
      | _ => false))
    | _, _ => false)
  | _ => false
def ErD.ok (K : PySem.W.Frag) (file : Str) (d : ErD) : Bool :=
  oclsB K (eC K d.x) && (He.eqO (PySem.W.findIn K (.ref (eC K d.x)) "__setattr__") (some (some (.builtin "object.__setattr__"))) && (opB (PySem.W.subIn K (.ref (eC K d.x)) (.type "BaseException")) true && (opB (PySem.W.typeIn K (.ref (eC K d.x))) (.type "type") &&
  (PySem.W.keepIn K (.ref (eC K d.x)) && (He.eqO (PySem.W.findIn K (.ref (eC K d.x)) "__init__") (some (some (.ref (eI K d.x)))) && (opB (PySem.W.typeIn K (.ref (eI K d.x))) (.type "function") && (erFn K file d.qual d.x &&
  (opB (PySem.W.mroIn K (eC K d.x) (.ref (eC K d.x))) true && (He.eqO (PySem.W.nsIn K cStatics "thirdparty.any") (some none) && (He.eqO (PySem.W.ks_superIn K (eC K d.x) (eC K d.x) "__init__") (some (some (.builtin "ValueError.__init__"))) &&
  (opB (PySem.W.subIn K (.ref (eC K d.x)) (.type "ValueError")) true && He.eqO (PySem.W.findIn K (.ref (eC K d.x)) d.fld) (some none))))))))))))
/-- how two arguments are bound -/
def Binds2 (qual : Str) (params : Arguments) (body : List Stmt) (scope : Scope) (slf prm : Str) : Prop := ∀ (kV doc pm : Value) (an : Option Addr) (cdv ct : Value) (cc : Addr) (x u : Value), bindArgs (PySem.W.ksFn "__init__" qual params body scope .none kV doc pm an cdv ct cc) ⟨[x, u], []⟩ = pure [(slf, x), (prm, u)]
theorem ErD.exI {P : Program} {K : PySem.W.Frag} {d : ErD} {slf prm : Str} (e : erW K d.x = d.val) (c : d.ok K P.main.file = true) (hb : Binds2 d.qual d.params d.body d.scope slf prm) :
    ∃ fI cc cda, OwX.ExI P K (eC K d.x) fI cc cda d.qual d.params d.body d.scope slf prm d.fld := by
  unfold ErD.ok at c
  obtain ⟨c1, c⟩ := Bool.and_eq_true_iff.mp c
  obtain ⟨c2, c⟩ := Bool.and_eq_true_iff.mp c
  obtain ⟨c3, c⟩ := Bool.and_eq_true_iff.mp c
  obtain ⟨c4, c⟩ := Bool.and_eq_true_iff.mp c
  obtain ⟨c5, c⟩ := Bool.and_eq_true_iff.mp c
  obtain ⟨c6, c⟩ := Bool.and_eq_true_iff.mp c
  obtain ⟨c7, c⟩ := Bool.and_eq_true_iff.mp c
  obtain ⟨c8, c⟩ := Bool.and_eq_true_iff.mp c
  obtain ⟨c9, c⟩ := Bool.and_eq_true_iff.mp c
  obtain ⟨c10, c⟩ := Bool.and_eq_true_iff.mp c
  obtain ⟨c11, c⟩ := Bool.and_eq_true_iff.mp c
  obtain ⟨c12, c13⟩ := Bool.and_eq_true_iff.mp c
  have T : OexC K (eC K d.x) := ⟨oclsB_ok c1, He.eqO_ok c2, of_decide_eq_true c3, of_decide_eq_true c4, c5⟩
  unfold erFn at c8
  unfold erW at e
  cases q : K.lookup (eI K d.x) with
  | none =>
    rw [q] at c8
    cases c8
  | some o =>
    obtain ⟨oc, od, dt, osl⟩ := o
    rw [q] at c8 e
    cases dt with
    | func fd =>
      obtain ⟨n1, n2, n3, n4, n5, n6, n7, n8, n9, n10, n11, n12, n13, n14, n15⟩ := fd
      have e2 : (some (n1, n2, n3, n4, n5, n6, n7.map (·.1), n15, n8) : ErW) = some (("__init__" : Str), d.qual, d.params, FuncBody.stmts d.body, d.scope, mainGlobals, (["__class__"] : List Str), builtinsNs, Value.none) := e
      simp only [Option.some.injEq, Prod.mk.injEq] at e2
      obtain ⟨h1, h2, h3, h4, h5, h6, h7, h8, h9⟩ := e2
      subst h1 h2 h3 h4 h5 h6 h8 h9
      obtain ⟨nn, cc, e3⟩ : ∃ nn cc, n7 = [(nn, cc)] := by
        cases n7 with
        | nil => cases h7
        | cons p r =>
          cases r with
          | nil => exact ⟨p.1, p.2, rfl⟩
          | cons p2 r2 =>
            have z := congrArg List.length h7
            simp at z
      subst e3
      have hnn : nn = ("__class__" : Str) := List.head_eq_of_cons_eq (show [nn] = [("__class__" : Str)] from h7)
      subst hnn
      cases n13 with
      | ref cda =>
        have c9' : (PySem.W.codeIn K (.ref cda) d.qual && ((match K.lookup cc with
          | some ⟨_, _, .cell (some (.ref D)), _⟩ => decide (D = eC K d.x)
          | _ => false) && (match K.lookup cda with
          | some ⟨_, _, .fields vs, _⟩ => (match (vs[2]? : Option Value) with
            | some (Value.str fl _) => P.main.file == fl
            | _ => false)
          | _ => false))) = true := c8
        obtain ⟨a1, a2⟩ := Bool.and_eq_true_iff.mp c9'
        obtain ⟨a3, a4⟩ := Bool.and_eq_true_iff.mp a2
        refine ⟨eI K d.x, cc, cda, {
          T := T
          iC := He.eqO_ok c6
          fn := ⟨oc, od, n9, n10, n11, n12, n14, osl, ?_⟩
          bind := fun kV doc pm an ct x u => hb kV doc pm an (.ref cda) ct cc x u
          tI := of_decide_eq_true c7
          code := a1
          cdo := ?_
          cell := ?_
          sub := of_decide_eq_true c9
          stat := He.eqO_ok c10
          sup := He.eqO_ok c11
          subV := of_decide_eq_true c12
          noat := He.eqO_ok c13 }⟩
        · exact q
        · split at a4
          · rename_i ccl cdd vs ccs hk
            split at a4
            · rename_i fl tf hv
              exact ⟨_, _, _, _, _, _, hk, hv, a4⟩
            · cases a4
          · cases a4
        · split at a3
          · rename_i cl cld D csl hk
            have eD : D = eC K d.x := of_decide_eq_true a3
            subst eD
            exact ⟨_, _, _, hk⟩
          · cases a3
      | _ => cases c8
    | _ => cases c8
end
section
/-! ### the Hook, with errors and words of one's own -/
def asX (g : Addr → Option Obj) (n : Nat) : List Addr := He.asD g n ++ [cStatics]
abbrev AlX : Type := He.AlD × (Bool × List ErW)
def obsX (file : Str) (fa : List He.Fa) (fn : List He.DefD) (er : List ErD) (xs : List (PySem.W.Frag → Bool)) (K : PySem.W.Frag) : AlX := (He.obsD fa fn K, ((er.all fun d => d.ok K file) && xs.all fun f => f K, er.map fun d => erW K d.x))
def valX (fn : List He.DefD) (er : List ErD) : AlX := (He.valD fn, (true, er.map ErD.val))
def SaysX (file : Str) (fa : List He.Fa) (fn : List He.DefD) (er : List ErD) (xs : List (PySem.W.Frag → Bool)) (K : PySem.W.Frag) : Prop := obsX file fa fn er xs K = valX fn er
def obsXG (n : Nat) (file : Str) (fa : List He.Fa) (fn : List He.DefD) (er : List ErD) (xs : List (PySem.W.Frag → Bool)) (g : Addr → Option Obj) : AlX := obsX file fa fn er xs (He.frG g (asX g n))
def hookX (n : Nat) (file : Str) (fa : List He.Fa) (fn : List He.DefD) (er : List ErD) (xs : List (PySem.W.Frag → Bool)) : PySem.W.Hook where
  α := AlX
  obs := fun s => obsXG n file fa fn er xs s.heap.get?
  val := fun _ => valX fn er
  says := fun _ h => ∃ K : PySem.W.Frag, K.In h ∧ SaysX file fa fn er xs K
  of := fun _ _ e => ⟨_, He.frG_in, e⟩
  keeps := fun _ _ _ z k => z.elim fun K z => ⟨K, PySem.W.Frag.In.keeps z.1 k, z.2⟩
theorem obsXG_eq {n : Nat} {file : Str} {fa : List He.Fa} {fn : List He.DefD} {er : List ErD} {xs : List (PySem.W.Frag → Bool)} {g : Addr → Option Obj} {s : Shared} (h : ∀ a, g a = s.heap.get? a) : obsXG n file fa fn er xs g = (hookX n file fa fn er xs).obs s := by
  have e : g = s.heap.get? := funext h
  subst e
  rfl
section
variable {file : Str} {fa : List He.Fa} {fn : List He.DefD} {er : List ErD} {xs : List (PySem.W.Frag → Bool)} {K : PySem.W.Frag}
theorem SaysX.old (c : SaysX file fa fn er xs K) : He.SaysD fa fn K := congrArg (fun z : AlX => z.1) c
theorem SaysX.all (c : SaysX file fa fn er xs K) : ((er.all fun d => d.ok K file) = true) ∧ (xs.all fun f => f K) = true := Bool.and_eq_true_iff.mp (congrArg (fun z : AlX => z.2.1) c)
theorem SaysX.word (c : SaysX file fa fn er xs K) (i : Nat) {f : PySem.W.Frag → Bool} (h : xs[i]? = some f := by rfl) : f K = true := List.all_eq_true.mp c.all.2 f (List.mem_of_getElem? h)
theorem SaysX.err {P : Program} (c : SaysX file fa fn er xs K) (hf : file = P.main.file) (i : Nat) {d : ErD} {slf prm : Str} (hb : Binds2 d.qual d.params d.body d.scope slf prm) (h : er[i]? = some d := by rfl) :
    ∃ fI cc cda, OwX.ExI P K (eC K d.x) fI cc cda d.qual d.params d.body d.scope slf prm d.fld := by
  subst hf
  have e : er.map (fun d => erW K d.x) = er.map ErD.val := congrArg (fun z : AlX => z.2.2) c
  have e2 : (er.map fun d => erW K d.x)[i]? = (er.map ErD.val)[i]? := by rw [e]
  rw [List.getElem?_map, List.getElem?_map, h] at e2
  exact ErD.exI (Option.some.inj e2) (List.all_eq_true.mp c.all.1 d (List.mem_of_getElem? h)) hb
end
/-! ### instances -/
section
variable {X : Cx} {k n : Nat} {sp : Sp} {E : L2.St → XK} {x : Str} {C : Addr} {p pos : Pos} {e : Expr} {es : List Expr} {t : TA}
/-- the class x, whose __init__ keeps sp (n parameters, self too) -/
structure GMak (P : Program) (w : World) (K : PySem.W.Frag) (mg : Str → Option Value) (base : Heap) (k : Nat) (x : Str) (C : Addr) (n : Nat) (sp : Sp) : Prop where
  gl : mg x = some (.ref C)
  ex : ∃ (f : Addr) (fd : FuncData) (ps : List Str), ps.length = n ∧ Gf P w K mg base k f fd ps sp ∧ Mk K C f ∧ Binds K fd ps []
/-- C(..): a new instance and its dict, then __init__ -/
def gMake (C : Addr) (sp : Sp) (E : L2.St → XK) (t : TA) : TE := fun σ H Q => t σ H fun vs H1 => ∀ x dx, H1 x = none → H1 dx = none → dx ≠ x →
  Fr sp (.ref x :: vs) (upd (upd H1 dx (.own x)) x (.ins C dx [])) (fun v H2 => v = .non ∧ Q (.ref x) H2) (E σ)
theorem guards_make {A : Around} {us : List Value} {kw : List (Str × Value)} (h : A.guards = some []) : (A.under (.builtin "type.__call__" ⟨.ref C :: us, kw⟩)).guards = some [] := by
  first
    | exact h
    | simpa [Around.under, Code.weight, Code.isGuard, guardIds] using h
theorem g_make (c : GMak X.prog X.w X.K X.mg X.base k x C n sp) (hG : X.A.guards = some []) (hr : Room (k + 1) X.A) (hg : Gl X x) (hx : PassG X E) (ha : PA X (e :: es) t)
    (hdb : (x == ("__debug__" : Str)) = false := by decide) (hst : starEach (e :: es) X.env = (false, eval e X.env) :: starEach es X.env := by rfl) (hpl : (backTo pos (starEach es X.env)).any (·.1) = false := by rfl) :
    PE X (.Call (.Name x p) (e :: es) [] pos) (gMake C sp E t) := by
  obtain ⟨f, fd, ps, _, F, M, hb⟩ := c.ex
  have F := F.frame
  refine ⟨fun pins s σ H Q I h => wpAny_Call_Name_kw (ld_glob I hg c.gl ?_ hdb)⟩
  refine PySem.W.callWith_K (h₀ := X.base) I.ok.mod.kin M.kp (thn (ha.run pos pins s σ H _ I h) fun us s1 ⟨vs, H1, I1, r, q⟩ => ⟨I1.kIn, ?_⟩) hst hpl
  have hq := q (s1.heap.objs.size + 1) s1.heap.objs.size (I1.hok.fresh (Nat.le_succ _)) (I1.hok.fresh (Nat.le_refl _)) (Nat.ne_of_lt (Nat.lt_succ_self _))
  have I2 := Inv.made (C := C) I1
  have r2 : Vals (V.ref (s1.heap.objs.size + 1) :: vs) (Value.ref (s1.heap.objs.size + 1) :: us) := .cons rfl r
  have b := hb _ (Value.ref (s1.heap.objs.size + 1) :: us) I2.kIn (by rw [List.append_nil, ← r2.length]; exact F.len _ _ _ _ hq)
  rw [List.append_nil] at b
  refine wpAny_call (make_map (f := f) I1.kIn M.makes M.init (beq_iff_eq.mp M.fn) (codeAny_mono (F.run _ X.stack _ _ ⟨Value.ref (s1.heap.objs.size + 1) :: us, []⟩ _ _ _ _ (guards_make hG) (hr.make C us []) (I2.env0.make C us []) b r2 hq) fun rr s' hq' => ?_))
  cases rr with
  | error er => exact hx pins σ _ _ er s' I2 hq'
  | ok fl =>
    cases fl with
    | ret u =>
      obtain ⟨v, H', I3, rv, ev, q3⟩ := I2.after hq'
      subst ev
      exact ⟨rv, V.ref (s1.heap.objs.size + 1), H', I3, rfl, q3⟩
    | next => exact hq'.elim
    | brk => exact hq'.elim
    | cont => exact hq'.elim
end
end
section
/-! ### raise, try, the caught error -/
def tRaise (C : Addr) (fld : Str) (te : TE) (W : WX) : TS := fun _ σ H => tErr C fld te σ H fun cls d H' => W cls d σ H'
def tTry (K : PySem.W.Frag) (c : Addr) (i : Nat) (ts : Addr → Value → Option Addr → TS) (tb : WX → TS) (Wout : WX) : TS := fun D σ H => tb (wAs K (.ref c) i ts Wout D) D σ H
/-- e.f, e the caught error -/
def tEf (K : PySem.W.Frag) (a : Addr) (cls : Value) (d : Option Addr) (f : Str) (te : TE) : TE := fun σ H Q => te σ H fun x H1 => x = .ref a ∧ ∃ (C dd : Addr) (fs : List (Str × V)) (v : V), cls = .ref C ∧ XfC K C ∧ PySem.W.findIn K (.ref C) f = some none ∧ d = some dd ∧ H1 dd = some (.xd fs) ∧ fs.lookup f = some v ∧ Q v H1
/-- isinstance(e, c) -/
def rIsE2 (K : PySem.W.Frag) (a : Addr) (cls : Value) (dd : Option Addr) : List V → Hp → VK → Prop := fun xs H Q => ∃ (D : Addr) (c : V) (cv : Value) (b : Bool), cls = .ref D ∧ ExcC K D ∧ xs = [.ref a, c] ∧ (∀ u, RelV c u → u = cv) ∧ (∀ d, dd = some d → ∃ fs, H d = some (.xd fs)) ∧ PySem.W.kitOne K (.ref D) cv = some b ∧ Q (.bl b) H
section
variable {X : Cx} {a : Addr} {oe : Obj} {cls : Value} {d : Option Addr} {pn : List (Addr × Obj)} {e : Expr} {te : TE} {pos : Pos} {n : Str}
theorem call_isE2 (hz : Zc cls d oe) (hf : ∃ vs, oe.data = .fields vs) : CallR (X.suite a ((a, oe) :: pn)) (.builtin "isinstance") (rIsE2 X.K a cls d) := by
  intro pins s σ H xs us Q I r h
  obtain ⟨D, c, cv, b, rfl, Y, h⟩ := h
  exact call_isErr Y hz hf pins s σ H xs us Q I r ⟨c, cv, b, h⟩
theorem pe_ef (hz : Zc cls d oe) (hf : ∃ vs, oe.data = .fields vs) (he : PE (X.suite a ((a, oe) :: pn)) e te) (hb : attributeBase e n X.env (eval e X.env) = eval e X.env := by rfl) :
    PE (X.suite a ((a, oe) :: pn)) (.Attribute e n pos) (tEf X.K a cls d n te) := by
  refine ⟨fun pins s σ H Q I h => ?_⟩
  refine attr_of hb (thn (he.run pins s σ H _ I h) fun u s1 hh => ?_)
  obtain ⟨x, H1, I1, rx, ex, C, dd, fs, v, ec, T, hno, ed, ea, l, q⟩ := hh
  subst ex ec ed
  have eu : u = Value.ref a := rx
  subst eu
  obtain ⟨ha, _⟩ := I1.pin (a, oe) (List.mem_append_left _ List.mem_cons_self)
  obtain ⟨vs, hd⟩ := hf
  have hx : ObjOk X.prog X.w H1 s1.heap dd (.xd fs) := I1.hok dd _ ea
  obtain ⟨mA, hns, hr⟩ := hx
  obtain ⟨od, ho, hl⟩ := lookIn_ns hns
  obtain ⟨u, hu, ru⟩ := RelO.some_of (v := v) (o := mA n) (by rw [← l] <;> exact hr n)
  have J : PySem.W.InstAt s1.heap a oe C (some od) := ⟨ha, hz.1, (by unfold PySem.W.notCls; rw [hd] <;> rfl), (by rw [hz.2]; exact ho)⟩
  exact HandSPX.exc_get I1.kIn J T.ga T.gg T.exC (PySem.W.findObj_own T.hdC hno rfl (by rw [hl, hu])) (handed_of ru) ⟨v, H1, I1.tok _, ru, q⟩
end
/-- isinstance(e, (c1, c2, ..)), the tuple just laid -/
def rIsE2T (K : PySem.W.Frag) (a : Addr) (cls : Value) (dd : Option Addr) : List V → Hp → VK → Prop := fun xs H Q => ∃ (D tp : Addr) (cs : List V) (us : List Value) (b : Bool), cls = .ref D ∧ ExcC K D ∧ xs = [.ref a, .ref tp] ∧ H tp = some (.tup cs) ∧ Paired ClsV cs us ∧ (∀ d, dd = some d → ∃ fs, H d = some (.xd fs)) ∧ PySem.W.kitAny K (.ref D) us = some b ∧ Q (.bl b) H
theorem call_isE2T {X : Cx} {a : Addr} {oe : Obj} {cls : Value} {d : Option Addr} {pn : List (Addr × Obj)} (hz : Zc cls d oe) (hf : ∃ vs, oe.data = .fields vs) : CallR (X.suite a ((a, oe) :: pn)) (.builtin "isinstance") (rIsE2T X.K a cls d) := by
  intro pins s σ H xs us Q I r h
  obtain ⟨D, tp, cs, ws, b, rfl, Y, rfl, hT, hcs, hdd, e, q⟩ := h
  obtain ⟨u1, u2, rfl, r1, r2⟩ := vals2 r
  cases (show u2 = Value.ref tp from r2)
  cases (show u1 = Value.ref a from r1)
  obtain ⟨hget, _⟩ := I.pin (a, oe) (List.mem_append.mpr (.inl List.mem_cons_self))
  obtain ⟨vs, hv⟩ := hf
  have J : ∃ od, PySem.W.InstAt s.heap a oe D od := by
    obtain ⟨oc, odd, oda, osl⟩ := oe
    obtain ⟨h1, h2⟩ := hz
    dsimp only at h1 h2 hv
    subst h1 h2 hv
    cases odd with
    | none => exact ⟨none, hget, rfl, rfl, trivial⟩
    | some d =>
      obtain ⟨fs, hd⟩ := hdd d rfl
      have hx : ObjOk X.prog X.w H s.heap d (.xd fs) := I.hok d _ hd
      obtain ⟨mA, hns, _⟩ := hx
      obtain ⟨o, _, _, ho, _⟩ := hns
      exact ⟨some o, hget, rfl, rfl, ho⟩
  obtain ⟨_, its, rv, o, h1, h2, n, h3⟩ := (show ObjOk X.prog X.w H s.heap tp (.tup cs) from I.hok tp _ hT)
  have e3 := ClsV.all hcs rv
  subst e3
  obtain ⟨oc, od, dt, sl⟩ := o
  dsimp only at h2 h3
  subst h2 h3
  exact PySem.W.kia_tup (OwX.kit_err (ox := oe) Y) I.kIn J h1 e (fun z => nomatch z) fun tk => ⟨.bl b, H, I.kept (t' := tk) fun _ _ z => z, rfl, q⟩
/-- nothing is let out -/
abbrev W0 : WX := fun _ _ _ _ => False
theorem takes0 {X : Cx} : Takes X W0 := fun _ _ z => by
  obtain ⟨_, _, _, _, _, _, _, _, _, _, _, _, _, _, _, _, z⟩ := z
  exact z.elim
/-- what the clause names: a class of the module -/
theorem names_own {X : Cx} {x : Str} {C : Addr} (hg : Gl X x) (hm : X.mg x = some (.ref C)) (hd : (x == ("__debug__" : Str)) = false := by decide) : Names X x (.ref C) := ⟨hg, hd, .inl hm⟩
/-! ### facts of the error classes -/
/-- asked by isinstance, read, caught -/
def askB (K : PySem.W.Frag) (D : Addr) : Bool := xfB K D && (He.eqO (PySem.W.findIn K (.ref D) "__class__") (some (some (.builtin "object.__class__"))) && (He.eqO (PySem.W.specialIn K (.builtin "object.__class__") "__get__") (some (some (.builtin "getset_descriptor.__get__"))) &&
  (opB (PySem.W.takesIn K (.builtin "object.__class__")) true && opB (PySem.W.mroIn K D (.type "object")) true)))
theorem askB_ok {K : PySem.W.Frag} {D : Addr} (h : askB K D = true) : XfC K D ∧ ExcC K D := by
  unfold askB at h
  obtain ⟨h1, h⟩ := Bool.and_eq_true_iff.mp h
  obtain ⟨h2, h⟩ := Bool.and_eq_true_iff.mp h
  obtain ⟨h3, h⟩ := Bool.and_eq_true_iff.mp h
  obtain ⟨h4, h5⟩ := Bool.and_eq_true_iff.mp h
  have T := xfB_ok h1
  exact ⟨T, ⟨T.ga, T.gg, T.exC, T.hdC, He.eqO_ok h2, He.eqO_ok h3, of_decide_eq_true h4, of_decide_eq_true h5⟩⟩
/-- caught by the class B or not -/
def exmB (K : PySem.W.Frag) (D B : Addr) (b : Bool) : Bool := opB (PySem.W.exmOne K (.ref D) (.ref B)) b
/-- an instance of .. or not -/
def kitB2 (K : PySem.W.Frag) (D : Addr) (c : Value) (b : Bool) : Bool := opB (PySem.W.kitOne K (.ref D) c) b
theorem opB_ok {α : Type} [DecidableEq α] {a : Option α} {b : α} (h : opB a b = true) : a = some b := of_decide_eq_true h
/-- a class's statements -/
def clsBody (s : Stmt) : List Stmt := match s with
  | .ClassDef _ _ _ b _ _ _ _ _ _ _ => b
  | _ => []
def clsMeth (s : Stmt) (i : Nat) : Stmt := (clsBody s).getD i (.Pass ⟨0, 0, 0, 0⟩)
theorem errC_of {P : Program} {K : PySem.W.Frag} {mg : Str → Option Value} {d : ErD} {slf prm lit : Str} (hm : mg d.x = some (.ref (eC K d.x))) (hs : mg "super" = none) (Z : OwX.Txt0 P d.params d.body d.scope slf prm d.fld lit)
    (c : ∃ fI cc cda, OwX.ExI P K (eC K d.x) fI cc cda d.qual d.params d.body d.scope slf prm d.fld) : ErrC P K mg d.x (eC K d.x) d.fld := by
  obtain ⟨fI, cc, cda, c⟩ := c
  exact ⟨hm, hs, fI, cc, cda, d.qual, d.params, d.body, d.scope, slf, prm, lit, Z, c⟩
end
section
theorem s_raise {C : Addr} {fld : Str} {te : TE} {W : WX} {D : Ends} {σ : L2.St} {H : Hp} (q : te σ H fun x H1 => ∃ v, [x] = [v] ∧ ∀ d, H1 d = none → W (.ref C) (some d) σ (upd H1 d (.xd [(fld, v)]))) : tRaise C fld te W D σ H := q
theorem s_try {K : PySem.W.Frag} {c : Addr} {i : Nat} {ts : Addr → Value → Option Addr → TS} {tb : WX → TS} {Wout : WX} {D : Ends} {σ : L2.St} {H : Hp} (q : tb (wAs K (.ref c) i ts Wout D) D σ H) : tTry K c i ts tb Wout D σ H := q
theorem s_ef {K : PySem.W.Frag} {a D dd : Addr} {f : Str} {te : TE} {σ : L2.St} {H : Hp} {Q : VK} (q : te σ H fun x H1 => x = .ref a ∧ ∃ (C d2 : Addr) (fs : List (Str × V)) (v : V), Value.ref D = .ref C ∧ XfC K C ∧ PySem.W.findIn K (.ref C) f = some none ∧ some dd = some d2 ∧ H1 d2 = some (.xd fs) ∧ fs.lookup f = some v ∧ Q v H1) : tEf K a (.ref D) (some dd) f te σ H Q := q
theorem s_efe {K : PySem.W.Frag} {a D dd : Addr} {f : Str} {v : V} {fs : List (Str × V)} {H : Hp} {Q : VK} (T : XfC K D) (hn : PySem.W.findIn K (.ref D) f = some none) (hd : H dd = some (.xd fs)) (hl : fs.lookup f = some v) (q : Q v H) :
    V.ref a = .ref a ∧ ∃ (C d2 : Addr) (fs : List (Str × V)) (v : V), Value.ref D = .ref C ∧ XfC K C ∧ PySem.W.findIn K (.ref C) f = some none ∧ some dd = some d2 ∧ H d2 = some (.xd fs) ∧ fs.lookup f = some v ∧ Q v H := ⟨rfl, D, dd, fs, v, rfl, T, hn, rfl, hd, hl, q⟩
theorem s_isE {K : PySem.W.Frag} {a D C dd : Addr} {b : Bool} {fs : List (Str × V)} {H : Hp} {Q : VK} (Y : ExcC K D) (hd : H dd = some (.xd fs)) (e : PySem.W.kitOne K (.ref D) (.ref C) = some b) (q : Q (.bl b) H) : rIsE2 K a (.ref D) (some dd) [.ref a, .ref C] H Q :=
  ⟨D, .ref C, .ref C, b, rfl, Y, rfl, fun _ r => r, fun d z => by cases z; exact ⟨fs, hd⟩, e, q⟩
theorem s_isEt {K : PySem.W.Frag} {a D dd : Addr} {T : String} {b : Bool} {fs : List (Str × V)} {H : Hp} {Q : VK} (Y : ExcC K D) (hd : H dd = some (.xd fs)) (e : PySem.W.kitOne K (.ref D) (.type T) = some b) (q : Q (.bl b) H) : rIsE2 K a (.ref D) (some dd) [.ref a, .ty T] H Q :=
  ⟨D, .ty T, .type T, b, rfl, Y, rfl, fun _ r => r, fun d z => by cases z; exact ⟨fs, hd⟩, e, q⟩
theorem paired_cls : ∀ (cs : List Addr), Paired ClsV (cs.map V.ref) (cs.map Value.ref)
  | [] => .nil
  | c :: cs => .cons (.own c) (paired_cls cs)
theorem s_isT {K : PySem.W.Frag} {a D dd tp : Addr} {cs : List Addr} {b : Bool} {fs : List (Str × V)} {H : Hp} {Q : VK} (Y : ExcC K D) (hT : H tp = some (.tup (cs.map V.ref))) (hd : H dd = some (.xd fs)) (e : PySem.W.kitAny K (.ref D) (cs.map Value.ref) = some b) (q : Q (.bl b) H) : rIsE2T K a (.ref D) (some dd) [.ref a, .ref tp] H Q :=
  ⟨D, tp, _, _, b, rfl, Y, rfl, hT, paired_cls cs, fun d z => by cases z; exact ⟨fs, hd⟩, e, q⟩
theorem s_rze {v : V} {R : V → Prop} (q : R v) : ∃ v', [v] = [v'] ∧ R v' := ⟨v, rfl, q⟩
end
section
namespace OwZ
open PySem PySem.W PySem.Calls PyProof.Rows
/-- the text of such an __init__ -/
structure Txt1 (P : Program) (params : Arguments) (body : List Stmt) (scope : Scope) (slf lit : PySem.Str) : Prop where
  body : ∃ p0 p1 p2 j p3 p4 p5, body = [.Expr (.Call (.Attribute (.Call (.Name "super" p0) [] [] p1) "__init__" p2) [.Constant (.str lit) j p3] [] p4) p5] ∧
    ∀ env : Env, ∃ pl : Sem Bool, eval (.Call (.Attribute (.Call (.Name "super" p0) [] [] p1) "__init__" p2) [.Constant (.str lit) j p3] [] p4) env = (do
      let ov ← attributeBase (.Call (.Name "super" p0) [] [] p1) "__init__" env (eval (.Call (.Name "super" p0) [] [] p1) env)
      standAt p2.atName
      let (f, first) ← holding [ov] (getMethod ov "__init__" pl)
      callWith p4 f first (backTo p4 (starEach [.Constant (.str lit) j p3] env)) [])
  head : ∃ ar, (params.posonlyargs ++ params.args).head? = some ar ∧ ar.arg = slf
  nS : scope.names.lookup ("super" : PySem.Str) = some .globalImplicit
  nC : scope.names.lookup ("__class__" : PySem.Str) = some .free
  n1 : scope.names.lookup slf = some .local
  cel : ∀ x ∈ scope.names, x.2 ≠ .cell
  kind : scope.kind = .function
  co : scope.isCoroutine = false
  gen : scope.isGenerator = false
  top : (P.main.scope.names.lookup ("super" : PySem.Str)).isSome = false
  d1 : (slf == ("__debug__" : PySem.Str)) = false
/-- what the module's part says of the class -/
structure ExI1 (P : Program) (K : Frag) (C fI cc cda : Addr) (qual : PySem.Str) (params : Arguments) (body : List Stmt) (scope : Scope) (slf : PySem.Str) : Prop where
  T : L2.OexC K C
  iC : findIn K (.ref C) "__init__" = some (some (.ref fI))
  fn : ∃ oc od kV doc pm an ct osl, K.lookup fI = some ⟨oc, od, .func (ksFn "__init__" qual params body scope .none kV doc pm an (.ref cda) ct cc), osl⟩
  bind : ∀ (kV doc pm : Value) (an : Option Addr) (ct : Value) (x : Value), bindArgs (ksFn "__init__" qual params body scope .none kV doc pm an (.ref cda) ct cc) ⟨[x], []⟩ = pure [(slf, x)]
  tI : typeIn K (.ref fI) = some (.type "function")
  code : codeIn K (.ref cda) qual = true
  cdo : ∃ ccl cdd vs ccs file tf, K.lookup cda = some ⟨ccl, cdd, .fields vs, ccs⟩ ∧ vs[2]? = some (.str file tf) ∧ ((P.main.file : PySem.Str) == file) = true
  cell : ∃ cl cld csl, K.lookup cc = some ⟨cl, cld, .cell (some (.ref C)), csl⟩
  sub : mroIn K C (.ref C) = some true
  stat : nsIn K cStatics "thirdparty.any" = some none
  sup : ks_superIn K C C "__init__" = some (some (.builtin "ValueError.__init__"))
  subV : subIn K (.ref C) (.type "ValueError") = some true

section
variable {P : Program} {w : World} {A : Around} {K : Frag} {C fI cc cda e : Addr} {qual slf lit : PySem.Str} {params : Arguments} {body : List Stmt} {scope : Scope} {hp : Heap} {g : Array GenState} {d : Drawn} {t : Nat} {os : OsState} {E : Value → Shared → Prop}
/-- __init__ walked -/
theorem init_run {mg mb : PySem.Str → Option Value} {t0 : Addr} {R : Result → Shared → Prop} (Z : Txt1 P params body scope slf lit) (M : ExI1 P K C fI cc cda qual params body scope slf) (X : K.In hp)
    (hg : hp.Ns mainGlobals mg) (hmg : mg "super" = none) (hb : hp.Ns builtinsNs mb) (hmb : mb "super" = some (.type "super")) (hl : hp.NoLimit) (room : A.depth < recursionLimit) (he : hp.get? e = some (HandSPX.excO C t0)) (heK : K.lookup e = none)
    (hq : ∀ h' t' t1, (∀ b o, b ≠ e → hp.get? b = some o → h'.get? b = some o) → h'.get? e = some (HandSPX.excO C t1) → R (.ok (.ret .none)) ⟨h', g, d, t', os⟩) :
    codeAny (model P w) A (.call (.ref fI) ⟨[.ref e], []⟩) R ⟨hp, g, d, t, os⟩ := by
  obtain ⟨oc, od, kV, doc, pm, an, ct, osl, hfn⟩ := M.fn
  obtain ⟨p0, p1, p2, j, p3, p4, p5, hbody, hev⟩ := Z.body
  obtain ⟨ar, har, hslf⟩ := Z.head
  subst hbody
  refine ks_codeAny_call_defAt (fd := ksFn "__init__" qual params _ scope .none kV doc pm an (.ref cda) ct cc) (binds := [(slf, .ref e)]) room (X _ _ hfn) rfl hl (codeRec_of X M.code) rfl (.of_eq (M.bind _ _ _ _ _ _)) Z.cel (fun y hy => ?_) (fun h0 hns hk => ?_) Z.co Z.gen Z.kind
  · rcases List.mem_singleton.mp hy with rfl
    exact Z.n1
  · have hK0 : K.In h0 := X.keeps hk
    obtain ⟨nm, q, N, bs, bm, sn, sub, ab, col, dd, k0, k1, k2, k3, k5, hC, hbm⟩ := M.T.cls
    have hcl : clsIn K C = some { name := nm, bases := bs, mro := .ref C :: bm, ns := N, qualname := q, hasDict := true, slotNames := sn, subclasses := sub, abstract := ab, collection := col, hasDel := false } := by
      unfold clsIn
      rw [hC] <;> rfl
    obtain ⟨ccl, cdd, vs, ccs, file, tf, hcd, hvs, hfile⟩ := M.cdo
    obtain ⟨cl, cld, csl, hcell⟩ := M.cell
    have he0 : h0.get? e = some (HandSPX.excO C t0) := hk _ _ he
    have elt : e < hp.objs.size := Heap.lt_size he
    have hvS : ([(slf, Value.ref e)] : List (PySem.Str × Value)).reverse.lookup slf = some (.ref e) := by
      simp [List.lookup]
    have eC : e ≠ C := fun z => by
      have y := X _ _ hC
      rw [← z, he] at y
      cases y
    obtain ⟨pl, hev⟩ := hev (ksEnv qual scope hp.objs.size fI (.ref cda) cc)
    have hi : interactive (ksEnv qual scope hp.objs.size fI (.ref cda) cc) = false := by
      show (scope.kind == .module && _) = false
      rw [Z.kind]
      rfl
    refine ks_wpAt_execs_cons (ks_wpAt_Expr_any (hi := hi) (h := ks_wpAt_MethodCall (pl := pl) (ks_wpAt_super_base (env := ksEnv qual scope hp.objs.size fI (.ref cda) cc) Z.nS Z.nC (by decide) rfl (hK0 _ _ hfn) rfl har rfl (hK0 _ _ hcd) rfl hvs hfile Z.top ?_) hev))
    refine ks_loadName_global Z.kind Z.nS (loadGlobal_builtin (env := ksEnv qual scope hp.objs.size fI (.ref cda) cc) (hg.keeps hk) hmg (hb.keeps hk) hmb ⟨rfl, ?_⟩)
    refine wpAny_loadName_free Z.kind Z.nC rfl ⟨_, hK0 _ _ hcell, rfl⟩ ?_
    rw [hslf]
    refine wpAny_loadName_local Z.kind Z.n1 hns hvS ?_
    refine ks_wpAny_isType_cls (hK0 _ _ hC) rfl ⟨rfl, ?_⟩
    refine ks_wpAny_call_super (hK0 _ _ hC) rfl he0 rfl (fun c z => by cases z) (looks_mroIn hK0 M.sub) fun h1 e1 k1' => ?_
    have hK1 : K.In h1 := hK0.keeps k1'
    have along : alongIn K "__init__" (((Value.ref C :: bm).dropWhile (· != .ref C)).drop 1) = some (some (.builtin "ValueError.__init__")) := by
      have z := M.sup
      unfold ks_superIn at z
      rw [hcl] at z
      exact z
    have he1 := k1' _ _ he0
    refine kxs_getMethod kxs_ValueError e1 (looks_opaque hK1 M.stat) ((looks_clsIn hK1 hcl).andThen .now) rfl hK1 along ((OwX.inst0 he1).type.andThen (looks_subIn hK1 M.subV)) eC (by decide) ?_
    have kp : ∀ b o, h1.get? b = some o → (h1.push (kxs_mw "ValueError.__init__" e)).get? b = some o := fun b o z => Heap.get?_push_of_some _ z
    have hK2 : K.In (h1.push (kxs_mw "ValueError.__init__" e)) := hK1.keeps kp
    have hu2 : (h1.push (kxs_mw "ValueError.__init__" e)).get? h1.objs.size = some (kxs_mw "ValueError.__init__" e) := Heap.get?_push_size _ rfl
    refine kxs_callWith (i := "ValueError.__init__") (x := e) rfl ?_
    refine evalArgs_plain ?_
    refine args_cons (Calls.Constant_str (args_nil ⟨hu2, ?_⟩))
    refine OwX.wrap_call M.T hK2 (kp _ _ he1) hu2 (by show 1 ≤ sizeLine; rw [sizeLine_eq]; omega) fun h3 t1 k3' he3 => ?_
    refine wpAt_of_wpAny (wpAny_pure ?_)
    exact hq h3 _ t1 (fun b o hb z => k3' b o hb (kp _ _ (k1' _ _ (hk _ _ z)))) he3

/-- C(u) -/
theorem make_run {mg mb : PySem.Str → Option Value} {R : Result → Shared → Prop} (Z : Txt1 P params body scope slf lit) (M : ExI1 P K C fI cc cda qual params body scope slf) (X : K.In hp)
    (hg : hp.Ns mainGlobals mg) (hmg : mg "super" = none) (hb : hp.Ns builtinsNs mb) (hmb : mb "super" = some (.type "super")) (hl : hp.NoLimit) (room : A.depth + 1 < recursionLimit)
    (hq : ∀ h' t' e t1, (∀ b o, hp.get? b = some o → h'.get? b = some o) → hp.objs.size ≤ e → h'.get? e = some (HandSPX.excO C t1) → R (.ok (.ret (.ref e))) ⟨h', g, d, t', os⟩) :
    codeAny (model P w) A (.call (.ref C) ⟨[], []⟩) R ⟨hp, g, d, t, os⟩ := by
  obtain ⟨nm, q, N, bs, bm, sn, sub, ab, col, dd, k0, k1, k2, k3, k5, hC, hbm⟩ := M.T.cls
  have kk : ∀ b o, hp.get? b = some o → ((hp.push (kdv_tup [])).push (HandSPX.excO C hp.objs.size)).get? b = some o := fun b o z => Heap.get?_push_of_some _ (Heap.get?_push_of_some _ z)
  have hget : ((hp.push (kdv_tup [])).push (HandSPX.excO C hp.objs.size)).get? (hp.objs.size + 1) = some (HandSPX.excO C hp.objs.size) := by heap_get
  have sz : ((hp.push (kdv_tup [])).push (HandSPX.excO C hp.objs.size)).objs.size = hp.objs.size + 2 := by
    rw [Heap.size_push, Heap.size_push]
  have off : K.lookup (hp.objs.size + 1) = none := by
    cases z : K.lookup (hp.objs.size + 1) with
    | none => rfl
    | some o => exact absurd (Nat.lt_trans (Nat.lt_succ_self _) (Heap.lt_size (X _ _ z))) (Nat.lt_irrefl _)
  refine HandSPX.call_own F.excBase_ValueError (fun Y => HandSPX.refsVE_contains Y bm hbm) (X _ _ hC) (looks_findIn X M.iC) (fun self => bind_fn X self M.tI) (by show 0 ≤ sizeLine; exact Nat.zero_le _) ?_
  refine init_run (t0 := hp.objs.size) Z M (X.keeps kk) (hg.keeps kk) hmg (hb.keeps kk) hmb (hl.keeps kk) (by rw [L2.make_depth]; exact room) hget off fun h' t' t1 k hx => ?_
  refine ⟨rfl, hq h' t' (hp.objs.size + 1) t1 (fun b o z => k b o (fun eb => ?_) (kk b o z)) (Nat.le_succ _) hx⟩
  rw [eb] at z
  exact absurd (Nat.lt_trans (Nat.lt_succ_self _) (Heap.lt_size z)) (Nat.lt_irrefl _)
end
end OwZ

/-- an error class of the module's name x, without a field -/
def ErrC1 (P : Program) (K : PySem.W.Frag) (mg : Str → Option Value) (x : Str) (C : Addr) : Prop :=
  mg x = some (.ref C) ∧ mg "super" = none ∧ ∃ fI cc cda qual params body scope slf lit, OwZ.Txt1 P params body scope slf lit ∧ OwZ.ExI1 P K C fI cc cda qual params body scope slf
/-- C(): the error's class, no dict -/
def tErr1 (C : Addr) : L2.St → Hp → XK → Prop := fun _ H Q => Q (.ref C) none H
theorem pmk_err1 {X : Cx} {x : Str} {C : Addr} {p pos : Pos} (ER : ErrC1 X.prog X.K X.mg x C) (hr : Room 1 X.A) (hg : Gl X x) (hdb : (x == ("__debug__" : Str)) = false := by decide) : PMk X (.Call (.Name x p) [] [] pos) (tErr1 C) := by
  obtain ⟨hm, hms, fI, cc, cda, qual, params, body, scope, slf, lit, Z, M⟩ := ER
  intro pins s σ H Q I q1
  refine wpAny_Call_Name_kw (ld_glob I hg hm (PySem.W.callWith_K0 I.kIn M.T.kC ?_) hdb)
  obtain ⟨mb, hb, hmb⟩ := I.mod.blt
  obtain ⟨hp, g, d, t, os⟩ := s
  refine wpAny_call (codeAny_mono (OwZ.make_run (R := fun r s' => ∃ v, r = .ok (.ret v) ∧ MkP X pins σ Q v s') Z M I.kIn (I.mod.glob.keeps I.bk) hms (hb.keeps I.bk) ((hmb _ (by decide +kernel)).trans boot_super) I.nolimit (by have := hr.dp; omega)
    fun h' t' e' t1 k d1 hx => ⟨_, rfl, ?_⟩) fun r s' hq => ?_)
  · obtain ⟨G, g1, g2⟩ := restrict h' fun b => decide (b ≠ e')
    have gk : ∀ b, b ≠ e' → G.get? b = h'.get? b := fun b hb => g1 b (decide_eq_true hb)
    have ge : G.get? e' = none := g2 e' (by simp)
    have off : ∀ b o, hp.get? b = some o → b ≠ e' := fun b o z => Nat.ne_of_lt (Nat.lt_of_lt_of_le (Heap.lt_size z) d1)
    have J : Inv X pins σ H ⟨G, g, d, t', os⟩ := I.kept (t' := t') (fun b o z => (gk b (off b o z)).trans (k b o z))
    refine ⟨e', _, _, ⟨G, g, d, t', os⟩, _, .ref C, none, rfl, J, fun b o z => ?_, ge, hx, ⟨rfl, rfl⟩, rfl, rfl, ?_, rfl, J.bare, raises_own M.T.exC M.T.tyC, q1⟩
    · by_cases eb : b = e'
      · rw [eb, ge] at z
        cases z
      · exact (gk b eb).symm.trans z
    · exact I.hok.fresh d1
  · obtain ⟨v', rfl, z⟩ := hq
    exact z
/-- raise C() -/
theorem ps_err1 {X : Cx} {W : WX} {x : Str} {C : Addr} {p pos pos' : Pos} (hc : X.calm = true) (tk : Takes X W) (ER : ErrC1 X.prog X.K X.mg x C) (hr : Room 1 X.A) (hg : Gl X x) (hdb : (x == ("__debug__" : Str)) = false := by decide) :
    PS X (.Raise (some (.Call (.Name x p) [] [] pos)) none pos') (fun _ σ H => tErr1 C σ H fun cls d H' => W cls d σ H') :=
  ps_raise hc tk (pmk_err1 ER hr hg hdb)
def tRaise1 (C : Addr) (W : WX) : TS := fun _ σ H => W (.ref C) none σ H
theorem s_raise1 {C : Addr} {W : WX} {D : Ends} {σ : L2.St} {H : Hp} (q : W (.ref C) none σ H) : tRaise1 C W D σ H := q
theorem s_isE1 {K : PySem.W.Frag} {a D C : Addr} {b : Bool} {H : Hp} {Q : VK} (Y : ExcC K D) (e : PySem.W.kitOne K (.ref D) (.ref C) = some b) (q : Q (.bl b) H) : rIsE2 K a (.ref D) none [.ref a, .ref C] H Q :=
  ⟨D, .ref C, .ref C, b, rfl, Y, rfl, fun _ r => r, fun d z => (nomatch z), e, q⟩
theorem s_isEt1 {K : PySem.W.Frag} {a D : Addr} {T : String} {b : Bool} {H : Hp} {Q : VK} (Y : ExcC K D) (e : PySem.W.kitOne K (.ref D) (.type T) = some b) (q : Q (.bl b) H) : rIsE2 K a (.ref D) none [.ref a, .ty T] H Q :=
  ⟨D, .ty T, .type T, b, rfl, Y, rfl, fun _ r => r, fun d z => (nomatch z), e, q⟩
theorem s_isT1 {K : PySem.W.Frag} {a D tp : Addr} {cs : List Addr} {b : Bool} {H : Hp} {Q : VK} (Y : ExcC K D) (hT : H tp = some (.tup (cs.map V.ref))) (e : PySem.W.kitAny K (.ref D) (cs.map Value.ref) = some b) (q : Q (.bl b) H) : rIsE2T K a (.ref D) none [.ref a, .ref tp] H Q :=
  ⟨D, tp, _, _, b, rfl, Y, rfl, hT, paired_cls cs, fun d z => (nomatch z), e, q⟩
/-- how one argument are bound -/
def Binds1 (qual : Str) (params : Arguments) (body : List Stmt) (scope : Scope) (slf : Str) : Prop := ∀ (kV doc pm : Value) (an : Option Addr) (cdv ct : Value) (cc : Addr) (x : Value), bindArgs (PySem.W.ksFn "__init__" qual params body scope .none kV doc pm an cdv ct cc) ⟨[x], []⟩ = pure [(slf, x)]
theorem ErD.exI1 {P : Program} {K : PySem.W.Frag} {d : ErD} {slf : Str} (e : erW K d.x = d.val) (c : d.ok K P.main.file = true) (hb : Binds1 d.qual d.params d.body d.scope slf) :
    ∃ fI cc cda, OwZ.ExI1 P K (eC K d.x) fI cc cda d.qual d.params d.body d.scope slf := by
  unfold ErD.ok at c
  obtain ⟨c1, c⟩ := Bool.and_eq_true_iff.mp c
  obtain ⟨c2, c⟩ := Bool.and_eq_true_iff.mp c
  obtain ⟨c3, c⟩ := Bool.and_eq_true_iff.mp c
  obtain ⟨c4, c⟩ := Bool.and_eq_true_iff.mp c
  obtain ⟨c5, c⟩ := Bool.and_eq_true_iff.mp c
  obtain ⟨c6, c⟩ := Bool.and_eq_true_iff.mp c
  obtain ⟨c7, c⟩ := Bool.and_eq_true_iff.mp c
  obtain ⟨c8, c⟩ := Bool.and_eq_true_iff.mp c
  obtain ⟨c9, c⟩ := Bool.and_eq_true_iff.mp c
  obtain ⟨c10, c⟩ := Bool.and_eq_true_iff.mp c
  obtain ⟨c11, c⟩ := Bool.and_eq_true_iff.mp c
  obtain ⟨c12, c13⟩ := Bool.and_eq_true_iff.mp c
  have T : OexC K (eC K d.x) := ⟨oclsB_ok c1, He.eqO_ok c2, of_decide_eq_true c3, of_decide_eq_true c4, c5⟩
  unfold erFn at c8
  unfold erW at e
  cases q : K.lookup (eI K d.x) with
  | none =>
    rw [q] at c8
    cases c8
  | some o =>
    obtain ⟨oc, od, dt, osl⟩ := o
    rw [q] at c8 e
    cases dt with
    | func fd =>
      obtain ⟨n1, n2, n3, n4, n5, n6, n7, n8, n9, n10, n11, n12, n13, n14, n15⟩ := fd
      have e2 : (some (n1, n2, n3, n4, n5, n6, n7.map (·.1), n15, n8) : ErW) = some (("__init__" : Str), d.qual, d.params, FuncBody.stmts d.body, d.scope, mainGlobals, (["__class__"] : List Str), builtinsNs, Value.none) := e
      simp only [Option.some.injEq, Prod.mk.injEq] at e2
      obtain ⟨h1, h2, h3, h4, h5, h6, h7, h8, h9⟩ := e2
      subst h1 h2 h3 h4 h5 h6 h8 h9
      obtain ⟨nn, cc, e3⟩ : ∃ nn cc, n7 = [(nn, cc)] := by
        cases n7 with
        | nil => cases h7
        | cons p r =>
          cases r with
          | nil => exact ⟨p.1, p.2, rfl⟩
          | cons p2 r2 =>
            have z := congrArg List.length h7
            simp at z
      subst e3
      have hnn : nn = ("__class__" : Str) := List.head_eq_of_cons_eq (show [nn] = [("__class__" : Str)] from h7)
      subst hnn
      cases n13 with
      | ref cda =>
        have c9' : (PySem.W.codeIn K (.ref cda) d.qual && ((match K.lookup cc with
          | some ⟨_, _, .cell (some (.ref D)), _⟩ => decide (D = eC K d.x)
          | _ => false) && (match K.lookup cda with
          | some ⟨_, _, .fields vs, _⟩ => (match (vs[2]? : Option Value) with
            | some (Value.str fl _) => P.main.file == fl
            | _ => false)
          | _ => false))) = true := c8
        obtain ⟨a1, a2⟩ := Bool.and_eq_true_iff.mp c9'
        obtain ⟨a3, a4⟩ := Bool.and_eq_true_iff.mp a2
        refine ⟨eI K d.x, cc, cda, {
          T := T
          iC := He.eqO_ok c6
          fn := ⟨oc, od, n9, n10, n11, n12, n14, osl, ?_⟩
          bind := fun kV doc pm an ct x => hb kV doc pm an (.ref cda) ct cc x
          tI := of_decide_eq_true c7
          code := a1
          cdo := ?_
          cell := ?_
          sub := of_decide_eq_true c9
          stat := He.eqO_ok c10
          sup := He.eqO_ok c11
          subV := of_decide_eq_true c12 }⟩
        · exact q
        · split at a4
          · rename_i ccl cdd vs ccs hk
            split at a4
            · rename_i fl tf hv
              exact ⟨_, _, _, _, _, _, hk, hv, a4⟩
            · cases a4
          · cases a4
        · split at a3
          · rename_i cl cld D csl hk
            have eD : D = eC K d.x := of_decide_eq_true a3
            subst eD
            exact ⟨_, _, _, hk⟩
          · cases a3
      | _ => cases c8
    | _ => cases c8
theorem SaysX.err1 {file : Str} {fa : List He.Fa} {fn : List He.DefD} {er : List ErD} {xs : List (PySem.W.Frag → Bool)} {K : PySem.W.Frag} {P : Program} (c : SaysX file fa fn er xs K) (hf : file = P.main.file) (i : Nat) {d : ErD} {slf : Str} (hb : Binds1 d.qual d.params d.body d.scope slf) (h : er[i]? = some d := by rfl) :
    ∃ fI cc cda, OwZ.ExI1 P K (eC K d.x) fI cc cda d.qual d.params d.body d.scope slf := by
  subst hf
  have e : er.map (fun d => erW K d.x) = er.map ErD.val := congrArg (fun z : AlX => z.2.2) c
  have e2 : (er.map fun d => erW K d.x)[i]? = (er.map ErD.val)[i]? := by rw [e]
  rw [List.getElem?_map, List.getElem?_map, h] at e2
  exact ErD.exI1 (Option.some.inj e2) (List.all_eq_true.mp c.all.1 d (List.mem_of_getElem? h)) hb
theorem errC1_of {P : Program} {K : PySem.W.Frag} {mg : Str → Option Value} {d : ErD} {slf lit : Str} (hm : mg d.x = some (.ref (eC K d.x))) (hs : mg "super" = none) (Z : OwZ.Txt1 P d.params d.body d.scope slf lit)
    (c : ∃ fI cc cda, OwZ.ExI1 P K (eC K d.x) fI cc cda d.qual d.params d.body d.scope slf) : ErrC1 P K mg d.x (eC K d.x) := by
  obtain ⟨fI, cc, cda, c⟩ := c
  exact ⟨hm, hs, fI, cc, cda, d.qual, d.params, d.body, d.scope, slf, lit, Z, c⟩
end
section
theorem ins_ne {g : Gr} {t : List Nat} {k : Int} (h : ∀ e ∈ g, e.2 ≠ []) : ∀ e ∈ ins g t k, e.2 ≠ [] := fun e he => by
  unfold ins at he
  split at he
  · obtain ⟨x, hx, rfl⟩ := List.mem_map.mp he
    split
    · exact List.append_ne_nil_of_right_ne_nil _ (List.cons_ne_nil _ _)
    · exact h x hx
  · rcases List.mem_append.mp he with q | q
    · exact h e q
    · rcases List.mem_singleton.mp q with rfl
      exact List.cons_ne_nil _ _
theorem eld_ne (l : List Nat) : ∀ n, ∀ e ∈ eldN l n, e.2 ≠ [] := fun n => by
  induction n with
  | zero => intro e he; cases he
  | succ n ih =>
    rw [eldN_succ]
    unfold stepE
    split
    · exact ins_ne ih
    · exact ih
theorem eld_all {l : List Nat} (hz : l.length ≤ 1000) : (eld l).length ≤ 501 ∧ ∀ e ∈ eld l, e.2.length ≤ 501 ∧ e.2 ≠ [] ∧ l.length % 2 = 1 ∧ e.1.length = mid l + 1 ∧ (Low l → Low e.1) ∧ ∀ x ∈ e.2, 0 ≤ x ∧ x ≤ 501 := by
  have hm : mid l ≤ 500 := by unfold mid; omega
  have hn2 : (if l.length % 2 = 1 then mid l + 1 else 0) ≤ 501 := by split <;> omega
  obtain ⟨_, h2, h3⟩ := eldN_ok l 501 (if l.length % 2 = 1 then mid l + 1 else 0) hn2
  have ho : ∀ e ∈ eld l, l.length % 2 = 1 := fun e he => by
    by_cases c : l.length % 2 = 1
    · exact c
    · unfold eld at he
      rw [if_neg c] at he
      cases he
  have hk : ∀ n, n ≤ mid l + 1 → ∀ e ∈ eldN l n, ∃ k, k ≤ mid l ∧ e.1 = cand l k := fun n => by
    induction n with
    | zero => intro _ e he; cases he
    | succ n ih =>
      intro hn e he
      rw [eldN_succ] at he
      unfold stepE at he
      split at he
      · have go : e.1 ∈ (ins (eldN l n) (cand l n) n).map Prod.fst := List.mem_map_of_mem he
        by_cases c : cand l n ∈ (eldN l n).map Prod.fst
        · rw [(ins_old c).1] at go
          obtain ⟨x, hx, hxe⟩ := List.mem_map.mp go
          obtain ⟨k, k1, k2⟩ := ih (by omega) x hx
          exact ⟨k, k1, by rw [← hxe]; exact k2⟩
        · rw [ins_new c, List.map_append] at go
          rcases List.mem_append.mp go with q | q
          · obtain ⟨x, hx, hxe⟩ := List.mem_map.mp q
            obtain ⟨k, k1, k2⟩ := ih (by omega) x hx
            exact ⟨k, k1, by rw [← hxe]; exact k2⟩
          · exact ⟨n, by omega, List.mem_singleton.mp q⟩
      · exact ih (by omega) e he
  refine ⟨Nat.le_trans h2 hn2, fun e he => ?_⟩
  have hoo := ho e he
  have he2 : e ∈ eldN l (mid l + 1) := by
    unfold eld at he
    rw [if_pos hoo] at he
    exact he
  obtain ⟨k, k1, k2⟩ := hk _ (Nat.le_refl _) e he2
  obtain ⟨_, k4, k5⟩ := h3 e he
  refine ⟨Nat.le_trans k4 hn2, eld_ne l _ e he2, hoo, by rw [k2]; exact cand_len hoo k1, fun h => by rw [k2]; exact (h.drop _).take _, k5⟩
theorem ints_of {K : PySem.W.Frag} {H : Hp} : ∀ {ns : List Int} {vs : List V}, DpAll K H vs (ns.map PyData.int) → vs = ns.map V.int := fun {ns} => by
  induction ns with
  | nil =>
    intro vs h
    cases h
    rfl
  | cons n ns ih =>
    intro vs h
    simp only [List.map_cons] at h
    cases h with
    | cons h1 h2 =>
      cases h1
      rw [ih h2]
      rfl
/-- a list of elders, to be read -/
structure Er (K : PySem.W.Frag) (H : Hp) (r : Addr) (g : Gr) (ts ps : List Addr) : Prop where
  hr : SqL K H r (ts.map V.ref)
  lt : ts.length = g.length
  at_ : ∀ (i : Nat) (e : List Nat × List Int), g[i]? = some e → ∃ t p, ts[i]? = some t ∧ ps[i]? = some p ∧ SqT K H t [.str (tx e.1), .ref p] ∧ SqL K H p (e.2.map V.int)
theorem er_all {K : PySem.W.Frag} {H : Hp} : ∀ {g : Gr} {vs : List V}, DpAll K H vs (g.map dEe) → ∃ (ts ps : List Addr), vs = ts.map V.ref ∧ ts.length = g.length ∧ ∀ (i : Nat) (e : List Nat × List Int), g[i]? = some e → ∃ t p, ts[i]? = some t ∧ ps[i]? = some p ∧ SqT K H t [.str (tx e.1), .ref p] ∧ SqL K H p (e.2.map V.int) := fun {g} => by
  induction g with
  | nil =>
    intro vs h
    cases h
    exact ⟨[], [], rfl, rfl, fun i e he => nomatch he⟩
  | cons e g ih =>
    intro vs h
    simp only [List.map_cons] at h
    cases h with
    | cons h1 h2 =>
      obtain ⟨ts, ps, rfl, k2, k3⟩ := ih h2
      cases h1 with
      | tup a1 a2 =>
        rename_i t xs
        cases a2 with
        | cons b1 b2 =>
          cases b1
          cases b2 with
          | cons c1 c2 =>
            cases c2
            cases c1 with
            | lst d1 d2 =>
              rename_i p ys
              have d3 := ints_of d2
              subst d3
              refine ⟨t :: ts, p :: ps, rfl, by rw [List.length_cons, List.length_cons, k2], fun i e' he => ?_⟩
              cases i with
              | zero =>
                cases he
                exact ⟨t, p, rfl, rfl, a1, d1⟩
              | succ i => exact k3 i e' he
theorem dp_er {K : PySem.W.Frag} {H : Hp} {r : Addr} {g : Gr} (h : Dp K H (.ref r) (dE g)) : ∃ ts ps, Er K H r g ts ps := by
  cases h with
  | lst a1 a2 =>
    obtain ⟨ts, ps, rfl, k2, k3⟩ := er_all a2
    exact ⟨ts, ps, a1, k2, k3⟩
theorem El.er {K : PySem.W.Frag} {H0 H : Hp} {r : Addr} {g : Gr} {ts ps : List Addr} (h : El K H0 H r g ts ps) : Er K H r g ts ps := ⟨SqL.of h.hr, h.lt, fun i e he => by
  obtain ⟨t, p, h1, h2, h3, h4⟩ := h.at_ i e he
  exact ⟨t, p, h1, h2, SqT.of h3, SqL.of h4⟩⟩
theorem Er.same {K : PySem.W.Frag} {H H' : Hp} {r : Addr} {g : Gr} {ts ps : List Addr} (h : Er K H r g ts ps) (e : Same H H') : Er K H' r g ts ps := ⟨e.seq h.hr, h.lt, fun i x hx => by
  obtain ⟨t, p, h1, h2, h3, h4⟩ := h.at_ i x hx
  exact ⟨t, p, h1, h2, same_tup e h3, e.seq h4⟩⟩
/-- found != [] -/
theorem s_neE {K : PySem.W.Frag} {H : Hp} {Q : VK} {r p : Addr} {l : List Nat} (hl : Low l) (hz : l.length ≤ 1000) (h1 : Dp K H (.ref r) (dE (eld l))) (h2 : H p = some (.lst [])) (q : Q (.bl (!decide (eld l = []))) H) : rDiff K (.ref r) (.ref p) H Q := by
  refine s_neD h1 (.lst (SqL.of h2) .nil) (nice_dE hl hz).sh (by decide +kernel) ?_
  have e : PyData.eqv (dE (eld l)) (.list []) = decide (eld l = []) := by
    cases eld l with
    | nil => rfl
    | cons e g => rfl
  rw [e]
  exact q
def RowOk (x : V) : Prop := ∃ l : List Nat, x = .str (tx l) ∧ Low l ∧ 2 ≤ l.length ∧ l.length ≤ 1000
theorem s_rowBD {K : PySem.W.Frag} {H0 : Hp} {Q : VK} {E : XK} {b D : Addr} {ys acc : List V} {n : Nat} (B : Bag K H0 b ys) (hD : (upd H0 b (.lst ys)) D = none)
    (q : ∀ (H' : Hp) (zs : List V) (l : List Nat), Same H0 H' → Bag K H' b zs → Low l → 2 ≤ l.length → l.length ≤ n → (upd H' b (.lst zs)) D = none → Q (.str (tx l)) (upd (upd H' b (.lst zs)) D (.lst acc))) : Fr (spRowB K n) [.ref b] (upd (upd H0 b (.lst ys)) D (.lst acc)) Q E :=
  s_but hD ⟨_, rfl, b, H0, ys, rfl, rfl, B, fun H' zs l e B' ll l2 lm hD' => q H' zs l e B' ll l2 lm hD'⟩
end
section
/-- one step of a reading (e: none past a statement's end) -/
local macro_rules
  | `(tactic| walk_at "e") => `(tactic| first
    | with_reducible refine s_ifs ?_
    | with_reducible refine s_test ?_
    | with_reducible refine s_truth ?_
    | with_reducible refine s_op ?_
    | with_reducible refine s_un ?_
    | with_reducible refine s_asg ?_
    | with_reducible refine s_ret ?_
    | with_reducible refine s_next ?_
    | with_reducible refine s_drop ?_
    | with_reducible refine s_c ?_
    | ((with_reducible refine s_var (v := ?v) ?e ?q); case e => exact rfl)
    | with_reducible refine s_name ?_
    | with_reducible refine s_exq ?_
    | with_reducible refine s_cons ?_
    | with_reducible refine s_nil ?_
    | with_reducible refine s_lst ?_
    | with_reducible refine s_tup ?_
    | with_reducible refine s_cb ?_
    | with_reducible refine s_call ?_
    | with_reducible refine s_and ?_
    | with_reducible refine s_or ?_
    | with_reducible refine s_not ?_
    | with_reducible refine s_andV ?_
    | with_reducible refine s_orV ?_
    | with_reducible refine s_notV ?_
    | with_reducible refine s_ife ?_
    | with_reducible refine s_chain ?_
    | with_reducible refine s_addI ?_
    | with_reducible refine s_sub ?_
    | with_reducible refine s_neg ?_
    | with_reducible refine s_eqI ?_
    | with_reducible refine s_eqX ?_
    | with_reducible refine s_eqT ?_
    | with_reducible refine s_eqB ?_
    | with_reducible refine s_eqNI ?_
    | with_reducible refine s_eqIN ?_
    | with_reducible refine s_eqNN ?_
    | with_reducible refine s_neI ?_
    | with_reducible refine s_neX ?_
    | with_reducible refine s_neT ?_
    | with_reducible refine s_neB ?_
    | with_reducible refine s_lt ?_
    | with_reducible refine s_le ?_
    | with_reducible refine s_gt ?_
    | with_reducible refine s_ge ?_
    | with_reducible refine s_isN ?_
    | with_reducible refine s_isS ?_
    | with_reducible refine s_truB ?_
    | with_reducible refine s_truI ?_
    | with_reducible refine s_truN ?_
    | with_reducible refine s_abs ?_
    | with_reducible refine s_min2 ?_
    | with_reducible refine s_max2 ?_
    | with_reducible refine s_intI ?_
    | with_reducible refine s_intB ?_
    | with_reducible refine s_ifT ?_
    | with_reducible refine s_ifF ?_
    | with_reducible refine s_ifnT ?_
    | with_reducible refine s_ifnF ?_
    | with_reducible refine s_gSub ?_
    | with_reducible refine s_gTup ?_
    | with_reducible refine s_augS ?_
    | ((with_reducible refine s_aug (x := ?v) ?e ?q); case e => exact rfl)
    | with_reducible refine s_yes ?_
    | with_reducible refine s_par ?_
    | with_reducible refine s_two ?_
    | with_reducible refine s_m1 ?_
    | with_reducible refine s_isstr ?_
    | with_reducible refine s_rev0 ?_
    | with_reducible refine s_gCons ?_
    | with_reducible refine s_gNil ?_
    | with_reducible refine s_ipI ?_
    | with_reducible refine s_ipA ?_
    | with_reducible refine s_sl ?_
    | with_reducible refine s_noPart ?_
    | with_reducible refine s_part ?_
    | with_reducible refine s_parte ?_
    | with_reducible refine s_for ?_
    | with_reducible refine s_lc ?_
    | with_reducible refine s_iL ?_
    | with_reducible refine s_iE ?_
    | with_reducible refine s_iS ?_
    | with_reducible refine s_iT ?_
    | with_reducible refine s_itS ?_
    | with_reducible refine s_iR1 ?_
    | with_reducible refine s_iR2 ?_
    | with_reducible refine s_iR3 ?_
    | with_reducible refine s_rg1 ?_
    | with_reducible refine s_rg2 ?_
    | with_reducible refine s_rg1e ?_
    | with_reducible refine s_rg2e ?_
    | with_reducible refine s_lrg ?_
    | with_reducible refine s_lr3 ?_
    | with_reducible refine s_bm ?_
    | with_reducible refine s_bm0 ?_
    | with_reducible refine s_retN ?_)
  | `(tactic| walk_at "s") => `(tactic| first
    | with_reducible refine s_seq ?_
    | walk_at "e")

/-! ### words of the errors -/
def xs : List (PySem.W.Frag → Bool) := [fun K => askB K (eC K "Several"), fun K => exmB K (eC K "Several") (eC K "OwnError") true, fun K => opB (PySem.W.kitAny K (.ref (eC K "Several")) [.ref (eC K "EqualEnds"), .ref (eC K "Wrong")]) false,
  fun K => kitB2 K (eC K "Several") (.type "ValueError") true, fun K => kitB2 K (eC K "Several") (.ref (eC K "NoElder")) false, fun K => kitB2 K (eC K "Several") (.ref (eC K "Several")) true, fun K => He.eqO (PySem.W.findIn K (.ref (eC K "Several")) "many") (some none),
  fun K => askB K (eC K "NoElder"), fun K => exmB K (eC K "NoElder") (eC K "OwnError") true, fun K => opB (PySem.W.kitAny K (.ref (eC K "NoElder")) [.ref (eC K "EqualEnds"), .ref (eC K "Wrong")]) false,
  fun K => kitB2 K (eC K "NoElder") (.type "ValueError") true, fun K => kitB2 K (eC K "NoElder") (.ref (eC K "NoElder")) true, fun K => kitB2 K (eC K "NoElder") (.ref (eC K "Several")) false]
abbrev KF (K : PySem.W.Frag) : Prop := (xs.all fun f => f K) = true
theorem KF.word {K : PySem.W.Frag} (c : KF K) (i : Nat) {f : PySem.W.Frag → Bool} (h : xs[i]? = some f := by rfl) : f K = true := List.all_eq_true.mp c f (List.mem_of_getElem? h)
/-- the answer -/
def dR : Gr → PyData
  | [] => .tuple [.str "none", .none]
  | [e] => .tuple [.str "told", dEe e]
  | e :: e2 :: g => .tuple [.str "several", .int (e :: e2 :: g).length]
theorem dR_many {g : Gr} (h : 2 ≤ g.length) : dR g = .tuple [.str "several", .int g.length] := by
  match g, h with
  | e :: e2 :: g, _ => rfl
def Told (K : PySem.W.Frag) (H0 H : Hp) (q : Addr) (g : Gr) : Prop := (g = [] ∧ H q = some (.tup [.str "none", .non])) ∨ (∃ e t p, g = [e] ∧ H q = some (.tup [.str "told", .ref t]) ∧ H t = some (.tup [.str (tx e.1), .ref p]) ∧ H p = some (.lst (e.2.map V.int)) ∧ H0 p = none) ∨
  (2 ≤ g.length ∧ H q = some (.tup [.str "several", .int g.length]))
theorem Told.dp {K : PySem.W.Frag} {H0 H : Hp} {q : Addr} {g : Gr} (h : Told K H0 H q g) : Dp K H (.ref q) (dR g) := by
  rcases h with ⟨rfl, h1⟩ | ⟨e, t, p, rfl, h1, h2, h3, _⟩ | ⟨h0, h1⟩
  · exact .tup (SqT.of h1) (.cons (.str _) (.cons .non .nil))
  · exact .tup (SqT.of h1) (.cons (.str _) (.cons (.tup (SqT.of h2) (.cons (.str _) (.cons (dp_ints (SqL.of h3)) .nil))) .nil))
  · rw [dR_many h0]
    exact .tup (SqT.of h1) (.cons (.str _) (.cons (.int _) .nil))
theorem nice_dR {l : List Nat} (h : Low l) (hz : l.length ≤ 1000) : Nice (dR (eld l)) := by
  obtain ⟨a1, a2⟩ := eld_all hz
  generalize eld l = g at *
  match g with
  | [] =>
    refine (bd_tuple (c := 100) (k := 0) (n := 2) (fun d hd => ?_) (by exact Nat.le_refl 2)).nice (by decide) (by decide)
    simp only [List.mem_cons, List.not_mem_nil, or_false] at hd
    rcases hd with rfl | rfl
    · exact (bd_str (n := 4) (by decide +kernel) (by decide +kernel)).mono (by decide) (by decide)
    · exact bd_none.mono (by decide) (by decide)
  | [e] =>
    obtain ⟨b1, b2, b3, b4, b5, b6⟩ := a2 e List.mem_cons_self
    refine (bd_tuple (c := 60000) (k := 2) (n := 2) (fun d hd => ?_) (by exact Nat.le_refl 2)).nice (by decide) (by decide)
    simp only [List.mem_cons, List.not_mem_nil, or_false] at hd
    rcases hd with rfl | rfl
    · exact (bd_str (n := 4) (by decide +kernel) (by decide +kernel)).mono (by decide) (by decide)
    · refine (bd_tuple (c := 20002) (k := 1) (n := 2) (fun d hd => ?_) (by exact Nat.le_refl 2)).mono (by decide) (by decide)
      simp only [List.mem_cons, List.not_mem_nil, or_false] at hd
      rcases hd with rfl | rfl
      · exact (bd_tx (n := 1000) (b5 h) (by rw [b4]; unfold mid; omega)).mono (by decide) (by decide)
      · refine (bd_list (c := 5) (k := 0) (n := 501) (fun d hd => ?_) (by rw [List.length_map]; exact b1)).mono (by decide) (by decide)
        obtain ⟨x, hx, rfl⟩ := List.mem_map.mp hd
        have := b6 x hx
        exact bd_int (k := 3) (by omega) (by decide)
  | e :: e2 :: g =>
    refine (bd_tuple (c := 1000) (k := 0) (n := 2) (fun d hd => ?_) (by exact Nat.le_refl 2)).nice (by decide) (by decide)
    simp only [List.mem_cons, List.not_mem_nil, or_false] at hd
    rcases hd with rfl | rfl
    · exact (bd_str (n := 7) (by decide +kernel) (by decide +kernel)).mono (by decide) (by decide)
    · exact (bd_int (k := 5) (by omega) (by decide)).mono (by decide) (by decide)
def sp_elder (K : PySem.W.Frag) : Sp := sp1 fun x H Q E => ∃ l : List Nat, x = .str (tx l) ∧ Low l ∧ 2 ≤ l.length ∧ l.length ≤ 1000 ∧
  (∀ e, eld l = [e] → ∀ t p H', Same H H' → H p = none → H' t = some (.tup [.str (tx e.1), .ref p]) → H' p = some (.lst (e.2.map V.int)) → Q (.ref t) H') ∧ (eld l = [] → ∀ H', Same H H' → E (.ref (eC K "NoElder")) none H') ∧
  (2 ≤ (eld l).length → ∀ H', Same H H' → ∀ d, H' d = none → E (.ref (eC K "Several")) (some d) (upd H' d (.xd [("many", .int (eld l).length)])))
def sp_ztold (K : PySem.W.Frag) : Sp := sp1 fun x H Q _ => ∃ l : List Nat, x = .str (tx l) ∧ Low l ∧ 2 ≤ l.length ∧ l.length ≤ 1000 ∧ ∀ q H', Same H H' → Told K H H' q (eld l) → Q (.ref q) H'
def sp_zdue (K : PySem.W.Frag) : Sp := sp1 fun x H Q _ => ∃ l : List Nat, x = .str (tx l) ∧ Low l ∧ 2 ≤ l.length ∧ l.length ≤ 1000 ∧ ∀ q H', Same H H' → Dp K H' (.ref q) (dR (eld l)) → Q (.ref q) H'
theorem s_eqE {K : PySem.W.Frag} {H : Hp} {Q : VK} {r p : Addr} {l : List Nat} (hl : Low l) (hz : l.length ≤ 1000) (h1 : Dp K H (.ref r) (dE (eld l))) (h2 : H p = some (.lst [])) (q : Q (.bl (decide (eld l = []))) H) : rSame K (.ref r) (.ref p) H Q := by
  refine s_eqD h1 (.lst (SqL.of h2) .nil) (nice_dE hl hz).sh (by decide +kernel) ?_
  have e : PyData.eqv (dE (eld l)) (.list []) = decide (eld l = []) := by
    cases eld l with
    | nil => rfl
    | cons e g => rfl
  rw [e]
  exact q
def t_elder (K : PySem.W.Frag) (E : XK) : TS :=
  (tSeq (tAsg (gCall (sp_elders K) E1 (tCons (tVar 0) tNil)) (gName 1))
  (tSeq (tIfS (tTest (tOp (rSame K) (tVar 1) (tLst tNil))) (tRaise1 (eC K "NoElder") fun cls d _ H1 => E cls d H1) tNext)
  (tSeq (tIfS (tTest (tOp rMore (tCB (rLen K) (tCons (tVar 1) tNil)) (tC (.int 1)))) (tRaise (eC K "Several") "many" (tCB (rLen K) (tCons (tVar 1) tNil)) fun cls d _ H1 => E cls d H1) tNext)
  (tRet (tOp (rIx K) (tVar 1) (tC (.int 0)))))))
theorem pu_elder {K : PySem.W.Frag} (kf : KF K) (vs : List V) (H : Hp) (Q : VK) (E : XK) (h : sp_elder K vs H Q E) : t_elder K E { nx := fun _ H' => Q .non H', rt := Q } (start ["row", "found"] vs) H := by
  obtain ⟨_, rfl, l, rfl, lw, l2, l3, hQ, hE1, hE2⟩ := h
  have hal := (eld_all l3).1
  unfold t_elder
  repeat' walk_at "s"
  refine s_all ⟨_, rfl, l, rfl, by omega, by omega, fun r ts ps H1 e1 hel => ?_⟩
  repeat' walk_at "s"
  refine newS (sz_of rfl) fun p1 H2 _ e2 hp1 => ?_
  have hR := hel.er.same e2
  refine s_eqE lw l3 (Ow.Dp.same e2 hel.dp) hp1 ?_
  repeat' walk_at "s"
  refine s_if (fun d => ?_) fun d => ?_
  · repeat' walk_at "s"
    exact s_raise1 (hE1 d H2 (e1.trans e2))
  have hlt := hel.lt
  have hne : 1 ≤ (eld l).length := List.length_pos_iff.mpr d
  repeat' walk_at "s"
  refine s_lenL hR.hr ?_
  rw [List.length_map, hlt]
  repeat' walk_at "s"
  refine s_if (fun d2 => ?_) fun d2 => ?_
  · repeat' walk_at "s"
    refine s_raise ?_
    repeat' walk_at "s"
    refine s_lenL hR.hr ?_
    rw [List.length_map, hlt]
    exact s_rze fun x hx => hE2 (by omega) H2 (e1.trans e2) x hx
  obtain ⟨e, he⟩ := List.length_eq_one_iff.mp (show (eld l).length = 1 by omega)
  obtain ⟨t, p, k1, k2, k3, k4⟩ := hel.at_ 0 e (by rw [he]; rfl)
  have hts : ts = [t] := by
    rw [he] at hlt
    obtain ⟨t', ht'⟩ := List.length_eq_one_iff.mp hlt
    rw [ht'] at k1 ⊢
    cases k1
    rfl
  have hr := hR.hr
  rw [hts] at hr
  repeat' walk_at "s"
  refine s_ixL hr at_0 ?_
  exact hQ e he t p H2 (e1.trans e2) (hel.fp p (List.mem_of_getElem? k2)) (e2 _ _ k3) (e2 _ _ k4)
def t_zdue (K : PySem.W.Frag) : TS :=
  (tSeq (tAsg (gCall (sp_zelders K) E1 (tCons (tVar 0) tNil)) (gName 1))
  (tSeq (tIfS (tTest (tOp (rSame K) (tVar 1) (tLst tNil))) (tRet (tTup (tCons (tC (.str "none")) (tCons (tC .non) tNil)))) tNext)
  (tRet (tIf (tTest (tOp (rSame K) (tCB (rLen K) (tCons (tVar 1) tNil)) (tC (.int 1)))) (tTup (tCons (tC (.str "told")) (tCons (tOp (rIx K) (tVar 1) (tC (.int 0))) tNil))) (tTup (tCons (tC (.str "several")) (tCons (tCB (rLen K) (tCons (tVar 1) tNil)) tNil)))))))
theorem pu_zdue {K : PySem.W.Frag} (kf : KF K) (vs : List V) (H : Hp) (Q : VK) (E : XK) (h : sp_zdue K vs H Q E) : t_zdue K { nx := fun _ H' => Q .non H', rt := Q } (start ["_law_row_here", "_law_due_here"] vs) H := by
  obtain ⟨_, rfl, l, rfl, lw, l2, l3, hQ⟩ := h
  have hal := (eld_all l3).1
  unfold t_zdue
  repeat' walk_at "s"
  refine s_all ⟨_, rfl, l, rfl, by omega, by omega, fun r H1 e1 hdp => ?_⟩
  repeat' walk_at "s"
  refine newS (sz_of rfl) fun p1 H2 _ e2 hp1 => ?_
  replace hdp := Ow.Dp.same e2 hdp
  obtain ⟨ts, ps, hR⟩ := dp_er hdp
  have hlt := hR.lt
  refine s_eqE lw l3 hdp hp1 ?_
  repeat' walk_at "s"
  refine s_if (fun d => ?_) fun d => ?_
  · repeat' walk_at "s"
    refine newS (sz_of rfl) fun q H3 _ e3 hq => ?_
    refine hQ q H3 ((e1.trans e2).trans e3) ?_
    rw [d]
    exact .tup (SqT.of hq) (.cons (.str _) (.cons .non .nil))
  have hne : 1 ≤ (eld l).length := List.length_pos_iff.mpr d
  repeat' walk_at "s"
  refine s_lenL hR.hr ?_
  rw [List.length_map, hlt]
  repeat' walk_at "s"
  refine s_if (fun d2 => ?_) fun d2 => ?_
  · obtain ⟨e, he⟩ := List.length_eq_one_iff.mp (show (eld l).length = 1 by omega)
    obtain ⟨t, p, k1, k2, k3, k4⟩ := hR.at_ 0 e (by rw [he]; rfl)
    have hts : ts = [t] := by
      rw [he] at hlt
      obtain ⟨t', ht'⟩ := List.length_eq_one_iff.mp hlt
      rw [ht'] at k1 ⊢
      cases k1
      rfl
    have hr := hR.hr
    rw [hts] at hr
    repeat' walk_at "s"
    refine s_ixL hr at_0 ?_
    repeat' walk_at "s"
    refine newS (sz_of rfl) fun q H3 _ e3 hq => ?_
    refine hQ q H3 ((e1.trans e2).trans e3) ?_
    rw [he]
    exact .tup (SqT.of hq) (.cons (.str _) (.cons (.tup (same_tup e3 k3) (.cons (.str _) (.cons (dp_ints (e3.seq k4)) .nil))) .nil))
  · repeat' walk_at "s"
    refine s_lenL hR.hr ?_
    rw [List.length_map, hlt]
    repeat' walk_at "s"
    refine newS (sz_of rfl) fun q H3 _ e3 hq => ?_
    refine hQ q H3 ((e1.trans e2).trans e3) ?_
    rw [dR_many (by omega)]
    exact .tup (SqT.of hq) (.cons (.str _) (.cons (.int _) .nil))
def t_ztold (K : PySem.W.Frag) : TS :=
  (tSeq (tTry K (eC K "OwnError") 1 (fun a0 cls0 d0 => (tSeq (tIfS (tOr (gTruth K (tCB (rIsE2T K a0 cls0 d0) (tCons (tVar 1) (tCons (tTup (tCons (tC (.ref (eC K "EqualEnds"))) (tCons (tC (.ref (eC K "Wrong"))) tNil))) tNil)))) (tNot (gTruth K (tCB (rIsE2 K a0 cls0 d0) (tCons (tVar 1) (tCons (tC (.ty "ValueError")) tNil)))))) (tRet (tTup (tCons (tC (.str "odd")) (tCons (tC .non) tNil)))) tNext)
  (tSeq (tIfS (tAnd (gTruth K (tCB (rIsE2 K a0 cls0 d0) (tCons (tVar 1) (tCons (tC (.ref (eC K "NoElder"))) tNil)))) (tNot (gTruth K (tCB (rIsE2 K a0 cls0 d0) (tCons (tVar 1) (tCons (tC (.ref (eC K "Several"))) tNil)))))) (tRet (tTup (tCons (tC (.str "none")) (tCons (tC .non) tNil)))) tNext)
  (tIfS (tAnd (gTruth K (tCB (rIsE2 K a0 cls0 d0) (tCons (tVar 1) (tCons (tC (.ref (eC K "Several"))) tNil)))) (tNot (gTruth K (tCB (rIsE2 K a0 cls0 d0) (tCons (tVar 1) (tCons (tC (.ref (eC K "NoElder"))) tNil)))))) (tRet (tTup (tCons (tC (.str "several")) (tCons (tEf K a0 cls0 d0 "many" (tVar 1)) tNil)))) tNext)))) (fun W => (tRet (tTup (tCons (tC (.str "told")) (tCons (gCall (sp_elder K) (fun σ cls d H => W cls d σ H) (tCons (tVar 0) tNil)) tNil))))) W0)
  (tRet (tTup (tCons (tC (.str "odd")) (tCons (tC .non) tNil)))))
theorem pu_ztold {K : PySem.W.Frag} (kf : KF K) (vs : List V) (H : Hp) (Q : VK) (E : XK) (h : sp_ztold K vs H Q E) : t_ztold K { nx := fun _ H' => Q .non H', rt := Q } (start ["_law_row_here", "e"] vs) H := by
  obtain ⟨_, rfl, l, rfl, lw, l2, l3, hQ⟩ := h
  unfold t_ztold
  refine s_seq (s_try ?_)
  repeat' walk_at "s"
  refine s_all ⟨_, rfl, l, rfl, lw, l2, l3, fun e he t p H1 e1 fp ht hp => ?_, fun hn H0 e0 => ?_, fun hm H0 e0 d hd => ?_⟩
  · repeat' walk_at "s"
    refine newS (sz_of rfl) fun q2 H2 _ e2 hq2 => ?_
    exact hQ q2 H2 (e1.trans e2) (.inr (.inl ⟨e, t, p, he, hq2, e2 _ _ ht, e2 _ _ hp, fp⟩))
  · obtain ⟨T, Y⟩ := askB_ok (kf.word 7)
    refine ⟨true, opB_ok (kf.word 8), fun _ ar har => ?_, fun z => nomatch z⟩
    repeat' walk_at "s"
    refine newS (sz_of rfl) fun p2 H2 _ e2 hp2 => ?_
    repeat' walk_at "s"
    refine s_isT1 (cs := [eC K "EqualEnds", eC K "Wrong"]) Y hp2 (opB_ok (kf.word 9)) ?_
    repeat' walk_at "s"
    refine s_isEt1 Y (opB_ok (kf.word 10)) ?_
    repeat' walk_at "s"
    refine s_isE1 Y (opB_ok (kf.word 11)) ?_
    repeat' walk_at "s"
    refine s_isE1 Y (opB_ok (kf.word 12)) ?_
    repeat' walk_at "s"
    refine newS (sz_of rfl) fun p3 H3 _ e3 hp3 => ?_
    exact hQ p3 H3 ((e0.trans e2).trans e3) (.inl ⟨hn, hp3⟩)
  · generalize hgl : (eld l).length = n at *
    have e1 : Same H0 (upd H0 d (.xd [("many", .int n)])) := same_new hd
    have h1 : (upd H0 d (.xd [("many", .int n)])) d = some (.xd [("many", .int n)]) := upd_same
    obtain ⟨T, Y⟩ := askB_ok (kf.word 0)
    refine ⟨true, opB_ok (kf.word 1), fun _ ar har => ?_, fun z => nomatch z⟩
    generalize upd H0 d (.xd [("many", .int n)]) = H1 at e1 h1 har ⊢
    repeat' walk_at "s"
    refine newS (sz_of rfl) fun p2 H2 _ e2 hp2 => ?_
    repeat' walk_at "s"
    refine s_isT (cs := [eC K "EqualEnds", eC K "Wrong"]) Y hp2 (e2 _ _ h1) (opB_ok (kf.word 2)) ?_
    repeat' walk_at "s"
    refine s_isEt Y (e2 _ _ h1) (opB_ok (kf.word 3)) ?_
    repeat' walk_at "s"
    refine s_isE Y (e2 _ _ h1) (opB_ok (kf.word 4)) ?_
    repeat' walk_at "s"
    refine s_isE Y (e2 _ _ h1) (opB_ok (kf.word 5)) ?_
    repeat' walk_at "s"
    refine s_isE Y (e2 _ _ h1) (opB_ok (kf.word 4)) ?_
    repeat' walk_at "s"
    refine s_ef ?_
    repeat' walk_at "s"
    refine ⟨rfl, _, _, _, _, rfl, T, He.eqO_ok (kf.word 6), rfl, e2 _ _ h1, rfl, ?_⟩
    repeat' walk_at "s"
    refine newS (sz_of rfl) fun p3 H3 _ e3 hp3 => ?_
    exact hQ p3 H3 (((e0.trans e1).trans e2).trans e3) (.inr (.inr ⟨by omega, by rw [hgl]; exact hp3⟩))
def t_law (K : PySem.W.Frag) : TS :=
  (tSeq (tAsg (gCall (sp_bag K) E1 (tCons (tVar 0) tNil)) (gName 1))
  (tSeq (tAsg (tLc (iRng1 (tCons (tC (.int 5)) tNil)) (gName 6) tYes (gCall (sp_zscene K) E1 (tCons (tVar 1) tNil)) [6]) (gName 2))
  (tSeq (tAsg (tOp (rPlus K) (tVar 2) (tLst (tCons (tOp rTimes (tC (.str "a")) (tOp (rPlus K) (tC (.int 2)) (gCall (sp_take K) E1 (tCons (tVar 1) (tCons (tC (.int 30)) tNil))))) (tCons (tSl (rCut K) (tOp rTimes (tC (.str "ab")) (tC (.int 20))) tNoPart (tPart (tOp (rPlus K) (tC (.int 2)) (gCall (sp_take K) E1 (tCons (tVar 1) (tCons (tC (.int 32)) tNil)))))) tNil)))) (gName 2))
  (tSeq (tFor (iList K (tOp (rPlus K) (tOp (rPlus K) (tVar 2) (tLst (tCons (gCall (sp_zlong_row K) E1 (tCons (tVar 1) tNil)) tNil))) (tSl (rCut K) (tVar 2) tNoPart (tPart (tC (.int 2)))))) (gName 3)
  (tSeq (tAsg (gCall (sp_zdue K) E1 (tCons (tVar 3) tNil)) (gName 4))
  (tSeq (tAsg (gCall (sp_ztold K) E1 (tCons (tVar 3) tNil)) (gName 5))
  (tSeq (tIfS (tNot (gTruth K (gCall (sp_alike K) E1 (tCons (tVar 5) (tCons (tVar 4) tNil))))) (tRet (tC (.bl false))) tNext)
  (tIfS (tTest (tOp (rSame K) (tOp (rIx K) (tVar 5) (tC (.int 0))) (tC (.str "told")))) (tDrop (tBM K "list" rAppend (tOp (rIx K) (tOp (rIx K) (tVar 5) (tC (.int 1))) (tC (.int 1))) (tCons (tC (.int 0)) tNil))) tNext)))))
  (tRet (tC (.bl true)))))))
theorem pu_law {K : PySem.W.Frag} (kf : KF K) (vs : List V) (H : Hp) (Q : VK) (E : XK) (h : sp_law K vs H Q E) : t_law K { nx := fun _ H' => Q .non H', rt := Q } (start ["_law_script", "_law_bag_here", "_law_rows", "_law_row_here", "_law_due_here", "_law_found", "_law_turn"] vs) H := by
  obtain ⟨_, rfl, a, ns, rfl, _, hS, hQ⟩ := h
  unfold t_law
  rw [lit_a1, lit_ab]
  repeat' walk_at "s"
  refine s_bag hS ?_
  intro H0 b ys e0 B
  repeat' walk_at "s"
  refine s_rn1 (by decide) (by decide) ?_
  intro D hD
  refine lcR hD (fun i acc Hi => ∃ (H3 : Hp) (ys : List V), Hi = upd H3 b (.lst ys) ∧ Bag K H3 b ys ∧ ∀ x ∈ acc, RowOk x) ⟨H0, ys, rfl, B, fun x hx => nomatch hx⟩ (fun i acc Hi hi hn hl z => ?_) fun acc Hi hn hl z => ?_
  · obtain ⟨H3, ys, rfl, B, hx⟩ := z
    repeat' walk_at "s"
    refine ⟨rfl, ?_⟩
    repeat' walk_at "s"
    refine s_rowBD B hn fun H4 ys l e4 B ll l2 lm hn => ?_
    refine lc_put hn hl (by rw [sizeLine_eq]; exact Nat.lt_trans hi (show (5 : Int).toNat < 16777216 by decide)) ⟨H4, ys, rfl, B, fun x hx2 => (List.mem_append.mp hx2).elim (hx x) fun q => ?_⟩
    rcases List.mem_singleton.mp q with rfl
    exact ⟨l, rfl, ll, l2, by omega⟩
  clear B e0 hS H0 ys hD
  obtain ⟨H1, ys, rfl, B, hrows⟩ := z
  replace hl : acc.length ≤ 5 := hl
  refine doneB B hn fun H2 e2 h2 B => ?_
  clear hn
  repeat' walk_at "s"
  refine s_take B (by decide) (lg (by decide) (by decide)) ?_
  intro r1 ys a1 a2 B
  repeat' walk_at "s"
  refine s_mulX (by rw [List.length_singleton]; omega) (by omega) (by omega) ?_
  repeat' walk_at "s"
  refine s_mulX (by decide) (by decide) (by decide) ?_
  repeat' walk_at "s"
  refine s_take B (by decide) (lg (by decide) (by decide)) ?_
  intro r2 ys b1 b2 B
  repeat' walk_at "s"
  refine s_toX (by rw [rep_len]; decide) (by omega) ?_
  repeat' walk_at "s"
  refine newB B (sz_of rfl) fun p3 H3 e3 hp3 B => ?_
  repeat' walk_at "s"
  refine addB B (e3 _ _ h2) hp3 (by show acc.length + 2 ≤ _; omega) fun p4 H4 e4 hp4 B => ?_
  have abl : Low [97, 98] := by unfold Low; decide
  generalize hM : acc ++ [V.str (tx (List.replicate (2 + r1).toNat [97]).flatten), V.str (tx ((List.replicate (20 : Int).toNat [97, 98]).flatten.take (2 + r2).toNat))] = M at *
  have hMl : M.length ≤ 7 := by
    rw [← hM, List.length_append]
    show acc.length + 2 ≤ 7
    omega
  have hMok : ∀ x ∈ M, RowOk x := fun x hx => by
    rw [← hM] at hx
    rcases List.mem_append.mp hx with q | q
    · exact hrows x q
    · simp only [List.mem_cons, List.not_mem_nil, or_false] at q
      rcases q with rfl | rfl
      · exact ⟨_, rfl, (low_1 (by decide) (by decide)).rep _, by rw [rep_len, List.length_singleton]; omega, by rw [rep_len, List.length_singleton]; omega⟩
      · refine ⟨_, rfl, (abl.rep _).take _, ?_, ?_⟩
        · rw [List.length_take, rep_len]
          show 2 ≤ min _ (20 * 2)
          omega
        · rw [List.length_take, rep_len]
          show min _ (20 * 2) ≤ 1000
          omega
  repeat' walk_at "s"
  refine s_rowB B fun H5 ys l5 e5 B ll5 l52 l53 => ?_
  repeat' walk_at "s"
  refine newB B (sz_of rfl) fun p6 H6 e6 hp6 B => ?_
  refine addB B (e6 _ _ (e5 _ _ hp4)) hp6 (by show M.length + 1 ≤ _; omega) fun p7 H7 e7 hp7 B => ?_
  repeat' walk_at "s"
  refine s_cutN (SqL.of (B.see _ _ ((e5.trans (e6.trans e7)) _ _ hp4))) (newB B trivial fun p8 H8 e8 hp8 B => ?_)
  rw [cutV_to (by decide)] at hp8
  refine addB B (e8 _ _ hp7) hp8 (by rw [List.length_append, List.length_take]; show M.length + 1 + _ ≤ _; omega) fun p9 H9 e9 hp9 B => ?_
  repeat' walk_at "s"
  generalize hL : M ++ [V.str (tx l5)] ++ List.take (2 : Int).toNat M = L at *
  have hLok : ∀ x ∈ L, RowOk x := fun x hx => by
    rw [← hL] at hx
    rcases List.mem_append.mp hx with q | q
    · rcases List.mem_append.mp q with q | q
      · exact hMok x q
      · rcases List.mem_singleton.mp q with rfl
        exact ⟨l5, rfl, ll5, l52, l53⟩
    · exact hMok x (List.mem_of_mem_take q)
  refine s_itL (SqL.of (B.see _ _ hp9)) ?_
  refine for_list (xs := L) (fun j σ H => ∃ (Hx : Hp) (x3 x4 x5 : Option V), Same H9 Hx ∧ Bag K Hx b ys ∧ H = upd Hx b (.lst ys) ∧ σ = [some (.ref a), some (.ref b), some (.ref p4), x3, x4, x5, none])
    ⟨H9, _, _, _, Same.refl _, B, rfl, rfl⟩ (fun j σ H _ z => ?_) (fun j x σ H hx z => ?_) fun σ H z => ?_
  · obtain ⟨Hx, x3, x4, x5, e8, B, rfl, rfl⟩ := z
    exact SqL.of (B.see _ _ (e8 _ _ hp9))
  · obtain ⟨l, rfl, lw, l2, l3⟩ := hLok x (List.mem_of_getElem? hx)
    obtain ⟨H8, x3, x4, x5, e8, B, rfl, rfl⟩ := z
    have hnice := nice_dR lw l3
    repeat' walk_at "s"
    refine s_hid B ⟨_, rfl, l, rfl, lw, l2, l3, fun q2 H10 e10 hq2 nb => ?_⟩
    have B9 := B.same e10 nb
    repeat' walk_at "s"
    refine s_hid B9 ⟨_, rfl, l, rfl, lw, l2, l3, fun q H11 e11 hq nb11 => ?_⟩
    have B10 := B9.same e11 nb11
    repeat' walk_at "s"
    refine s_alike (d := dR (eld l)) (Ow.Dp.same B10.see hq.dp) (Ow.Dp.same (e11.trans B10.see) hq2) hnice ?_
    repeat' walk_at "s"
    rcases hq with ⟨_, h1⟩ | ⟨e, t, c, hr, h1, h3, h4, fc⟩ | ⟨_, h1⟩
    · refine s_ixT (SqT.of (B10.see _ _ h1)) at_0 ?_
      repeat' walk_at "s"
      refine s_ifo (by decide +kernel) ?_
      repeat' walk_at "s"
      exact ⟨H11, _, _, _, e8.trans (e10.trans e11), B10, rfl, rfl⟩
    · have cb : c ≠ b := fun q => by
        rw [q, nb11] at h4
        cases h4
      have hcl : e.2.length ≤ 501 := ((eld_all l3).2 e (by rw [hr]; exact List.mem_cons_self)).1
      refine s_ixT (SqT.of (B10.see _ _ h1)) at_0 ?_
      repeat' walk_at "s"
      refine s_ify rfl ?_
      repeat' walk_at "s"
      refine s_ixT (SqT.of (B10.see _ _ h1)) (atI_nat (j := 1) rfl) ?_
      repeat' walk_at "s"
      refine s_ixT (SqT.of (B10.see _ _ h3)) (atI_nat (j := 1) rfl) ?_
      refine s_tyL (SqL.of (B10.see _ _ h4)) ?_
      repeat' walk_at "s"
      refine s_app (B10.see _ _ h4) (by rw [List.length_map, sizeLine_eq]; omega) ?_
      rw [upd_comm (Ne.symm cb)]
      have fc8 : H8 c = none := same_none e10 fc
      have e12 : ∀ o, Same H8 (upd H11 c o) := fun o => same_put (e10.trans e11) fc8
      exact ⟨_, _, _, _, e8.trans (e12 _), B.same (e12 _) (by rw [upd_ne (Ne.symm cb)]; exact nb11), rfl, rfl⟩
    · refine s_ixT (SqT.of (B10.see _ _ h1)) at_0 ?_
      repeat' walk_at "s"
      refine s_ifo (by decide +kernel) ?_
      repeat' walk_at "s"
      exact ⟨H11, _, _, _, e8.trans (e10.trans e11), B10, rfl, rfl⟩
  · obtain ⟨H8, x3, x4, x5, e8, B, rfl, rfl⟩ := z
    repeat' walk_at "s"
    exact hQ _
end
section
abbrev top (i : Nat) : Stmt := PySem.Challenge.pw_ownlog_k42_elder_refused.main.body.getD i (.Pass ⟨0, 0, 0, 0⟩)
abbrev FnP (K : PySem.W.Frag) (x : Str) (st : Stmt) (f : Addr) (fd : FuncData) : Prop := FunD K x x (defArgs st) (defBody st) (defScope st) [] [] f fd
section
variable {P : Program} {w : World} {K : PySem.W.Frag} {mg : Str → Option Value} {base : Heap} {k : Nat} {f : Addr} {fd : FuncData}
abbrev st_bag : Stmt := top 12
theorem sc_bag : FnScope ["_law_script", "_law_cell"] ["_law_script"] (defScope st_bag) := ⟨rfl, rfl, rfl, by decide +kernel, rfl, by decide +kernel, by decide +kernel⟩
theorem ok_bag (F : FnP K "_law_bag" st_bag f fd) (B : Blt mg) (kf : KF K) : Gf P w K mg base (k + 1) f fd ["_law_script"] (sp_bag K) :=
  okG F sc_bag ln1 fun cdv A outer s H vs Q E hG hr h => by
    have hU := hr.units
    have hU0 := hr.units0
    have hU1 := u65 hr
    have hUR := u100 hr
    exact ⟨t_bag K, PSs.nox ((pss_one (ps_ret (pe_lst (pa_cons pe_int (pa_cons pe_int (pa_cons pe_int (pa_cons (pe_lc (own := [("_law_cell", 1)]) (g := (gName 1)) (tt := tYes) (by rfl) sc_bag.nd (pi_list (pe_slice o_sl (pv 0) po_none (po_some pe_int))) (blkOk_by (own := [("_law_cell", 1)]) (N := ["_law_script", "_law_cell"]) (sc := defScope st_bag) (by decide +kernel)) (fun _ _ _ _ _ => (pg_name (i := 1) sc_bag.nd rfl (Or.inl rfl))) (fun _ _ _ _ _ => pts_nil) (fun _ _ _ _ _ => (pe_callB o_abs (by rfl) (B "abs" (by decide)) (by decide +kernel) (pa_cons (pv 1) pa_nil)))) pa_nil)))))))), pu_bag vs H Q E h⟩
abbrev st_take : Stmt := top 13
theorem sc_take : FnScope ["_law_bag_here", "_law_many", "_law_cell", "_law_value", "_law_first", "_law_second"] ["_law_bag_here", "_law_many"] (defScope st_take) := ⟨rfl, rfl, rfl, by decide +kernel, rfl, by decide +kernel, by decide +kernel⟩
theorem ok_take (F : FnP K "_law_take" st_take f fd) (B : Blt mg) (kf : KF K) : Gf P w K mg base (k + 1) f fd ["_law_bag_here", "_law_many"] (sp_take K) :=
  okG F sc_take ln2 fun cdv A outer s H vs Q E hG hr h => by
    have hU := hr.units
    have hU0 := hr.units0
    have hU1 := u65 hr
    have hUR := u100 hr
    exact ⟨t_take K, PSs.nox ((pss_cons (ps_if (pt_cmpR (o_eq hU) (pe_ix o_ix (pv 0) pe_int (fun _ _ => rfl)) pe_int (nomark _)) (pss_cons (ps_set (i := 2) sc_take.nd rfl (Or.inl rfl) pe_int)
  (pss_cons (ps_if (pt_cmpR o_lt (pe_ix o_ix (pv 0) pe_int (fun _ _ => rfl)) (pe_callB o_len (by rfl) (B "len" (by decide)) (by decide +kernel) (pa_cons (pe_ix o_ix (pv 0) pe_int (fun _ _ => rfl)) pa_nil)) (nomark _)) (pss_one (ps_set (i := 2) sc_take.nd rfl (Or.inl rfl) (pe_ix o_ix (pe_ix o_ix (pv 0) pe_int (fun _ _ => rfl)) (pe_ix o_ix (pv 0) pe_int (fun _ _ => rfl)) (fun _ _ => rfl)))) pss_nil)
  (pss_cons (ps_augS (pv 0) pe_int get_list pe_int ip_plus set_list)
  (pss_cons (ps_if (pt_cmpR o_ge (pv 2) pe_int (nomark _)) (pss_one (ps_asg (pv 2) (pg_sub (pv 0) pe_int set_list))) pss_nil)
  (pss_one (ps_asg (pe_op o_mod (pe_op o_plus (pe_op o_plus (pe_op o_times (pe_ix o_ix (pv 0) pe_int (fun _ _ => rfl)) pe_int) (pe_op o_mod (pv 2) pe_int)) (pe_op o_times pe_int (pe_ix o_ix (pv 0) pe_int (fun _ _ => rfl)))) pe_int) (pg_sub (pv 0) pe_int set_list))))))) pss_nil)
  (pss_cons (ps_if (pt_cmpR o_gt (pe_ix o_ix (pv 0) pe_int (fun _ _ => rfl)) pe_int (nomark _)) (pss_cons (ps_set (i := 3) sc_take.nd rfl (Or.inl rfl) (pe_op o_mod (pe_ix o_ix (pv 0) pe_int (fun _ _ => rfl)) (pv 1)))
  (pss_cons (ps_asg (pe_op o_div (pe_ix o_ix (pv 0) pe_int (fun _ _ => rfl)) (pv 1)) (pg_sub (pv 0) pe_int set_list))
  (pss_one (ps_ret (pv 3))))) pss_nil)
  (pss_cons (ps_set (i := 4) sc_take.nd rfl (Or.inl rfl) (pe_op o_mod (pe_op o_times (pe_op o_plus (pe_ix o_ix (pv 0) pe_int (fun _ _ => rfl)) pe_int) pe_int) pe_int))
  (pss_cons (ps_set (i := 5) sc_take.nd rfl (Or.inl rfl) (pe_op o_mod (pe_op o_times (pe_op o_mod (pe_op o_times (pv 4) (pv 4)) pe_int) pe_int) pe_int))
  (pss_cons (ps_if (pt_cmpR o_gt (pv 1) pe_int (nomark _)) (pss_one (ps_ret (pe_op o_mod (pe_op o_plus (pe_op o_times (pv 5) pe_int) (pv 4)) (pv 1)))) pss_nil)
  (pss_one (ps_ret (pe_op o_mod (pe_op o_div (pv 5) pe_int) (pv 1)))))))))), pu_take vs H Q E h⟩
abbrev st_word : Stmt := top 15
theorem sc_word : FnScope ["_law_bag_here", "_law_most", "_law_start", "_law_few", "_law_letters", "_law_way", "_law_size", "_law_many", "_law_word_here", "_law_k"] ["_law_bag_here", "_law_most"] (defScope st_word) := ⟨rfl, rfl, rfl, by decide +kernel, rfl, by decide +kernel, by decide +kernel⟩
theorem ok_word (F : FnP K "_law_word" st_word f fd) (B : Blt mg) (kf : KF K) (c_take : Cal P w K mg base (k) "_law_take" 2 (sp_take K)) : Gf P w K mg base (k + 1) f fd ["_law_bag_here", "_law_most"] (sp_word K) :=
  okG F sc_word ln2 fun cdv A outer s H vs Q E hG hr h => by
    have hU := hr.units
    have hU0 := hr.units0
    have hU1 := u65 hr
    have hUR := u100 hr
    exact ⟨t_word K, PSs.nox ((pss_cons (ps_asg (pe_tup (pa_cons (g_call c_take hG hr (by rfl) passN (pa_cons (pv 0) (pa_cons pe_int pa_nil))) (pa_cons (pe_op o_plus pe_int (g_call c_take hG hr (by rfl) passN (pa_cons (pv 0) (pa_cons pe_int pa_nil)))) pa_nil))) (pg_tup (by rfl) (pgs_cons (pg_name (i := 2) sc_word.nd rfl (Or.inl rfl)) (pgs_cons (pg_name (i := 3) sc_word.nd rfl (Or.inr rfl)) pgs_nil))))
  (pss_cons (ps_set (i := 4) sc_word.nd rfl (Or.inr rfl) (pe_slice o_sl pe_str (po_some (pv 2)) (po_some (pe_op o_plus (pv 2) (pv 3)))))
  (pss_cons (ps_par (i := 5) (j := 6) (by rfl) sc_word.nd rfl rfl (by decide) rfl rfl (pa_cons (g_call c_take hG hr (by rfl) passN (pa_cons (pv 0) (pa_cons pe_int pa_nil))) (pa_cons (pe_op o_plus pe_int (g_call c_take hG hr (by rfl) passN (pa_cons (pv 0) (pa_cons (pv 1) pa_nil)))) pa_nil)) (by rfl))
  (pss_cons (ps_set (i := 7) sc_word.nd rfl (Or.inl rfl) (pe_ix o_ix (pe_lst (pa_cons (pv 6) (pa_cons (pe_op o_plus pe_int (g_call c_take hG hr (by rfl) passN (pa_cons (pv 0) (pa_cons pe_int pa_nil)))) pa_nil))) (pe_callTy o_int (by rfl) (B "int" (by decide)) (by decide +kernel) (pa_cons (pe_cmpR o_gt (pv 5) pe_int (nomark _)) pa_nil)) (fun _ _ => rfl)))
  (pss_cons (ps_set (i := 8) sc_word.nd rfl (Or.inl rfl) (pe_join pe_str (pe_lc (own := [("_law_k", 9)]) (g := (gName 9)) (tt := tYes) (by rfl) sc_word.nd (pi_range1 (by rfl) (B "range" (by decide)) (pa_cons (pv 7) pa_nil)) (blkOk_by (own := [("_law_k", 9)]) (N := ["_law_bag_here", "_law_most", "_law_start", "_law_few", "_law_letters", "_law_way", "_law_size", "_law_many", "_law_word_here", "_law_k"]) (sc := defScope st_word) (by decide +kernel)) (fun _ _ _ _ _ => (pg_name (i := 9) sc_word.nd rfl (Or.inl rfl))) (fun _ _ _ _ _ => pts_nil) (fun _ _ _ _ _ => (pe_ix o_ix (pv 4) (g_call c_take hG hr (by rfl) passN (pa_cons (pv 0) (pa_cons (pv 3) pa_nil))) (fun _ _ => rfl))))))
  (pss_cons (ps_set (i := 8) sc_word.nd rfl (Or.inl rfl) (pe_slice o_sl (pe_op o_times (pv 8) (pe_op o_plus (pe_op o_div (pv 6) (pv 7)) pe_int)) po_none (po_some (pv 6))))
  (pss_one (ps_ret (pe_ix o_ix (pe_lst (pa_cons (pv 8) (pa_cons (pv 8) (pa_cons (pv 8) (pa_cons (pe_rev (pv 8)) pa_nil))))) (pv 5) (fun _ _ => rfl))))))))))), pu_word vs H Q E h⟩
abbrev st_row : Stmt := top 16
theorem sc_row : FnScope ["_law_bag_here", "_law_most", "_law_text", "_law_way", "_law_turn", "_law_letter"] ["_law_bag_here", "_law_most"] (defScope st_row) := ⟨rfl, rfl, rfl, by decide +kernel, rfl, by decide +kernel, by decide +kernel⟩
theorem ok_row (F : FnP K "_law_row" st_row f fd) (B : Blt mg) (kf : KF K) (c_take : Cal P w K mg base (k) "_law_take" 2 (sp_take K)) (c_word : Cal P w K mg base (k) "_law_word" 2 (sp_word K)) : Gf P w K mg base (k + 1) f fd ["_law_bag_here", "_law_most"] (sp_row K) :=
  okG F sc_row ln2 fun cdv A outer s H vs Q E hG hr h => by
    have hU := hr.units
    have hU0 := hr.units0
    have hU1 := u65 hr
    have hUR := u100 hr
    exact ⟨t_row K, PSs.nox ((pss_cons (ps_set (i := 2) sc_row.nd rfl (Or.inr rfl) (g_call c_word hG hr (by rfl) passN (pa_cons (pv 0) (pa_cons (pv 1) pa_nil))))
  (pss_cons (ps_if (pt_cmpR o_lt (pe_callB o_len (by rfl) (B "len" (by decide)) (by decide +kernel) (pa_cons (pv 2) pa_nil)) pe_int (nomark _)) (pss_one (ps_set (i := 2) sc_row.nd rfl (Or.inr rfl) (pe_op o_plus (pv 2) (pv 2)))) pss_nil)
  (pss_cons (ps_par (i := 3) (j := 4) (by rfl) sc_row.nd rfl rfl (by decide) rfl rfl (pa_cons (g_call c_take hG hr (by rfl) passN (pa_cons (pv 0) (pa_cons pe_int pa_nil))) (pa_cons (g_call c_take hG hr (by rfl) passN (pa_cons (pv 0) (pa_cons pe_int pa_nil))) pa_nil)) (by rfl))
  (pss_cons (ps_if (pt_cmpR (o_eq hU) (pv 3) pe_int (nomark _)) (pss_one (ps_ret (pe_op o_plus (pe_slice o_sl (pv 2) po_none (po_some (pe_un un_neg pe_int))) (pe_ix o_ix (pe_lc (own := [("_law_letter", 5)]) (g := (gName 5)) (tt := (tTest (tOp (rDiff K) (tVar 5) (tOp (rIx K) (tVar 2) (tC (.int 0)))))) (by rfl) sc_row.nd (pi_str pe_str) (blkOk_by (own := [("_law_letter", 5)]) (N := ["_law_bag_here", "_law_most", "_law_text", "_law_way", "_law_turn", "_law_letter"]) (sc := defScope st_row) (by decide +kernel)) (fun _ _ _ _ _ => (pg_name (i := 5) sc_row.nd rfl (Or.inl rfl))) (fun _ _ _ _ _ => (pts_one (pt_cmpR (o_ne hU) (pv 5) (pe_ix o_ix (pv 2) pe_int (fun _ _ => rfl)) (nomark _)))) (fun _ _ _ _ _ => (pv 5))) (pv 4) (fun _ _ => rfl))))) pss_nil)
  (pss_one (ps_ret (pe_ix o_ix (pe_lst (pa_cons (pv 2) (pa_cons (pv 2) (pa_cons (pe_op o_plus (pe_slice o_sl (pv 2) po_none (po_some (pe_un un_neg pe_int))) (pe_ix o_ix (pv 2) pe_int (fun _ _ => rfl))) pa_nil)))) (pv 3) (fun _ _ => rfl))))))))), pu_row vs H Q E h⟩
abbrev st_any_row : Stmt := top 25
theorem sc_any_row : FnScope ["_law_bag_here", "_law_most", "_law_size", "_law_k"] ["_law_bag_here", "_law_most"] (defScope st_any_row) := ⟨rfl, rfl, rfl, by decide +kernel, rfl, by decide +kernel, by decide +kernel⟩
theorem ok_any_row (F : FnP K "_law_any_row" st_any_row f fd) (B : Blt mg) (kf : KF K) (c_take : Cal P w K mg base (k) "_law_take" 2 (sp_take K)) (c_row : Cal P w K mg base (k) "_law_row" 2 (sp_row K)) : Gf P w K mg base (k + 1) f fd ["_law_bag_here", "_law_most"] (sp_any_row K) :=
  okG F sc_any_row ln2 fun cdv A outer s H vs Q E hG hr h => by
    have hU := hr.units
    have hU0 := hr.units0
    have hU1 := u65 hr
    have hUR := u100 hr
    exact ⟨t_any_row K, PSs.nox ((pss_cons (ps_if (pt_cmpR o_gt (g_call c_take hG hr (by rfl) passN (pa_cons (pv 0) (pa_cons pe_int pa_nil))) pe_int (nomark _)) (pss_one (ps_ret (g_call c_row hG hr (by rfl) passN (pa_cons (pv 0) (pa_cons (pv 1) pa_nil))))) pss_nil)
  (pss_cons (ps_set (i := 2) sc_any_row.nd rfl (Or.inl rfl) (pe_op o_plus pe_int (g_call c_take hG hr (by rfl) passN (pa_cons (pv 0) (pa_cons (pe_op o_minus (pv 1) pe_int) pa_nil)))))
  (pss_one (ps_ret (pe_join pe_str (pe_lc (own := [("_law_k", 3)]) (g := (gName 3)) (tt := tYes) (by rfl) sc_any_row.nd (pi_range1 (by rfl) (B "range" (by decide)) (pa_cons (pv 2) pa_nil)) (blkOk_by (own := [("_law_k", 3)]) (N := ["_law_bag_here", "_law_most", "_law_size", "_law_k"]) (sc := defScope st_any_row) (by decide +kernel)) (fun _ _ _ _ _ => (pg_name (i := 3) sc_any_row.nd rfl (Or.inl rfl))) (fun _ _ _ _ _ => pts_nil) (fun _ _ _ _ _ => (pe_ix o_ix pe_str (g_call c_take hG hr (by rfl) passN (pa_cons (pv 0) (pa_cons pe_int pa_nil))) (fun _ _ => rfl)))))))))), pu_any_row vs H Q E h⟩
abbrev st_called : Stmt := top 17
theorem sc_called : FnScope ["_law_row_here", "_law_place_here", "_law_ahead", "_law_behind"] ["_law_row_here", "_law_place_here"] (defScope st_called) := ⟨rfl, rfl, rfl, by decide +kernel, rfl, by decide +kernel, by decide +kernel⟩
theorem ok_called (F : FnP K "_law_called" st_called f fd) (B : Blt mg) (kf : KF K) : Gf P w K mg base (k + 1) f fd ["_law_row_here", "_law_place_here"] (sp_called K) :=
  okG F sc_called ln2 fun cdv A outer s H vs Q E hG hr h => by
    have hU := hr.units
    have hU0 := hr.units0
    have hU1 := u65 hr
    have hUR := u100 hr
    exact ⟨t_called K, PSs.nox ((pss_cons (ps_par (i := 2) (j := 3) (by rfl) sc_called.nd rfl rfl (by decide) rfl rfl (pa_cons (pe_slice o_sl (pv 0) po_none (po_some (pv 1))) (pa_cons (pe_slice o_sl (pv 0) (po_some (pe_op o_plus (pv 1) pe_int)) po_none) pa_nil)) (by rfl))
  (pss_one (ps_ret (pe_op o_plus (pe_op o_plus (pe_op o_plus (pe_op o_plus (pv 2) (pv 2)) (pe_ix o_ix (pv 0) (pv 1) (fun _ _ => rfl))) (pv 3)) (pv 3)))))), pu_called vs H Q E h⟩
abbrev st_zplace : Stmt := top 24
theorem sc_zplace : FnScope ["_law_bag_here", "_law_last"] ["_law_bag_here", "_law_last"] (defScope st_zplace) := ⟨rfl, rfl, rfl, by decide +kernel, rfl, by decide +kernel, by decide +kernel⟩
theorem ok_zplace (F : FnP K "_law_place" st_zplace f fd) (B : Blt mg) (kf : KF K) (c_take : Cal P w K mg base (k) "_law_take" 2 (sp_take K)) : Gf P w K mg base (k + 1) f fd ["_law_bag_here", "_law_last"] (sp_zplace K) :=
  okG F sc_zplace ln2 fun cdv A outer s H vs Q E hG hr h => by
    have hU := hr.units
    have hU0 := hr.units0
    have hU1 := u65 hr
    have hUR := u100 hr
    exact ⟨t_zplace K, PSs.nox ((pss_one (ps_ret (pe_ix o_ix (pe_lst (pa_cons pe_int (pa_cons (pv 1) (pa_cons (pe_op o_div (pv 1) pe_int) (pa_cons (g_call c_take hG hr (by rfl) passN (pa_cons (pv 0) (pa_cons (pe_op o_plus (pv 1) pe_int) pa_nil))) (pa_cons (g_call c_take hG hr (by rfl) passN (pa_cons (pv 0) (pa_cons (pe_op o_plus (pv 1) pe_int) pa_nil))) pa_nil)))))) (g_call c_take hG hr (by rfl) passN (pa_cons (pv 0) (pa_cons pe_int pa_nil))) (fun _ _ => rfl))))), pu_zplace vs H Q E h⟩
abbrev st_zroot : Stmt := top 19
theorem sc_zroot : FnScope ["_law_text", "_law_size"] ["_law_text"] (defScope st_zroot) := ⟨rfl, rfl, rfl, by decide +kernel, rfl, by decide +kernel, by decide +kernel⟩
theorem ok_zroot (F : FnP K "_law_root" st_zroot f fd) (B : Blt mg) (kf : KF K) : Gf P w K mg base (k + 1) f fd ["_law_text"] (sp_zroot K) :=
  okG F sc_zroot ln1 fun cdv A outer s H vs Q E hG hr h => by
    have hU := hr.units
    have hU0 := hr.units0
    have hU1 := u65 hr
    have hUR := u100 hr
    exact ⟨t_zroot K, PSs.nox ((pss_cons (ps_for PassesOwn.never rfl (pi_range2 (by rfl) (B "range" (by decide)) (pa_cons pe_int (pa_cons (pe_callB o_len (by rfl) (B "len" (by decide)) (by decide +kernel) (pa_cons (pv 0) pa_nil)) pa_nil))) (pg_name (i := 1) sc_zroot.nd rfl (Or.inl rfl))
  (pss_one (ps_if (PW.pt (pw_and (pt_cmpR (o_eq hU) (pe_op o_mod (pe_callB o_len (by rfl) (B "len" (by decide)) (by decide +kernel) (pa_cons (pv 0) pa_nil)) (pv 1)) pe_int (nomark _)) (pw_and1 (pt_cmpR (o_eq hU) (pe_op o_times (pe_slice o_sl (pv 0) po_none (po_some (pv 1))) (pe_op o_div (pe_callB o_len (by rfl) (B "len" (by decide)) (by decide +kernel) (pa_cons (pv 0) pa_nil)) (pv 1))) (pv 0) (nomark _))))) (pss_one (ps_ret (pe_slice o_sl (pv 0) po_none (po_some (pv 1))))) pss_nil)))
  (pss_one (ps_ret (pv 0))))), pu_zroot vs H Q E h⟩
abbrev st_ztwin_case : Stmt := top 20
theorem sc_ztwin_case : FnScope ["_law_bag_here", "_law_most", "_law_size", "_law_shift", "_law_start", "_law_letters", "_law_text", "_law_word_here", "_law_one", "_law_other", "_law_least", "_law_last", "_law_k"] ["_law_bag_here", "_law_most"] (defScope st_ztwin_case) := ⟨rfl, rfl, rfl, by decide +kernel, rfl, by decide +kernel, by decide +kernel⟩
theorem ok_ztwin_case (F : FnP K "_law_twin_case" st_ztwin_case f fd) (B : Blt mg) (kf : KF K) (c_take : Cal P w K mg base (k) "_law_take" 2 (sp_take K)) (c_zroot : Cal P w K mg base (k) "_law_root" 1 (sp_zroot K)) : Gf P w K mg base (k + 1) f fd ["_law_bag_here", "_law_most"] (sp_ztwin_case K) :=
  okG F sc_ztwin_case ln2 fun cdv A outer s H vs Q E hG hr h => by
    have hU := hr.units
    have hU0 := hr.units0
    have hU1 := u65 hr
    have hUR := u100 hr
    exact ⟨t_ztwin_case K, PSs.nox ((pss_cons (ps_set (i := 2) sc_ztwin_case.nd rfl (Or.inl rfl) (pe_op o_plus pe_int (g_call c_take hG hr (by rfl) passN (pa_cons (pv 0) (pa_cons pe_int pa_nil)))))
  (pss_cons (ps_set (i := 3) sc_ztwin_case.nd rfl (Or.inl rfl) (pe_op o_plus pe_int (g_call c_take hG hr (by rfl) passN (pa_cons (pv 0) (pa_cons (pe_op o_minus (pv 2) pe_int) pa_nil)))))
  (pss_cons (ps_set (i := 4) sc_ztwin_case.nd rfl (Or.inl rfl) (g_call c_take hG hr (by rfl) passN (pa_cons (pv 0) (pa_cons pe_int pa_nil))))
  (pss_cons (ps_set (i := 5) sc_ztwin_case.nd rfl (Or.inr rfl) (pe_slice o_sl pe_str (po_some (pv 4)) (po_some (pe_op o_plus (pv 4) pe_int))))
  (pss_cons (ps_set (i := 6) sc_ztwin_case.nd rfl (Or.inl rfl) (pe_join pe_str (pe_lc (own := [("_law_k", 12)]) (g := (gName 12)) (tt := tYes) (by rfl) sc_ztwin_case.nd (pi_range1 (by rfl) (B "range" (by decide)) (pa_cons (pv 2) pa_nil)) (blkOk_by (own := [("_law_k", 12)]) (N := ["_law_bag_here", "_law_most", "_law_size", "_law_shift", "_law_start", "_law_letters", "_law_text", "_law_word_here", "_law_one", "_law_other", "_law_least", "_law_last", "_law_k"]) (sc := defScope st_ztwin_case) (by decide +kernel)) (fun _ _ _ _ _ => (pg_name (i := 12) sc_ztwin_case.nd rfl (Or.inl rfl))) (fun _ _ _ _ _ => pts_nil) (fun _ _ _ _ _ => (pe_ix o_ix (pv 5) (g_call c_take hG hr (by rfl) passN (pa_cons (pv 0) (pa_cons pe_int pa_nil))) (fun _ _ => rfl))))))
  (pss_cons (ps_set (i := 7) sc_ztwin_case.nd rfl (Or.inl rfl) (pe_op o_plus (pe_op o_plus (pe_slice o_sl (pv 6) po_none (po_some (pv 3))) (pe_ix o_ix (pv 6) pe_int (fun _ _ => rfl))) (pe_slice o_sl (pv 6) (po_some (pe_op o_plus (pv 3) pe_int)) po_none)))
  (pss_cons (ps_if (pt_cmpR (o_ne hU) (g_call c_zroot hG hr (by rfl) passN (pa_cons (pv 7) pa_nil)) (pv 7) (nomark _)) (pss_cons (ps_set (i := 7) sc_ztwin_case.nd rfl (Or.inl rfl) (pe_op o_plus (pe_op o_times (pe_ix o_ix (pv 5) pe_int (fun _ _ => rfl)) (pe_op o_plus (pv 3) pe_int)) (pe_op o_times (pe_ix o_ix (pv 5) pe_int (fun _ _ => rfl)) (pe_op o_minus (pe_op o_minus (pv 2) (pv 3)) pe_int))))
  (pss_one (ps_if (pt_cmpR (o_eq hU) (pv 3) (pe_op o_minus (pv 2) pe_int) (nomark _)) (pss_one (ps_set (i := 7) sc_ztwin_case.nd rfl (Or.inl rfl) (pe_op o_plus (pe_op o_plus (pe_ix o_ix (pv 5) pe_int (fun _ _ => rfl)) (pe_op o_times (pe_ix o_ix (pv 5) pe_int (fun _ _ => rfl)) (pe_op o_minus (pv 2) pe_int))) (pe_ix o_ix (pv 5) pe_int (fun _ _ => rfl))))) pss_nil))) pss_nil)
  (pss_cons (ps_set (i := 8) sc_ztwin_case.nd rfl (Or.inl rfl) (pe_op o_plus (pv 3) (pe_op o_times (pv 2) (g_call c_take hG hr (by rfl) passN (pa_cons (pv 0) (pa_cons pe_int pa_nil))))))
  (pss_cons (ps_set (i := 9) sc_ztwin_case.nd rfl (Or.inl rfl) (pe_op o_plus (pv 8) (pe_op o_times (pv 2) (pe_op o_plus pe_int (g_call c_take hG hr (by rfl) passN (pa_cons (pv 0) (pa_cons pe_int pa_nil)))))))
  (pss_cons (ps_set (i := 10) sc_ztwin_case.nd rfl (Or.inl rfl) (pe_op o_times pe_int (pv 8)))
  (pss_cons (ps_while PassesOwn.never (pt_cmpR o_lt (pv 10) (pv 9) (nomark _))
  (pss_one (ps_set (i := 10) sc_ztwin_case.nd rfl (Or.inl rfl) (pe_op o_plus (pv 10) (pv 2)))))
  (pss_cons (ps_while PassesOwn.never (pt_cmpR o_ge (pe_op o_minus (pv 10) (pv 2)) (pv 9) (nomark _))
  (pss_one (ps_set (i := 10) sc_ztwin_case.nd rfl (Or.inl rfl) (pe_op o_minus (pv 10) (pv 2)))))
  (pss_cons (ps_set (i := 11) sc_ztwin_case.nd rfl (Or.inl rfl) (pe_op o_plus (pv 10) (pe_op o_times (pv 2) (g_call c_take hG hr (by rfl) passN (pa_cons (pv 0) (pa_cons (pe_op o_plus pe_int (pe_op o_div (pe_callB (o_max2 rfl) (by rfl) (B "max" (by decide)) (by decide +kernel) (pa_cons pe_int (pa_cons (pe_op o_minus (pv 1) (pv 10)) pa_nil))) (pv 2))) pa_nil))))))
  (pss_one (ps_ret (pe_tup (pa_cons (pv 7) (pa_cons (pv 8) (pa_cons (pv 9) (pa_cons (pv 11) pa_nil))))))))))))))))))))), pu_ztwin_case vs H Q E h⟩
abbrev st_ztriple_case : Stmt := top 21
theorem sc_ztriple_case : FnScope ["_law_bag_here", "_law_one", "_law_more", "_law_front", "_law_middle", "_law_word_here", "_law_many", "_law_other", "_law_k"] ["_law_bag_here"] (defScope st_ztriple_case) := ⟨rfl, rfl, rfl, by decide +kernel, rfl, by decide +kernel, by decide +kernel⟩
theorem ok_ztriple_case (F : FnP K "_law_triple_case" st_ztriple_case f fd) (B : Blt mg) (kf : KF K) (c_take : Cal P w K mg base (k) "_law_take" 2 (sp_take K)) (c_zroot : Cal P w K mg base (k) "_law_root" 1 (sp_zroot K)) : Gf P w K mg base (k + 1) f fd ["_law_bag_here"] (sp_ztriple_case K) :=
  okG F sc_ztriple_case ln1 fun cdv A outer s H vs Q E hG hr h => by
    have hU := hr.units
    have hU0 := hr.units0
    have hU1 := u65 hr
    have hUR := u100 hr
    exact ⟨t_ztriple_case K, PSs.nox ((pss_cons (ps_par (i := 1) (j := 2) (by rfl) sc_ztriple_case.nd rfl rfl (by decide) rfl rfl (pa_cons (pe_op o_plus pe_int (g_call c_take hG hr (by rfl) passN (pa_cons (pv 0) (pa_cons pe_int pa_nil)))) (pa_cons (pe_op o_plus pe_int (g_call c_take hG hr (by rfl) passN (pa_cons (pv 0) (pa_cons pe_int pa_nil)))) pa_nil)) (by rfl))
  (pss_cons (ps_set (i := 3) sc_ztriple_case.nd rfl (Or.inl rfl) (pe_join pe_str (pe_lc (own := [("_law_k", 8)]) (g := (gName 8)) (tt := tYes) (by rfl) sc_ztriple_case.nd (pi_range1 (by rfl) (B "range" (by decide)) (pa_cons (pv 1) pa_nil)) (blkOk_by (own := [("_law_k", 8)]) (N := ["_law_bag_here", "_law_one", "_law_more", "_law_front", "_law_middle", "_law_word_here", "_law_many", "_law_other", "_law_k"]) (sc := defScope st_ztriple_case) (by decide +kernel)) (fun _ _ _ _ _ => (pg_name (i := 8) sc_ztriple_case.nd rfl (Or.inl rfl))) (fun _ _ _ _ _ => pts_nil) (fun _ _ _ _ _ => (pe_ix o_ix pe_str (g_call c_take hG hr (by rfl) passN (pa_cons (pv 0) (pa_cons pe_int pa_nil))) (fun _ _ => rfl))))))
  (pss_cons (ps_set (i := 4) sc_ztriple_case.nd rfl (Or.inl rfl) (pe_op o_plus (pe_ix o_ix (pv 3) pe_int (fun _ _ => rfl)) (pe_join pe_str (pe_lc (own := [("_law_k", 8)]) (g := (gName 8)) (tt := tYes) (by rfl) sc_ztriple_case.nd (pi_range1 (by rfl) (B "range" (by decide)) (pa_cons (pv 2) pa_nil)) (blkOk_by (own := [("_law_k", 8)]) (N := ["_law_bag_here", "_law_one", "_law_more", "_law_front", "_law_middle", "_law_word_here", "_law_many", "_law_other", "_law_k"]) (sc := defScope st_ztriple_case) (by decide +kernel)) (fun _ _ _ _ _ => (pg_name (i := 8) sc_ztriple_case.nd rfl (Or.inl rfl))) (fun _ _ _ _ _ => pts_nil) (fun _ _ _ _ _ => (pe_ix o_ix pe_str (g_call c_take hG hr (by rfl) passN (pa_cons (pv 0) (pa_cons pe_int pa_nil))) (fun _ _ => rfl)))))))
  (pss_cons (ps_set (i := 5) sc_ztriple_case.nd rfl (Or.inl rfl) (pe_op o_plus (pe_op o_plus (pv 3) (pv 4)) (pv 3)))
  (pss_cons (ps_if (pt_cmpR (o_ne hU) (g_call c_zroot hG hr (by rfl) passN (pa_cons (pv 5) pa_nil)) (pv 5) (nomark _)) (pss_one (ps_set (i := 5) sc_ztriple_case.nd rfl (Or.inl rfl) (pe_op o_plus (pe_op o_plus (pe_op o_times pe_str (pe_op o_plus (pv 1) pe_int)) (pe_op o_times pe_str (pv 2))) (pe_op o_times pe_str (pv 1))))) pss_nil)
  (pss_cons (ps_set (i := 6) sc_ztriple_case.nd rfl (Or.inl rfl) (pe_op o_plus pe_int (g_call c_take hG hr (by rfl) passN (pa_cons (pv 0) (pa_cons pe_int pa_nil)))))
  (pss_cons (ps_set (i := 7) sc_ztriple_case.nd rfl (Or.inl rfl) (pe_op o_plus (pv 1) (pe_op o_times (pe_callB o_len (by rfl) (B "len" (by decide)) (by decide +kernel) (pa_cons (pv 5) pa_nil)) (pe_op o_plus pe_int (g_call c_take hG hr (by rfl) passN (pa_cons (pv 0) (pa_cons (pe_op o_minus (pv 6) pe_int) pa_nil)))))))
  (pss_one (ps_ret (pe_tup (pa_cons (pv 5) (pa_cons (pv 1) (pa_cons (pv 7) (pa_cons (pe_op o_plus (pe_op o_times pe_int (pv 1)) (pe_op o_times (pe_callB o_len (by rfl) (B "len" (by decide)) (by decide +kernel) (pa_cons (pv 5) pa_nil)) (pv 6))) pa_nil))))))))))))))), pu_ztriple_case vs H Q E h⟩
abbrev st_zrepeated : Stmt := top 18
theorem sc_zrepeated : FnScope ["_law_word_here", "_law_many"] ["_law_word_here", "_law_many"] (defScope st_zrepeated) := ⟨rfl, rfl, rfl, by decide +kernel, rfl, by decide +kernel, by decide +kernel⟩
theorem ok_zrepeated (F : FnP K "_law_repeated" st_zrepeated f fd) (B : Blt mg) (kf : KF K) : Gf P w K mg base (k + 1) f fd ["_law_word_here", "_law_many"] (sp_zrepeated K) :=
  okG F sc_zrepeated ln2 fun cdv A outer s H vs Q E hG hr h => by
    have hU := hr.units
    have hU0 := hr.units0
    have hU1 := u65 hr
    have hUR := u100 hr
    exact ⟨t_zrepeated K, PSs.nox ((pss_one (ps_ret (pe_slice o_sl (pe_op o_times (pv 0) (pe_op o_plus (pe_op o_div (pv 1) (pe_callB o_len (by rfl) (B "len" (by decide)) (by decide +kernel) (pa_cons (pv 0) pa_nil))) pe_int)) po_none (po_some (pv 1)))))), pu_zrepeated vs H Q E h⟩
abbrev st_ztwins : Stmt := top 22
theorem sc_ztwins : FnScope ["_law_case", "_law_word_here", "_law_one", "_law_other", "_law_last", "_law_first"] ["_law_case"] (defScope st_ztwins) := ⟨rfl, rfl, rfl, by decide +kernel, rfl, by decide +kernel, by decide +kernel⟩
theorem ok_ztwins (F : FnP K "_law_twins" st_ztwins f fd) (B : Blt mg) (kf : KF K) (c_zrepeated : Cal P w K mg base (k) "_law_repeated" 2 (sp_zrepeated K)) : Gf P w K mg base (k + 1) f fd ["_law_case"] (sp_ztwins K) :=
  okG F sc_ztwins ln1 fun cdv A outer s H vs Q E hG hr h => by
    have hU := hr.units
    have hU0 := hr.units0
    have hU1 := u65 hr
    have hUR := u100 hr
    exact ⟨t_ztwins K, PSs.nox ((pss_cons (ps_asg (pv 0) (pg_tup (by rfl) (pgs_cons (pg_name (i := 1) sc_ztwins.nd rfl (Or.inl rfl)) (pgs_cons (pg_name (i := 2) sc_ztwins.nd rfl (Or.inl rfl)) (pgs_cons (pg_name (i := 3) sc_ztwins.nd rfl (Or.inl rfl)) (pgs_cons (pg_name (i := 4) sc_ztwins.nd rfl (Or.inl rfl)) pgs_nil))))))
  (pss_cons (ps_set (i := 5) sc_ztwins.nd rfl (Or.inl rfl) (pe_op o_plus (g_call c_zrepeated hG hr (by rfl) passN (pa_cons (pv 1) (pa_cons (pv 3) pa_nil))) (g_call c_zrepeated hG hr (by rfl) passN (pa_cons (pv 1) (pa_cons (pe_op o_plus (pe_op o_minus (pv 4) (pv 3)) pe_int) pa_nil)))))
  (pss_one (ps_ret (pe_tup (pa_cons (pv 5) (pa_cons (pe_op o_plus (g_call c_zrepeated hG hr (by rfl) passN (pa_cons (pv 1) (pa_cons (pv 2) pa_nil))) (g_call c_zrepeated hG hr (by rfl) passN (pa_cons (pv 1) (pa_cons (pe_op o_plus (pe_op o_minus (pv 4) (pv 2)) pe_int) pa_nil)))) pa_nil)))))))), pu_ztwins vs H Q E h⟩
abbrev st_zscene : Stmt := top 26
theorem sc_zscene : FnScope ["_law_bag_here", "_law_way", "_law_case", "_law_row_here", "_law_k", "_law_at"] ["_law_bag_here"] (defScope st_zscene) := ⟨rfl, rfl, rfl, by decide +kernel, rfl, by decide +kernel, by decide +kernel⟩
theorem ok_zscene (F : FnP K "_law_scene" st_zscene f fd) (B : Blt mg) (kf : KF K) (c_take : Cal P w K mg base (k) "_law_take" 2 (sp_take K)) (c_called : Cal P w K mg base (k) "_law_called" 2 (sp_called K)) (c_zplace : Cal P w K mg base (k) "_law_place" 2 (sp_zplace K)) (c_row : Cal P w K mg base (k) "_law_row" 2 (sp_row K)) (c_ztwins : Cal P w K mg base (k) "_law_twins" 1 (sp_ztwins K)) (c_ztriple_case : Cal P w K mg base (k) "_law_triple_case" 1 (sp_ztriple_case K)) (c_ztwin_case : Cal P w K mg base (k) "_law_twin_case" 2 (sp_ztwin_case K)) (c_any_row : Cal P w K mg base (k) "_law_any_row" 2 (sp_any_row K)) : Gf P w K mg base (k + 1) f fd ["_law_bag_here"] (sp_zscene K) :=
  okG F sc_zscene ln1 fun cdv A outer s H vs Q E hG hr h => by
    have hU := hr.units
    have hU0 := hr.units0
    have hU1 := u65 hr
    have hUR := u100 hr
    exact ⟨t_zscene K, PSs.nox ((pss_cons (ps_set (i := 1) sc_zscene.nd rfl (Or.inl rfl) (g_call c_take hG hr (by rfl) passN (pa_cons (pv 0) (pa_cons pe_int pa_nil))))
  (pss_cons (ps_if (pt_cmpR o_lt (pv 1) pe_int (nomark _)) (pss_one (ps_ret (g_call c_any_row hG hr (by rfl) passN (pa_cons (pv 0) (pa_cons (pe_ix o_ix (pe_lst (pa_cons pe_int (pa_cons pe_int pa_nil))) (pv 1) (fun _ _ => rfl)) pa_nil))))) pss_nil)
  (pss_cons (ps_if (PW.pt (pw_or (pt_cmpR (o_eq hU) (pv 1) pe_int (nomark _)) (pw_or1 (pt_cmpR (o_eq hU) (pv 1) pe_int (nomark _))))) (pss_cons (ps_set (i := 2) sc_zscene.nd rfl (Or.inl rfl) (pe_ix o_ix (pe_lst (pa_cons (g_call c_ztwin_case hG hr (by rfl) passN (pa_cons (pv 0) (pa_cons pe_int pa_nil))) (pa_cons (g_call c_ztriple_case hG hr (by rfl) passN (pa_cons (pv 0) pa_nil)) pa_nil))) (pe_op o_minus (pv 1) pe_int) (fun _ _ => rfl)))
  (pss_one (ps_ret (g_call c_called hG hr (by rfl) passN (pa_cons (pe_ix o_ix (g_call c_ztwins hG hr (by rfl) passN (pa_cons (pv 2) pa_nil)) pe_int (fun _ _ => rfl)) (pa_cons (pe_ix o_ix (pv 2) pe_int (fun _ _ => rfl)) pa_nil)))))) pss_nil)
  (pss_cons (ps_set (i := 3) sc_zscene.nd rfl (Or.inl rfl) (g_call c_row hG hr (by rfl) passN (pa_cons (pv 0) (pa_cons (pe_ix o_ix (pe_lst (pa_cons pe_int (pa_cons pe_int (pa_cons pe_int pa_nil)))) (pe_op o_mod (pv 1) pe_int) (fun _ _ => rfl)) pa_nil))))
  (pss_cons (ps_for PassesOwn.never rfl (pi_range1 (by rfl) (B "range" (by decide)) (pa_cons (pe_ix o_ix (pe_lst (pa_cons pe_int (pa_cons pe_int (pa_cons pe_int pa_nil)))) (pe_op o_mod (pv 1) pe_int) (fun _ _ => rfl)) pa_nil)) (pg_name (i := 4) sc_zscene.nd rfl (Or.inl rfl))
  (pss_one (ps_set (i := 3) sc_zscene.nd rfl (Or.inl rfl) (g_call c_called hG hr (by rfl) passN (pa_cons (pv 3) (pa_cons (g_call c_zplace hG hr (by rfl) passN (pa_cons (pv 0) (pa_cons (pe_op o_minus (pe_callB o_len (by rfl) (B "len" (by decide)) (by decide +kernel) (pa_cons (pv 3) pa_nil)) pe_int) pa_nil))) pa_nil))))))
  (pss_cons (ps_if (pt_cmpR (o_eq hU) (pv 1) pe_int (nomark _)) (pss_cons (ps_set (i := 5) sc_zscene.nd rfl (Or.inl rfl) (g_call c_take hG hr (by rfl) passN (pa_cons (pv 0) (pa_cons (pe_callB o_len (by rfl) (B "len" (by decide)) (by decide +kernel) (pa_cons (pv 3) pa_nil)) pa_nil))))
  (pss_one (ps_set (i := 3) sc_zscene.nd rfl (Or.inl rfl) (pe_op o_plus (pe_op o_plus (pe_slice o_sl (pv 3) po_none (po_some (pv 5))) (pe_ix o_ix pe_str (g_call c_take hG hr (by rfl) passN (pa_cons (pv 0) (pa_cons pe_int pa_nil))) (fun _ _ => rfl))) (pe_slice o_sl (pv 3) (po_some (pe_op o_plus (pv 5) pe_int)) po_none))))) pss_nil)
  (pss_one (ps_ret (pv 3)))))))))), pu_zscene vs H Q E h⟩
abbrev st_zelders : Stmt := top 23
theorem sc_zelders : FnScope ["_law_row_here", "_law_size", "_law_found", "_law_place_here", "_law_one"] ["_law_row_here"] (defScope st_zelders) := ⟨rfl, rfl, rfl, by decide +kernel, rfl, by decide +kernel, by decide +kernel⟩
theorem ok_zelders (F : FnP K "_law_elders" st_zelders f fd) (B : Blt mg) (kf : KF K) (c_called : Cal P w K mg base (k) "_law_called" 2 (sp_called K)) : Gf P w K mg base (k + 1) f fd ["_law_row_here"] (sp_zelders K) :=
  okG F sc_zelders ln1 fun cdv A outer s H vs Q E hG hr h => by
    have hU := hr.units
    have hU0 := hr.units0
    have hU1 := u65 hr
    have hUR := u100 hr
    exact ⟨t_zelders K, PSs.nox ((pss_cons (ps_asg (pe_tup (pa_cons (pe_op o_div (pe_op o_plus (pe_callB o_len (by rfl) (B "len" (by decide)) (by decide +kernel) (pa_cons (pv 0) pa_nil)) pe_int) pe_int) (pa_cons pe_dnewK pa_nil))) (pg_tup (by rfl) (pgs_cons (pg_name (i := 1) sc_zelders.nd rfl (Or.inl rfl)) (pgs_cons (pg_name (i := 2) sc_zelders.nd rfl (Or.inr rfl)) pgs_nil))))
  (pss_cons (ps_for PassesOwn.never rfl (pi_range1 (by rfl) (B "range" (by decide)) (pa_cons (pe_op o_times (pv 1) (pe_op o_mod (pe_callB o_len (by rfl) (B "len" (by decide)) (by decide +kernel) (pa_cons (pv 0) pa_nil)) pe_int)) pa_nil)) (pg_name (i := 3) sc_zelders.nd rfl (Or.inl rfl))
  (pss_cons (ps_set (i := 4) sc_zelders.nd rfl (Or.inl rfl) (pe_slice o_sl (pv 0) (po_some (pv 3)) (po_some (pe_op o_plus (pv 3) (pv 1)))))
  (pss_one (ps_if (pt_cmpR (o_eq hU) (g_call c_called hG hr (by rfl) passN (pa_cons (pv 4) (pa_cons (pv 3) pa_nil))) (pv 0) (nomark _)) (pss_one (ps_dput (uD hU1) (pv 2) (pv 4) (pe_op o_plus (pe_dget2 (uD hU1) (pv 2) (pv 4) (pe_lst pa_nil) ⟨rfl, rfl, rfl, rfl⟩) (pe_lst (pa_cons (pv 3) pa_nil))) rfl)) pss_nil))))
  (pss_one (ps_ret (pe_lock (pe_lc (own := [("_law_one", 4)]) (g := (gName 4)) (tt := tYes) (by rfl) sc_zelders.nd (pi_keys (pv 2)) (blkOk_by (own := [("_law_one", 4)]) (N := ["_law_row_here", "_law_size", "_law_found", "_law_place_here", "_law_one"]) (sc := defScope st_zelders) (by decide +kernel)) (fun _ _ _ _ _ => (pg_name (i := 4) sc_zelders.nd rfl (Or.inl rfl))) (fun _ _ _ _ _ => pts_nil) (fun _ _ _ _ _ => (pe_tup (pa_cons (pv 4) (pa_cons (pe_dget (uD hU1) (pv 2) (pv 4) (fun _ _ => rfl)) pa_nil))))))))))), pu_zelders vs H Q E h⟩
abbrev st_zdue : Stmt := top 29
theorem sc_zdue : FnScope ["_law_row_here", "_law_due_here"] ["_law_row_here"] (defScope st_zdue) := ⟨rfl, rfl, rfl, by decide +kernel, rfl, by decide +kernel, by decide +kernel⟩
theorem ok_zdue (F : FnP K "_law_due" st_zdue f fd) (B : Blt mg) (kf : KF K) (c_zelders : Cal P w K mg base (k) "_law_elders" 1 (sp_zelders K)) : Gf P w K mg base (k + 1) f fd ["_law_row_here"] (sp_zdue K) :=
  okG F sc_zdue ln1 fun cdv A outer s H vs Q E hG hr h => by
    have hU := hr.units
    have hU0 := hr.units0
    have hU1 := u65 hr
    have hUR := u100 hr
    exact ⟨t_zdue K, PSs.nox ((pss_cons (ps_set (i := 1) sc_zdue.nd rfl (Or.inl rfl) (g_call c_zelders hG hr (by rfl) passN (pa_cons (pv 0) pa_nil)))
  (pss_cons (ps_if (pt_cmpR (o_eq hU) (pv 1) (pe_lst pa_nil) (nomark _)) (pss_one (ps_ret (pe_tup (pa_cons pe_str (pa_cons pe_non pa_nil))))) pss_nil)
  (pss_one (ps_ret (pe_ifExp (pt_cmpR (o_eq hU) (pe_callB o_len (by rfl) (B "len" (by decide)) (by decide +kernel) (pa_cons (pv 1) pa_nil)) pe_int (nomark _)) (pe_tup (pa_cons pe_str (pa_cons (pe_ix o_ix (pv 1) pe_int (fun _ _ => rfl)) pa_nil))) (pe_tup (pa_cons pe_str (pa_cons (pe_callB o_len (by rfl) (B "len" (by decide)) (by decide +kernel) (pa_cons (pv 1) pa_nil)) pa_nil))))))))), pu_zdue kf vs H Q E h⟩
abbrev st_elder_last : Stmt := top 7
theorem sc_elder_last : FnScope ["row"] ["row"] (defScope st_elder_last) := ⟨rfl, rfl, rfl, by decide +kernel, rfl, by decide +kernel, by decide +kernel⟩
theorem ok_elder_last (F : FnP K "elder_last" st_elder_last f fd) (B : Blt mg) (kf : KF K) : Gf P w K mg base (k + 1) f fd ["row"] (sp_elder_last K) :=
  okG F sc_elder_last ln1 fun cdv A outer s H vs Q E hG hr h => by
    have hU := hr.units
    have hU0 := hr.units0
    have hU1 := u65 hr
    have hUR := u100 hr
    exact ⟨t_elder_last K, PSs.nox ((pss_one (ps_ret (pe_op o_div (pe_op o_minus (pe_callB o_len (by rfl) (B "len" (by decide)) (by decide +kernel) (pa_cons (pv 0) pa_nil)) pe_int) pe_int)))), pu_elder_last vs H Q E h⟩
abbrev st_is_called : Stmt := top 8
theorem sc_is_called : FnScope ["row", "place", "middle"] ["row", "place"] (defScope st_is_called) := ⟨rfl, rfl, rfl, by decide +kernel, rfl, by decide +kernel, by decide +kernel⟩
theorem ok_is_called (F : FnP K "is_called" st_is_called f fd) (B : Blt mg) (kf : KF K) (c_elder_last : Cal P w K mg base (k) "elder_last" 1 (sp_elder_last K)) : Gf P w K mg base (k + 1) f fd ["row", "place"] (sp_is_called K) :=
  okG F sc_is_called ln2 fun cdv A outer s H vs Q E hG hr h => by
    have hU := hr.units
    have hU0 := hr.units0
    have hU1 := u65 hr
    have hUR := u100 hr
    exact ⟨t_is_called K, PSs.nox ((pss_cons (ps_set (i := 2) sc_is_called.nd rfl (Or.inl rfl) (pe_op o_plus (pe_op o_plus (pv 1) (g_call c_elder_last hG hr (by rfl) passN (pa_cons (pv 0) pa_nil))) pe_int))
  (pss_one (ps_ret (pe_and (pe_cmpR (o_eq hU) (pe_slice o_sl (pv 0) po_none (po_some (pv 1))) (pe_slice o_sl (pv 0) (po_some (pv 1)) (po_some (pe_op o_times pe_int (pv 1)))) (nomark _)) (pe_one (pe_cmpR (o_eq hU) (pe_slice o_sl (pv 0) (po_some (pe_op o_plus (pe_op o_times pe_int (pv 1)) pe_int)) (po_some (pv 2))) (pe_slice o_sl (pv 0) (po_some (pv 2)) po_none) (nomark _)))))))), pu_is_called vs H Q E h⟩
abbrev st_elders : Stmt := top 9
theorem sc_elders : FnScope ["row", "found", "last", "place"] ["row"] (defScope st_elders) := ⟨rfl, rfl, rfl, by decide +kernel, rfl, by decide +kernel, by decide +kernel⟩
theorem ok_elders (F : FnP K "elders" st_elders f fd) (B : Blt mg) (kf : KF K) (c_is_called : Cal P w K mg base (k) "is_called" 2 (sp_is_called K)) (c_elder_last : Cal P w K mg base (k) "elder_last" 1 (sp_elder_last K)) : Gf P w K mg base (k + 1) f fd ["row"] (sp_elders K) :=
  okG F sc_elders ln1 fun cdv A outer s H vs Q E hG hr h => by
    have hU := hr.units
    have hU0 := hr.units0
    have hU1 := u65 hr
    have hUR := u100 hr
    exact ⟨t_elders K, PSs.nox ((pss_cons (ps_set (i := 1) sc_elders.nd rfl (Or.inl rfl) pe_dnewK)
  (pss_cons (ps_if (pt_cmpR (o_eq hU) (pe_op o_mod (pe_callB o_len (by rfl) (B "len" (by decide)) (by decide +kernel) (pa_cons (pv 0) pa_nil)) pe_int) pe_int (nomark _)) (pss_cons (ps_set (i := 2) sc_elders.nd rfl (Or.inl rfl) (g_call c_elder_last hG hr (by rfl) passN (pa_cons (pv 0) pa_nil)))
  (pss_one (ps_for PassesOwn.never rfl (pi_range1 (by rfl) (B "range" (by decide)) (pa_cons (pe_op o_plus (pv 2) pe_int) pa_nil)) (pg_name (i := 3) sc_elders.nd rfl (Or.inl rfl))
  (pss_one (ps_if (g_truth (g_call c_is_called hG hr (by rfl) passN (pa_cons (pv 0) (pa_cons (pv 3) pa_nil)))) (pss_one (ps_expr (pe_bm PySem.F.plainAttrs_list PySem.F.slot_list_append PySem.F.type_list_append mt_append (pe_dsetd (pv 1) (pe_slice o_sl (pv 0) (po_some (pv 3)) (po_some (pe_op o_plus (pe_op o_plus (pv 3) (pv 2)) pe_int))) (pe_lst pa_nil) ⟨rfl, rfl, rfl, rfl⟩) (pa_cons (pv 3) pa_nil)))) pss_nil))))) pss_nil)
  (pss_one (ps_ret (LiI.pe_listItems rfl (pv 1) (by rfl) (B "list" (by decide)) (by decide +kernel))))))), pu_elders vs H Q E h⟩
abbrev st_elder : Stmt := top 10
theorem sc_elder : FnScope ["row", "found"] ["row"] (defScope st_elder) := ⟨rfl, rfl, rfl, by decide +kernel, rfl, by decide +kernel, by decide +kernel⟩
theorem ok_elder (F : FnP K "elder" st_elder f fd) (B : Blt mg) (kf : KF K) (c_elders : Cal P w K mg base (k + 1) "elders" 1 (sp_elders K)) (e_Several : ErrC P K mg "Several" (eC K "Several") "many") (e_NoElder : ErrC1 P K mg "NoElder" (eC K "NoElder")) : Gf P w K mg base (k + 1 + 1) f fd ["row"] (sp_elder K) :=
  okG F sc_elder ln1 fun cdv A outer s H vs Q E hG hr h => by
    have hU := hr.units
    have hU0 := hr.units0
    have hU1 := u65 hr
    have hUR := u100 hr
    have hr1 := hr.mono (j := 1) (by omega)
    have tk := takesX (P := P) (w := w) (K := K) (mg := mg) (base := base) (N := ["row", "found"]) (qual := "elder") (scope := defScope st_elder) (f := f) (cdv := cdv) (A := A) (outer := outer) (s := s) (H := H) (E := E)
    have po := ownsX (P := P) (w := w) (K := K) (mg := mg) (base := base) (N := ["row", "found"]) (qual := "elder") (scope := defScope st_elder) (f := f) (cdv := cdv) (A := A) (outer := outer) (s := s) (H := H) (E := E)
    exact ⟨t_elder K E, (pss_cons (ps_set (i := 1) sc_elder.nd rfl (Or.inl rfl) (g_call c_elders hG hr (by rfl) passN (pa_cons (pv 0) pa_nil)))
  (pss_cons (ps_if (pt_cmpR (o_eq hU) (pv 1) (pe_lst pa_nil) (nomark _)) (pss_one (ps_err1 rfl tk e_NoElder hr1 (by rfl))) pss_nil)
  (pss_cons (ps_if (pt_cmpR o_gt (pe_callB o_len (by rfl) (B "len" (by decide)) (by decide +kernel) (pa_cons (pv 1) pa_nil)) pe_int (nomark _)) (pss_one (ps_err rfl tk e_Several hr1 (by rfl) (pe_callB o_len (by rfl) (B "len" (by decide)) (by decide +kernel) (pa_cons (pv 1) pa_nil)))) pss_nil)
  (pss_one (ps_ret (pe_ix o_ix (pv 1) pe_int (fun _ _ => rfl))))))), pu_elder kf vs H Q E h⟩
abbrev st_ztold : Stmt := top 28
theorem sc_ztold : FnScope ["_law_row_here", "e"] ["_law_row_here"] (defScope st_ztold) := ⟨rfl, rfl, rfl, by decide +kernel, rfl, by decide +kernel, by decide +kernel⟩
theorem ok_ztold (F : FnP K "_law_told" st_ztold f fd) (B : Blt mg) (kf : KF K) (c_elder : Cal P w K mg base (k) "elder" 1 (sp_elder K)) (gc_NoElder : ∃ u, mg "NoElder" = some u ∧ RelV (.ref (eC K "NoElder")) u) (mc_NoElder : mg "NoElder" = some (.ref (eC K "NoElder"))) (gc_Several : ∃ u, mg "Several" = some u ∧ RelV (.ref (eC K "Several")) u) (mc_Several : mg "Several" = some (.ref (eC K "Several"))) (gc_Wrong : ∃ u, mg "Wrong" = some u ∧ RelV (.ref (eC K "Wrong")) u) (mc_Wrong : mg "Wrong" = some (.ref (eC K "Wrong"))) (gc_EqualEnds : ∃ u, mg "EqualEnds" = some u ∧ RelV (.ref (eC K "EqualEnds")) u) (mc_EqualEnds : mg "EqualEnds" = some (.ref (eC K "EqualEnds"))) (gc_OwnError : ∃ u, mg "OwnError" = some u ∧ RelV (.ref (eC K "OwnError")) u) (mc_OwnError : mg "OwnError" = some (.ref (eC K "OwnError"))) : Gf P w K mg base (k + 1) f fd ["_law_row_here"] (sp_ztold K) :=
  okG F sc_ztold ln1 fun cdv A outer s H vs Q E hG hr h => by
    have hU := hr.units
    have hU0 := hr.units0
    have hU1 := u65 hr
    have hUR := u100 hr
    exact ⟨t_ztold K, PSs.nox ((pss_cons (ps_try_as rfl rfl sc_ztold.nd rfl rfl (names_own (by rfl) mc_OwnError) takes0 (fun W pn xe tkW poW => (pss_one (ps_ret (pe_tup (pa_cons pe_str (pa_cons (g_call c_elder hG hr (by rfl) (passG tkW) (pa_cons (pv 0) pa_nil)) pa_nil)))))) (fun a0 oe cls0 d0 pn hz hf => (pss_cons (ps_if (PW.pt (pw_or (g_truth (pe_callB (call_isE2T hz hf) (by rfl) (B "isinstance" (by decide)) (by decide +kernel) (pa_cons (pv 1) (pa_cons (pe_tup (pa_cons (pe_gc rfl gc_EqualEnds) (pa_cons (pe_gc rfl gc_Wrong) pa_nil))) pa_nil)))) (pw_or1 (pt_not (g_truth (pe_callB (call_isE2 hz hf) (by rfl) (B "isinstance" (by decide)) (by decide +kernel) (pa_cons (pv 1) (pa_cons (pe_bltn (by rfl) (B "ValueError" (by decide)) (by decide +kernel) rfl) pa_nil)))))))) (pss_one (ps_ret (pe_tup (pa_cons pe_str (pa_cons pe_non pa_nil))))) pss_nil)
  (pss_cons (ps_if (PW.pt (pw_and (g_truth (pe_callB (call_isE2 hz hf) (by rfl) (B "isinstance" (by decide)) (by decide +kernel) (pa_cons (pv 1) (pa_cons (pe_gc rfl gc_NoElder) pa_nil)))) (pw_and1 (pt_not (g_truth (pe_callB (call_isE2 hz hf) (by rfl) (B "isinstance" (by decide)) (by decide +kernel) (pa_cons (pv 1) (pa_cons (pe_gc rfl gc_Several) pa_nil)))))))) (pss_one (ps_ret (pe_tup (pa_cons pe_str (pa_cons pe_non pa_nil))))) pss_nil)
  (pss_one (ps_if (PW.pt (pw_and (g_truth (pe_callB (call_isE2 hz hf) (by rfl) (B "isinstance" (by decide)) (by decide +kernel) (pa_cons (pv 1) (pa_cons (pe_gc rfl gc_Several) pa_nil)))) (pw_and1 (pt_not (g_truth (pe_callB (call_isE2 hz hf) (by rfl) (B "isinstance" (by decide)) (by decide +kernel) (pa_cons (pv 1) (pa_cons (pe_gc rfl gc_NoElder) pa_nil)))))))) (pss_one (ps_ret (pe_tup (pa_cons pe_str (pa_cons (pe_ef hz hf (pv 1)) pa_nil))))) pss_nil))))))
  (pss_one (ps_ret (pe_tup (pa_cons pe_str (pa_cons pe_non pa_nil))))))), pu_ztold kf vs H Q E h⟩
abbrev st_alike : Stmt := top 14
theorem sc_alike : FnScope ["_law_found", "_law_due_here"] ["_law_found", "_law_due_here"] (defScope st_alike) := ⟨rfl, rfl, rfl, by decide +kernel, rfl, by decide +kernel, by decide +kernel⟩
theorem ok_alike (F : FnP K "_law_alike" st_alike f fd) (B : Blt mg) (kf : KF K) : Gf P w K mg base (k + 1) f fd ["_law_found", "_law_due_here"] (sp_alike K) :=
  okG F sc_alike ln2 fun cdv A outer s H vs Q E hG hr h => by
    have hU := hr.units
    have hU0 := hr.units0
    have hU1 := u65 hr
    have hUR := u100 hr
    exact ⟨t_alike K, PSs.nox ((pss_one (ps_ret (pe_and (pe_cmpR (o_eq hU) (pv 0) (pv 1) (nomark _)) (pe_one (pe_cmpR (o_eq hU) (pe_callB (call_reprD hG hUR) (by rfl) (B "repr" (by decide)) (by decide +kernel) (pa_cons (pv 0) pa_nil)) (pe_callB (call_reprD hG hUR) (by rfl) (B "repr" (by decide)) (by decide +kernel) (pa_cons (pv 1) pa_nil)) (nomark _))))))), pu_alike vs H Q E h⟩
abbrev st_zlong_row : Stmt := top 27
theorem sc_zlong_row : FnScope ["_law_bag_here", "_law_size", "_law_way", "_law_row_here"] ["_law_bag_here"] (defScope st_zlong_row) := ⟨rfl, rfl, rfl, by decide +kernel, rfl, by decide +kernel, by decide +kernel⟩
theorem ok_zlong_row (F : FnP K "_law_long_row" st_zlong_row f fd) (B : Blt mg) (kf : KF K) (c_called : Cal P w K mg base (k) "_law_called" 2 (sp_called K)) (c_zplace : Cal P w K mg base (k) "_law_place" 2 (sp_zplace K)) (c_row : Cal P w K mg base (k) "_law_row" 2 (sp_row K)) (c_take : Cal P w K mg base (k) "_law_take" 2 (sp_take K)) : Gf P w K mg base (k + 1) f fd ["_law_bag_here"] (sp_zlong_row K) :=
  okG F sc_zlong_row ln1 fun cdv A outer s H vs Q E hG hr h => by
    have hU := hr.units
    have hU0 := hr.units0
    have hU1 := u65 hr
    have hUR := u100 hr
    exact ⟨t_zlong_row K, PSs.nox ((pss_cons (ps_par (i := 1) (j := 2) (by rfl) sc_zlong_row.nd rfl rfl (by decide) rfl rfl (pa_cons (pe_ix o_ix (pe_lst (pa_cons pe_int (pa_cons pe_int (pa_cons pe_int (pa_cons (pe_op o_plus pe_int (g_call c_take hG hr (by rfl) passN (pa_cons (pv 0) (pa_cons pe_int pa_nil)))) pa_nil))))) (g_call c_take hG hr (by rfl) passN (pa_cons (pv 0) (pa_cons pe_int pa_nil))) (fun _ _ => rfl)) (pa_cons (g_call c_take hG hr (by rfl) passN (pa_cons (pv 0) (pa_cons pe_int pa_nil))) pa_nil)) (by rfl))
  (pss_cons (ps_if (pt_cmpR o_lt (pv 2) pe_int (nomark _)) (pss_one (ps_ret (pe_slice o_sl (pe_op o_times (pe_ix o_ix (pe_lst (pa_cons pe_str (pa_cons pe_str (pa_cons pe_str pa_nil)))) (pv 2) (fun _ _ => rfl)) (pv 1)) po_none (po_some (pv 1))))) pss_nil)
  (pss_cons (ps_set (i := 3) sc_zlong_row.nd rfl (Or.inl rfl) (g_call c_row hG hr (by rfl) passN (pa_cons (pv 0) (pa_cons pe_int pa_nil))))
  (pss_one (ps_ret (g_call c_called hG hr (by rfl) passN (pa_cons (pv 3) (pa_cons (g_call c_zplace hG hr (by rfl) passN (pa_cons (pv 0) (pa_cons (pe_op o_minus (pe_callB o_len (by rfl) (B "len" (by decide)) (by decide +kernel) (pa_cons (pv 3) pa_nil)) pe_int) pa_nil))) pa_nil))))))))), pu_zlong_row vs H Q E h⟩
abbrev st_law : Stmt := top 30
theorem sc_law : FnScope ["_law_script", "_law_bag_here", "_law_rows", "_law_row_here", "_law_due_here", "_law_found", "_law_turn"] ["_law_script"] (defScope st_law) := ⟨rfl, rfl, rfl, by decide +kernel, rfl, by decide +kernel, by decide +kernel⟩
theorem ok_law (F : FnP K "law" st_law f fd) (B : Blt mg) (kf : KF K) (c_zlong_row : Cal P w K mg base (k) "_law_long_row" 1 (sp_zlong_row K)) (c_alike : Cal P w K mg base (k) "_law_alike" 2 (sp_alike K)) (c_ztold : Cal P w K mg base (k) "_law_told" 1 (sp_ztold K)) (c_zdue : Cal P w K mg base (k) "_law_due" 1 (sp_zdue K)) (c_take : Cal P w K mg base (k) "_law_take" 2 (sp_take K)) (c_zscene : Cal P w K mg base (k) "_law_scene" 1 (sp_zscene K)) (c_bag : Cal P w K mg base (k) "_law_bag" 1 (sp_bag K)) : Gf P w K mg base (k + 1) f fd ["_law_script"] (sp_law K) :=
  okG F sc_law ln1 fun cdv A outer s H vs Q E hG hr h => by
    have hU := hr.units
    have hU0 := hr.units0
    have hU1 := u65 hr
    have hUR := u100 hr
    exact ⟨t_law K, PSs.nox ((pss_cons (ps_set (i := 1) sc_law.nd rfl (Or.inr rfl) (g_call c_bag hG hr (by rfl) passN (pa_cons (pv 0) pa_nil)))
  (pss_cons (ps_setLc (i := 2) (own := [("_law_turn", 6)]) (g := (gName 6)) (tt := tYes) (by rfl) sc_law.nd rfl rfl (sw_true rfl rfl rfl (by decide +kernel)) (pi_range1 (by rfl) (B "range" (by decide)) (pa_cons pe_int pa_nil)) (blkOk_by (own := [("_law_turn", 6)]) (N := ["_law_script", "_law_bag_here", "_law_rows", "_law_row_here", "_law_due_here", "_law_found", "_law_turn"]) (sc := defScope st_law) (by decide +kernel)) (fun _ _ _ _ _ => (pg_name (i := 6) sc_law.nd rfl (Or.inl rfl))) (fun _ _ _ _ _ => pts_nil) (fun _ _ _ _ _ => (g_call c_zscene hG hr (by rfl) passN (pa_cons (pv 1) pa_nil))))
  (pss_cons (ps_set (i := 2) sc_law.nd rfl (Or.inl rfl) (pe_op o_plus (pv 2) (pe_lst (pa_cons (pe_op o_times pe_str (pe_op o_plus pe_int (g_call c_take hG hr (by rfl) passN (pa_cons (pv 1) (pa_cons pe_int pa_nil))))) (pa_cons (pe_slice o_sl (pe_op o_times pe_str pe_int) po_none (po_some (pe_op o_plus pe_int (g_call c_take hG hr (by rfl) passN (pa_cons (pv 1) (pa_cons pe_int pa_nil)))))) pa_nil)))))
  (pss_cons (ps_for PassesOwn.never rfl (pi_list (pe_op o_plus (pe_op o_plus (pv 2) (pe_lst (pa_cons (g_call c_zlong_row hG hr (by rfl) passN (pa_cons (pv 1) pa_nil)) pa_nil))) (pe_slice o_sl (pv 2) po_none (po_some pe_int)))) (pg_name (i := 3) sc_law.nd rfl (Or.inl rfl))
  (pss_cons (ps_set (i := 4) sc_law.nd rfl (Or.inl rfl) (g_call c_zdue hG hr (by rfl) passN (pa_cons (pv 3) pa_nil)))
  (pss_cons (ps_set (i := 5) sc_law.nd rfl (Or.inl rfl) (g_call c_ztold hG hr (by rfl) passN (pa_cons (pv 3) pa_nil)))
  (pss_cons (ps_if (pt_not (g_truth (g_call c_alike hG hr (by rfl) passN (pa_cons (pv 5) (pa_cons (pv 4) pa_nil))))) (pss_one (ps_ret pe_bl)) pss_nil)
  (pss_one (ps_if (pt_cmpR (o_eq hU) (pe_ix o_ix (pv 5) pe_int (fun _ _ => rfl)) pe_str (nomark _)) (pss_one (ps_expr (pe_bm PySem.F.plainAttrs_list PySem.F.slot_list_append PySem.F.type_list_append mt_append (pe_ix o_ix (pe_ix o_ix (pv 5) pe_int (fun _ _ => rfl)) pe_int (fun _ _ => rfl)) (pa_cons pe_int pa_nil)))) pss_nil))))))
  (pss_one (ps_ret pe_bl))))))), pu_law kf vs H Q E h⟩
end
def d_bag : He.DefD := ⟨("_law_bag", none), "_law_bag", "_law_bag", defArgs st_bag, defBody st_bag, defScope st_bag, [], []⟩
def d_take : He.DefD := ⟨("_law_take", none), "_law_take", "_law_take", defArgs st_take, defBody st_take, defScope st_take, [], []⟩
def d_word : He.DefD := ⟨("_law_word", none), "_law_word", "_law_word", defArgs st_word, defBody st_word, defScope st_word, [], []⟩
def d_row : He.DefD := ⟨("_law_row", none), "_law_row", "_law_row", defArgs st_row, defBody st_row, defScope st_row, [], []⟩
def d_any_row : He.DefD := ⟨("_law_any_row", none), "_law_any_row", "_law_any_row", defArgs st_any_row, defBody st_any_row, defScope st_any_row, [], []⟩
def d_called : He.DefD := ⟨("_law_called", none), "_law_called", "_law_called", defArgs st_called, defBody st_called, defScope st_called, [], []⟩
def d_zplace : He.DefD := ⟨("_law_place", none), "_law_place", "_law_place", defArgs st_zplace, defBody st_zplace, defScope st_zplace, [], []⟩
def d_zroot : He.DefD := ⟨("_law_root", none), "_law_root", "_law_root", defArgs st_zroot, defBody st_zroot, defScope st_zroot, [], []⟩
def d_ztwin_case : He.DefD := ⟨("_law_twin_case", none), "_law_twin_case", "_law_twin_case", defArgs st_ztwin_case, defBody st_ztwin_case, defScope st_ztwin_case, [], []⟩
def d_ztriple_case : He.DefD := ⟨("_law_triple_case", none), "_law_triple_case", "_law_triple_case", defArgs st_ztriple_case, defBody st_ztriple_case, defScope st_ztriple_case, [], []⟩
def d_zrepeated : He.DefD := ⟨("_law_repeated", none), "_law_repeated", "_law_repeated", defArgs st_zrepeated, defBody st_zrepeated, defScope st_zrepeated, [], []⟩
def d_ztwins : He.DefD := ⟨("_law_twins", none), "_law_twins", "_law_twins", defArgs st_ztwins, defBody st_ztwins, defScope st_ztwins, [], []⟩
def d_zscene : He.DefD := ⟨("_law_scene", none), "_law_scene", "_law_scene", defArgs st_zscene, defBody st_zscene, defScope st_zscene, [], []⟩
def d_zelders : He.DefD := ⟨("_law_elders", none), "_law_elders", "_law_elders", defArgs st_zelders, defBody st_zelders, defScope st_zelders, [], []⟩
def d_zdue : He.DefD := ⟨("_law_due", none), "_law_due", "_law_due", defArgs st_zdue, defBody st_zdue, defScope st_zdue, [], []⟩
def d_elder_last : He.DefD := ⟨("elder_last", none), "elder_last", "elder_last", defArgs st_elder_last, defBody st_elder_last, defScope st_elder_last, [], []⟩
def d_is_called : He.DefD := ⟨("is_called", none), "is_called", "is_called", defArgs st_is_called, defBody st_is_called, defScope st_is_called, [], []⟩
def d_elders : He.DefD := ⟨("elders", none), "elders", "elders", defArgs st_elders, defBody st_elders, defScope st_elders, [], []⟩
def d_elder : He.DefD := ⟨("elder", none), "elder", "elder", defArgs st_elder, defBody st_elder, defScope st_elder, [], []⟩
def d_ztold : He.DefD := ⟨("_law_told", none), "_law_told", "_law_told", defArgs st_ztold, defBody st_ztold, defScope st_ztold, [], []⟩
def d_alike : He.DefD := ⟨("_law_alike", none), "_law_alike", "_law_alike", defArgs st_alike, defBody st_alike, defScope st_alike, [], []⟩
def d_zlong_row : He.DefD := ⟨("_law_long_row", none), "_law_long_row", "_law_long_row", defArgs st_zlong_row, defBody st_zlong_row, defScope st_zlong_row, [], []⟩
def d_law : He.DefD := ⟨("law", none), "law", "law", defArgs st_law, defBody st_law, defScope st_law, [], []⟩
def fn : List He.DefD := [d_bag, d_take, d_word, d_row, d_any_row, d_called, d_zplace, d_zroot, d_ztwin_case, d_ztriple_case, d_zrepeated, d_ztwins, d_zscene, d_zelders, d_zdue, d_elder_last, d_is_called, d_elders, d_elder, d_ztold, d_alike, d_zlong_row, d_law]
def fa : List He.Fa := [.glo "_law_bag", .glo "_law_take", .glo "_law_word", .glo "_law_row", .glo "_law_any_row", .glo "_law_called", .glo "_law_place", .glo "_law_root", .glo "_law_twin_case", .glo "_law_triple_case", .glo "_law_repeated", .glo "_law_twins", .glo "_law_scene", .glo "_law_elders", .glo "_law_due", .glo "elder_last", .glo "is_called", .glo "elders", .glo "elder", .glo "_law_told", .glo "_law_alike", .glo "_law_long_row", .glo "law", .glo "Several", .glo "NoElder", .glo "Wrong", .glo "EqualEnds", .glo "OwnError"] ++ bltNames.map He.Fa.free
abbrev R : PySem.W.OpenRow := PySem.W.OpenLaw.row PySem.Challenge.rw_ownlog_k42_elder_refused
abbrev mt_Several : Stmt := clsMeth (top 4) 0
abbrev er_Several : ErD := ⟨"Several", "many", "Several.__init__", defArgs mt_Several, defBody mt_Several, defScope mt_Several⟩
abbrev mt_NoElder : Stmt := clsMeth (top 3) 0
abbrev er_NoElder : ErD := ⟨"NoElder", "", "NoElder.__init__", defArgs mt_NoElder, defBody mt_NoElder, defScope mt_NoElder⟩
def er : List ErD := [er_Several, er_NoElder]
abbrev fil : Str := PySem.Challenge.pw_ownlog_k42_elder_refused.main.file
abbrev hk : PySem.W.Hook := hookX 5 fil fa fn er xs
def ob (s : PySem.W.SharedT) : AlX := obsXG 5 fil fa fn er xs (HandSHeadRun.getT s)
theorem ob_eq (s : PySem.W.SharedT) : ob s = hk.obs s.abs := obsXG_eq (HandSHeadRun.getT_eq s)
abbrev lo : List PySem.Str := (["OwnError", "Wrong", "NoElder", "Several", "EqualEnds", "elder_last", "is_called", "elders", "elder", "_law_bag", "_law_take", "_law_alike", "_law_word", "_law_row", "_law_called", "_law_repeated", "_law_root", "_law_twin_case", "_law_triple_case", "_law_twins", "_law_elders", "_law_place", "_law_any_row", "_law_scene", "_law_long_row", "_law_told", "_law_due"] : List PySem.Str)
theorem bnd_Several : Binds2 "Several.__init__" (defArgs mt_Several) (defBody mt_Several) (defScope mt_Several) "self" "many" := by
  intro kV doc pm an cdv ct cc x u
  kernel_rfl
theorem txt_Several : OwX.Txt0 PySem.Challenge.pw_ownlog_k42_elder_refused (defArgs mt_Several) (defBody mt_Several) (defScope mt_Several) "self" "many" "many" "there are several" := { body := ⟨_, _, _, _, _, _, _, _, _, _, _, rfl, fun _ => ⟨_, rfl⟩⟩, head := ⟨_, rfl, rfl⟩, nS := by decide +kernel, nC := by decide +kernel, n1 := by decide +kernel, n2 := by decide +kernel, cel := by decide +kernel, kind := rfl, co := rfl, gen := rfl, ne := by decide, top := by decide +kernel, d1 := by decide, d2 := by decide }
theorem bnd_NoElder : Binds1 "NoElder.__init__" (defArgs mt_NoElder) (defBody mt_NoElder) (defScope mt_NoElder) "self" := by
  intro kV doc pm an cdv ct cc x
  kernel_rfl
theorem txt_NoElder : OwZ.Txt1 PySem.Challenge.pw_ownlog_k42_elder_refused (defArgs mt_NoElder) (defBody mt_NoElder) (defScope mt_NoElder) "self" "row is a seed" := { body := ⟨_, _, _, _, _, _, _, rfl, fun _ => ⟨_, rfl⟩⟩, head := ⟨_, rfl, rfl⟩, nS := by decide +kernel, nC := by decide +kernel, n1 := by decide +kernel, cel := by decide +kernel, kind := rfl, co := rfl, gen := rfl, top := by decide +kernel, d1 := by decide }
theorem run (w : World) : HandSHeadRun.RunEq R (PySem.W.view R.prog [30]) hk ob 20000 (lo) w := by
  intro os
  kernel_rfl
theorem facts {P : Program} {w : World} {K : PySem.W.Frag} {h : Heap} {mg : Str → Option Value} {f : Addr} (X : K.In h) (G : h.Ns mainGlobals mg) (hfa : mg ("law" : Str) = some (.ref f)) (c0 : SaysX fil fa fn er xs K) (hfil : P = PySem.Challenge.pw_ownlog_k42_elder_refused) :
    ∃ fd : FuncData, (∀ (s : Shared) (v : Value), BindsTo s fd ⟨[v], []⟩ [("_law_script", v)]) ∧ ∀ base : Heap, K.In base → base.Ns mainGlobals mg → Gf P w K mg base 6 f fd ["_law_script"] (sp_law K) := by
  have c := c0.old
  have kf : KF K := c0.all.2
  have B : Blt mg := blt_of X G fun i f h => c.fact (i + 28) (by exact h)
  obtain ⟨fd_bag, F_bag⟩ := c.def_ 0 (d := d_bag) rfl
  have m_bag := He.glo_ok X G (c.fact 0 (f := .glo "_law_bag") rfl)
  obtain ⟨fd_take, F_take⟩ := c.def_ 1 (d := d_take) rfl
  have m_take := He.glo_ok X G (c.fact 1 (f := .glo "_law_take") rfl)
  obtain ⟨fd_word, F_word⟩ := c.def_ 2 (d := d_word) rfl
  have m_word := He.glo_ok X G (c.fact 2 (f := .glo "_law_word") rfl)
  obtain ⟨fd_row, F_row⟩ := c.def_ 3 (d := d_row) rfl
  have m_row := He.glo_ok X G (c.fact 3 (f := .glo "_law_row") rfl)
  obtain ⟨fd_any_row, F_any_row⟩ := c.def_ 4 (d := d_any_row) rfl
  have m_any_row := He.glo_ok X G (c.fact 4 (f := .glo "_law_any_row") rfl)
  obtain ⟨fd_called, F_called⟩ := c.def_ 5 (d := d_called) rfl
  have m_called := He.glo_ok X G (c.fact 5 (f := .glo "_law_called") rfl)
  obtain ⟨fd_zplace, F_zplace⟩ := c.def_ 6 (d := d_zplace) rfl
  have m_zplace := He.glo_ok X G (c.fact 6 (f := .glo "_law_place") rfl)
  obtain ⟨fd_zroot, F_zroot⟩ := c.def_ 7 (d := d_zroot) rfl
  have m_zroot := He.glo_ok X G (c.fact 7 (f := .glo "_law_root") rfl)
  obtain ⟨fd_ztwin_case, F_ztwin_case⟩ := c.def_ 8 (d := d_ztwin_case) rfl
  have m_ztwin_case := He.glo_ok X G (c.fact 8 (f := .glo "_law_twin_case") rfl)
  obtain ⟨fd_ztriple_case, F_ztriple_case⟩ := c.def_ 9 (d := d_ztriple_case) rfl
  have m_ztriple_case := He.glo_ok X G (c.fact 9 (f := .glo "_law_triple_case") rfl)
  obtain ⟨fd_zrepeated, F_zrepeated⟩ := c.def_ 10 (d := d_zrepeated) rfl
  have m_zrepeated := He.glo_ok X G (c.fact 10 (f := .glo "_law_repeated") rfl)
  obtain ⟨fd_ztwins, F_ztwins⟩ := c.def_ 11 (d := d_ztwins) rfl
  have m_ztwins := He.glo_ok X G (c.fact 11 (f := .glo "_law_twins") rfl)
  obtain ⟨fd_zscene, F_zscene⟩ := c.def_ 12 (d := d_zscene) rfl
  have m_zscene := He.glo_ok X G (c.fact 12 (f := .glo "_law_scene") rfl)
  obtain ⟨fd_zelders, F_zelders⟩ := c.def_ 13 (d := d_zelders) rfl
  have m_zelders := He.glo_ok X G (c.fact 13 (f := .glo "_law_elders") rfl)
  obtain ⟨fd_zdue, F_zdue⟩ := c.def_ 14 (d := d_zdue) rfl
  have m_zdue := He.glo_ok X G (c.fact 14 (f := .glo "_law_due") rfl)
  obtain ⟨fd_elder_last, F_elder_last⟩ := c.def_ 15 (d := d_elder_last) rfl
  have m_elder_last := He.glo_ok X G (c.fact 15 (f := .glo "elder_last") rfl)
  obtain ⟨fd_is_called, F_is_called⟩ := c.def_ 16 (d := d_is_called) rfl
  have m_is_called := He.glo_ok X G (c.fact 16 (f := .glo "is_called") rfl)
  obtain ⟨fd_elders, F_elders⟩ := c.def_ 17 (d := d_elders) rfl
  have m_elders := He.glo_ok X G (c.fact 17 (f := .glo "elders") rfl)
  obtain ⟨fd_elder, F_elder⟩ := c.def_ 18 (d := d_elder) rfl
  have m_elder := He.glo_ok X G (c.fact 18 (f := .glo "elder") rfl)
  obtain ⟨fd_ztold, F_ztold⟩ := c.def_ 19 (d := d_ztold) rfl
  have m_ztold := He.glo_ok X G (c.fact 19 (f := .glo "_law_told") rfl)
  obtain ⟨fd_alike, F_alike⟩ := c.def_ 20 (d := d_alike) rfl
  have m_alike := He.glo_ok X G (c.fact 20 (f := .glo "_law_alike") rfl)
  obtain ⟨fd_zlong_row, F_zlong_row⟩ := c.def_ 21 (d := d_zlong_row) rfl
  have m_zlong_row := He.glo_ok X G (c.fact 21 (f := .glo "_law_long_row") rfl)
  obtain ⟨fd_law, F_law⟩ := c.def_ 22 (d := d_law) rfl
  have mc_Several : mg "Several" = some (.ref (eC K "Several")) := He.glo_ok X G (c.fact 23 (f := .glo "Several") rfl)
  have gc_Several : ∃ u, mg "Several" = some u ∧ RelV (.ref (eC K "Several")) u := ⟨_, mc_Several, rfl⟩
  have mc_NoElder : mg "NoElder" = some (.ref (eC K "NoElder")) := He.glo_ok X G (c.fact 24 (f := .glo "NoElder") rfl)
  have gc_NoElder : ∃ u, mg "NoElder" = some u ∧ RelV (.ref (eC K "NoElder")) u := ⟨_, mc_NoElder, rfl⟩
  have mc_Wrong : mg "Wrong" = some (.ref (eC K "Wrong")) := He.glo_ok X G (c.fact 25 (f := .glo "Wrong") rfl)
  have gc_Wrong : ∃ u, mg "Wrong" = some u ∧ RelV (.ref (eC K "Wrong")) u := ⟨_, mc_Wrong, rfl⟩
  have mc_EqualEnds : mg "EqualEnds" = some (.ref (eC K "EqualEnds")) := He.glo_ok X G (c.fact 26 (f := .glo "EqualEnds") rfl)
  have gc_EqualEnds : ∃ u, mg "EqualEnds" = some u ∧ RelV (.ref (eC K "EqualEnds")) u := ⟨_, mc_EqualEnds, rfl⟩
  have mc_OwnError : mg "OwnError" = some (.ref (eC K "OwnError")) := He.glo_ok X G (c.fact 27 (f := .glo "OwnError") rfl)
  have gc_OwnError : ∃ u, mg "OwnError" = some u ∧ RelV (.ref (eC K "OwnError")) u := ⟨_, mc_OwnError, rfl⟩
  have e_Several : ErrC _ K mg "Several" (eC K "Several") "many" := errC_of (P := P) (d := er_Several) mc_Several (B "super" (by decide)) (by rw [hfil]; exact txt_Several) (c0.err (by rw [hfil]) 0 (d := er_Several) (slf := "self") bnd_Several)
  have e_NoElder : ErrC1 _ K mg "NoElder" (eC K "NoElder") := errC1_of (P := P) (d := er_NoElder) mc_NoElder (B "super" (by decide)) (by rw [hfil]; exact txt_NoElder) (c0.err1 (by rw [hfil]) 1 (d := er_NoElder) (slf := "self") bnd_NoElder)
  have e := hfa.symm.trans (He.glo_ok X G (c.fact 22 (f := .glo "law") rfl))
  cases e
  refine ⟨fd_law, fun s v => FunD.bindsA (ps := ["_law_script"]) F_law (fun _ _ _ _ _ _ us hl => match us, hl with | [_], _ => rfl) s [v] rfl, fun base _ _ => ?_⟩
  have c_bag : Cal P w K mg base 1 "_law_bag" 1 (sp_bag K) := ⟨_, _, ["_law_script"], rfl, ok_bag (k := 0) F_bag B kf, m_bag, F_bag.kp, F_bag.bindsN fun _ _ _ _ _ _ us hl => match us, hl with | [_], _ => rfl⟩
  have c_take : Cal P w K mg base 1 "_law_take" 2 (sp_take K) := ⟨_, _, ["_law_bag_here", "_law_many"], rfl, ok_take (k := 0) F_take B kf, m_take, F_take.kp, F_take.bindsN fun _ _ _ _ _ _ us hl => match us, hl with | [_, _], _ => rfl⟩
  have c_word : Cal P w K mg base 2 "_law_word" 2 (sp_word K) := ⟨_, _, ["_law_bag_here", "_law_most"], rfl, ok_word (k := 1) F_word B kf (c_take.mono (by decide)), m_word, F_word.kp, F_word.bindsN fun _ _ _ _ _ _ us hl => match us, hl with | [_, _], _ => rfl⟩
  have c_row : Cal P w K mg base 3 "_law_row" 2 (sp_row K) := ⟨_, _, ["_law_bag_here", "_law_most"], rfl, ok_row (k := 2) F_row B kf (c_take.mono (by decide)) (c_word.mono (by decide)), m_row, F_row.kp, F_row.bindsN fun _ _ _ _ _ _ us hl => match us, hl with | [_, _], _ => rfl⟩
  have c_any_row : Cal P w K mg base 4 "_law_any_row" 2 (sp_any_row K) := ⟨_, _, ["_law_bag_here", "_law_most"], rfl, ok_any_row (k := 3) F_any_row B kf (c_take.mono (by decide)) (c_row.mono (by decide)), m_any_row, F_any_row.kp, F_any_row.bindsN fun _ _ _ _ _ _ us hl => match us, hl with | [_, _], _ => rfl⟩
  have c_called : Cal P w K mg base 1 "_law_called" 2 (sp_called K) := ⟨_, _, ["_law_row_here", "_law_place_here"], rfl, ok_called (k := 0) F_called B kf, m_called, F_called.kp, F_called.bindsN fun _ _ _ _ _ _ us hl => match us, hl with | [_, _], _ => rfl⟩
  have c_zplace : Cal P w K mg base 2 "_law_place" 2 (sp_zplace K) := ⟨_, _, ["_law_bag_here", "_law_last"], rfl, ok_zplace (k := 1) F_zplace B kf (c_take.mono (by decide)), m_zplace, F_zplace.kp, F_zplace.bindsN fun _ _ _ _ _ _ us hl => match us, hl with | [_, _], _ => rfl⟩
  have c_zroot : Cal P w K mg base 1 "_law_root" 1 (sp_zroot K) := ⟨_, _, ["_law_text"], rfl, ok_zroot (k := 0) F_zroot B kf, m_zroot, F_zroot.kp, F_zroot.bindsN fun _ _ _ _ _ _ us hl => match us, hl with | [_], _ => rfl⟩
  have c_ztwin_case : Cal P w K mg base 2 "_law_twin_case" 2 (sp_ztwin_case K) := ⟨_, _, ["_law_bag_here", "_law_most"], rfl, ok_ztwin_case (k := 1) F_ztwin_case B kf (c_take.mono (by decide)) (c_zroot.mono (by decide)), m_ztwin_case, F_ztwin_case.kp, F_ztwin_case.bindsN fun _ _ _ _ _ _ us hl => match us, hl with | [_, _], _ => rfl⟩
  have c_ztriple_case : Cal P w K mg base 2 "_law_triple_case" 1 (sp_ztriple_case K) := ⟨_, _, ["_law_bag_here"], rfl, ok_ztriple_case (k := 1) F_ztriple_case B kf (c_take.mono (by decide)) (c_zroot.mono (by decide)), m_ztriple_case, F_ztriple_case.kp, F_ztriple_case.bindsN fun _ _ _ _ _ _ us hl => match us, hl with | [_], _ => rfl⟩
  have c_zrepeated : Cal P w K mg base 1 "_law_repeated" 2 (sp_zrepeated K) := ⟨_, _, ["_law_word_here", "_law_many"], rfl, ok_zrepeated (k := 0) F_zrepeated B kf, m_zrepeated, F_zrepeated.kp, F_zrepeated.bindsN fun _ _ _ _ _ _ us hl => match us, hl with | [_, _], _ => rfl⟩
  have c_ztwins : Cal P w K mg base 2 "_law_twins" 1 (sp_ztwins K) := ⟨_, _, ["_law_case"], rfl, ok_ztwins (k := 1) F_ztwins B kf (c_zrepeated.mono (by decide)), m_ztwins, F_ztwins.kp, F_ztwins.bindsN fun _ _ _ _ _ _ us hl => match us, hl with | [_], _ => rfl⟩
  have c_zscene : Cal P w K mg base 5 "_law_scene" 1 (sp_zscene K) := ⟨_, _, ["_law_bag_here"], rfl, ok_zscene (k := 4) F_zscene B kf (c_take.mono (by decide)) (c_called.mono (by decide)) (c_zplace.mono (by decide)) (c_row.mono (by decide)) (c_ztwins.mono (by decide)) (c_ztriple_case.mono (by decide)) (c_ztwin_case.mono (by decide)) (c_any_row.mono (by decide)), m_zscene, F_zscene.kp, F_zscene.bindsN fun _ _ _ _ _ _ us hl => match us, hl with | [_], _ => rfl⟩
  have c_zelders : Cal P w K mg base 2 "_law_elders" 1 (sp_zelders K) := ⟨_, _, ["_law_row_here"], rfl, ok_zelders (k := 1) F_zelders B kf (c_called.mono (by decide)), m_zelders, F_zelders.kp, F_zelders.bindsN fun _ _ _ _ _ _ us hl => match us, hl with | [_], _ => rfl⟩
  have c_zdue : Cal P w K mg base 3 "_law_due" 1 (sp_zdue K) := ⟨_, _, ["_law_row_here"], rfl, ok_zdue (k := 2) F_zdue B kf (c_zelders.mono (by decide)), m_zdue, F_zdue.kp, F_zdue.bindsN fun _ _ _ _ _ _ us hl => match us, hl with | [_], _ => rfl⟩
  have c_elder_last : Cal P w K mg base 1 "elder_last" 1 (sp_elder_last K) := ⟨_, _, ["row"], rfl, ok_elder_last (k := 0) F_elder_last B kf, m_elder_last, F_elder_last.kp, F_elder_last.bindsN fun _ _ _ _ _ _ us hl => match us, hl with | [_], _ => rfl⟩
  have c_is_called : Cal P w K mg base 2 "is_called" 2 (sp_is_called K) := ⟨_, _, ["row", "place"], rfl, ok_is_called (k := 1) F_is_called B kf (c_elder_last.mono (by decide)), m_is_called, F_is_called.kp, F_is_called.bindsN fun _ _ _ _ _ _ us hl => match us, hl with | [_, _], _ => rfl⟩
  have c_elders : Cal P w K mg base 3 "elders" 1 (sp_elders K) := ⟨_, _, ["row"], rfl, ok_elders (k := 2) F_elders B kf (c_is_called.mono (by decide)) (c_elder_last.mono (by decide)), m_elders, F_elders.kp, F_elders.bindsN fun _ _ _ _ _ _ us hl => match us, hl with | [_], _ => rfl⟩
  have c_elder : Cal P w K mg base 4 "elder" 1 (sp_elder K) := ⟨_, _, ["row"], rfl, ok_elder (k := 2) F_elder B kf (c_elders.mono (by decide)) e_Several e_NoElder, m_elder, F_elder.kp, F_elder.bindsN fun _ _ _ _ _ _ us hl => match us, hl with | [_], _ => rfl⟩
  have c_ztold : Cal P w K mg base 5 "_law_told" 1 (sp_ztold K) := ⟨_, _, ["_law_row_here"], rfl, ok_ztold (k := 4) F_ztold B kf (c_elder.mono (by decide)) gc_NoElder mc_NoElder gc_Several mc_Several gc_Wrong mc_Wrong gc_EqualEnds mc_EqualEnds gc_OwnError mc_OwnError, m_ztold, F_ztold.kp, F_ztold.bindsN fun _ _ _ _ _ _ us hl => match us, hl with | [_], _ => rfl⟩
  have c_alike : Cal P w K mg base 1 "_law_alike" 2 (sp_alike K) := ⟨_, _, ["_law_found", "_law_due_here"], rfl, ok_alike (k := 0) F_alike B kf, m_alike, F_alike.kp, F_alike.bindsN fun _ _ _ _ _ _ us hl => match us, hl with | [_, _], _ => rfl⟩
  have c_zlong_row : Cal P w K mg base 4 "_law_long_row" 1 (sp_zlong_row K) := ⟨_, _, ["_law_bag_here"], rfl, ok_zlong_row (k := 3) F_zlong_row B kf (c_called.mono (by decide)) (c_zplace.mono (by decide)) (c_row.mono (by decide)) (c_take.mono (by decide)), m_zlong_row, F_zlong_row.kp, F_zlong_row.bindsN fun _ _ _ _ _ _ us hl => match us, hl with | [_], _ => rfl⟩
  exact ok_law (k := 5) F_law B kf (c_zlong_row.mono (by decide)) (c_alike.mono (by decide)) (c_ztold.mono (by decide)) (c_zdue.mono (by decide)) (c_take.mono (by decide)) (c_zscene.mono (by decide)) (c_bag.mono (by decide))
end
end Ow
open PySem PySem.W PySem.Calls PyProof.Rows
theorem PySem.Challenge.cw_ownlog_k42_elder_refused_holds : PySem.Challenge.rw_ownlog_k42_elder_refused.Holds := by
  w_on
  o_law
  refine HandSHeadRun.head_any (r := OpenLaw.row PySem.Challenge.rw_ownlog_k42_elder_refused) (q := view (OpenLaw.row PySem.Challenge.rw_ownlog_k42_elder_refused).prog [30]) (H := Ow.hk) (ob := Ow.ob) (M := 20000) (loose := Ow.lo) (d := HandSHeadRun.topDef (OpenLaw.row PySem.Challenge.rw_ownlog_k42_elder_refused).prog 30) (kwd := []) Ow.ob_eq
    (by kernel_rfl) (fun s => by kernel_rfl) Ow.run (by kernel_rfl) (by kernel_rfl) (by kernel_rfl) (by rfl) (by first | assumption | decide +kernel) (by decide +kernel) ⟨rfl, rfl, rfl, rfl, rfl, by decide +kernel⟩ ?hw ?hc
  case hw => w_witness2
  case hc =>
    refine Ow.walk_g (l := PySem.Challenge.rw_ownlog_k42_elder_refused) (k := 6) (x := "_law_script") rfl (by kernel_rfl) ⟨rfl, by decide, by decide⟩ ?_
    intro w mg fa h Y G said
    obtain ⟨K, KX, c⟩ := Y
    have told : mg ("law" : PySem.Str) = some (.ref fa) := by
      have e : (HandSHeadRun.topDef (OpenLaw.row PySem.Challenge.rw_ownlog_k42_elder_refused).prog 30).name = ("law" : PySem.Str) := by kernel_rfl
      rw [← e]
      exact said
    obtain ⟨fd, hb, hF⟩ := Ow.facts (P := (PySem.Challenge.rw_ownlog_k42_elder_refused).prog) (w := w) KX G told c rfl
    exact ⟨K, fd, KX, hb, hF⟩
