import PyProof.Rows.All
import Wide.All
import OpenK.AllK
import Wide.FinOn
import PyProof.EqAt
import PyProof.EqKinds
import HandS.ForMost
import HandS.ForExc
import HandS.Flow
import HandS.Deep
import HandS.Conv
import HandS.StrMore
import HandS.HeadHook4
import HandS.HeadEnd
import HandS.Head2
import HandS.Wide
import HandS.WideBits
import HandS.WideMore
import HandS.Star
import HandS.SortInts
import HandS.IsInst
import HandS.RaiseMore
import HandS.TupAny
import HandS.More
import PyProof.StrBlock2
import KE.KRevSl
import PyProof.StrLawsRepr
import PyProof.FitsInt
import HandS.Iter
import HandS.Comp
import PyProof.ListStr
import HandS.Small
import HandS.Ends
import PySem.Challenge.RW_ownlog_k57_twins_told_apart
set_option Elab.async false
set_option linter.all false
set_option maxRecDepth 100000
set_option maxHeartbeats 0
namespace Ow
open PySem PySem.Spec L2
open PyProof.Rows hiding St
section
/-! the own layer: defs that know that no repr runs around them; frames -/

/-- a law's lists, laid over a heap -/
def lay : List (Addr × List V) → Hp → Hp
  | [], H => H
  | m :: ms, H => upd (lay ms H) m.1 (.lst m.2)
def Off (ms : List (Addr × List V)) (H : Hp) : Prop := ∀ m ∈ ms, H m.1 = none

theorem lay_in : ∀ {ms : List (Addr × List V)} {H : Hp} {a : Addr}, a ∈ ms.map (·.1) → ∃ xs, lay ms H a = some (.lst xs)
  | [], _, _, h => by cases h
  | m :: ms, H, a, h => by
    by_cases e : a = m.1
    · exact ⟨m.2, by rw [e]; exact upd_same⟩
    · have h2 : a ∈ ms.map (·.1) := by
        rcases List.mem_cons.mp h with q | q
        · exact absurd q e
        · exact q
      obtain ⟨xs, q⟩ := lay_in (H := H) h2
      exact ⟨xs, by show upd (lay ms H) m.1 _ a = _; rw [upd_ne e]; exact q⟩
theorem lay_out : ∀ {ms : List (Addr × List V)} {H : Hp} {a : Addr}, a ∉ ms.map (·.1) → lay ms H a = H a
  | [], _, _, _ => rfl
  | m :: ms, H, a, h => by
    have e : a ≠ m.1 := fun q => h (by rw [q]; exact List.mem_cons_self)
    have h2 : a ∉ ms.map (·.1) := fun q => h (List.mem_cons_of_mem _ q)
    show upd (lay ms H) m.1 _ a = _
    rw [upd_ne e]
    exact lay_out h2
theorem lay_same {ms : List (Addr × List V)} {H H' : Hp} {a : Addr} (h : a ∈ ms.map (·.1)) : lay ms H a = lay ms H' a := by
  induction ms with
  | nil => cases h
  | cons m ms ih =>
    show upd (lay ms H) m.1 _ a = upd (lay ms H') m.1 _ a
    by_cases e : a = m.1
    · rw [e, upd_same, upd_same]
    · rw [upd_ne e, upd_ne e]
      rcases List.mem_cons.mp h with q | q
      · exact absurd q e
      · exact ih q
theorem off_not {ms : List (Addr × List V)} {H : Hp} (o : Off ms H) {a : Addr} {u : HO} (h : H a = some u) : a ∉ ms.map (·.1) := fun q => by
  obtain ⟨m, hm, e⟩ := List.mem_map.mp q
  have z := o m hm
  rw [e, h] at z
  cases z
theorem lay_none {ms : List (Addr × List V)} {H : Hp} {a : Addr} (h : lay ms H a = none) : a ∉ ms.map (·.1) ∧ H a = none := by
  by_cases q : a ∈ ms.map (·.1)
  · obtain ⟨xs, e⟩ := lay_in (H := H) q
    rw [h] at e
    cases e
  · rw [lay_out q] at h
    exact ⟨q, h⟩
theorem lay_other {ms : List (Addr × List V)} {H : Hp} {a : Addr} {u : HO} (h : lay ms H a = some u) (n : ∀ xs, u ≠ .lst xs) : a ∉ ms.map (·.1) ∧ H a = some u := by
  by_cases q : a ∈ ms.map (·.1)
  · obtain ⟨xs, e⟩ := lay_in (H := H) q
    rw [h] at e
    exact absurd (Option.some.inj e) (n xs)
  · rw [lay_out q] at h
    exact ⟨q, h⟩
theorem same_lay {ms : List (Addr × List V)} {H : Hp} (o : Off ms H) : Same H (lay ms H) := fun b u e => by
  rw [lay_out (off_not o e)]
  exact e

section
variable {P : Program} {w : World} {ms : List (Addr × List V)} {H H' : Hp} {h h' : Heap}
/-- the laid lists taken away -/
theorem hok_off (o : Off ms H) (x : HOk P w (lay ms H) h) : HOk P w H h := fun a u e => by
  have q := x a u (by rw [lay_out (off_not o e)]; exact e)
  refine q.stay (fun _ _ _ z => z) (fun b z => ?_) fun b xs z => ?_
  · exact (lay_other z fun _ y => nomatch y).2
  · exact (lay_other z fun _ y => nomatch y).2
/-- .. and put back, where their objects stand -/
theorem hok_on (o : Off ms H') (x : HOk P w H' h') (y : HOk P w (lay ms H) h) (k : ∀ a u, a ∈ ms.map (·.1) → h.get? a = some u → h'.get? a = some u) : HOk P w (lay ms H') h' := fun a u e => by
  by_cases q : a ∈ ms.map (·.1)
  · obtain ⟨xs, e1⟩ := lay_in (H := H) q
    have e2 := lay_same (H := H) (H' := H') q
    rw [e1, e] at e2
    have eu : HO.lst xs = u := Option.some.inj e2
    subst eu
    obtain ⟨z, its, n, r, ho⟩ := y a _ e1
    exact ⟨z, its, n, r, k a _ q ho⟩
  · rw [lay_out q] at e
    refine (x a u e).stay (fun _ _ _ z => z) (fun b z => ?_) fun b xs z => ?_
    · rw [lay_out (off_not o z)]; exact z
    · rw [lay_out (off_not o z)]; exact z
theorem there_of (y : HOk P w (lay ms H) h) {a : Addr} (q : a ∈ ms.map (·.1)) : ∃ u, h.get? a = some u := by
  obtain ⟨xs, e1⟩ := lay_in (H := H) q
  obtain ⟨_, its, n, _, ho⟩ := y a _ e1
  exact ⟨_, ho⟩
end

/-- a def's promise, kept by runs around which no repr is under way -/
structure Gf (P : Program) (w : World) (K : PySem.W.Frag) (mg : Str → Option Value) (base : Heap) (k : Nat) (f : Addr) (fd : FuncData) (ps : List Str) (sp : Sp) : Prop where
  len : ∀ vs H Q E, sp vs H Q E → vs.length = ps.length
  run : ∀ (A : Around) (outer : List Env) (s : Shared) (H : Hp) (args : Args) (us : List Value) (vs : List V) (Q : VK) (E : XK), A.guards = some [] → Room k A → Env0 P w K mg base A outer s H →
    BindsTo s fd args (ps.zip us) → Vals vs us → sp vs H Q E → codeAny (model P w) A (.call (.ref f) args) (CR (L2.CX P w) outer P w H s Q E) s

/-- a promise over the lists that the callee does not see -/
def Fr (sp : Sp) : Sp := fun vs H Q E => ∃ (ms : List (Addr × List V)) (Hi : Hp), H = lay ms Hi ∧ Off ms Hi ∧
  sp vs Hi (fun v H' => Off ms H' → Q v (lay ms H')) (fun c d H' => Off ms H' → E c d (lay ms H'))

section
variable {P : Program} {w : World} {K : PySem.W.Frag} {mg : Str → Option Value} {base : Heap} {k j : Nat} {f : Addr} {fd : FuncData} {ps : List Str} {sp sp' : Sp}
theorem Gf.mono (F : Gf P w K mg base j f fd ps sp) (h : j ≤ k) : Gf P w K mg base k f fd ps sp :=
  ⟨F.len, fun A outer s H args us vs Q E hg hr => F.run A outer s H args us vs Q E hg (hr.mono h)⟩
theorem Gf.imp (F : Gf P w K mg base k f fd ps sp) (h : ∀ vs H Q E, sp' vs H Q E → sp vs H Q E) : Gf P w K mg base k f fd ps sp' :=
  ⟨fun vs H Q E q => F.len vs H Q E (h _ _ _ _ q), fun A outer s H args us vs Q E hg hr he hb hv hs => F.run A outer s H args us vs Q E hg hr he hb hv (h _ _ _ _ hs)⟩
theorem env_off {A : Around} {outer : List Env} {s : Shared} {ms : List (Addr × List V)} {H : Hp} (o : Off ms H) (e : Env0 P w K mg base A outer s (lay ms H)) : Env0 P w K mg base A outer s H :=
  ⟨e.frames, e.mod, fun b u q => ⟨(e.bs b u q).1, (lay_none (e.bs b u q).2).2⟩, e.bsz, e.funs, fun b hb => (lay_none (e.frf b hb)).2, hok_off o e.hok, e.bare⟩
theorem ce_on {A : Around} {outer : List Env} {s s' : Shared} {ms : List (Addr × List V)} {H : Hp} {Q : VK} {u : Value} (o : Off ms H) (e : Env0 P w K mg base A outer s (lay ms H))
    (c : CE outer P w H s (fun v H' => Off ms H' → Q v (lay ms H')) u s') : CE outer P w (lay ms H) s Q u s' := by
  obtain ⟨v, H', os, bare, un, hok, r, q⟩ := c
  have nf : ∀ a, a ∈ ms.map (·.1) → a ∉ frs outer := fun a ha hb => (lay_none (e.frf a hb)).1 ha
  have hn : ∀ a, a ∈ ms.map (·.1) → H a = none := fun a ha => by
    obtain ⟨m, hm, z⟩ := List.mem_map.mp ha
    rw [← z]
    exact o m hm
  have o' : Off ms H' := fun m hm => by
    have ha : m.1 ∈ ms.map (·.1) := List.mem_map_of_mem hm
    obtain ⟨ob, ho⟩ := there_of e.hok ha
    exact un.free m.1 ob ho (hn _ ha) (by simp)
  have kp : ∀ a ob, a ∈ ms.map (·.1) → s.heap.get? a = some ob → s'.heap.get? a = some ob := fun a ob ha ho => un.keep a ob ho (hn a ha) (nf a ha) (by simp)
  refine ⟨v, lay ms H', os, bare, ?_, hok_on o' hok e.hok kp, r, q o'⟩
  exact {
    keep := fun b ob h1 h2 h3 h4 => un.keep b ob h1 (lay_none h2).2 h3 h4
    slot := fun b ob h1 h2 h3 h4 => un.slot b ob h1 (lay_none h2).2 h3 h4
    free := fun b ob h1 h2 h3 => by rw [lay_out (lay_none h2).1]; exact un.free b ob h1 (lay_none h2).2 h3
    there := un.there
    tups := fun b xs h => by
      obtain ⟨h1, h2⟩ := lay_other h fun _ y => nomatch y
      rw [lay_out h1]; exact un.tups b xs h2
    frzs := fun b ob u h => by
      obtain ⟨h1, h2⟩ := lay_other h fun _ y => nomatch y
      rw [lay_out h1]; exact un.frzs b ob u h2
    tbls := fun b ps h => by
      obtain ⟨h1, h2⟩ := lay_other h fun _ y => nomatch y
      rw [lay_out h1]; exact un.tbls b ps h2 }
theorem cx_on {A : Around} {outer : List Env} {s s' : Shared} {ms : List (Addr × List V)} {H : Hp} {E : XK} {u : Value} (o : Off ms H) (e : Env0 P w K mg base A outer s (lay ms H))
    (c : L2.CX P w outer H s (fun c d H' => Off ms H' → E c d (lay ms H')) u s') : L2.CX P w outer (lay ms H) s E u s' := by
  obtain ⟨a, B, H', cls, d, ea, fl, hok, ub, na, os, ag, q⟩ := c
  have nf : ∀ a, a ∈ ms.map (·.1) → a ∉ frs outer := fun a ha hb => (lay_none (e.frf a hb)).1 ha
  have hn : ∀ a, a ∈ ms.map (·.1) → H a = none := fun a ha => by
    obtain ⟨m, hm, z⟩ := List.mem_map.mp ha
    rw [← z]
    exact o m hm
  have o' : Off ms H' := fun m hm => by
    have ha : m.1 ∈ ms.map (·.1) := List.mem_map_of_mem hm
    obtain ⟨ob, ho⟩ := there_of e.hok ha
    exact ub.free m.1 ob ho (hn _ ha)
  have kp : ∀ a ob, a ∈ ms.map (·.1) → s.heap.get? a = some ob → B.get? a = some ob := fun a ob ha ho => ub.keep a ob ho (hn a ha) (nf a ha)
  have nal : a ∉ ms.map (·.1) := fun ha => by
    obtain ⟨ob, ho⟩ := there_of e.hok ha
    have hb := kp a ob ha ho
    rw [fl.2.1] at hb
    cases hb
  refine ⟨a, B, lay ms H', cls, d, ea, fl, hok_on o' hok e.hok kp, ?_, by rw [lay_out nal]; exact na, os, ag, q o'⟩
  exact {
    keep := fun b ob h1 h2 h3 => ub.keep b ob h1 (lay_none h2).2 h3
    slot := ub.slot
    free := fun b ob h1 h2 => by rw [lay_out (lay_none h2).1]; exact ub.free b ob h1 (lay_none h2).2
    there := ub.there
    tups := fun b xs h => by
      obtain ⟨h1, h2⟩ := lay_other h fun _ y => nomatch y
      rw [lay_out h1]; exact ub.tups b xs h2
    frzs := fun b ob u h => by
      obtain ⟨h1, h2⟩ := lay_other h fun _ y => nomatch y
      rw [lay_out h1]; exact ub.frzs b ob u h2
    tbls := fun b ps h => by
      obtain ⟨h1, h2⟩ := lay_other h fun _ y => nomatch y
      rw [lay_out h1]; exact ub.tbls b ps h2 }
/-- THE FRAME -/
theorem Gf.frame (F : Gf P w K mg base k f fd ps sp) : Gf P w K mg base k f fd ps (Fr sp) := by
  refine ⟨fun vs H Q E ⟨_, _, _, _, h⟩ => F.len _ _ _ _ h, fun A outer s H args us vs Q E hg hr e0 hb hv hs => ?_⟩
  obtain ⟨ms, Hi, eH, o, h⟩ := hs
  subst eH
  refine codeAny_mono (F.run A outer s Hi args us vs _ _ hg hr (env_off o e0) hb hv h) fun r s' q => ?_
  cases r with
  | error e => exact cx_on o e0 q
  | ok fl =>
    cases fl with
    | ret u => exact ce_on o e0 q
    | next => exact q
    | brk => exact q
    | cont => exact q
end
end
section
section
variable {P : Program} {w : World} {K : PySem.W.Frag} {mg : Str → Option Value} {base : Heap}
/-- the context of a def's body -/
abbrev cx (P : Program) (w : World) (K : PySem.W.Frag) (mg : Str → Option Value) (base : Heap) (N : List Str) (qual : Str) (scope : Scope) (f : Addr) (cd : Value) (A : Around) (outer : List Env) (s : Shared) (H : Hp) (E : XK) : Cx :=
  cxOf (L2.CX P w) P w K mg base N qual scope f cd A outer s H E
/-- THE RULE for a def of the text -/
theorem okG {x qual : Str} {params : Arguments} {body : List Stmt} {scope : Scope} {dvs : List V} {kws : List (Str × V)} {f : Addr} {fd : FuncData} {N ps : List Str} {k : Nat} {sp : Sp}
    (F : FunD K x qual params body scope dvs kws f fd) (S : FnScope N ps scope) (len : ∀ vs H Q E, sp vs H Q E → vs.length = ps.length)
    (hbody : ∀ (cdv : Value) (A : Around) (outer : List Env) (s : Shared) (H : Hp) (vs : List V) (Q : VK) (E : XK), (cx P w K mg base N qual scope f cdv A outer s H E).A.guards = some [] →
      Room k (cx P w K mg base N qual scope f cdv A outer s H E).A → sp vs H Q E →
      ∃ t, PSs (cx P w K mg base N qual scope f cdv A outer s H E) body t ∧ t { nx := fun _ H' => Q .non H', rt := Q } (start N vs) H) : Gf P w K mg base (k + 1) f fd ps sp := by
  obtain ⟨oc, od, dV, kV, doc, pm, an, cdv, ct, osl, efd, lk, hcd, _, _⟩ := F.ex
  subst efd
  refine ⟨len, fun A outer s H args us vs Q E hg hr e0 hb r hsp => ?_⟩
  have hvl := len _ _ _ _ hsp
  have stands : ∀ b o, base.get? b = some o → s.heap.get? b = some o := fun b o e => (e0.bs b o e).1
  have KX : K.In s.heap := e0.mod.kin.keeps stands
  have pk : ∀ y ∈ ps.zip us, scope.names.lookup y.1 = some .local ∨ (scope.names.lookup y.1 = some .cell ∧ ((cellsFrom (s.heap.objs.size + 1) scope.names []).lookup y.1).isSome = true) := by
    rintro ⟨n, v⟩ hy
    exact (S.par n (List.of_mem_zip hy).1).imp id fun q => ⟨q, PySem.W.cellsFrom_some _ _ _ (.inl q)⟩
  refine codeAny_call_function hr.depth (KX _ _ lk) rfl S.co S.gen rfl (PySem.W.codeRec_of KX hcd) (hb _ _ _ _ (wpAny_newFunctionEnv_cells S.kind pk fun env he s1 x => ?_))
  subst he
  refine ⟨(e0.mod.nolimit.keeps stands).keeps x.toInCall.keep, codeAny_func ?_⟩
  obtain ⟨t, ht, hq⟩ := hbody cdv A outer s H vs Q E hg (hr.deeper _) hsp
  have I : Inv (cx P w K mg base N qual scope f cdv A outer s H E) [] (start N vs) H s1 := inv_start S hr.hd e0 hvl r x
  refine wpAny_mono (ht.run [] s1 (start N vs) H _ I hq) (fun fl s' hs => ?_) fun e s' hs => hs
  cases fl with
  | ret u => exact hs.elim fun v ⟨σ', H', J, rv, q⟩ => ⟨v, H', J.os, J.bare, J.base, J.hok, rv, q⟩
  | next => exact hs.elim fun σ' ⟨H', J, q⟩ => ⟨V.non, H', J.os, J.bare, J.base, J.hok, rfl, q⟩
  | brk => exact hs.elim fun _ ⟨_, _, q⟩ => q.elim
  | cont => exact hs.elim fun _ ⟨_, _, q⟩ => q.elim
end

/-! ### calls -/
/-- a callee: its name in the module, its promise -/
structure Cal (P : Program) (w : World) (K : PySem.W.Frag) (mg : Str → Option Value) (base : Heap) (k : Nat) (x : Str) (n : Nat) (sp : Sp) : Prop where
  ex : ∃ (f : Addr) (fd : FuncData) (ps : List Str), ps.length = n ∧ Gf P w K mg base k f fd ps sp ∧ mg x = some (.ref f) ∧ PySem.W.keepIn K (.ref f) = true ∧ Binds K fd ps []
def gCall (sp : Sp) (E : L2.St → XK) (t : TA) : TE := fun σ H Q => t σ H fun vs H1 => Fr sp vs H1 Q (E σ)
def PassG (X : Cx) (E : L2.St → XK) : Prop := ∀ (pins : List (Addr × Obj)) (σ : St) (H : Hp) (s : Shared) (e : Value) (s' : Shared), Inv X pins σ H s → L2.CX X.prog X.w X.stack H s (E σ) e s' → X.xe e s'
theorem passG {X : Cx} {W : WX} (tk : Takes X W) : PassG X (fun σ cls d H => W cls d σ H) := fun _ _ _ _ e s' I c => tk e s' (XE.of_call I (fun _ _ _ h => h) c)
/-- nothing is raised -/
abbrev E1 : L2.St → XK := fun _ _ _ _ => False
theorem passN {X : Cx} : PassG X E1 := fun _ _ _ _ _ _ _ ⟨_, _, _, _, _, _, _, _, _, _, _, _, z⟩ => z.elim
section
variable {X : Cx} {k : Nat} {f C : Addr} {fd : FuncData} {ps : List Str} {sp : Sp} {E : L2.St → XK} {x m : Str} {p pos apos : Pos} {e o : Expr} {es : List Expr} {ta : TE} {t : TA} {n : Nat}
theorem run_g {pins : List (Addr × Obj)} {σ : St} {H : Hp} {s : Shared} {Q : VK} {us : List Value} {vs : List V} (F : Gf X.prog X.w X.K X.mg X.base k f fd ps sp) (hG : X.A.guards = some []) (hr : Room k X.A) (hb : Binds X.K fd ps []) (hx : PassG X E)
    (I : Inv X pins σ H s) (r : Vals vs us) (h : sp vs H Q (E σ)) : wpAny (model X.prog X.w) X.A (call (.ref f) us) (EP X pins σ Q) X.xe s := by
  have b := hb s us I.kIn (by rw [List.append_nil, ← r.length]; exact F.len _ _ _ _ h)
  rw [List.append_nil] at b
  refine wpAny_call (codeAny_mono (F.run X.A X.stack s H ⟨us, []⟩ us vs Q (E σ) hG hr I.env0 b r h) fun rr s' hq => ?_)
  cases rr with
  | error e => exact hx pins σ H s e s' I hq
  | ok fl =>
    cases fl with
    | ret u => exact I.after hq
    | next => exact hq.elim
    | brk => exact hq.elim
    | cont => exact hq.elim
theorem g_call (c : Cal X.prog X.w X.K X.mg X.base k x n sp) (hG : X.A.guards = some []) (hr : Room k X.A) (hg : Gl X x) (hx : PassG X E) (ha : PA X (e :: es) t)
    (hdb : (x == ("__debug__" : Str)) = false := by decide) (he : starEach (e :: es) X.env = (false, eval e X.env) :: starEach es X.env := by rfl) (hpl : (backTo pos (starEach es X.env)).any (·.1) = false := by rfl) :
    PE X (.Call (.Name x p) (e :: es) [] pos) (gCall sp E t) := by
  obtain ⟨f, fd, ps, _, F, hm, hk, hb⟩ := c.ex
  refine ⟨fun pins s σ H Q I h => wpAny_Call_Name_kw (ld_glob I hg hm ?_ hdb)⟩
  refine PySem.W.callWith_K (h₀ := X.base) I.ok.mod.kin hk (thn (ha.run pos pins s σ H _ I h) fun us s1 ⟨vs, H1, I1, r, q⟩ => ?_) he hpl
  exact ⟨I1.kIn, run_g F.frame hG hr hb hx I1 r q⟩
theorem g_call0 (c : Cal X.prog X.w X.K X.mg X.base k x n sp) (hG : X.A.guards = some []) (hr : Room k X.A) (hg : Gl X x) (hx : PassG X E)
    (hdb : (x == ("__debug__" : Str)) = false := by decide) : PE X (.Call (.Name x p) [] [] pos) (gCall sp E tNil) := by
  obtain ⟨f, fd, ps, _, F, hm, hk, hb⟩ := c.ex
  exact ⟨fun pins s σ H Q I h => wpAny_Call_Name_kw (ld_glob I hg hm (PySem.W.callWith_K0 I.kIn hk (run_g (us := []) F.frame hG hr hb hx I .nil h)) hdb)⟩

/-- a method of the class at C -/
structure GMet (P : Program) (w : World) (K : PySem.W.Frag) (mg : Str → Option Value) (base : Heap) (k : Nat) (C : Addr) (m : Str) (n : Nat) (sp : Sp) : Prop where
  c : Cls K C
  ex : ∃ (f : Addr) (fd : FuncData) (ps : List Str), ps.length = n ∧ Gf P w K mg base k f fd ps sp ∧ Meth K C m f ∧ Binds K fd ps []
def gMeth (C : Addr) (m : Str) (sp : Sp) (E : L2.St → XK) (ta : TE) (t : TA) : TE := fun σ H Q => ta σ H fun x H1 => ∃ a dx fs, x = .ref a ∧ H1 a = some (.ins C dx fs) ∧ fs.lookup m = none ∧
  t σ H1 fun vs H2 => Fr sp (x :: vs) H2 Q (E σ)
theorem g_meth {pl : Sem Bool} (he : PE X o ta) (c : GMet X.prog X.w X.K X.mg X.base k C m n sp) (hG : X.A.guards = some []) (hr : Room k X.A) (hx : PassG X E) (ha : PA X (e :: es) t)
    (hst : starEach (e :: es) X.env = (false, eval e X.env) :: starEach es X.env := by rfl) (hpl : (backTo pos (starEach es X.env)).any (·.1) = false := by rfl)
    (ht : eval (.Call (.Attribute o m apos) (e :: es) [] pos) X.env = (do
      let ov ← eval o X.env
      standAt apos.atName
      let (f, first) ← holding [ov] (getMethod ov m pl)
      callWith pos f first (backTo pos (starEach (e :: es) X.env)) (backToKw pos (keywordEach [] X.env))) := by rfl) :
    PE X (.Call (.Attribute o m apos) (e :: es) [] pos) (gMeth C m sp E ta t) := by
  obtain ⟨f, fd, ps, _, F, hm, hb⟩ := c.ex
  refine ⟨fun pins s σ H Q I h => PySem.W.methodCall_KW (pl := pl) (thn (he.run pins s σ H _ I h) fun u s1 ⟨x, H1, I1, rx, a, dx, fs, ex, ea, l, q⟩ => ?_) ht⟩
  subst ex
  have eu : u = Value.ref a := rx
  subst eu
  refine getmeth_ok I1 ea c.c hm l (PySem.W.callWith_K (first := [.ref a]) (h₀ := X.base) I.ok.mod.kin hm.kp (thn (ha.run pos pins s1 σ H1 _ I1 q) fun us s2 ⟨vs, H2, I2, r, q2⟩ => ?_) hst hpl)
  exact ⟨I2.kIn, run_g (us := .ref a :: us) (vs := .ref a :: vs) F.frame hG hr hb hx I2 (.cons rfl r) q2⟩
theorem g_meth0 {pl : Sem Bool} (he : PE X o ta) (c : GMet X.prog X.w X.K X.mg X.base k C m n sp) (hG : X.A.guards = some []) (hr : Room k X.A) (hx : PassG X E)
    (ht : eval (.Call (.Attribute o m apos) [] [] pos) X.env = (do
      let ov ← eval o X.env
      standAt apos.atName
      let (f, first) ← holding [ov] (getMethod ov m pl)
      callWith pos f first (backTo pos (starEach [] X.env)) (backToKw pos (keywordEach [] X.env))) := by rfl) :
    PE X (.Call (.Attribute o m apos) [] [] pos) (gMeth C m sp E ta tNil) := by
  obtain ⟨f, fd, ps, _, F, hm, hb⟩ := c.ex
  refine ⟨fun pins s σ H Q I h => PySem.W.methodCall_KW (pl := pl) (thn (he.run pins s σ H _ I h) fun u s1 ⟨x, H1, I1, rx, a, dx, fs, ex, ea, l, q⟩ => ?_) ht⟩
  subst ex
  have eu : u = Value.ref a := rx
  subst eu
  exact getmeth_ok I1 ea c.c hm l (PySem.W.callWith_K0 (first := [.ref a]) I1.kIn hm.kp (run_g (us := [.ref a]) (vs := [.ref a]) F.frame hG hr hb hx I1 (.cons rfl .nil) q))
end

/-- a name of the module -/
theorem pe_gc {X : Cx} {x : Str} {v : V} {p : Pos} (hg : Gl X x) (hm : ∃ u, X.mg x = some u ∧ RelV v u) (hdb : (x == ("__debug__" : Str)) = false := by decide) : PE X (.Name x p) (tC v) :=
  ⟨fun pins s σ H Q I h => by
    obtain ⟨u, e, r⟩ := hm
    exact ld_glob I hg e ⟨v, H, I, r, h⟩ hdb⟩
/-! ### repr -/
section
variable {X : Cx}
theorem nodict_of {d : PyData} (h : SeqAt.shaped d = true) : d.hasDict = false := PyData.hasDict_of_canLay d (SeqAt.canLay_of_shaped h)
/-- repr of data -/
def rRepr (K : PySem.W.Frag) : List V → Hp → VK → Prop := fun xs H Q => ∃ v d, xs = [v] ∧ Dp K H v d ∧ SeqAt.shaped d = true ∧ d.showable = true ∧ d.shown.length ≤ sizeLine ∧ Q (.str d.shown) H
theorem call_reprD (hG : X.A.guards = some []) (hu : X.A.units + 100 < cLine) : CallR X (.builtin "repr") (rRepr X.K) := by
  intro pins s σ H xs us Q I r h
  obtain ⟨v, d, rfl, hd, sh, hs, hz, q⟩ := h
  cases r with
  | cons rv rn =>
    rename_i u us'
    cases rn
    obtain ⟨as, rd⟩ := Dp.reads I d v u hd rv
    have dep := SeqAt.depth_of_shaped sh
    have fin : ∀ h' u tk, (∀ b o, s.heap.get? b = some o → h'.get? b = some o) → EP X pins σ Q (.str d.shown u) { s with heap := h', toks := tk } := fun h' u tk hk =>
      ⟨.str d.shown, H, I.kept hk, ⟨_, rfl⟩, q⟩
    have onref : ∀ a, u = .ref a → wpAny (model X.prog X.w) X.A (call (.builtin "repr") [u]) (EP X pins σ Q) X.xe s := fun a e => by
      subst e
      exact repr_of_reads' rd hs (PyData.noDict_hsm (nodict_of sh)) hG (by omega) (fun _ _ e => e) (fun h' u tk hk => fin h' u tk hk) hz
    cases hd with
    | non =>
      have eu : u = .none := rv
      subst eu
      exact PySem.P.repr_of_none (fin _ _ _ fun _ _ z => z)
    | bl b =>
      have eu : u = .bool b := rv
      subst eu
      refine PySem.P.repr_of_bool ?_
      have z := fin s.heap s.toks (s.toks + 1) fun _ _ z => z
      exact z
    | int i =>
      obtain ⟨t, rfl⟩ := rv
      exact PySem.P.repr_of_int (of_decide_eq_true hs) (fin _ _ _ fun _ _ z => z)
    | str x =>
      obtain ⟨t, rfl⟩ := rv
      exact PySem.P.repr_of_str (fin _ _ _ fun _ _ z => z) hz
    | lst _ _ => exact onref _ rv
    | tup _ _ => exact onref _ rv
end
end
section
/-! ### rules that the syntax alone chooses -/
def rSMul : R2 := fun x y H Q => ∃ z n, x = .str z ∧ y = .int n ∧ MulOk z n ∧ Q (.str (Txt.mul z n)) H
theorem op_smul {X : Cx} : OpR X (binaryOp .Mult) rSMul := by
  intro pins s σ H x y v u Q I rx ry h
  obtain ⟨z, n, rfl, rfl, ok, q⟩ := h
  obtain ⟨t, rfl⟩ := rx
  obtain ⟨t', rfl⟩ := ry
  exact PySem.SB.mul ok fun t' k => ⟨.str _, H, I.tok _, ⟨_, rfl⟩, q⟩
def rAddI : R2 := rI0 fun i j => .int (i + j)
def rAddT : R2 := fun x y H Q => ∃ i j, x = .str i ∧ y = .str j ∧ i.length + j.length ≤ sizeLine ∧ Q (.str (i ++ j)) H
/-- a + b -/
def rPlus (K : PySem.W.Frag) : R2 := fun x y H Q => rAddI x y H Q ∨ (rAddT x y H Q ∨ (rCat x y H Q ∨ rCatA K x y H Q))
theorem o_plus {X : Cx} : OpR X (binaryOp .Add) (rPlus X.K) := OpR.or op_add (OpR.or op_add_str (OpR.or op_cat op_catA))
def rMinus : R2 := rI0 fun i j => .int (i - j)
theorem o_minus {X : Cx} : OpR X (binaryOp .Sub) rMinus := op_sub
def rMulI : R2 := rI CMulW fun i j => .int (i * j)
def rMulC : R2 := rI CMul fun i j => .int (i * j)
/-- a * b -/
def rTimes : R2 := fun x y H Q => rMulI x y H Q ∨ (rMulC x y H Q ∨ (rSMul x y H Q ∨ rRep x y H Q))
theorem o_times {X : Cx} : OpR X (binaryOp .Mult) rTimes := OpR.or op_mulW (OpR.or op_mul (OpR.or op_smul op_rep))
def rMod : R2 := rI (fun _ j => 0 < j) fun i j => .int (i % j)
theorem o_mod {X : Cx} : OpR X (binaryOp .Mod) rMod := op_mod
def rDiv : R2 := rI CDivW fun i j => .int (i / j)
theorem o_div {X : Cx} : OpR X (binaryOp .FloorDiv) rDiv := op_fdivW
def rPow : R2 := rI CPow fun i j => .int (i ^ j.toNat)
theorem o_pow {X : Cx} : OpR X (binaryOp .Pow) rPow := op_pow
/-- a == b, a != b -/
def rSame (K : PySem.W.Frag) : R2 := fun x y H Q => rEq x y H Q ∨ rEqD K x y H Q
theorem o_eq {X : Cx} (hu : X.A.units + 64 < cLine) : OpR X (compareOp .Eq) (rSame X.K) := OpR.or op_eq (op_eqD hu)
def rDiff (K : PySem.W.Frag) : R2 := fun x y H Q => rNe x y H Q ∨ rNeD K x y H Q
theorem o_ne {X : Cx} (hu : X.A.units + 64 < cLine) : OpR X (compareOp .NotEq) (rDiff X.K) := OpR.or op_ne (op_neD hu)
def rLess : R2 := fun x y H Q => (rI0 fun i j => .bl (decide (i < j))) x y H Q ∨ ∃ i j, x = .str i ∧ y = .str j ∧ Q (.bl (decide (i.cps.toList < j.cps.toList))) H
theorem o_lt {X : Cx} : OpR X (compareOp .Lt) rLess := OpR.or op_lt op_lt_str
def rLessE : R2 := fun x y H Q => (rI0 fun i j => .bl (decide (i ≤ j))) x y H Q ∨ ∃ i j, x = .str i ∧ y = .str j ∧ Q (.bl (!decide (j.cps.toList < i.cps.toList))) H
theorem o_le {X : Cx} : OpR X (compareOp .LtE) rLessE := OpR.or op_le op_le_str
def rMore : R2 := fun x y H Q => (rI0 fun i j => .bl (decide (j < i))) x y H Q ∨ ∃ i j, x = .str i ∧ y = .str j ∧ Q (.bl (decide (j.cps.toList < i.cps.toList))) H
theorem o_gt {X : Cx} : OpR X (compareOp .Gt) rMore := OpR.or op_gt op_gt_str
def rMoreE : R2 := fun x y H Q => (rI0 fun i j => .bl (decide (j ≤ i))) x y H Q ∨ ∃ i j, x = .str i ∧ y = .str j ∧ Q (.bl (!decide (i.cps.toList < j.cps.toList))) H
theorem o_ge {X : Cx} : OpR X (compareOp .GtE) rMoreE := OpR.or op_ge op_ge_str
def rInT : R2 := fun x y H Q => ∃ i j, x = .str i ∧ y = .str j ∧ Q (.bl (!(Builtin.Str.occurrences j i 0 j.length 1).isEmpty)) H
def rInC : R2 := fun x y H Q => ∃ (c : Nat) (z : Str), x = .str ⟨#[c]⟩ ∧ y = .str z ∧ Q (.bl (decide (c ∈ z.cps.toList))) H
/-- a in b -/
def rIsIn (K : PySem.W.Frag) : R2 := fun x y H Q => rInT x y H Q ∨ (rInC x y H Q ∨ (rInD K x y H Q ∨ rIn K false x y H Q))
theorem o_in {X : Cx} (hu : X.A.units + 65 < cLine) : OpR X (compareOp .In) (rIsIn X.K) := OpR.or op_in_str (OpR.or op_in_sign (OpR.or (op_inD hu) op_in_seq))
def rNotT : R2 := fun x y H Q => ∃ i j, x = .str i ∧ y = .str j ∧ Q (.bl (!(!(Builtin.Str.occurrences j i 0 j.length 1).isEmpty))) H
def rNotC : R2 := fun x y H Q => ∃ (c : Nat) (z : Str), x = .str ⟨#[c]⟩ ∧ y = .str z ∧ Q (.bl (!decide (c ∈ z.cps.toList))) H
def rIsNotIn (K : PySem.W.Frag) : R2 := fun x y H Q => rNotT x y H Q ∨ (rNotC x y H Q ∨ (rNotInD K x y H Q ∨ rIn K true x y H Q))
theorem o_notin {X : Cx} (hu : X.A.units + 65 < cLine) : OpR X (compareOp .NotIn) (rIsNotIn X.K) := OpR.or op_notin_str (OpR.or op_notIn_sign (OpR.or (op_notInD hu) op_notIn_seq))
def rIsNone : R2 := fun x y H Q => y = .non ∧ Q (.bl (decide (x = .non))) H
theorem o_is {X : Cx} : OpR X (compareOp .Is) rIsNone := op_isN
def rIsSome : R2 := fun x y H Q => y = .non ∧ Q (.bl (!decide (x = .non))) H
theorem o_isnot {X : Cx} : OpR X (compareOp .IsNot) rIsSome := op_notN
/-- a[i], a[i:j] -/
theorem o_ix {X : Cx} : IxR X (rIx X.K) := ix_seq
def rCut (K : PySem.W.Frag) : V → Option Int → Option Int → Hp → VK → Prop := fun x lo hi H Q => rSlS x lo hi H Q ∨ (rSlL K x lo hi H Q ∨ rSlA K x lo hi H Q)
theorem o_sl {X : Cx} : SlR X (rCut X.K) := SlR.or sl_str (SlR.or sl_list sl_tupA)

/-! ### a[::-1] -/
def revS (z : Str) : Str := ⟨z.cps.reverse⟩
theorem revS_len (z : Str) : (revS z).length = z.length := by show z.cps.reverse.size = z.cps.size; simp
theorem pick_rev (z : Str) : ((Builtin.Str.strSliceIndices none none (-1) z.length).filterMap (z.cps[·]?)).toArray = z.cps.reverse := by
  have e : Builtin.Str.strSliceIndices none none (-1) z.length = (List.range z.length).map fun k => z.length - 1 - k := by
    rw [← PySem.W.krv_sliceRange]
    first
      | rfl
      | simp [Builtin.Str.strSliceIndices]
  have h := PySem.pick_run z.cps 0 z.cps.size
  have e0 : (List.range z.cps.size).map (0 + ·) = List.range z.cps.size := by
    rw [show ((0 + ·) : Nat → Nat) = id from funext fun k => Nat.zero_add k, List.map_id]
  rw [e0, List.drop_zero, List.take_of_length_le (by rw [Array.length_toList]; exact Nat.le_refl _)] at h
  rw [e, PySem.W.krv_range, List.filterMap_reverse, show z.length = z.cps.size from rfl, h]
  rw [← List.reverse_toArray]
def tRev (K : PySem.W.Frag) (te : TE) : TE := fun σ H Q => te σ H fun x H1 => (∃ z, x = .str z ∧ z.length ≤ sizeLine ∧ Q (.str (revS z)) H1) ∨ (∃ a xs, x = .ref a ∧ SqL K H1 a xs ∧ ∀ p, H1 p = none → Q (.ref p) (upd H1 p (.lst xs.reverse)))
theorem pe_rev {X : Cx} {e : Expr} {te : TE} {p1 p2 p3 p4 : Pos} {j : _} (he : PE X e te) : PE X (.Subscript e (.Slice none none (some (.UnaryOp .USub (.Constant (.int 1) j p1) p2)) p3) p4) (tRev X.K te) := by
  refine ⟨fun pins s σ H Q I h => Subscript_ (thn (he.run pins s σ H _ I h) fun v s1 ⟨x, H1, I1, r1, q1⟩ => ?_)⟩
  refine wpAny_Slice ?_
  rw [evalPart_none]
  refine wpAny_pure (wpAny_pure ?_)
  rw [evalPart_some]
  have neg : PE X (.UnaryOp .USub (.Constant (.int 1) j p1) p2) (tUn (rU fun i => .int (-i)) (tC (.int 1))) := pe_un un_neg pe_int
  refine thn (neg.run pins s1 σ H1 (fun y H2 => y = .int (-1) ∧ H2 = H1) I1 ⟨1, rfl, rfl, rfl⟩) fun u s2 ⟨y, H2, I2, r2, ey, eH⟩ => ?_
  subst ey
  subst eH
  obtain ⟨tk, rfl⟩ := r2
  have I4 : Inv X pins σ H2 { s2 with heap := s2.heap.push { cls := .type "slice", data := .fields #[.none, .none, .int (-1) tk] } } := I2.kept (t' := s2.toks) fun b ob q => Heap.get?_push_of_some _ q
  show wpAny (model X.prog X.w) X.A (subscriptTail e _ v (.ref s2.heap.objs.size)) (EP X pins σ Q) X.xe { s2 with heap := s2.heap.push { cls := .type "slice", data := .fields #[.none, .none, .int (-1) tk] } }
  rcases q1 with ⟨z, rfl, hz, q⟩ | ⟨a, xs, rfl, hx, q⟩
  · obtain ⟨t, rfl⟩ := r1
    refine tail_any (typeIs_str _ z t) F.slot_str_getitem.lookup ?_ (by with_unfolding_all rfl)
    refine wpAny_getItem_str_slice (l := none) (u := none) (st := some (-1, tk)) ⟨_, Heap.get?_push_size _ rfl, rfl, rfl⟩ rfl ?_
    show Made.post (if ((-1 : Int) == 1 && (Builtin.Str.strSliceIndices none none (-1) z.length).length == z.length) = true then Made.val (.str z t)
      else Made.str ⟨((Builtin.Str.strSliceIndices none none (-1) z.length).filterMap (z.cps[·]?)).toArray⟩) (EP X pins σ Q) _
    rw [if_neg (by rw [show ((-1 : Int) == 1) = false by decide, Bool.false_and]; exact Bool.false_ne_true), pick_rev]
    exact ⟨by rw [show (⟨z.cps.reverse⟩ : Str) = revS z from rfl, revS_len]; exact hz, .str (revS z), H2, I4.tok _, ⟨_, rfl⟩, q⟩
  · have ea : v = Value.ref a := r1
    subst ea
    obtain ⟨its, r, ht, hzz⟩ := I4.list hx
    refine tail_any ht.isList.typeIs slot_list_getitem.lookup ?_ (by with_unfolding_all rfl)
    refine wpAny_getItem_list_slice ht.isList (Heap.IsSliceOf.new ..) .none .none (IsPart.int (-1) tk) (by decide) ?_ (by rw [List.size_toArray, ← r.length]; exact hzz)
    rw [PySem.W.krv_pick]
    refine ⟨.ref _, _, I4.laid (t' := s2.toks) (fun b o e => Heap.get?_push_of_some _ e) (Nat.le_refl _) ?_, rfl, q _ (I4.hok.fresh (Nat.le_refl _))⟩
    have rr : Vals xs.reverse its.reverse := by
      have key : ∀ {ys : List V} {us : List Value}, Vals ys us → Vals ys.reverse us.reverse := by
        intro ys us hyu
        induction hyu with
        | nil => exact .nil
        | cons h1 _ ih =>
          rw [List.reverse_cons, List.reverse_cons]
          exact ih.append (.cons h1 .nil)
      exact key r
    refine ⟨by rw [List.length_reverse]; exact hzz, its.reverse, 0, rr, ?_⟩
    exact Heap.get?_push_size _ rfl
end
section
/-! ### data -/
mutual
theorem Dp.same {K : PySem.W.Frag} {H H' : Hp} (e : Same H H') : ∀ {d : PyData} {v : V}, Dp K H v d → Dp K H' v d
  | _, _, .non => .non
  | _, _, .bl b => .bl b
  | _, _, .int i => .int i
  | _, _, .str x => .str x
  | _, _, .lst h a => .lst (e.seq h) (DpAll.same e a)
  | _, _, .tup h a => .tup (h.imp (fun r => r.imp (fun z => e _ _ z) fun ⟨o, z⟩ => ⟨o, e _ _ z⟩) id) (DpAll.same e a)
theorem DpAll.same {K : PySem.W.Frag} {H H' : Hp} (e : Same H H') : ∀ {ds : List PyData} {vs : List V}, DpAll K H vs ds → DpAll K H' vs ds
  | _, _, .nil => .nil
  | _, _, .cons h t => .cons (Dp.same e h) (DpAll.same e t)
end
theorem same_tup {K : PySem.W.Frag} {H H' : Hp} (e : Same H H') {a : Addr} {xs : List V} (h : SqT K H a xs) : SqT K H' a xs := h.imp (fun r => r.imp (fun z => e _ _ z) fun ⟨o, z⟩ => ⟨o, e _ _ z⟩) id
theorem same_new {H : Hp} {p : Addr} {o : HO} (h : H p = none) : Same H (upd H p o) := fun b u e => by
  rw [upd_ne (ne_of_none e h)]
  exact e
/-- two stores at different places -/
theorem upd_comm {H : Hp} {a b : Addr} {o u : HO} (h : a ≠ b) : upd (upd H a o) b u = upd (upd H b u) a o := by
  funext c
  unfold upd
  by_cases h1 : c = a
  · subst h1
    rw [if_neg h, if_pos rfl, if_pos rfl]
  · rw [if_neg h1, if_neg h1]
abbrev dI (ns : List Int) : PyData := .list (ns.map .int)
abbrev dS (xs : List Str) : PyData := .list (xs.map .str)
theorem dpAll_map {K : PySem.W.Frag} {H : Hp} {α : Type} (f : α → V) (g : α → PyData) (h : ∀ x, Dp K H (f x) (g x)) : ∀ xs : List α, DpAll K H (xs.map f) (xs.map g)
  | [] => .nil
  | x :: xs => .cons (h x) (dpAll_map f g h xs)
theorem dp_ints {K : PySem.W.Frag} {H : Hp} {a : Addr} {ns : List Int} (h : SqL K H a (ns.map V.int)) : Dp K H (.ref a) (dI ns) := .lst h (dpAll_map _ _ (fun i => .int i) ns)
theorem dp_strs {K : PySem.W.Frag} {H : Hp} {a : Addr} {xs : List Str} (h : SqL K H a (xs.map V.str)) : Dp K H (.ref a) (dS xs) := .lst h (dpAll_map _ _ (fun i => .str i) xs)

/-- what shows well -/
structure Nice (d : PyData) : Prop where
  sh : SeqAt.shaped d = true
  sw : d.showable = true
  sz : d.shown.length ≤ sizeLine
/-- bounds: c signs, k deep -/
structure Bd (c k : Nat) (d : PyData) : Prop where
  sz : d.shown.length ≤ c
  sw : d.showable = true
  cl : d.canLay0 = true
  dp : d.depth ≤ k
theorem Bd.nice {c k : Nat} {d : PyData} (b : Bd c k d) (hc : c ≤ 16777216) (hk : k ≤ 64) : Nice d :=
  ⟨by unfold SeqAt.shaped; rw [Bool.and_eq_true]; exact ⟨b.cl, decide_eq_true (Nat.le_trans b.dp hk)⟩, b.sw, Nat.le_trans b.sz (by rw [sizeLine_eq]; exact hc)⟩
theorem Bd.mono {c c' k k' : Nat} {d : PyData} (b : Bd c k d) (h : c ≤ c') (h' : k ≤ k') : Bd c' k' d := ⟨Nat.le_trans b.sz h, b.sw, b.cl, Nat.le_trans b.dp h'⟩
theorem bd_none : Bd 4 0 .none := ⟨by decide +kernel, rfl, rfl, Nat.le_refl _⟩
theorem bd_bool (b : Bool) : Bd 5 0 (.bool b) := ⟨by cases b <;> decide +kernel, rfl, rfl, Nat.le_refl _⟩
theorem bd_int {i : Int} {k : Nat} (h : i.natAbs < 10 ^ (k + 1)) (hk : k ≤ 500) : Bd (k + 2) 0 (.int i) := by
  refine ⟨?_, decide_eq_true ?_, rfl, Nat.le_refl _⟩
  · show (Str.ofString (toString i)).length ≤ _
    rw [PySem.ofString_length]
    exact int_text_length_le10 (by omega) h
  · by_cases z : i.natAbs = 0
    · rw [z]; decide
    · have h2 : i.natAbs < 2 ^ 1920 := Nat.lt_of_lt_of_le h (Nat.le_trans (Nat.pow_le_pow_right (by decide) (show k + 1 ≤ 501 by omega)) (by decide +kernel))
      exact (Nat.log2_lt z).mpr h2
theorem bd_str {x : Str} {n : Nat} (h : x.length ≤ n) (hx : ∀ c ∈ x.cps.toList, c < 128) : Bd (10 * n + 2) 0 (.str x) := by
  refine ⟨Nat.le_trans (StrLaws.reprText_len x fun c hc => Nat.lt_trans (hx c hc) (by decide)) (by omega), rfl, ?_, Nat.le_refl _⟩
  show x.cps.all (· < 0x110000) = true
  rw [Array.all_eq_true']
  intro c hc
  have q := hx c (by simpa using hc)
  exact decide_eq_true (Nat.lt_trans q (by decide))
theorem piled_le {c : Nat} : ∀ ts : List Str, (∀ t ∈ ts, t.length ≤ c) → piled ts ≤ ts.length * (c + 2)
  | [], _ => by simp [piled_nil]
  | t :: ts, h => by
    rw [piled_cons, List.length_cons]
    have h1 := h t List.mem_cons_self
    have h2 := piled_le ts fun u hu => h u (List.mem_cons_of_mem _ hu)
    rw [Nat.add_mul]
    omega
theorem shownAll_map : ∀ ds : List PyData, PyData.shownAll ds = ds.map PyData.shown
  | [] => rfl
  | d :: ds => by
    show PyData.shown d :: PyData.shownAll ds = _
    rw [shownAll_map ds]
    rfl
theorem bd_all {c k : Nat} : ∀ {ds : List PyData}, (∀ d ∈ ds, Bd c k d) → PyData.showableAll ds = true ∧ PyData.canLayAll0 ds = true ∧ PyData.depthAll ds ≤ k ∧ ∀ t ∈ PyData.shownAll ds, t.length ≤ c
  | [], _ => ⟨rfl, rfl, Nat.zero_le _, fun _ h => by cases h⟩
  | d :: ds, h => by
    have b := h d List.mem_cons_self
    obtain ⟨q1, q2, q3, q4⟩ := bd_all (ds := ds) fun u hu => h u (List.mem_cons_of_mem _ hu)
    refine ⟨?_, ?_, ?_, fun t ht => ?_⟩
    · show (PyData.showable d && PyData.showableAll ds) = true
      rw [b.sw, q1]; rfl
    · show (PyData.canLay0 d && PyData.canLayAll0 ds) = true
      rw [b.cl, q2]; rfl
    · show max _ _ ≤ k
      exact Nat.max_le.mpr ⟨b.dp, q3⟩
    · rcases List.mem_cons.mp ht with e | e
      · rw [e]; exact b.sz
      · exact q4 t e
theorem textFrom_le : ∀ ts : List Str, (listText ts).length ≤ 2 + piled ts := fun ts => by
  unfold listText
  cases ts with
  | nil =>
    show ((textFrom 0 "[" []) ++ ("]" : Str)).length ≤ _
    unfold textFrom
    rw [piled_nil]
    decide +kernel
  | cons t ts =>
    show ((textFrom 0 "[" (t :: ts)) ++ ("]" : Str)).length ≤ _
    unfold textFrom
    rw [Str.length_append, textFrom_length_pos _ _ _ (by omega), piled_cons]
    have e1 : ("[" : Str).length = 1 := by decide +kernel
    have e2 : ("]" : Str).length = 1 := by decide +kernel
    rw [if_neg (by omega : ¬ 0 > 0)]
    simp only [Str.length_append, e1, e2, show (Str.ofString "").length = 0 by decide +kernel]
    omega
theorem bd_list {c k n : Nat} {ds : List PyData} (h : ∀ d ∈ ds, Bd c k d) (hn : ds.length ≤ n) : Bd (2 + n * (c + 2)) (k + 1) (.list ds) := by
  obtain ⟨q1, q2, q3, q4⟩ := bd_all h
  refine ⟨?_, q1, q2, ?_⟩
  · show (listText (PyData.shownAll ds)).length ≤ _
    refine Nat.le_trans (textFrom_le _) ?_
    have l := piled_le _ q4
    rw [shownAll_map, List.length_map] at l
    rw [shownAll_map]
    have := Nat.mul_le_mul_right (c + 2) hn
    omega
  · show PyData.depthAll ds + 1 ≤ k + 1
    omega
end
section
/-! ### steps: what a reading asks, one piece at a time -/
/-- a new object -/
abbrev NewO (C : Prop) (o : HO) (H1 : Hp) (Q : VK) : Prop := C ∧ ∀ p, H1 p = none → Q (.ref p) (upd H1 p o)
/-- a comprehension is done -/
abbrev DoneC (Q : VK) (D : Addr) (H : Hp) : Prop := Q (.ref D) H
section
variable {K : PySem.W.Frag} {σ : L2.St} {H : Hp} {Q : VK} {D : Ends} {ta tb tc te : TE} {t u : TS} {T U : TT} {ts : TA} {r : R2} {i j : Int} {n : Nat} {x y v : V} {a b : Addr} {z z' : Str} {c k : Bool} {QT : Bool → Hp → Prop} {QA : List V → Hp → Prop}
theorem s_var (e : σ[n]? = some (some v)) (q : Q v H) : tVar n σ H Q := ⟨v, e, q⟩
theorem s_c (q : Q v H) : tC v σ H Q := q
theorem s_op (q : ta σ H fun x H1 => tb σ H1 fun y H2 => r x y H2 Q) : tOp r ta tb σ H Q := q
theorem s_un {f : V → Hp → VK → Prop} (q : ta σ H fun x H1 => f x H1 Q) : tUn f ta σ H Q := q
theorem s_neg {g : Int → V} (q : Q (g i) H) : rU g (.int i) H Q := ⟨i, rfl, q⟩
theorem s_addI (q : Q (.int (i + j)) H) : rPlus K (.int i) (.int j) H Q := .inl ⟨i, j, rfl, rfl, q⟩
theorem s_addT (h : z.length + z'.length ≤ sizeLine) (q : Q (.str (z ++ z')) H) : rPlus K (.str z) (.str z') H Q := .inr (.inl ⟨z, z', rfl, rfl, h, q⟩)
theorem s_addL {xs ys : List V} (h1 : H a = some (.lst xs)) (h2 : H b = some (.lst ys)) (h : xs.length + ys.length ≤ sizeLine) (q : ∀ p, H p = none → Q (.ref p) (upd H p (.lst (xs ++ ys)))) : rPlus K (.ref a) (.ref b) H Q :=
  .inr (.inr (.inl ⟨a, b, xs, ys, rfl, rfl, h1, h2, h, q⟩))
theorem s_sub (q : Q (.int (i - j)) H) : rMinus (.int i) (.int j) H Q := ⟨i, j, rfl, rfl, q⟩
theorem s_mulI (h : CMulW i j) (q : Q (.int (i * j)) H) : rTimes (.int i) (.int j) H Q := .inl ⟨i, j, rfl, rfl, h, q⟩
theorem s_mulT (h : MulOk z i) (q : Q (.str (Txt.mul z i)) H) : rTimes (.str z) (.int i) H Q := .inr (.inr (.inl ⟨z, i, rfl, rfl, h, q⟩))
theorem s_mulC (h : CMul i j) (q : Q (.int (i * j)) H) : rTimes (.int i) (.int j) H Q := .inr (.inl ⟨i, j, rfl, rfl, h, q⟩)
theorem s_mulL {xs : List V} (h : H a = some (.lst xs)) (h1 : -(2 ^ 63) ≤ i) (h2 : i < 2 ^ 63) (h3 : xs.length * i.toNat ≤ sizeLine) (q : ∀ p, H p = none → Q (.ref p) (upd H p (.lst (List.replicate i.toNat xs).flatten))) : rTimes (.ref a) (.int i) H Q :=
  .inr (.inr (.inr ⟨a, i, xs, rfl, rfl, h, h1, h2, h3, q⟩))
theorem s_mod (h : 0 < j) (q : Q (.int (i % j)) H) : rMod (.int i) (.int j) H Q := ⟨i, j, rfl, rfl, h, q⟩
theorem s_div (h : CDivW i j) (q : Q (.int (i / j)) H) : rDiv (.int i) (.int j) H Q := ⟨i, j, rfl, rfl, h, q⟩
theorem s_pow (h : CPow i j) (q : Q (.int (i ^ j.toNat)) H) : rPow (.int i) (.int j) H Q := ⟨i, j, rfl, rfl, h, q⟩
theorem dec_int (i j : Int) : decide (V.int i = V.int j) = decide (i = j) := decide_eq_decide.mpr ⟨fun h => V.int.inj h, fun h => by rw [h]⟩
theorem dec_str (z z' : Str) : decide (V.str z = V.str z') = decide (z = z') := decide_eq_decide.mpr ⟨fun h => V.str.inj h, fun h => by rw [h]⟩
theorem dec_bl (c k : Bool) : decide (V.bl c = V.bl k) = decide (c = k) := decide_eq_decide.mpr ⟨fun h => V.bl.inj h, fun h => by rw [h]⟩
theorem s_eqI (q : Q (.bl (decide (i = j))) H) : rSame K (.int i) (.int j) H Q := .inl ⟨rfl, by rw [dec_int]; exact q⟩
theorem s_eqT (q : Q (.bl (decide (z = z'))) H) : rSame K (.str z) (.str z') H Q := .inl ⟨rfl, by rw [dec_str]; exact q⟩
theorem s_eqB (q : Q (.bl (decide (c = k))) H) : rSame K (.bl c) (.bl k) H Q := .inl ⟨rfl, by rw [dec_bl]; exact q⟩
theorem s_eqNI (q : Q (.bl false) H) : rSame K .non (.int i) H Q := .inl ⟨rfl, q⟩
theorem s_eqIN (q : Q (.bl false) H) : rSame K (.int i) .non H Q := .inl ⟨rfl, q⟩
theorem s_eqNN (q : Q (.bl true) H) : rSame K .non .non H Q := .inl ⟨rfl, q⟩
theorem s_eqD {d e : PyData} (h1 : Dp K H x d) (h2 : Dp K H y e) (s1 : SeqAt.shaped d = true) (s2 : SeqAt.shaped e = true) (q : Q (.bl (PyData.eqv d e)) H) : rSame K x y H Q := .inr ⟨d, e, h1, h2, s1, s2, q⟩
theorem s_neI (q : Q (.bl (!decide (i = j))) H) : rDiff K (.int i) (.int j) H Q := .inl ⟨rfl, by rw [dec_int]; exact q⟩
theorem s_neT (q : Q (.bl (!decide (z = z'))) H) : rDiff K (.str z) (.str z') H Q := .inl ⟨rfl, by rw [dec_str]; exact q⟩
theorem s_neB (q : Q (.bl (!decide (c = k))) H) : rDiff K (.bl c) (.bl k) H Q := .inl ⟨rfl, by rw [dec_bl]; exact q⟩
theorem s_neD {d e : PyData} (h1 : Dp K H x d) (h2 : Dp K H y e) (s1 : SeqAt.shaped d = true) (s2 : SeqAt.shaped e = true) (q : Q (.bl (!PyData.eqv d e)) H) : rDiff K x y H Q := .inr ⟨d, e, h1, h2, s1, s2, q⟩
theorem s_lt (q : Q (.bl (decide (i < j))) H) : rLess (.int i) (.int j) H Q := .inl ⟨i, j, rfl, rfl, q⟩
theorem s_le (q : Q (.bl (decide (i ≤ j))) H) : rLessE (.int i) (.int j) H Q := .inl ⟨i, j, rfl, rfl, q⟩
theorem s_gt (q : Q (.bl (decide (j < i))) H) : rMore (.int i) (.int j) H Q := .inl ⟨i, j, rfl, rfl, q⟩
theorem s_ge (q : Q (.bl (decide (j ≤ i))) H) : rMoreE (.int i) (.int j) H Q := .inl ⟨i, j, rfl, rfl, q⟩
theorem s_isN (q : Q (.bl (decide (x = .non))) H) : rIsNone x .non H Q := ⟨rfl, q⟩
theorem s_isS (q : Q (.bl (!decide (x = .non))) H) : rIsSome x .non H Q := ⟨rfl, q⟩
/-! a[i] -/
theorem s_ixL {xs : List V} (h : SqL K H a xs) (e : atI xs i = some v) (q : Q v H) : rIx K (.ref a) (.int i) H Q := .inl ⟨a, xs, i, v, rfl, rfl, h, e, q⟩
theorem s_ixT {xs : List V} (h : SqT K H a xs) (e : atI xs i = some v) (q : Q v H) : rIx K (.ref a) (.int i) H Q := .inr (.inl ⟨a, xs, i, v, rfl, rfl, h, e, q⟩)
theorem s_ixS {m : Nat} (h : z.length ≤ sizeLine) (e : atI z.cps.toList i = some m) (q : Q (.str ⟨#[m]⟩) H) : rIx K (.str z) (.int i) H Q := .inr (.inr ⟨z, i, m, rfl, rfl, h, e, q⟩)
/-- an item of a written list, at a drawn place -/
theorem s_pick {xs : List V} (h : H a = some (.lst xs)) (h0 : 0 ≤ i) (h1 : i < xs.length) (q : ∀ (m : Nat) (hm : m < xs.length), i = (m : Int) → Q xs[m] H) : rIx K (.ref a) (.int i) H Q := by
  obtain ⟨m, rfl⟩ : ∃ m : Nat, i = (m : Int) := ⟨i.toNat, by omega⟩
  have hm : m < xs.length := by omega
  exact s_ixL (v := xs[m]) (SqL.of h) (atI_nat (by simp [List.getElem?_eq_getElem hm])) (q m hm rfl)
/-! tests -/
theorem s_test (q : ta σ H fun x H1 => ∃ k, x = .bl k ∧ QT k H1) : tTest ta σ H QT := q
theorem s_exq {R : Bool → Prop} (q : R c) : ∃ k, V.bl c = .bl k ∧ R k := ⟨c, rfl, q⟩
theorem s_truB {R : Bool → Prop} (q : R c) : ∃ k, TruV K (.bl c) H k ∧ R k := ⟨c, rfl, q⟩
theorem s_truI {R : Bool → Prop} (q : R (i != 0)) : ∃ k, TruV K (.int i) H k ∧ R k := ⟨_, rfl, q⟩
theorem s_truN {R : Bool → Prop} (q : R false) : ∃ k, TruV K .non H k ∧ R k := ⟨_, rfl, q⟩
theorem s_truL {R : Bool → Prop} {xs : List V} (h : SqL K H a xs) (q : R (!xs.isEmpty)) : ∃ k, TruV K (.ref a) H k ∧ R k := ⟨_, .inl ⟨xs, h, rfl⟩, q⟩
theorem s_and (q : T σ H fun c H1 => if c = true then U σ H1 QT else QT false H1) : tAnd T U σ H QT := q
theorem s_or (q : T σ H fun c H1 => if c = true then QT true H1 else U σ H1 QT) : tOr T U σ H QT := q
theorem s_not (q : T σ H fun c H1 => QT (!c) H1) : tNot T σ H QT := q
theorem s_andV (q : ta σ H fun x H1 => ∃ c, x = .bl c ∧ if c = true then tb σ H1 Q else Q (.bl false) H1) : tAndV ta tb σ H Q := q
theorem s_orV (q : ta σ H fun x H1 => ∃ c, x = .bl c ∧ if c = true then Q (.bl true) H1 else tb σ H1 Q) : tOrV ta tb σ H Q := q
theorem s_notV (q : ta σ H fun x H1 => ∃ c, x = .bl c ∧ Q (.bl (!c)) H1) : tNotV ta σ H Q := q
theorem s_ife (q : T σ H fun c H1 => if c = true then ta σ H1 Q else tb σ H1 Q) : tIf T ta tb σ H Q := q
theorem s_chain {r' : R2} (q : ta σ H fun x H1 => tb σ H1 fun y H2 => r x y H2 fun z H3 => ∃ k, z = .bl k ∧ (if k = true then tc σ H3 fun w' H4 => r' y w' H4 Q else Q (.bl false) H3)) : tChain r r' ta tb tc σ H Q := q
/-! an if -/
theorem s_if {p A B : Prop} [Decidable p] (h1 : p → A) (h2 : ¬ p → B) : if decide p = true then A else B := ite2 (fun h => h1 (of_decide_eq_true h)) (fun h => h2 fun hp => h (decide_eq_true hp))
theorem s_ifn {p A B : Prop} [Decidable p] (h1 : ¬ p → A) (h2 : p → B) : if (!decide p) = true then A else B := ite2 (fun h => h1 fun hp => by rw [decide_eq_true hp] at h; cases h) (fun h => h2 (Classical.byContradiction fun hp => h (by rw [decide_eq_false hp]; rfl)))
theorem s_ify {p A B : Prop} [Decidable p] (h : p) (q : A) : if decide p = true then A else B := by rw [if_pos (decide_eq_true h)]; exact q
theorem s_ifo {p A B : Prop} [Decidable p] (h : ¬ p) (q : B) : if decide p = true then A else B := by rw [if_neg (by rw [decide_eq_false h]; exact Bool.false_ne_true)]; exact q
theorem s_ifb {A B : Prop} (h1 : c = true → A) (h2 : c = false → B) : if c = true then A else B := ite2 h1 fun h => h2 (Bool.eq_false_iff.mpr h)
theorem s_ifT {A B : Prop} (q : A) : if true = true then A else B := iteT q
theorem s_ifF {A B : Prop} (q : B) : if false = true then A else B := iteF q
theorem s_ifnT {A B : Prop} (q : B) : if (!true) = true then A else B := iteF q
theorem s_ifnF {A B : Prop} (q : A) : if (!false) = true then A else B := iteT q
/-! displays, arguments -/
theorem s_nil (q : QA [] H) : tNil σ H QA := q
theorem s_cons {tr : TA} (q : ta σ H fun x H1 => tr σ H1 fun xs H2 => QA (x :: xs) H2) : tCons ta tr σ H QA := q
theorem s_tup (q : ts σ H fun xs H1 => NewO (xs.length ≤ sizeLine) (.tup xs) H1 Q) : tTup ts σ H Q := q
theorem s_lst (q : ts σ H fun xs H1 => NewO (xs.length ≤ sizeLine) (.lst xs) H1 Q) : tLst ts σ H Q := q
theorem small_sz {m : Nat} (h : m ≤ 16777216) : m ≤ sizeLine := by rw [sizeLine_eq]; exact h
theorem s_call {sp : Sp} {E : L2.St → XK} (q : ts σ H fun vs H1 => Fr sp vs H1 Q (E σ)) : gCall sp E ts σ H Q := q
theorem s_cb {f : List V → Hp → VK → Prop} (q : ts σ H fun vs H1 => f vs H1 Q) : tCB f ts σ H Q := q
/-- the callee sees all -/
theorem s_all {sp : Sp} {vs : List V} {E : XK} (q : sp vs H Q E) : Fr sp vs H Q E := by
  refine ⟨[], H, rfl, (fun _ h => by cases h), ?_⟩
  have e1 : (fun v H' => Off [] H' → Q v (lay [] H')) = Q := by
    funext v H'
    exact propext ⟨fun h => h (fun _ z => nomatch z), fun h _ => h⟩
  have e2 : (fun c d H' => Off [] H' → E c d (lay [] H')) = E := by
    funext c d H'
    exact propext ⟨fun h => h (fun _ z => nomatch z), fun h _ => h⟩
  rw [e1, e2]
  exact q
/-- the callee does not see the list at p -/
theorem s_but {sp : Sp} {vs : List V} {E : XK} {p : Addr} {xs : List V} (h : H p = none) (q : sp vs H (fun v H' => H' p = none → Q v (upd H' p (.lst xs))) fun c d H' => H' p = none → E c d (upd H' p (.lst xs))) : Fr sp vs (upd H p (.lst xs)) Q E := by
  refine ⟨[(p, xs)], H, rfl, fun m hm => ?_, ?_⟩
  · rcases List.mem_singleton.mp hm with rfl
    exact h
  · have e1 : (fun v H' => Off [(p, xs)] H' → Q v (lay [(p, xs)] H')) = fun v H' => H' p = none → Q v (upd H' p (.lst xs)) := by
      funext v H'
      exact propext ⟨fun h n => h fun m hm => by rcases List.mem_singleton.mp hm with rfl; exact n, fun h n => h (n _ List.mem_cons_self)⟩
    have e2 : (fun c d H' => Off [(p, xs)] H' → E c d (lay [(p, xs)] H')) = fun c d H' => H' p = none → E c d (upd H' p (.lst xs)) := by
      funext c d H'
      exact propext ⟨fun h n => h fun m hm => by rcases List.mem_singleton.mp hm with rfl; exact n, fun h n => h (n _ List.mem_cons_self)⟩
    rw [e1, e2]
    exact q
/-! statements -/
theorem s_seq (q : t { D with nx := u D } σ H) : tSeq t u D σ H := q
theorem s_asg {g : TG} (q : te σ H fun x H1 => g x σ H1 D.nx) : tAsg te g D σ H := q
theorem s_name {R : L2.St → Hp → Prop} (q : R (σ.set n (some v)) H) : gName n v σ H R := q
theorem s_ifs (q : T σ H fun c H1 => if c = true then t D σ H1 else u D σ H1) : tIfS T t u D σ H := q
theorem s_ret (q : te σ H D.rt) : tRet te D σ H := q
theorem s_next (q : D.nx σ H) : tNext D σ H := q
theorem s_drop (q : te σ H fun _ H1 => D.nx σ H1) : tDrop te D σ H := q
end
end
section
/-- the built-ins that no name of the module hides -/
def bltNames : List Str := ["len", "range", "int", "abs", "min", "max", "sorted", "repr", "isinstance", "list", "set", "dict", "str", "sum", "zip", "enumerate", "reversed", "all", "any", "divmod", "tuple", "super", "bool", "ValueError", "type"]
abbrev Blt (mg : Str → Option Value) : Prop := ∀ x : Str, x ∈ bltNames → mg x = none
section
variable {X : Cx} {e : Expr} {te : TE}
def gTruth (K : PySem.W.Frag) (te : TE) : TT := fun σ H Q => te σ H fun x H' => ∃ k, TruV K x H' k ∧ Q k H'
theorem g_truth (h : PE X e te) (he : ∀ whole, isTrue e X.env whole = (do let v ← whole; standAt e.pos; holding [v] (truthy v)) := by intro _; rfl) : PT X e (gTruth X.K te) := pt_truth h he
theorem o_len : CallR X (.builtin "len") (rLen X.K) := call_len
def rAbs : List V → Hp → VK → Prop := fun xs H Q => ∃ i, xs = [.int i] ∧ Q (.int (if i < 0 then -i else i)) H
theorem o_abs : CallR X (.builtin "abs") rAbs := call_abs
def rMin2 : List V → Hp → VK → Prop := fun xs H Q => ∃ i j, xs = [.int i, .int j] ∧ Q (.int (if j < i then j else i)) H
theorem o_min2 (hc : X.calm = true) : CallR X (.builtin "min") rMin2 := call_min2 hc
def rMax2 : List V → Hp → VK → Prop := fun xs H Q => ∃ i j, xs = [.int i, .int j] ∧ Q (.int (if j > i then j else i)) H
theorem o_max2 (hc : X.calm = true) : CallR X (.builtin "max") rMax2 := call_max2 hc
def rInt : List V → Hp → VK → Prop := fun xs H Q => (∃ i, xs = [.int i] ∧ Q (.int i) H) ∨ ∃ k, xs = [.bl k] ∧ Q (.int (if k then 1 else 0)) H
theorem o_int : CallR X (.type "int") rInt := call_int1
def rListS : List V → Hp → VK → Prop := fun xs H Q => ∃ z, xs = [.str z] ∧ z.length ≤ sizeLine ∧ ∀ l, H l = none → Q (.ref l) (upd H l (.lst (z.cps.toList.map fun c => .str ⟨#[c]⟩)))
/-- list(a text) -/
theorem o_listS (hc : X.calm = true) : CallR X (.type "list") rListS := by
  intro pins s σ H xs us Q I r h
  obtain ⟨z, rfl, hz, q⟩ := h
  obtain ⟨u, rfl, rx⟩ := vals1 r
  obtain ⟨t, rfl⟩ := rx
  refine call_list_str (I.ok.hd hc) z t (fun h' tk acc c' kp e hi => ?_) hz
  have len : acc.toList.length = z.cps.toList.length := by rw [Array.length_toList, Array.length_toList]; exact hi.1
  have rel : Vals (z.cps.toList.map fun c => V.str ⟨#[c]⟩) acc.toList := by
    refine vals_of_at (by rw [List.length_map, len]) fun j x v hx hv => ?_
    rw [List.getElem?_map] at hx
    cases hc2 : z.cps.toList[j]? with
    | none =>
      rw [hc2] at hx
      cases hx
    | some c =>
      rw [hc2] at hx
      cases hx
      obtain ⟨d, t', e1, e2⟩ := hi.2 j v (by rw [← hv, Array.getElem?_toList])
      rw [Array.getElem?_toList] at hc2
      rw [hc2] at e1
      cases e1
      exact ⟨t', e2⟩
  exact ⟨.ref s.heap.objs.size, _, I.laid (t' := tk) kp (Nat.le_refl _) (show ObjOk X.prog X.w _ h' _ (.lst _) from ⟨by rw [List.length_map, Array.length_toList]; exact hz, acc.toList, c', rel, by rw [Array.toArray_toList]; exact e⟩), rfl, q _ (I.hok.fresh (Nat.le_refl _))⟩
def rListOf (K : PySem.W.Frag) : List V → Hp → VK → Prop := fun xs H Q => (∃ p ys, xs = [.ref p] ∧ (SqL K H p ys ∨ SqT K H p ys) ∧ ∀ l, H l = none → Q (.ref l) (upd H l (.lst ys))) ∨ rListS xs H Q
theorem o_list (hc : X.calm = true) : CallR X (.type "list") (rListOf X.K) := CallR.or call_list_of (o_listS hc)
def rStrI : List V → Hp → VK → Prop := fun xs H Q => ∃ i, xs = [.int i] ∧ i.natAbs.log2 < 1920 ∧ Q (.str (toString i)) H
def rJoin (K : PySem.W.Frag) : V → List V → Hp → VK → Prop := fun x xs H Q => ∃ a p, ∃ ys : List Str, x = .str a ∧ xs = [.ref p] ∧ (SqL K H p (ys.map V.str) ∨ SqT K H p (ys.map V.str)) ∧ (ys.map (·.length)).sum + ys.length * a.length ≤ 16777216 ∧ Q (.str (Txt.join a ys)) H
def rStarts : V → List V → Hp → VK → Prop := fun x xs H Q => ∃ a b, x = .str a ∧ xs = [.str b] ∧ Q (.bl (Txt.startswith a b)) H
def rEnds : V → List V → Hp → VK → Prop := fun x xs H Q => ∃ a b, x = .str a ∧ xs = [.str b] ∧ Q (.bl (Txt.endswith a b)) H
def rCount : V → List V → Hp → VK → Prop := fun x xs H Q => ∃ a b, x = .str a ∧ xs = [.str b] ∧ Q (.int (Txt.count a b)) H
def rFind : V → List V → Hp → VK → Prop := fun x xs H Q => ∃ a b, x = .str a ∧ xs = [.str b] ∧ Q (.int (Txt.find a b)) H
def rInsert : V → List V → Hp → VK → Prop := fun x vs H Q => ∃ (l : Addr) (xs : List V) (i : Int) (y : V), x = .ref l ∧ vs = [.int i, y] ∧ H l = some (.lst xs) ∧ xs.length < sizeLine ∧ 0 ≤ i ∧ i < 2 ^ 63 ∧
  Q .non (upd H l (.lst (xs.take i.toNat ++ [y] ++ xs.drop i.toNat)))
/-- xs[i] op= e -/
def rGetL (K : PySem.W.Frag) : V → V → Hp → VK → Prop := rIxL K
theorem get_list : PGet X (rGetL X.K) := by
  intro pins s σ H o i ov iv Q I ro ri h
  obtain ⟨p, xs, j, z, rfl, rfl, hq, he, q⟩ := h
  cases ro
  obtain ⟨t, rfl⟩ := ri
  obtain ⟨its, r, pl, hz⟩ := I.list hq
  obtain ⟨m, h1, h2, h3, h4, h5⟩ := atI_get he
  obtain ⟨w, ew, rw'⟩ := r.get h2
  have hl := r.length
  have hn := line63
  have fin : EP X pins σ Q w s := ⟨z, H, I, rw', q⟩
  by_cases h0 : 0 ≤ j
  · have hj : j.toNat = m := by
      rw [seqIndex_of h0 h5] at h1
      exact Option.some.inj h1
    exact wpAny_getItem_list pl.isList h0 (by omega) (by rw [hj]; simpa using ew) fin
  · have hj : (j + (its.toArray.size : Int)).toNat = m := by
      rw [seqIndex_neg (by omega) h4] at h1
      rw [List.size_toArray, ← hl]
      exact Option.some.inj h1
    exact wpAny_getItem_list_neg pl.isList (by omega) (by rw [List.size_toArray] <;> omega) (by omega) (by rw [hj]; simpa using ew) fin
def ipAdd (K : PySem.W.Frag) : TIp := ipI fun i j => i + j
theorem ip_plus : PIp X .Add (ipAdd X.K) := ip_add
def ipMul : TIp := rI CMul fun i j => .int (i * j)
theorem ip_times : PIp X .Mult ipMul := iop_mul
end

section
variable {K : PySem.W.Frag} {σ : L2.St} {H : Hp} {Q : VK} {i j : Int} {n : Nat} {x y v : V} {a b : Addr} {z z' : Str} {c k : Bool} {QT : Bool → Hp → Prop} {ta tb te : TE} {to ti : TE}
theorem s_truth (q : te σ H fun x H' => ∃ k, TruV K x H' k ∧ QT k H') : gTruth K te σ H QT := q
theorem s_lenL {xs : List V} (h : SqL K H a xs) (q : Q (.int xs.length) H) : rLen K [.ref a] H Q := ⟨_, _, rfl, .inl ⟨xs, h, rfl⟩, q⟩
theorem s_lenS (h : z.length ≤ sizeLine) (q : Q (.int z.length) H) : rLen K [.str z] H Q := ⟨_, _, rfl, ⟨h, rfl⟩, q⟩
theorem s_abs (q : Q (.int (if i < 0 then -i else i)) H) : rAbs [.int i] H Q := ⟨i, rfl, q⟩
theorem s_min2 (q : Q (.int (min i j)) H) : rMin2 [.int i, .int j] H Q := ⟨i, j, rfl, by
  have e : (if j < i then j else i) = min i j := by
    rw [Int.min_def]
    split <;> split <;> omega
  rw [e]; exact q⟩
theorem s_max2 (q : Q (.int (max i j)) H) : rMax2 [.int i, .int j] H Q := ⟨i, j, rfl, by
  have e : (if j > i then j else i) = max i j := by
    rw [Int.max_def]
    split <;> split <;> omega
  rw [e]; exact q⟩
theorem s_intI (q : Q (.int i) H) : rInt [.int i] H Q := .inl ⟨i, rfl, q⟩
theorem s_intB (q : Q (.int (if c then 1 else 0)) H) : rInt [.bl c] H Q := .inr ⟨c, rfl, q⟩
theorem s_rg1 {R : Int → Int → Hp → Prop} (q : ta σ H fun x H1 => ∃ n, x = .int n ∧ R 0 n H1) : tRg1 ta σ H R := q
theorem s_rg2 {R : Int → Int → Hp → Prop} (q : ta σ H fun x H1 => tb σ H1 fun y H2 => ∃ i j, x = .int i ∧ y = .int j ∧ R i j H2) : tRg2 ta tb σ H R := q
theorem s_rg1e {R : Int → Prop} (q : R i) : ∃ n, V.int i = .int n ∧ R n := ⟨i, rfl, q⟩
theorem s_rg2e {R : Int → Int → Prop} (q : R i j) : ∃ n m, V.int i = .int n ∧ V.int j = .int m ∧ R n m := ⟨i, j, rfl, rfl, q⟩
theorem s_lrg {R : L2.St → Hp → (Int → Int → Hp → Prop) → Prop} (q : R σ H fun a b H1 => NewO (RgOk a b) (.lst (rgV a b)) H1 Q) : tLstRg R σ H Q := q
end

/-! ### the law's bag -/
/-- the bag's items -/
def bagV (c : Addr) (a0 a1 a2 : Int) : List V := [.int a0, .int a1, .int a2, .ref c]
/-- a bag at b, over the heap H without it -/
structure Bag (K : PySem.W.Frag) (H : Hp) (b : Addr) (xs : List V) : Prop where
  off : H b = none
  is : ∃ (c : Addr) (a0 a1 a2 : Int) (ns : List Int), xs = bagV c a0 a1 a2 ∧ SqL K H c (ns.map V.int) ∧ (∀ m ∈ ns, 0 ≤ m) ∧ ns.length ≤ 1000 ∧ 0 ≤ a0 ∧ 0 ≤ a1 ∧ a1 < 2147483647 ∧ 0 ≤ a2
theorem Bag.same {K : PySem.W.Frag} {H H' : Hp} {b : Addr} {xs : List V} (B : Bag K H b xs) (e : Same H H') (h : H' b = none) : Bag K H' b xs := by
  obtain ⟨c, a0, a1, a2, ns, h1, h2, h3, h4, h5, h6, h7, h8⟩ := B.is
  exact ⟨h, c, a0, a1, a2, ns, h1, e.seq h2, h3, h4, h5, h6, h7, h8⟩
/-- one, two, .. arguments -/
def sp1 (f : V → Hp → VK → XK → Prop) : Sp := fun vs H Q E => ∃ a, vs = [a] ∧ f a H Q E
def sp2 (f : V → V → Hp → VK → XK → Prop) : Sp := fun vs H Q E => ∃ a b, vs = [a, b] ∧ f a b H Q E
def sp3 (f : V → V → V → Hp → VK → XK → Prop) : Sp := fun vs H Q E => ∃ a b c, vs = [a, b, c] ∧ f a b c H Q E
def sp4 (f : V → V → V → V → Hp → VK → XK → Prop) : Sp := fun vs H Q E => ∃ a b c d, vs = [a, b, c, d] ∧ f a b c d H Q E
def sp5 (f : V → V → V → V → V → Hp → VK → XK → Prop) : Sp := fun vs H Q E => ∃ a b c d e, vs = [a, b, c, d, e] ∧ f a b c d e H Q E
theorem ln1 {f : V → Hp → VK → XK → Prop} {x1 : Str} : ∀ vs H Q E, sp1 f vs H Q E → vs.length = [x1].length := fun _ _ _ _ ⟨_, e, _⟩ => by rw [e]; rfl
theorem ln2 {f : V → V → Hp → VK → XK → Prop} {x1 x2 : Str} : ∀ vs H Q E, sp2 f vs H Q E → vs.length = [x1, x2].length := fun _ _ _ _ ⟨_, _, e, _⟩ => by rw [e]; rfl
theorem ln3 {f : V → V → V → Hp → VK → XK → Prop} {x1 x2 x3 : Str} : ∀ vs H Q E, sp3 f vs H Q E → vs.length = [x1, x2, x3].length := fun _ _ _ _ ⟨_, _, _, e, _⟩ => by rw [e]; rfl
theorem ln4 {f : V → V → V → V → Hp → VK → XK → Prop} {x1 x2 x3 x4 : Str} : ∀ vs H Q E, sp4 f vs H Q E → vs.length = [x1, x2, x3, x4].length := fun _ _ _ _ ⟨_, _, _, _, e, _⟩ => by rw [e]; rfl
theorem ln5 {f : V → V → V → V → V → Hp → VK → XK → Prop} {x1 x2 x3 x4 x5 : Str} : ∀ vs H Q E, sp5 f vs H Q E → vs.length = [x1, x2, x3, x4, x5].length := fun _ _ _ _ ⟨_, _, _, _, _, e, _⟩ => by rw [e]; rfl
/-- a draw -/
def sp_take (K : PySem.W.Frag) : Sp := sp2 fun x y H Q _ => ∃ (b : Addr) (H0 : Hp) (xs : List V) (m : Int), x = .ref b ∧ y = .int m ∧ H = upd H0 b (.lst xs) ∧ Bag K H0 b xs ∧ 0 < m ∧ m.natAbs.log2 < 9000 ∧
  ∀ (r : Int) (ys : List V), 0 ≤ r → r < m → Bag K H0 b ys → Q (.int r) (upd H0 b (.lst ys))
/-- the bag made of a script -/
def sp_bag (K : PySem.W.Frag) : Sp := sp1 fun x H Q _ => ∃ (a : Addr) (ns : List Int), x = .ref a ∧ SqL K H a (ns.map V.int) ∧
  ∀ (H0 : Hp) (b : Addr) (xs : List V), Same H H0 → H b = none → Bag K H0 b xs → Q (.ref b) (upd H0 b (.lst xs))
/-- found == due and repr(found) == repr(due), of equal data -/
def sp_alike (K : PySem.W.Frag) : Sp := sp2 fun x y H Q _ => ∃ d : PyData, Dp K H x d ∧ Dp K H y d ∧ Nice d ∧ Q (.bl true) H
section
variable {K : PySem.W.Frag} {H : Hp} {Q : VK} {E : XK} {b : Addr} {xs : List V} {m : Int} {x y : V}
/-- a draw, stepped -/
theorem s_take (B : Bag K H b xs) (h : 0 < m) (hl : m.natAbs.log2 < 9000) (q : ∀ (r : Int) (ys : List V), 0 ≤ r → r < m → Bag K H b ys → Q (.int r) (upd H b (.lst ys))) : Fr (sp_take K) [.ref b, .int m] (upd H b (.lst xs)) Q E :=
  s_all ⟨_, _, rfl, b, H, xs, m, rfl, rfl, rfl, B, h, hl, q⟩
theorem s_alike {d : PyData} (h1 : Dp K H x d) (h2 : Dp K H y d) (n : Nice d) (q : Q (.bl true) H) : Fr (sp_alike K) [x, y] H Q E := s_all ⟨_, _, rfl, d, h1, h2, n, q⟩
end
end
section
/-! ### the law itself -/
section
variable {P : Program} {w : World} {K : PySem.W.Frag} {mg mb : Str → Option Value} {k : Nat} {fa a : Addr} {fd : FuncData} {x : Str} {sp : Sp} {s1 : Shared} {us : List Value} {ns : List Int}
/-- the ground, with the tracked heap H told (H tracks the script alone) -/
theorem law_core {H : Hp} {o : Obj} (ho : s1.heap.get? a = some o) (hod : ∀ es ep, o.data ≠ .dict es ep)
    (hin : K.In s1.heap) (nsM : s1.heap.Ns mainGlobals mg) (nsB : s1.heap.Ns builtinsNs mb) (boot : ∀ y : Str, y ≠ "__name__" → mb y = bootBuiltins y) (nl : s1.heap.NoLimit) (gens : s1.gens = #[])
    (hr : Room k callerA) (F : ∀ base : Heap, K.In base → base.Ns mainGlobals mg → Gf P w K mg base k fa fd [x] sp) (bind : ∀ (s : Shared) (u : Value), BindsTo s fd ⟨[u], []⟩ [(x, u)])
    (only : Only H) (alone : ∀ b u, H b = some u → b = a) (offK : ∀ u, H a = some u → K.lookup a = none) (okH : HOk P w H s1.heap)
    (hsp : sp [.ref a] H (fun v _ => v = .bl true) fun _ _ _ => False) :
    codeAny (model P w) callerA (.call (.ref fa) ⟨[.ref a], []⟩) (fun r s' => r = .ok (.ret (.bool true)) ∧ OldK s1.heap s'.heap ∧ s'.os = s1.os ∧ AllBare s'.gens) s1 := by
  have stay : ∀ {b : Addr} {q : Obj}, s1.heap.get? b = some q → (b = a → ∃ es ep, q.data = .dict es ep) → (hidT s1.heap H).get? b = some q := fun {b q} e nd => by
    refine hidT_get e ?_
    cases z : H b with
    | none => rfl
    | some u =>
      have ea := alone b u z
      subst ea
      obtain ⟨es, ep, hd⟩ := nd rfl
      rw [ho] at e
      cases e
      exact absurd hd (hod es ep)
  have spaces : ∀ {b : Addr} {m : Str → Option Value}, s1.heap.Ns b m → (hidT s1.heap H).Ns b m := fun {b m} n => by
    obtain ⟨q, es, ep, e, hd, r⟩ := n
    exact ⟨q, es, ep, stay e fun _ => ⟨es, ep, hd⟩, hd, r⟩
  have inB : K.In (hidT s1.heap H) := fun b q e => by
    refine hidT_get (hin b q e) ?_
    cases z : H b with
    | none => rfl
    | some u =>
      have ea := alone b u z
      subst ea
      rw [offK u z] at e
      cases e
  have mod : Mod K mg (hidT s1.heap H) := by
    obtain ⟨mc, n1, n2⟩ := nl
    exact ⟨inB, spaces nsM, ⟨mb, spaces nsB, boot⟩, ⟨mc, spaces n1, n2⟩⟩
  have nof : ∀ b, ¬ b ∈ frs ([] : List Env) := fun b z => by
    have z2 : b ∈ ([] : List Addr) := z
    cases z2
  have env : Env0 P w K mg (hidT s1.heap H) callerA [] s1 H := ⟨rfl, mod, fun _ _ e => of_hidT e, Nat.le_of_eq (hidT_size _ _), trivial, fun b z => absurd z (nof b), okH, .of_eq gens⟩
  refine codeAny_mono ((F _ inB (spaces nsM)).run callerA [] s1 H ⟨[.ref a], []⟩ [.ref a] [.ref a] _ _ rfl hr env (bind s1 (.ref a)) (.cons rfl .nil) hsp) fun r s' res => ?_
  match r, res with
  | .error e, res =>
    obtain ⟨_, _, _, _, _, _, _, _, _, _, _, _, z⟩ := res
    exact z.elim
  | .ok .next, res => exact False.elim res
  | .ok .brk, res => exact False.elim res
  | .ok .cont, res => exact False.elim res
  | .ok (.ret u), res =>
    obtain ⟨v, H', eos, bare, un, ok2, rv, ev⟩ := res
    have ev2 : v = .bl true := ev
    subst ev2
    have eu : u = Value.bool true := rv
    subst eu
    refine ⟨rfl, OldK.of_keep fun b q e => ?_, eos, bare⟩
    cases z : H b with
    | none => exact un.keep b q e z (nof b) (by simp)
    | some t =>
      rcases only b with n | ⟨ob, xs, n⟩
      · rw [z] at n
        cases n
      · have p1 := (okH b _ n).1
        have p2 := (ok2 b _ (un.frzs b ob _ n)).1
        rw [e] at p1
        cases p1
        exact p2
theorem law_g (hin : K.In s1.heap) (nsM : s1.heap.Ns mainGlobals mg) (nsB : s1.heap.Ns builtinsNs mb) (boot : ∀ y : Str, y ≠ "__name__" → mb y = bootBuiltins y) (nl : s1.heap.NoLimit) (gens : s1.gens = #[])
    (ho : s1.heap.get? a = some { cls := .type "list", data := .seq us.toArray }) (hi : PyProof.Rows.IntsAre us ns) (hz : ns.length ≤ sizeLine)
    (hr : Room k callerA) (F : ∀ base : Heap, K.In base → base.Ns mainGlobals mg → Gf P w K mg base k fa fd [x] sp) (bind : ∀ (s : Shared) (u : Value), BindsTo s fd ⟨[u], []⟩ [(x, u)])
    (hsp : ∀ H : Hp, SqL K H a (ns.map V.int) → sp [.ref a] H (fun v _ => v = .bl true) fun _ _ _ => False) :
    codeAny (model P w) callerA (.call (.ref fa) ⟨[.ref a], []⟩) (fun r s' => r = .ok (.ret (.bool true)) ∧ OldK s1.heap s'.heap ∧ s'.os = s1.os ∧ AllBare s'.gens) s1 := by
  have rel := vals_ints hi
  have len := hi.length
  have nodict : ∀ es ep, ({ cls := .type "list", data := .seq us.toArray } : Obj).data ≠ .dict es ep := fun es ep z => by cases z
  cases inK : K.lookup a with
  | some q =>
    have e := hin a q inK
    rw [ho] at e
    cases e
    refine law_core (H := fun _ => none) ho nodict hin nsM nsB boot nl gens hr F bind (fun _ => .inl rfl) (fun b u z => by cases z) (fun u z => by cases z) (fun b u z => by cases z) (hsp _ (.inr ⟨_, us.toArray, _, inK, rfl, rfl, rfl, ?_, ?_⟩))
    · rw [List.size_toArray, len]
      exact hz
    · simpa using rel
  | none =>
    have here : (fun b => if b = a then some (HO.frz { cls := .type "list", data := .seq us.toArray } (.lst (ns.map V.int))) else none : Hp) a = some (.frz { cls := .type "list", data := .seq us.toArray } (.lst (ns.map V.int))) := if_pos rfl
    refine law_core (H := fun b => if b = a then some (.frz { cls := .type "list", data := .seq us.toArray } (.lst (ns.map V.int))) else none) ho nodict hin nsM nsB boot nl gens hr F bind (fun b => ?_) (fun b u z => ?_) (fun _ _ => inK) (fun b u z => ?_) (hsp _ (.inl (.inr ⟨_, here⟩)))
    · by_cases e : b = a
      · exact .inr ⟨_, _, if_pos e⟩
      · exact .inl (if_neg e)
    · by_cases e : b = a
      · exact e
      · have z2 := (if_neg e).symm.trans z
        cases z2
    · by_cases e : b = a
      · have z2 := (if_pos e).symm.trans z
        cases z2
        subst e
        exact ⟨ho, by rw [List.length_map]; exact hz, us, _, rel, ho⟩
      · have z2 := (if_neg e).symm.trans z
        cases z2
end
/-- what the law's def promises -/
def sp_law (K : PySem.W.Frag) : Sp := sp1 fun x H Q _ => ∃ (a : Addr) (ns : List Int), x = .ref a ∧ ns.length ≤ 63 ∧ SqL K H a (ns.map V.int) ∧ ∀ H', Q (.bl true) H'
/-- the row's end -/
theorem walk_g {l : PySem.W.OpenLaw} {k : Nat} {q : Program} {loose : List Str} {XP : (Str → Option Value) → Heap → Prop} {YP : World → Heap → Prop} {d : DefRec} {x : Str}
    (hn : l.most = some 63) (hdf : d.params.defaults = []) (hr : Room k callerA)
    (F : ∀ (w : World) (mg : Str → Option Value) (fa : Addr) (h : Heap), YP w h → h.Ns mainGlobals mg → mg d.name = some (.ref fa) →
      ∃ (K : PySem.W.Frag) (fd : FuncData), K.In h ∧ (∀ (s : Shared) (u : Value), BindsTo s fd ⟨[u], []⟩ [(x, u)]) ∧ ∀ base : Heap, K.In base → base.Ns mainGlobals mg → Gf l.prog w K mg base k fa fd [x] (sp_law K)) :
    PySem.W.WalkO q loose XP YP l.row.toRowW d [] (fun f vs => PySem.call f vs) := by
  refine Att.attach_call hn hdf fun w s0 s1 mg mb fa o pm cd doc a vs ns G Y ho hd hcd hmg hobj hints hlen hg => ?_
  obtain ⟨K, fd, KX, hb, hF⟩ := F w mg fa _ Y G.T.g hmg
  exact law_g KX G.T.g G.T.b G.T.builtins G.T.nolimit hg hobj hints (by rw [sizeLine_eq]; omega) hr hF hb fun H hS => ⟨.ref a, rfl, a, ns, rfl, hlen, hS, fun _ => rfl⟩
end
section
/-! ### more steps: stores, slices, loops -/
section
variable {K : PySem.W.Frag} {σ : L2.St} {H : Hp} {Q : VK} {D : Ends} {ta tb tc te to ti tl : TE} {t u : TS} {ts : TA} {r : R2} {i j : Int} {n m : Nat} {x y v : V} {a b : Addr} {z z' : Str} {c k : Bool} {g : TG} {tt : TT} {vs : List Nat} {wi : TI}
theorem s_gSub {st : TSet} {R : L2.St → Hp → Prop} (q : to σ H fun o H1 => ti σ H1 fun i H2 => st o i v H2 fun H3 => R σ H3) : gSub to ti st v σ H R := q
theorem s_augS {tget : V → V → Hp → VK → Prop} {tip : TIp} {tset : TSet} (q : to σ H fun o H1 => ti σ H1 fun i H2 => tget o i H2 fun x H3 => te σ H3 fun y H4 => tip x y H4 fun z H5 => tset o i z H5 fun H6 => D.nx σ H6) : tAugS to ti te tget tip tset D σ H := q
theorem s_aug {tip : TIp} (e : σ[n]? = some (some x)) (q : te σ H fun y H1 => tip x y H1 fun z H2 => D.nx (σ.set n (some z)) H2) : tAug n te tip D σ H := ⟨x, e, q⟩
theorem s_ipI {f : Int → Int → Int} (q : Q (.int (f i j)) H) : ipI f (.int i) (.int j) H Q := ⟨i, j, rfl, rfl, q⟩
theorem s_setL {xs : List V} (h : H a = some (.lst xs)) (e : ixN xs.length i = some n) {R : Hp → Prop} (q : R (upd H a (.lst (xs.set n v)))) : rSetL (.ref a) (.int i) v H R := ⟨a, xs, i, n, rfl, rfl, h, e, q⟩
theorem s_sl {rr : V → Option Int → Option Int → Hp → VK → Prop} {t1 t2 : TO} (q : te σ H fun x H1 => t1 σ H1 fun l H2 => t2 σ H2 fun u H3 => rr x l u H3 Q) : tSl rr te t1 t2 σ H Q := q
theorem s_noPart {R : Option Int → Hp → Prop} (q : R none H) : tNoPart σ H R := q
theorem s_part {R : Option Int → Hp → Prop} (q : te σ H fun x H1 => ∃ i, x = .int i ∧ R (some i) H1) : tPart te σ H R := q
theorem s_parte {R : Option Int → Prop} (q : R (some i)) : ∃ m, V.int i = .int m ∧ R (some m) := ⟨i, rfl, q⟩
theorem s_cutL {xs : List V} {lo hi : Option Int} (h : SqL K H a xs) (q : ∀ p, H p = none → Q (.ref p) (upd H p (.lst (cutV xs lo hi)))) : rCut K (.ref a) lo hi H Q := .inr (.inl ⟨a, xs, rfl, h, q⟩)
theorem s_retN (q : D.rt .non H) : tRetN D σ H := q
theorem s_for (q : wi σ H fun J H1 => ∃ W : Nat → Nat → L2.St → Hp → Prop, (∃ m, W 0 m σ H1) ∧ ∀ i m σ H, W i m σ H →
  (J.stop i H ∧ D.nx σ H) ∨ (J.go i H ∧ ∃ N : L2.St → Hp → Prop, (∀ σ' H', N σ' H' → ∃ m', m' < m ∧ W (i + 1) m' σ' H') ∧ ∀ x H', J.yld i H x H' → g x σ H' fun σ2 H2 => t { D with nx := N, ct := N, bk := D.nx } σ2 H2)) : tFor wi g t D σ H := q
theorem s_lc (q : wi σ H fun J H1 => ∀ D, H1 D = none → ∃ W : Nat → Nat → Hp → Prop, (∃ m, W 0 m (upd H1 D (.lst []))) ∧ ∀ i m H, W i m H →
  (J.stop i H ∧ DoneC Q D H) ∨ (J.go i H ∧ ∃ Nx : Hp → Prop, (∀ H', Nx H' → ∃ m', m' < m ∧ W (i + 1) m' H') ∧ ∀ x H', J.yld i H x H' → g x (wipe σ vs) H' fun σ2 H2 => wipe σ2 vs = wipe σ vs ∧ tt σ2 H2 fun b H3 =>
    if b = true then te σ2 H3 fun y H4 => ∃ acc, H4 D = some (.lst acc) ∧ acc.length < sizeLine ∧ Nx (upd H4 D (.lst (acc ++ [y]))) else Nx H3)) : tLc wi g tt te vs σ H Q := q
theorem s_iL {R : It → Hp → Prop} (q : tl σ H fun x H1 => ∃ a, x = .ref a ∧ (∃ xs, SqL K H1 a xs) ∧ R (Itl K a) H1) : iList K tl σ H R := q
theorem s_itL {R : Addr → Prop} {xs : List V} (h : SqL K H a xs) (q : R a) : ∃ p, V.ref a = .ref p ∧ (∃ ys, SqL K H p ys) ∧ R p := ⟨a, rfl, ⟨xs, h⟩, q⟩
theorem s_iT {R : It → Hp → Prop} (q : tl σ H fun x H1 => ∃ a, x = .ref a ∧ (∃ xs, SqT K H1 a xs) ∧ R (Itt K a) H1) : iTup K tl σ H R := q
theorem s_itT {R : Addr → Prop} {xs : List V} (h : SqT K H a xs) (q : R a) : ∃ p, V.ref a = .ref p ∧ (∃ ys, SqT K H p ys) ∧ R p := ⟨a, rfl, ⟨xs, h⟩, q⟩
theorem s_iS {R : It → Hp → Prop} (q : tl σ H fun x H1 => ∃ z, x = .str z ∧ R (Its z) H1) : iStr tl σ H R := q
theorem s_itS {R : Str → Prop} (q : R z) : ∃ z', V.str z = .str z' ∧ R z' := ⟨z, rfl, q⟩
theorem s_iR1 {R : It → Hp → Prop} (q : ts σ H fun vs H1 => ∃ j : Int, vs = [.int j] ∧ -(2 ^ 62) ≤ j ∧ j < 2 ^ 62 ∧ R (Itr 0 j.toNat) H1) : iRng1 ts σ H R := q
theorem s_iR2 {R : It → Hp → Prop} (q : ts σ H fun vs H1 => ∃ i j : Int, vs = [.int i, .int j] ∧ (-(2 ^ 62) ≤ i ∧ i < 2 ^ 62 ∧ -(2 ^ 62) ≤ j ∧ j < 2 ^ 62) ∧ R (Itr i (j - i).toNat) H1) : iRng2 ts σ H R := q
theorem s_rn1 {R : Int → Prop} (h : j < 2 ^ 62) (h' : -(2 ^ 62) ≤ j) (q : R j) : ∃ k : Int, [V.int j] = [.int k] ∧ -(2 ^ 62) ≤ k ∧ k < 2 ^ 62 ∧ R k := ⟨j, rfl, h', h, q⟩
theorem s_rn2 {R : Int → Int → Prop} (h : -(2 ^ 62) ≤ i ∧ i < 2 ^ 62 ∧ -(2 ^ 62) ≤ j ∧ j < 2 ^ 62) (q : R i j) : ∃ k l : Int, [V.int i, V.int j] = [.int k, .int l] ∧ (-(2 ^ 62) ≤ k ∧ k < 2 ^ 62 ∧ -(2 ^ 62) ≤ l ∧ l < 2 ^ 62) ∧ R k l := ⟨i, j, rfl, h, q⟩
theorem s_bm {T : String} {rr : V → List V → Hp → VK → Prop} (q : to σ H fun x H1 => tyV K T x H1 ∧ ts σ H1 fun xs H2 => rr x xs H2 Q) : tBM K T rr to ts σ H Q := q
theorem s_bm0 {T : String} {rr : V → List V → Hp → VK → Prop} (q : to σ H fun x H1 => tyV K T x H1 ∧ rr x [] H1 Q) : tBM0 K T rr to σ H Q := q
theorem s_app {xs : List V} (h : H a = some (.lst xs)) (hz : xs.length < sizeLine) (q : Q .non (upd H a (.lst (xs ++ [y])))) : rAppend (.ref a) [y] H Q := ⟨a, xs, y, rfl, rfl, h, hz, q⟩
end
section
variable {K : PySem.W.Frag} {σ : L2.St} {H : Hp} {Q : VK} {D : Ends} {t u : TS} {i j : Int} {v : V} {a : Addr}
theorem s_getL {xs : List V} (h : SqL K H a xs) (e : atI xs i = some v) (q : Q v H) : rGetL K (.ref a) (.int i) H Q := ⟨a, xs, i, v, rfl, rfl, h, e, q⟩
theorem s_ipA (q : Q (.int (i + j)) H) : ipAdd K (.int i) (.int j) H Q := ⟨i, j, rfl, rfl, q⟩
theorem s_yes {R : Bool → Hp → Prop} (q : R true H) : tYes σ H R := q
theorem sz_of {n : Nat} (h : Nat.ble n 16777216 = true) : n ≤ sizeLine := small_sz (Nat.le_of_ble_eq_true h)
theorem upd_off {p b : Addr} {o : HO} (e : upd H p o b = Option.none) : H b = Option.none := by
  unfold upd at e
  split at e
  · cases e
  · exact e
/-- a statement and the rest, by a word between them -/
theorem s_seqR (I : L2.St → Hp → Prop) (h2 : ∀ σ H, I σ H → u D σ H) (h1 : ∀ N : L2.St → Hp → Prop, (∀ σ H, I σ H → N σ H) → t { D with nx := N } σ H) : tSeq t u D σ H := h1 (u D) h2
end
section
variable {K : PySem.W.Frag} {σ : L2.St} {H H0 : Hp} {Q : VK} {v : V} {vs xs ys : List V} {a b : Addr} {n : Nat} {i m : Int} {o : HO} {g : TG} {gs : TGs} {R : L2.St → Hp → Prop}
theorem s_gTup (h : SqT K H a xs) (hn : xs.length = n) (q : gs xs σ H R) : gTup K n gs (.ref a) σ H R := ⟨a, xs, rfl, h, hn, q⟩
theorem s_gCons (q : g v σ H fun σ' H' => gs vs σ' H' R) : gCons g gs (v :: vs) σ H R := ⟨v, vs, rfl, q⟩
theorem s_gNil (q : R σ H) : gNil [] σ H R := ⟨rfl, q⟩
/-- an item of a written list, all of whose items are alike -/
theorem s_pickP {xs : List V} (P : V → Prop) (h : H a = some (.lst xs)) (h0 : 0 ≤ i) (h1 : i < xs.length) (hP : ∀ x ∈ xs, P x) (q : ∀ x, P x → Q x H) : rIx K (.ref a) (.int i) H Q :=
  s_pick h h0 h1 fun m hm _ => q _ (hP _ (List.getElem_mem hm))
theorem lg (h0 : 0 < m) (h : m < 10 ^ 200) : m.natAbs.log2 < 9000 := by
  have h2 : m.natAbs < 10 ^ 200 := by omega
  exact (Nat.log2_lt (by omega)).mpr (Nat.lt_trans h2 (by decide +kernel))
theorem mulW {i j : Int} (h : i.natAbs < 10 ^ 200) (h' : j.natAbs < 10 ^ 200) : CMulW i j := by
  have z : ∀ n : Nat, n < 10 ^ 200 → n.log2 < 1000 := fun n hn => by
    by_cases h : n = 0
    · rw [h]; decide
    · exact (Nat.log2_lt h).mpr (Nat.lt_trans hn (by decide +kernel))
  have := z _ h
  have := z _ h'
  unfold CMulW
  omega
/-- something new beside the bag -/
theorem bag_new (B : Bag K H0 b ys) (q : ∀ p, H0 p = none → p ≠ b → Bag K (upd H0 p o) b ys → Q (.ref p) (upd (upd H0 p o) b (.lst ys))) : ∀ p, (upd H0 b (.lst ys)) p = none → Q (.ref p) (upd (upd H0 b (.lst ys)) p o) := by
  intro p hp
  have ne : p ≠ b := fun e => by
    rw [e, upd_same] at hp
    cases hp
  rw [upd_ne ne] at hp
  rw [upd_comm (Ne.symm ne)]
  exact q p hp ne (B.same (same_new hp) (by rw [upd_ne (Ne.symm ne)]; exact B.off))
/-- what stands beside the bag -/
theorem Bag.see (B : Bag K H0 b ys) : Same H0 (upd H0 b (.lst ys)) := same_new B.off
end
/-! comprehensions: the new list hidden -/
def PvD (Pv : Nat → List V → Hp → Prop) (D : Addr) : Nat → Hp → Prop := fun i H => ∃ acc Hi, H = upd Hi D (.lst acc) ∧ Hi D = none ∧ acc.length ≤ i ∧ Pv i acc Hi
section
variable {K : PySem.W.Frag} {H1 Hi : Hp} {a D : Addr} {xs acc : List V} {g : TG} {tt : TT} {te : TE} {vs : List Nat} {σ : L2.St} {Qd : Hp → Prop} {i n : Nat} {y : V} {lo : Int}
theorem lcL (hD : H1 D = none) (Pv : Nat → List V → Hp → Prop) (h0 : Pv 0 [] H1) (hl : ∀ i acc Hi, Pv i acc Hi → SqL K Hi a xs)
    (hs : ∀ i x acc Hi, xs[i]? = some x → i < xs.length → Hi D = none → acc.length ≤ i → Pv i acc Hi → g x (wipe σ vs) (upd Hi D (.lst acc)) fun σ2 H2 => wipe σ2 vs = wipe σ vs ∧ tt σ2 H2 fun b H3 =>
      if b = true then te σ2 H3 fun y H4 => ∃ acc, H4 D = some (.lst acc) ∧ acc.length < sizeLine ∧ PvD Pv D (i + 1) (upd H4 D (.lst (acc ++ [y]))) else PvD Pv D (i + 1) H3)
    (hd : ∀ acc Hi, Hi D = none → acc.length ≤ xs.length → Pv xs.length acc Hi → Qd (upd Hi D (.lst acc))) :
    ∃ W : Nat → Nat → Hp → Prop, (∃ m, W 0 m (upd H1 D (.lst []))) ∧ ∀ i m H, W i m H →
      ((Itl K a).stop i H ∧ Qd H) ∨ ((Itl K a).go i H ∧ ∃ Nx : Hp → Prop, (∀ H', Nx H' → ∃ m', m' < m ∧ W (i + 1) m' H') ∧ ∀ x H', (Itl K a).yld i H x H' → g x (wipe σ vs) H' fun σ2 H2 => wipe σ2 vs = wipe σ vs ∧ tt σ2 H2 fun b H3 =>
        if b = true then te σ2 H3 fun y H4 => ∃ acc, H4 D = some (.lst acc) ∧ acc.length < sizeLine ∧ Nx (upd H4 D (.lst (acc ++ [y]))) else Nx H3) := by
  refine lc_list (xs := xs) (PvD Pv D) ⟨[], H1, rfl, hD, Nat.le_refl _, h0⟩ (fun i H _ p => ?_) (fun i x H e p => ?_) fun H p => ?_
  · obtain ⟨acc, Hi, rfl, h1, _, h2⟩ := p
    exact (same_new h1).seq (hl i acc Hi h2)
  · obtain ⟨acc, Hi, rfl, h1, h2, h3⟩ := p
    exact hs i x acc Hi e (List.getElem?_eq_some_iff.mp e).1 h1 h2 h3
  · obtain ⟨acc, Hi, rfl, h1, h2, h3⟩ := p
    exact hd acc Hi h1 h2 h3
theorem lcR (hD : H1 D = none) (Pv : Nat → List V → Hp → Prop) (h0 : Pv 0 [] H1)
    (hs : ∀ i acc Hi, i < n → Hi D = none → acc.length ≤ i → Pv i acc Hi → g (.int (lo + i)) (wipe σ vs) (upd Hi D (.lst acc)) fun σ2 H2 => wipe σ2 vs = wipe σ vs ∧ tt σ2 H2 fun b H3 =>
      if b = true then te σ2 H3 fun y H4 => ∃ acc, H4 D = some (.lst acc) ∧ acc.length < sizeLine ∧ PvD Pv D (i + 1) (upd H4 D (.lst (acc ++ [y]))) else PvD Pv D (i + 1) H3)
    (hd : ∀ acc Hi, Hi D = none → acc.length ≤ n → Pv n acc Hi → Qd (upd Hi D (.lst acc))) :
    ∃ W : Nat → Nat → Hp → Prop, (∃ m, W 0 m (upd H1 D (.lst []))) ∧ ∀ i m H, W i m H →
      ((Itr lo n).stop i H ∧ Qd H) ∨ ((Itr lo n).go i H ∧ ∃ Nx : Hp → Prop, (∀ H', Nx H' → ∃ m', m' < m ∧ W (i + 1) m' H') ∧ ∀ x H', (Itr lo n).yld i H x H' → g x (wipe σ vs) H' fun σ2 H2 => wipe σ2 vs = wipe σ vs ∧ tt σ2 H2 fun b H3 =>
        if b = true then te σ2 H3 fun y H4 => ∃ acc, H4 D = some (.lst acc) ∧ acc.length < sizeLine ∧ Nx (upd H4 D (.lst (acc ++ [y]))) else Nx H3) := by
  refine lc_range (PvD Pv D) ⟨[], H1, rfl, hD, Nat.le_refl _, h0⟩ (fun i H e p => ?_) fun H p => ?_
  · obtain ⟨acc, Hi, rfl, h1, h2, h3⟩ := p
    exact hs i acc Hi e h1 h2 h3
  · obtain ⟨acc, Hi, rfl, h1, h2, h3⟩ := p
    exact hd acc Hi h1 h2 h3
/-- a turn's end -/
theorem lc_put {Pv : Nat → List V → Hp → Prop} (h : Hi D = none) (hn : acc.length ≤ i) (hz : i < sizeLine) (p : Pv (i + 1) (acc ++ [y]) Hi) :
    ∃ ac, (upd Hi D (.lst acc)) D = some (.lst ac) ∧ ac.length < sizeLine ∧ PvD Pv D (i + 1) (upd (upd Hi D (.lst acc)) D (.lst (ac ++ [y]))) :=
  ⟨acc, upd_same, Nat.lt_of_le_of_lt hn hz, acc ++ [y], Hi, upd_upd, h, by rw [List.length_append, List.length_singleton]; omega, p⟩
theorem lc_no {Pv : Nat → List V → Hp → Prop} (h : Hi D = none) (hn : acc.length ≤ i) (p : Pv (i + 1) acc Hi) : PvD Pv D (i + 1) (upd Hi D (.lst acc)) := ⟨acc, Hi, rfl, h, by omega, p⟩
end
theorem cut_map {α : Type} (f : α → V) (xs : List α) (lo hi : Option Int) : cutV (xs.map f) lo hi = ((xs.drop (HT.sIx xs.length 0 lo)).take (HT.sIx xs.length xs.length hi - HT.sIx xs.length 0 lo)).map f := by
  unfold cutV
  rw [List.length_map, List.map_take, List.map_drop]

/-! room, facts -/
theorem u65 {k : Nat} {A : Around} (r : Room k A) : A.units + 65 < cLine := by have := r.un; omega
theorem u100 {k : Nat} {A : Around} (r : Room k A) : A.units + 100 < cLine := by have := r.un; omega
theorem Cal.mono {P : Program} {w : World} {K : PySem.W.Frag} {mg : Str → Option Value} {base : Heap} {j k n : Nat} {x : Str} {sp : Sp} (c : Cal P w K mg base j x n sp) (h : j ≤ k) : Cal P w K mg base k x n sp := by
  obtain ⟨f, fd, ps, h1, h2, h3, h4, h5⟩ := c.ex
  exact ⟨f, fd, ps, h1, h2.mono h, h3, h4, h5⟩
theorem blt_of {K : PySem.W.Frag} {h : Heap} {mg : Str → Option Value} (X : K.In h) (G : h.Ns mainGlobals mg) (c : ∀ (i : Nat) (f : He.Fa), (bltNames.map He.Fa.free)[i]? = some f → f.ok K = true) : Blt mg := fun x hx => by
  obtain ⟨i, hi, e⟩ := List.getElem_of_mem hx
  exact He.free_ok X G (c i (.free x) (by rw [List.getElem?_map, List.getElem?_eq_getElem hi, e]; rfl))
theorem gi_of {K : PySem.W.Frag} {h : Heap} {mg : Str → Option Value} (X : K.In h) (G : h.Ns mainGlobals mg) {x : Str} {i : Int} (c : (He.Fa.int x i).ok K = true) : ∃ u, mg x = some u ∧ RelV (.int i) u := by
  obtain ⟨t, e⟩ := He.int_ok X G c
  exact ⟨_, e, t, rfl⟩
theorem gs_of {K : PySem.W.Frag} {h : Heap} {mg : Str → Option Value} (X : K.In h) (G : h.Ns mainGlobals mg) {x z : Str} (c : (He.Fa.str x z).ok K = true) : ∃ u, mg x = some u ∧ RelV (.str z) u := by
  obtain ⟨t, e⟩ := He.str_ok X G c
  exact ⟨_, e, t, rfl⟩
end
section
/-- one step of a reading (e: none past a statement's end) -/
local macro_rules
  | `(tactic| walk_at "e") => `(tactic| first
    | with_reducible refine s_ifs ?_
    | with_reducible refine s_test ?_
    | with_reducible refine s_truth ?_
    | with_reducible refine s_op ?_
    | with_reducible refine s_un ?_
    | with_reducible refine s_asg ?_
    | with_reducible refine s_ret ?_
    | with_reducible refine s_next ?_
    | with_reducible refine s_drop ?_
    | with_reducible refine s_c ?_
    | ((with_reducible refine s_var (v := ?v) ?e ?q); case e => exact rfl)
    | with_reducible refine s_name ?_
    | with_reducible refine s_exq ?_
    | with_reducible refine s_cons ?_
    | with_reducible refine s_nil ?_
    | with_reducible refine s_lst ?_
    | with_reducible refine s_tup ?_
    | with_reducible refine s_cb ?_
    | with_reducible refine s_call ?_
    | with_reducible refine s_and ?_
    | with_reducible refine s_or ?_
    | with_reducible refine s_not ?_
    | with_reducible refine s_andV ?_
    | with_reducible refine s_orV ?_
    | with_reducible refine s_notV ?_
    | with_reducible refine s_ife ?_
    | with_reducible refine s_chain ?_
    | with_reducible refine s_addI ?_
    | with_reducible refine s_sub ?_
    | with_reducible refine s_neg ?_
    | with_reducible refine s_eqI ?_
    | with_reducible refine s_eqT ?_
    | with_reducible refine s_eqB ?_
    | with_reducible refine s_eqNI ?_
    | with_reducible refine s_eqIN ?_
    | with_reducible refine s_eqNN ?_
    | with_reducible refine s_neI ?_
    | with_reducible refine s_neT ?_
    | with_reducible refine s_neB ?_
    | with_reducible refine s_lt ?_
    | with_reducible refine s_le ?_
    | with_reducible refine s_gt ?_
    | with_reducible refine s_ge ?_
    | with_reducible refine s_isN ?_
    | with_reducible refine s_isS ?_
    | with_reducible refine s_truB ?_
    | with_reducible refine s_truI ?_
    | with_reducible refine s_truN ?_
    | with_reducible refine s_abs ?_
    | with_reducible refine s_min2 ?_
    | with_reducible refine s_max2 ?_
    | with_reducible refine s_intI ?_
    | with_reducible refine s_intB ?_
    | with_reducible refine s_ifT ?_
    | with_reducible refine s_ifF ?_
    | with_reducible refine s_ifnT ?_
    | with_reducible refine s_ifnF ?_
    | with_reducible refine s_gSub ?_
    | with_reducible refine s_gTup ?_
    | with_reducible refine s_augS ?_
    | ((with_reducible refine s_aug (x := ?v) ?e ?q); case e => exact rfl)
    | with_reducible refine s_yes ?_
    | with_reducible refine s_gCons ?_
    | with_reducible refine s_gNil ?_
    | with_reducible refine s_ipI ?_
    | with_reducible refine s_ipA ?_
    | with_reducible refine s_sl ?_
    | with_reducible refine s_noPart ?_
    | with_reducible refine s_part ?_
    | with_reducible refine s_parte ?_
    | with_reducible refine s_for ?_
    | with_reducible refine s_lc ?_
    | with_reducible refine s_iL ?_
    | with_reducible refine s_iS ?_
    | with_reducible refine s_iT ?_
    | with_reducible refine s_itS ?_
    | with_reducible refine s_iR1 ?_
    | with_reducible refine s_iR2 ?_
    | with_reducible refine s_rg1 ?_
    | with_reducible refine s_rg2 ?_
    | with_reducible refine s_rg1e ?_
    | with_reducible refine s_rg2e ?_
    | with_reducible refine s_lrg ?_
    | with_reducible refine s_bm ?_
    | with_reducible refine s_bm0 ?_
    | with_reducible refine s_retN ?_)
  | `(tactic| walk_at "s") => `(tactic| first
    | with_reducible refine s_seq ?_
    | walk_at "e")

def t_bag (K : PySem.W.Frag) : TS :=
  (tRet (tLst (tCons (tC (.int 0)) (tCons (tC (.int 1234567891)) (tCons (tC (.int 0)) (tCons (tLc (iList K (tSl (rCut K) (tVar 0) tNoPart (tPart (tC (.int 63))))) (gName 1) tYes (tCB rAbs (tCons (tVar 1) tNil)) [1]) tNil))))))

theorem int_at {ms : List Int} {x : V} {i : Nat} (e : (ms.map V.int)[i]? = some x) : ∃ m, x = .int m ∧ ms[i]? = some m := by
  rw [List.getElem?_map] at e
  cases h : ms[i]? with
  | none =>
    rw [h] at e
    cases e
  | some m =>
    rw [h] at e
    exact ⟨m, (Option.some.inj e).symm, rfl⟩
theorem pu_bag {K : PySem.W.Frag} (vs : List V) (H : Hp) (Q : VK) (E : XK) (h : sp_bag K vs H Q E) : t_bag K { nx := fun _ H' => Q .non H', rt := Q } (start ["_law_script", "_law_cell"] vs) H := by
  obtain ⟨x, rfl, a, ns, rfl, hS, hQ⟩ := h
  unfold t_bag
  repeat' walk_at "s"
  refine s_cutL hS fun p hp => ?_
  rw [cut_map]
  generalize hms : ((ns.drop (HT.sIx ns.length 0 none)).take (HT.sIx ns.length ns.length (some 63) - HT.sIx ns.length 0 none)) = ms
  have hml : ms.length ≤ 63 := by
    rw [← hms, List.length_take]
    have e : HT.sIx ns.length ns.length (some 63) ≤ 63 := by
      rw [show (some (63 : Int)) = some ((63 : Nat) : Int) from rfl, HT.sIx_nat]
      omega
    omega
  refine s_itL (SqL.of upd_same) ?_
  intro D hD
  refine lcL (xs := ms.map V.int) hD (fun i acc Hi => Hi = upd H p (.lst (ms.map V.int)) ∧ ∃ ks : List Int, acc = ks.map V.int ∧ ∀ m ∈ ks, 0 ≤ m) ⟨rfl, [], rfl, fun _ z => nomatch z⟩ (fun i acc Hi z => ?_) (fun i x acc Hi e hi hn hl z => ?_) fun acc Hi hn hl z => ?_
  · rw [z.1]
    exact SqL.of upd_same
  · obtain ⟨rfl, ks, rfl, hk⟩ := z
    obtain ⟨m, rfl, _⟩ := int_at e
    walk_at "s"
    refine ⟨rfl, ?_⟩
    repeat' walk_at "s"
    rw [List.length_map] at hi
    refine lc_put hn hl (by rw [sizeLine_eq]; omega) ⟨rfl, ks ++ [if m < 0 then -m else m], by rw [List.map_append]; rfl, fun q hq => ?_⟩
    rcases List.mem_append.mp hq with h1 | h1
    · exact hk q h1
    · rcases List.mem_singleton.mp h1 with rfl
      split <;> omega
  · obtain ⟨rfl, ks, rfl, hk⟩ := z
    rw [List.length_map, List.length_map] at hl
    repeat' walk_at "s"
    refine ⟨sz_of rfl, fun b hb => ?_⟩
    refine hQ _ b _ ((same_new hp).trans (same_new hn)) (upd_off (upd_off hb)) ⟨hb, D, 0, 1234567891, 0, ks, rfl, SqL.of upd_same, hk, by omega, by omega, by omega, by omega, by omega⟩
def t_take (K : PySem.W.Frag) : TS :=
  (tSeq (tIfS (tTest (tOp (rSame K) (tOp (rIx K) (tVar 0) (tC (.int 0))) (tC (.int 0)))) (tSeq (tAsg (tC (.int 0)) (gName 2))
  (tSeq (tIfS (tTest (tOp rLess (tOp (rIx K) (tVar 0) (tC (.int 2))) (tCB (rLen K) (tCons (tOp (rIx K) (tVar 0) (tC (.int 3))) tNil)))) (tAsg (tOp (rIx K) (tOp (rIx K) (tVar 0) (tC (.int 3))) (tOp (rIx K) (tVar 0) (tC (.int 2)))) (gName 2)) tNext)
  (tSeq (tAugS (tVar 0) (tC (.int 2)) (tC (.int 1)) (rGetL K) (ipAdd K) rSetL)
  (tSeq (tIfS (tTest (tOp rMoreE (tVar 2) (tC (.int 1000000000000000000)))) (tAsg (tVar 2) (gSub (tVar 0) (tC (.int 0)) rSetL)) tNext)
  (tAsg (tOp rMod (tOp (rPlus K) (tOp (rPlus K) (tOp rTimes (tOp (rIx K) (tVar 0) (tC (.int 1))) (tC (.int 48271))) (tOp rMod (tVar 2) (tC (.int 2147483647)))) (tOp rTimes (tC (.int 7919)) (tOp (rIx K) (tVar 0) (tC (.int 2))))) (tC (.int 2147483647))) (gSub (tVar 0) (tC (.int 1)) rSetL)))))) tNext)
  (tSeq (tIfS (tTest (tOp rMore (tOp (rIx K) (tVar 0) (tC (.int 0))) (tC (.int 0)))) (tSeq (tAsg (tOp rMod (tOp (rIx K) (tVar 0) (tC (.int 0))) (tVar 1)) (gName 3))
  (tSeq (tAsg (tOp rDiv (tOp (rIx K) (tVar 0) (tC (.int 0))) (tVar 1)) (gSub (tVar 0) (tC (.int 0)) rSetL))
  (tRet (tVar 3)))) tNext)
  (tSeq (tAsg (tOp rMod (tOp rTimes (tOp (rPlus K) (tOp (rIx K) (tVar 0) (tC (.int 1))) (tC (.int 1))) (tC (.int 39373))) (tC (.int 1000000007))) (gName 4))
  (tSeq (tAsg (tOp rMod (tOp rTimes (tOp rMod (tOp rTimes (tVar 4) (tVar 4)) (tC (.int 998244353))) (tC (.int 30011))) (tC (.int 998244353))) (gName 5))
  (tSeq (tIfS (tTest (tOp rMore (tVar 1) (tC (.int 1000000)))) (tRet (tOp rMod (tOp (rPlus K) (tOp rTimes (tVar 5) (tC (.int 1000000007))) (tVar 4)) (tVar 1))) tNext)
  (tRet (tOp rMod (tOp rDiv (tVar 5) (tC (.int 7))) (tVar 1))))))))

theorem pu_take {K : PySem.W.Frag} (vs : List V) (H : Hp) (Q : VK) (E : XK) (h : sp_take K vs H Q E) : t_take K { nx := fun _ H' => Q .non H', rt := Q } (start ["_law_bag_here", "_law_many", "_law_cell", "_law_value", "_law_first", "_law_second"] vs) H := by
  obtain ⟨x, y, rfl, b, H0, xs, m, rfl, rfl, rfl, B, hm, hl, hQ⟩ := h
  obtain ⟨off, c, a0, a1, a2, ns, rfl, hS, hn, hns, h0, h1, h1', h2⟩ := B
  unfold t_take
  refine s_seqR (fun σ H => ∃ x2 a0 a1 a2, σ = [some (.ref b), some (.int m), x2, none, none, none] ∧ H = upd H0 b (.lst (bagV c a0 a1 a2)) ∧ 0 ≤ a0 ∧ 0 ≤ a1 ∧ a1 < 2147483647 ∧ 0 ≤ a2) (fun σ H z => ?_) fun N hN => ?_
  · obtain ⟨x2, a0, a1, a2, rfl, rfl, h0, h1, h1', h2⟩ := z
    have bag : ∀ {a0 a1 a2 : Int}, 0 ≤ a0 → 0 ≤ a1 → a1 < 2147483647 → 0 ≤ a2 → Bag K H0 b (bagV c a0 a1 a2) := fun h0 h1 h1' h2 => ⟨off, c, _, _, _, ns, rfl, hS, hn, hns, h0, h1, h1', h2⟩
    repeat' walk_at "s"
    refine s_ixL (SqL.of upd_same) rfl ?_
    repeat' walk_at "s"
    refine s_if (fun hp => ?_) fun hp => ?_
    · repeat' walk_at "s"
      refine s_ixL (SqL.of upd_same) rfl ?_
      repeat' walk_at "s"
      refine s_mod hm ?_
      repeat' walk_at "s"
      refine s_ixL (SqL.of upd_same) rfl ?_
      repeat' walk_at "s"
      refine s_div ⟨hm, hl⟩ ?_
      repeat' walk_at "s"
      refine s_setL upd_same rfl ?_
      rw [upd_upd]
      repeat' walk_at "s"
      exact hQ _ _ (Int.emod_nonneg _ (by omega)) (Int.emod_lt_of_pos _ hm) (bag (Int.ediv_nonneg h0 (by omega)) h1 h1' h2)
    · repeat' walk_at "s"
      refine s_ixL (SqL.of upd_same) rfl ?_
      repeat' walk_at "s"
      refine s_mulC (.inr ⟨by decide, by decide⟩) ?_
      repeat' walk_at "s"
      refine s_mod (by decide) ?_
      generalize hf : (a1 + 1) * 39373 % 1000000007 = f
      have f0 : 0 ≤ f := by omega
      have f1 : f < 1000000007 := by omega
      repeat' walk_at "s"
      refine s_mulC (.inr ⟨by omega, by omega⟩) ?_
      repeat' walk_at "s"
      refine s_mod (by decide) ?_
      repeat' walk_at "s"
      refine s_mulC (.inr ⟨by decide, by decide⟩) ?_
      repeat' walk_at "s"
      refine s_mod (by decide) ?_
      generalize hg : f * f % 998244353 * 30011 % 998244353 = g
      have g0 : 0 ≤ g := by omega
      have g1 : g < 998244353 := by omega
      repeat' walk_at "s"
      refine s_if (fun hp => ?_) fun hp => ?_
      · repeat' walk_at "s"
        refine s_mulC (.inr ⟨by decide, by decide⟩) ?_
        repeat' walk_at "s"
        refine s_mod hm ?_
        repeat' walk_at "s"
        exact hQ _ _ (Int.emod_nonneg _ (by omega)) (Int.emod_lt_of_pos _ hm) (bag h0 h1 h1' h2)
      · repeat' walk_at "s"
        refine s_div ⟨by decide, by decide⟩ ?_
        repeat' walk_at "s"
        refine s_mod hm ?_
        repeat' walk_at "s"
        exact hQ _ _ (Int.emod_nonneg _ (by omega)) (Int.emod_lt_of_pos _ hm) (bag h0 h1 h1' h2)
  · repeat' walk_at "s"
    refine s_ixL (SqL.of upd_same) rfl ?_
    repeat' walk_at "s"
    refine s_if (fun hp => ?_) fun hp => ?_
    · walk_at "s"
      repeat' walk_at "e"
      with_reducible refine s_seqR (fun σ H => ∃ d : Int, 0 ≤ d ∧ σ = [some (.ref b), some (.int m), some (.int d), none, none, none] ∧ H = upd H0 b (.lst (bagV c a0 a1 a2))) (fun σ H z => ?_) fun N2 hN2 => ?_
      · obtain ⟨d, hd, rfl, rfl⟩ := z
        repeat' walk_at "s"
        refine s_getL (SqL.of upd_same) rfl ?_
        repeat' walk_at "s"
        refine s_setL upd_same rfl ?_
        rw [upd_upd]
        with_reducible refine s_seqR (fun σ H => ∃ a0 : Int, 0 ≤ a0 ∧ σ = [some (.ref b), some (.int m), some (.int d), none, none, none] ∧ H = upd H0 b (.lst (bagV c a0 a1 (a2 + 1)))) (fun σ H z => ?_) fun N2 hN2 => ?_
        · obtain ⟨a0, h0, rfl, rfl⟩ := z
          repeat' walk_at "s"
          refine s_ixL (SqL.of upd_same) rfl ?_
          repeat' walk_at "s"
          refine s_mulC (.inr ⟨by decide, by decide⟩) ?_
          repeat' walk_at "s"
          refine s_mod (by decide) ?_
          repeat' walk_at "s"
          refine s_ixL (SqL.of upd_same) rfl ?_
          repeat' walk_at "s"
          refine s_mulC (.inl ⟨by decide, by decide⟩) ?_
          repeat' walk_at "s"
          refine s_mod (by decide) ?_
          repeat' walk_at "s"
          refine s_setL upd_same rfl ?_
          rw [upd_upd]
          exact hN _ _ ⟨_, _, _, _, rfl, rfl, h0, by omega, by omega, by omega⟩
        · repeat' walk_at "s"
          refine s_if (fun hp => ?_) fun hp => ?_
          · repeat' walk_at "s"
            refine s_setL upd_same rfl ?_
            rw [upd_upd]
            exact hN2 _ _ ⟨d, hd, rfl, rfl⟩
          · repeat' walk_at "s"
            exact hN2 _ _ ⟨a0, h0, rfl, rfl⟩
      · repeat' walk_at "s"
        refine s_ixL (SqL.of upd_same) rfl ?_
        repeat' walk_at "s"
        refine s_ixL (SqL.of upd_same) rfl ?_
        repeat' walk_at "s"
        have hS' : SqL K (upd H0 b (.lst (bagV c a0 a1 a2))) c (ns.map V.int) := (same_new off).seq hS
        refine s_lenL hS' ?_
        repeat' walk_at "s"
        rw [List.length_map]
        refine s_if (fun hp => ?_) fun hp => ?_
        · repeat' walk_at "s"
          refine s_ixL (SqL.of upd_same) rfl ?_
          repeat' walk_at "s"
          refine s_ixL (SqL.of upd_same) rfl ?_
          repeat' walk_at "s"
          obtain ⟨q, rfl⟩ : ∃ q : Nat, a2 = (q : Int) := ⟨a2.toNat, by omega⟩
          have hq : q < ns.length := by omega
          refine s_ixL (v := .int ns[q]) hS' (atI_nat (by rw [List.getElem?_map, List.getElem?_eq_getElem hq]; rfl)) ?_
          repeat' walk_at "s"
          exact hN2 _ _ ⟨ns[q], hn _ (List.getElem_mem hq), rfl, rfl⟩
        · repeat' walk_at "s"
          exact hN2 _ _ ⟨0, by omega, rfl, rfl⟩
    · repeat' walk_at "s"
      exact hN _ _ ⟨_, _, _, _, rfl, rfl, h0, h1, h1', h2⟩
def t_alike (K : PySem.W.Frag) : TS :=
  (tRet (tAndV (tOp (rSame K) (tVar 0) (tVar 1)) (tOp (rSame K) (tCB (rRepr K) (tCons (tVar 0) tNil)) (tCB (rRepr K) (tCons (tVar 1) tNil)))))

theorem eqv_self {d : PyData} (h : SeqAt.shaped d = true) : PyData.eqv d d = true := by
  refine PySem.SeqAt.eqv_refl d ?_
  unfold SeqAt.shaped at h
  exact (Bool.and_eq_true_iff.mp h).1
theorem pu_alike {K : PySem.W.Frag} (vs : List V) (H : Hp) (Q : VK) (E : XK) (h : sp_alike K vs H Q E) : t_alike K { nx := fun _ H' => Q .non H', rt := Q } (start ["_law_found", "_law_due"] vs) H := by
  obtain ⟨x, y, rfl, d, h1, h2, hn, hQ⟩ := h
  unfold t_alike
  have first : ∀ R : VK, R (.bl true) H → rSame K x y H R := fun R q => s_eqD h1 h2 hn.sh hn.sh (by rw [eqv_self hn.sh]; exact q)
  repeat' walk_at "s"
  refine first _ ?_
  repeat' walk_at "s"
  refine ⟨x, d, rfl, h1, hn.sh, hn.sw, hn.sz, ?_⟩
  repeat' walk_at "s"
  refine ⟨y, d, rfl, h2, hn.sh, hn.sw, hn.sz, ?_⟩
  repeat' walk_at "s"
  rw [decide_eq_true rfl]
  exact hQ

/-! ### the bag outermost, the rest grows under it -/
/-- integers in a row -/
def rgI (i j : Int) : List Int := (List.range (j - i).toNat).map fun k => i + (k : Nat)
theorem rgV_eq (i j : Int) : rgV i j = (rgI i j).map V.int := by
  unfold rgV rgI
  rw [List.map_map]
  rfl
section
variable {K : PySem.W.Frag} {H H0 : Hp} {Q : VK} {E : XK} {v : V} {vs xs ys acc : List V} {a b D : Addr} {n : Nat} {i j m : Int} {o : HO} {ns : List Int} {σ : L2.St} {tt : TT}
theorem s_bag (h : SqL K H a (ns.map V.int)) (q : ∀ H0 b xs, Same H H0 → Bag K H0 b xs → Q (.ref b) (upd H0 b (.lst xs))) : Fr (sp_bag K) [.ref a] H Q E :=
  s_all ⟨_, rfl, a, ns, rfl, h, fun H0 b xs e _ B => q H0 b xs e B⟩
/-- a new object beside the bag -/
theorem newB {C : Prop} (B : Bag K H0 b ys) (hC : C) (q : ∀ p H', Same H0 H' → H' p = some o → Bag K H' b ys → Q (.ref p) (upd H' b (.lst ys))) : NewO C o (upd H0 b (.lst ys)) Q :=
  ⟨hC, bag_new B fun p hp _ B' => q p _ (same_new hp) upd_same B'⟩
theorem newR {C : Prop} (B : Bag K H0 b ys) (hC : C) (q : ∀ p H', Same H0 H' → H' p = some (.lst ((rgI i j).map V.int)) → Bag K H' b ys → Q (.ref p) (upd H' b (.lst ys))) : NewO C (.lst (rgV i j)) (upd H0 b (.lst ys)) Q := by
  rw [rgV_eq]
  exact newB B hC q
theorem addB {zs : List V} {p1 p2 : Addr} (B : Bag K H0 b ys) (h1 : H0 p1 = some (.lst xs)) (h2 : H0 p2 = some (.lst zs)) (hz : xs.length + zs.length ≤ 16777216) (q : ∀ p H', Same H0 H' → H' p = some (.lst (xs ++ zs)) → Bag K H' b ys → Q (.ref p) (upd H' b (.lst ys))) : rPlus K (.ref p1) (.ref p2) (upd H0 b (.lst ys)) Q :=
  s_addL (B.see _ _ h1) (B.see _ _ h2) (small_sz hz) (newB (C := True) B trivial q).2
theorem doneB (B : Bag K H0 b ys) (hD : (upd H0 b (.lst ys)) D = none) (q : ∀ H', Same H0 H' → H' D = some o → Bag K H' b ys → Q (.ref D) (upd H' b (.lst ys))) : DoneC Q D (upd (upd H0 b (.lst ys)) D o) := by
  have ne : D ≠ b := fun e => by
    rw [e, upd_same] at hD
    cases hD
  rw [upd_ne ne] at hD
  show Q (.ref D) (upd (upd H0 b (.lst ys)) D o)
  rw [upd_comm (Ne.symm ne)]
  exact q _ (same_new hD) upd_same (B.same (same_new hD) (by rw [upd_ne (Ne.symm ne)]; exact B.off))
/-- a callee that does not see the bag -/
theorem s_hid {sp : Sp} (B : Bag K H0 b ys) (q : sp vs H0 (fun v H' => H' b = none → Q v (upd H' b (.lst ys))) fun c d H' => H' b = none → E c d (upd H' b (.lst ys))) : Fr sp vs (upd H0 b (.lst ys)) Q E := s_but B.off q
end
end
section
/-! ### texts as lists of code points -/
def tx (l : List Nat) : Str := ⟨l.toArray⟩
theorem tx_len (l : List Nat) : (tx l).length = l.length := by
  show l.toArray.size = _
  simp
theorem tx_list (l : List Nat) : (tx l).cps.toList = l := rfl
theorem tx_app (l k : List Nat) : tx l ++ tx k = tx (l ++ k) := by
  show (⟨l.toArray ++ k.toArray⟩ : Str) = ⟨(l ++ k).toArray⟩
  simp
theorem tx_inj {l k : List Nat} : tx l = tx k ↔ l = k := by
  constructor
  · intro h
    have e : (tx l).cps.toList = (tx k).cps.toList := by rw [h]
    exact e
  · intro h
    rw [h]
theorem tx_one (c : Nat) : (⟨#[c]⟩ : Str) = tx [c] := rfl
theorem tx_rev (l : List Nat) : revS (tx l) = tx l.reverse := by
  show (⟨l.toArray.reverse⟩ : Str) = ⟨l.reverse.toArray⟩
  simp
theorem tx_mul (l : List Nat) (n : Int) : Txt.mul (tx l) n = tx (List.replicate n.toNat l).flatten := by
  unfold Txt.mul
  by_cases h : n < 1
  · rw [if_pos h, show n.toNat = 0 by omega]
    rfl
  · rw [if_neg h]
    by_cases h2 : (n == 1 || (tx l).length == 0) = true
    · rw [if_pos h2]
      rcases Bool.or_eq_true_iff.mp h2 with e | e
      · have e1 : n = 1 := eq_of_beq e
        subst e1
        show tx l = tx (List.replicate 1 l).flatten
        simp
      · have e1 : l.length = 0 := by
          rw [← tx_len]
          exact eq_of_beq e
        have e2 : l = [] := List.length_eq_zero_iff.mp e1
        subst e2
        simp
    · rw [if_neg h2]
      have key : ∀ (m : Nat) (acc : Array Nat), (List.replicate m l.toArray).foldl (· ++ ·) acc = (acc.toList ++ (List.replicate m l).flatten).toArray := by
        intro m
        induction m with
        | zero => intro acc; simp
        | succ m ih =>
          intro acc
          rw [List.replicate_succ, List.foldl_cons, ih]
          simp [List.replicate_succ]
      show (⟨(List.replicate n.toNat l.toArray).foldl (· ++ ·) #[]⟩ : Str) = _
      rw [key]
      simp [tx]
theorem mul_ok {l : List Nat} {n : Int} (h : l.length * n.toNat ≤ 16777216) (h0 : -(2 ^ 63) ≤ n) (hn : n < 2 ^ 63) : MulOk (tx l) n := by
  refine ⟨?_, fun h1 h2 => ?_, fun h1 h2 => ?_⟩
  · rw [Bool.or_eq_false_iff]
    exact ⟨decide_eq_false (by omega), decide_eq_false (by omega)⟩
  · rw [tx_len]
    intro z
    have p : 0 < n := by omega
    have z3 : (2 ^ 63 - 1 : Int) / n < l.length := z
    have z4 : (2 ^ 63 - 1 : Int) < l.length * n := by
      have := (Int.ediv_lt_iff_lt_mul p).mp z3
      omega
    have e : (l.length : Int) * n = ((l.length * n.toNat : Nat) : Int) := by
      rw [Int.natCast_mul, Int.toNat_of_nonneg (by omega)]
    rw [e] at z4
    omega
  · rw [tx_len]
    exact decide_eq_false (by rw [sizeLine_eq]; omega)
theorem tx_cut (l : List Nat) (lo hi : Option Int) : cutS (tx l) lo hi = tx ((l.drop (HT.sIx l.length 0 lo)).take (HT.sIx l.length l.length hi - HT.sIx l.length 0 lo)) := by
  unfold cutS
  rw [tx_len]
  rfl
theorem cut_to (l : List Nat) {k : Int} (h : 0 ≤ k) : cutS (tx l) none (some k) = tx (l.take k.toNat) := by
  obtain ⟨m, rfl⟩ : ∃ m : Nat, k = m := ⟨k.toNat, by omega⟩
  rw [tx_cut, HT.sIx_nat, HT.sIx_none, List.drop_zero, Nat.sub_zero, Int.toNat_natCast]
  congr 1
  by_cases h : m ≤ l.length
  · rw [Nat.min_eq_left h]
  · rw [Nat.min_eq_right (by omega), List.take_of_length_le (Nat.le_refl _), List.take_of_length_le (by omega)]
theorem cut_from (l : List Nat) {k : Int} (h : 0 ≤ k) : cutS (tx l) (some k) none = tx (l.drop k.toNat) := by
  obtain ⟨m, rfl⟩ : ∃ m : Nat, k = m := ⟨k.toNat, by omega⟩
  rw [tx_cut, HT.sIx_nat, HT.sIx_none, Int.toNat_natCast]
  congr 1
  by_cases h : m ≤ l.length
  · rw [Nat.min_eq_left h, List.take_of_length_le (by rw [List.length_drop]; omega)]
  · rw [Nat.min_eq_right (by omega), List.drop_of_length_le (Nat.le_refl _), List.drop_of_length_le (by omega)]
    simp
theorem cut_mid (l : List Nat) {i j : Int} (h : 0 ≤ i) (h' : 0 ≤ j) : cutS (tx l) (some i) (some j) = tx ((l.drop i.toNat).take (j.toNat - i.toNat)) := by
  obtain ⟨m, rfl⟩ : ∃ m : Nat, i = m := ⟨i.toNat, by omega⟩
  obtain ⟨n, rfl⟩ : ∃ m : Nat, j = m := ⟨j.toNat, by omega⟩
  rw [tx_cut, HT.sIx_nat, HT.sIx_nat, Int.toNat_natCast, Int.toNat_natCast]
  congr 1
  by_cases h : m ≤ l.length
  · rw [Nat.min_eq_left h]
    by_cases h2 : n ≤ l.length
    · rw [Nat.min_eq_left h2]
    · rw [Nat.min_eq_right (by omega : l.length ≤ n), List.take_of_length_le (by rw [List.length_drop]; omega), List.take_of_length_le (by rw [List.length_drop]; omega)]
  · rw [Nat.min_eq_right (by omega : l.length ≤ m), List.drop_of_length_le (Nat.le_refl _), List.drop_of_length_le (by omega : l.length ≤ m)]
    simp
theorem cut_last (l : List Nat) : cutS (tx l) none (some (-1)) = tx l.dropLast := by
  rw [tx_cut, HT.sIx_none, List.drop_zero, Nat.sub_zero, List.dropLast_eq_take]
  congr 1
  have e : HT.sIx l.length l.length (some (-1)) = l.length - 1 := by
    show (if (-1 : Int) < 0 then ((-1 : Int) + (l.length : Int)).toNat else min (-1 : Int).toNat l.length) = _
    rw [if_pos (by decide)]
    omega
  rw [e]
theorem tx_join (ls : List (List Nat)) : Txt.join (tx []) (ls.map tx) = tx ls.flatten := by
  have key : ∀ (ks : List (List Nat)) (acc : List Nat), (ks.map tx).foldl (fun acc p => acc ++ (tx []).cps ++ p.cps) acc.toArray = (acc ++ ks.flatten).toArray := by
    intro ks
    induction ks with
    | nil => intro acc; simp
    | cons k ks ih =>
      intro acc
      rw [List.map_cons, List.foldl_cons]
      have e : acc.toArray ++ (tx []).cps ++ (tx k).cps = (acc ++ k).toArray := by
        show acc.toArray ++ ([] : List Nat).toArray ++ k.toArray = _
        simp
      rw [e, ih]
      simp
  cases ls with
  | nil => rfl
  | cons k ks =>
    have h := key ks k
    rw [List.flatten_cons]
    show (⟨_⟩ : Str) = _
    unfold tx at h ⊢
    exact congrArg Str.mk h
/-- small letters alone -/
def Low (l : List Nat) : Prop := ∀ c ∈ l, 97 ≤ c ∧ c ≤ 122
theorem Low.nil : Low [] := fun _ h => nomatch h
theorem Low.app {l k : List Nat} (a : Low l) (b : Low k) : Low (l ++ k) := fun c h => (List.mem_append.mp h).elim (a c) (b c)
theorem Low.take {l : List Nat} (a : Low l) (n : Nat) : Low (l.take n) := fun c h => a c (List.mem_of_mem_take h)
theorem Low.drop {l : List Nat} (a : Low l) (n : Nat) : Low (l.drop n) := fun c h => a c (List.mem_of_mem_drop h)
theorem Low.last {l : List Nat} (a : Low l) : Low l.dropLast := fun c h => a c (List.dropLast_subset l h)
theorem Low.rev {l : List Nat} (a : Low l) : Low l.reverse := fun c h => a c (List.mem_reverse.mp h)
theorem Low.rep {l : List Nat} (a : Low l) (n : Nat) : Low (List.replicate n l).flatten := fun c h => by
  obtain ⟨k, hk, hc⟩ := List.mem_flatten.mp h
  exact a c (by rw [← List.eq_of_mem_replicate hk]; exact hc)
theorem rep_len (n : Nat) (l : List Nat) : (List.replicate n l).flatten.length = n * l.length := by
  induction n with
  | zero => simp
  | succ n ih =>
    rw [List.replicate_succ, List.flatten_cons, List.length_append, ih, Nat.add_mul]
    omega
theorem nice_str {l : List Nat} (h : Low l) (hz : l.length ≤ 1000000) : Nice (.str (tx l)) :=
  (bd_str (n := l.length) (by rw [tx_len]; exact Nat.le_refl _) fun c hc => by have := h c hc; omega).nice (by omega) (by omega)
section
variable {K : PySem.W.Frag} {σ : L2.St} {H : Hp} {Q : VK} {l k : List Nat} {i j n : Int} {te : TE} {v : V} {m : Nat}
theorem s_addX (h : l.length + k.length ≤ 16777216) (q : Q (.str (tx (l ++ k))) H) : rPlus K (.str (tx l)) (.str (tx k)) H Q := s_addT (by rw [tx_len, tx_len, sizeLine_eq]; exact h) (by rw [tx_app]; exact q)
theorem s_mulX (h : l.length * n.toNat ≤ 16777216) (h0 : -(2 ^ 63) ≤ n) (hn : n < 2 ^ 63) (q : Q (.str (tx (List.replicate n.toNat l).flatten)) H) : rTimes (.str (tx l)) (.int n) H Q := s_mulT (mul_ok h h0 hn) (by rw [tx_mul]; exact q)
theorem dec_tx (l k : List Nat) : decide (tx l = tx k) = decide (l = k) := decide_eq_decide.mpr tx_inj
theorem s_eqX (q : Q (.bl (decide (l = k))) H) : rSame K (.str (tx l)) (.str (tx k)) H Q := s_eqT (by rw [dec_tx]; exact q)
theorem s_neX (q : Q (.bl (!decide (l = k))) H) : rDiff K (.str (tx l)) (.str (tx k)) H Q := s_neT (by rw [dec_tx]; exact q)
theorem s_lenX (h : l.length ≤ 16777216) (q : Q (.int l.length) H) : rLen K [.str (tx l)] H Q := s_lenS (by rw [tx_len, sizeLine_eq]; exact h) (by rw [tx_len]; exact q)
theorem s_ixX (h : l.length ≤ 16777216) (e : atI l i = some m) (q : Q (.str (tx [m])) H) : rIx K (.str (tx l)) (.int i) H Q := s_ixS (by rw [tx_len, sizeLine_eq]; exact h) e q
theorem s_pickX (h : l.length ≤ 16777216) (h0 : 0 ≤ i) (h1 : i < l.length) (q : ∀ (m : Nat) (hm : m < l.length), i = m → Q (.str (tx [l[m]])) H) : rIx K (.str (tx l)) (.int i) H Q := by
  obtain ⟨m, rfl⟩ : ∃ m : Nat, i = m := ⟨i.toNat, by omega⟩
  exact s_ixX h (atI_nat (List.getElem?_eq_getElem (by omega))) (q m (by omega) rfl)
theorem s_toX (h : l.length ≤ 16777216) (hi : 0 ≤ i) (q : Q (.str (tx (l.take i.toNat))) H) : rCut K (.str (tx l)) none (some i) H Q := .inl ⟨_, rfl, by rw [tx_len, sizeLine_eq]; exact h, by rw [cut_to _ hi]; exact q⟩
theorem s_fromX (h : l.length ≤ 16777216) (hi : 0 ≤ i) (q : Q (.str (tx (l.drop i.toNat))) H) : rCut K (.str (tx l)) (some i) none H Q := .inl ⟨_, rfl, by rw [tx_len, sizeLine_eq]; exact h, by rw [cut_from _ hi]; exact q⟩
theorem s_midX (h : l.length ≤ 16777216) (hi : 0 ≤ i) (hj : 0 ≤ j) (q : Q (.str (tx ((l.drop i.toNat).take (j.toNat - i.toNat)))) H) : rCut K (.str (tx l)) (some i) (some j) H Q := .inl ⟨_, rfl, by rw [tx_len, sizeLine_eq]; exact h, by rw [cut_mid _ hi hj]; exact q⟩
theorem s_lastX (h : l.length ≤ 16777216) (q : Q (.str (tx l.dropLast)) H) : rCut K (.str (tx l)) none (some (-1)) H Q := .inl ⟨_, rfl, by rw [tx_len, sizeLine_eq]; exact h, by rw [cut_last]; exact q⟩
theorem s_revX (q : te σ H fun x H1 => ∃ l, x = .str (tx l) ∧ l.length ≤ 16777216 ∧ Q (.str (tx l.reverse)) H1) (mono : ∀ R R' : VK, (∀ v H, R v H → R' v H) → te σ H R → te σ H R') : tRev K te σ H Q :=
  mono _ _ (fun v H1 h => by
    obtain ⟨l, rfl, hz, q⟩ := h
    exact .inl ⟨tx l, rfl, by rw [tx_len, sizeLine_eq]; exact hz, by rw [tx_rev]; exact q⟩) q
abbrev RevO (K : PySem.W.Frag) (x : V) (H1 : Hp) (Q : VK) : Prop := (∃ z, x = .str z ∧ z.length ≤ sizeLine ∧ Q (.str (revS z)) H1) ∨ (∃ a xs, x = .ref a ∧ SqL K H1 a xs ∧ ∀ p, H1 p = none → Q (.ref p) (upd H1 p (.lst xs.reverse)))
theorem s_rev0 (q : te σ H fun x H1 => RevO K x H1 Q) : tRev K te σ H Q := q
theorem rev_X (h : l.length ≤ 16777216) (q : Q (.str (tx l.reverse)) H) : RevO K (.str (tx l)) H Q := .inl ⟨tx l, rfl, by rw [tx_len, sizeLine_eq]; exact h, by rw [tx_rev]; exact q⟩
theorem rev_L {a : Addr} {xs : List V} (h : SqL K H a xs) (q : NewO True (.lst xs.reverse) H Q) : RevO K (.ref a) H Q := .inr ⟨a, xs, rfl, h, q.2⟩
theorem s_m1 {rr : V → List V → Hp → VK → Prop} {to te : TE} (q : to σ H fun x H1 => (∃ a, x = .str a) ∧ te σ H1 fun y H2 => rr x [y] H2 Q) : tM1 rr to te σ H Q := q
theorem s_join {p : Addr} {ls : List (List Nat)} (h : SqL K H p (ls.map fun l => V.str (tx l))) (hz : (ls.map List.length).sum ≤ 16777216) (q : Q (.str (tx ls.flatten)) H) : rJoin K (.str (tx [])) [.ref p] H Q := by
  refine ⟨_, p, ls.map tx, rfl, rfl, .inl (by rw [List.map_map]; exact h), ?_, by rw [tx_join]; exact q⟩
  rw [List.map_map, tx_len]
  have e : (Str.length ∘ tx) = List.length := funext fun l => tx_len l
  rw [e]
  simpa using hz
end
section
variable {K : PySem.W.Frag} {σ : L2.St} {ta : TA} {v v' : V} {n k : Nat} {En : Ends}
theorem s_par (q : ta σ H fun vs H1 => ∃ v v', vs = [v, v'] ∧ En.nx ((σ.set n (some v)).set k (some v')) H1) : tPar n k ta En σ H := q
theorem s_two {R : V → V → Prop} (q : R v v') : ∃ x y, [v, v'] = [x, y] ∧ R x y := ⟨v, v', rfl, q⟩
theorem s_isstr {z : Str} {R : Prop} (q : R) : (∃ a, V.str z = .str a) ∧ R := ⟨⟨z, rfl⟩, q⟩
end
/-! walks over a text -/
section
variable {K : PySem.W.Frag} {H1 Hi : Hp} {D : Addr} {l : List Nat} {acc : List V} {g : TG} {tt : TT} {te : TE} {vs : List Nat} {σ : L2.St} {Qd : Hp → Prop} {H : Hp} {tb : TS} {En : Ends}
theorem tx_at {l : List Nat} {i c : Nat} (h : (tx l).cps[i]? = some c) : l[i]? = some c := by
  have e : (tx l).cps[i]? = l[i]? := by
    show l.toArray[i]? = l[i]?
    simp
  rw [← e]
  exact h
theorem lcX (hD : H1 D = none) (Pv : Nat → List V → Hp → Prop) (h0 : Pv 0 [] H1)
    (hs : ∀ i d acc Hi, l[i]? = some d → Hi D = none → acc.length ≤ i → Pv i acc Hi → g (.str (tx [d])) (wipe σ vs) (upd Hi D (.lst acc)) fun σ2 H2 => wipe σ2 vs = wipe σ vs ∧ tt σ2 H2 fun b H3 =>
      if b = true then te σ2 H3 fun y H4 => ∃ acc, H4 D = some (.lst acc) ∧ acc.length < sizeLine ∧ PvD Pv D (i + 1) (upd H4 D (.lst (acc ++ [y]))) else PvD Pv D (i + 1) H3)
    (hd : ∀ acc Hi, Hi D = none → acc.length ≤ l.length → Pv l.length acc Hi → Qd (upd Hi D (.lst acc))) :
    ∃ W : Nat → Nat → Hp → Prop, (∃ m, W 0 m (upd H1 D (.lst []))) ∧ ∀ i m H, W i m H →
      ((Its (tx l)).stop i H ∧ Qd H) ∨ ((Its (tx l)).go i H ∧ ∃ Nx : Hp → Prop, (∀ H', Nx H' → ∃ m', m' < m ∧ W (i + 1) m' H') ∧ ∀ x H', (Its (tx l)).yld i H x H' → g x (wipe σ vs) H' fun σ2 H2 => wipe σ2 vs = wipe σ vs ∧ tt σ2 H2 fun b H3 =>
        if b = true then te σ2 H3 fun y H4 => ∃ acc, H4 D = some (.lst acc) ∧ acc.length < sizeLine ∧ Nx (upd H4 D (.lst (acc ++ [y]))) else Nx H3) := by
  have hsz : (tx l).cps.size = l.length := tx_len l
  refine ⟨fun i m H => m = l.length - i ∧ i ≤ l.length ∧ PvD Pv D i H, ⟨l.length, by simp, Nat.zero_le _, [], H1, rfl, hD, Nat.le_refl _, h0⟩, ?_⟩
  rintro i m H ⟨rfl, hi, acc, Hi, rfl, p1, p2, p3⟩
  by_cases hlt : i < l.length
  · refine .inr ⟨by show i < (tx l).cps.size; omega, PvD Pv D (i + 1), fun H' p' => ⟨l.length - (i + 1), by omega, rfl, hlt, p'⟩, fun x H' y => ?_⟩
    obtain ⟨e, c, hc, rfl⟩ := y
    subst e
    exact hs i c acc Hi (tx_at hc) p1 p2 p3
  · have e : i = l.length := by omega
    subst e
    exact .inl ⟨by show (tx l).cps.size ≤ _; omega, hd acc Hi p1 p2 p3⟩
theorem forX (Pv : Nat → L2.St → Hp → Prop) (h0 : Pv 0 σ H)
    (hs : ∀ i c σ H, l[i]? = some c → Pv i σ H → g (.str (tx [c])) σ H fun σ2 H2 => tb { En with nx := Pv (i + 1), ct := Pv (i + 1), bk := En.nx } σ2 H2) (hd : ∀ σ H, Pv l.length σ H → En.nx σ H) :
    ∃ W : Nat → Nat → L2.St → Hp → Prop, (∃ m, W 0 m σ H) ∧ ∀ i m σ H, W i m σ H →
      ((Its (tx l)).stop i H ∧ En.nx σ H) ∨ ((Its (tx l)).go i H ∧ ∃ N : L2.St → Hp → Prop, (∀ σ' H', N σ' H' → ∃ m', m' < m ∧ W (i + 1) m' σ' H') ∧ ∀ x H', (Its (tx l)).yld i H x H' → g x σ H' fun σ2 H2 => tb { En with nx := N, ct := N, bk := En.nx } σ2 H2) := by
  have hsz : (tx l).cps.size = l.length := tx_len l
  refine ⟨fun i m σ H => m = l.length - i ∧ i ≤ l.length ∧ Pv i σ H, ⟨l.length, by simp, Nat.zero_le _, h0⟩, ?_⟩
  rintro i m σ H ⟨rfl, hi, p⟩
  by_cases hlt : i < l.length
  · refine .inr ⟨by show i < (tx l).cps.size; omega, Pv (i + 1), fun σ' H' p' => ⟨l.length - (i + 1), by omega, rfl, hlt, p'⟩, fun x H' y => ?_⟩
    obtain ⟨e, c, hc, rfl⟩ := y
    subst e
    exact hs i c σ _ (tx_at hc) p
  · have e : i = l.length := by omega
    subst e
    exact .inl ⟨by show (tx l).cps.size ≤ _; omega, hd σ H p⟩
end
theorem at_0 {α : Type} {c : α} {r : List α} : atI (c :: r) 0 = some c := atI_nat (j := 0) rfl
theorem at_get {α : Type} {l : List α} {m : Nat} (h : m < l.length) : atI l (m : Int) = some l[m] := atI_nat (List.getElem?_eq_getElem h)
/-! literals -/
theorem lit_empty : ("" : Str) = tx [] := by decide +kernel
theorem lit_az : ("abcdefghijklmnopqrstuvwxyz" : Str) = tx [97, 98, 99, 100, 101, 102, 103, 104, 105, 106, 107, 108, 109, 110, 111, 112, 113, 114, 115, 116, 117, 118, 119, 120, 121, 122] := by decide +kernel
theorem lit_abc : ("abc" : Str) = tx [97, 98, 99] := by decide +kernel
theorem lit_abz : ("abz" : Str) = tx [97, 98, 122] := by decide +kernel
theorem low_az : Low [97, 98, 99, 100, 101, 102, 103, 104, 105, 106, 107, 108, 109, 110, 111, 112, 113, 114, 115, 116, 117, 118, 119, 120, 121, 122] := by unfold Low; decide +kernel
end
section
/-- one step of a reading (e: none past a statement's end) -/
local macro_rules
  | `(tactic| walk_at "e") => `(tactic| first
    | with_reducible refine s_ifs ?_
    | with_reducible refine s_test ?_
    | with_reducible refine s_truth ?_
    | with_reducible refine s_op ?_
    | with_reducible refine s_un ?_
    | with_reducible refine s_asg ?_
    | with_reducible refine s_ret ?_
    | with_reducible refine s_next ?_
    | with_reducible refine s_drop ?_
    | with_reducible refine s_c ?_
    | ((with_reducible refine s_var (v := ?v) ?e ?q); case e => exact rfl)
    | with_reducible refine s_name ?_
    | with_reducible refine s_exq ?_
    | with_reducible refine s_cons ?_
    | with_reducible refine s_nil ?_
    | with_reducible refine s_lst ?_
    | with_reducible refine s_tup ?_
    | with_reducible refine s_cb ?_
    | with_reducible refine s_call ?_
    | with_reducible refine s_and ?_
    | with_reducible refine s_or ?_
    | with_reducible refine s_not ?_
    | with_reducible refine s_andV ?_
    | with_reducible refine s_orV ?_
    | with_reducible refine s_notV ?_
    | with_reducible refine s_ife ?_
    | with_reducible refine s_chain ?_
    | with_reducible refine s_addI ?_
    | with_reducible refine s_sub ?_
    | with_reducible refine s_neg ?_
    | with_reducible refine s_eqI ?_
    | with_reducible refine s_eqX ?_
    | with_reducible refine s_eqT ?_
    | with_reducible refine s_eqB ?_
    | with_reducible refine s_eqNI ?_
    | with_reducible refine s_eqIN ?_
    | with_reducible refine s_eqNN ?_
    | with_reducible refine s_neI ?_
    | with_reducible refine s_neX ?_
    | with_reducible refine s_neT ?_
    | with_reducible refine s_neB ?_
    | with_reducible refine s_lt ?_
    | with_reducible refine s_le ?_
    | with_reducible refine s_gt ?_
    | with_reducible refine s_ge ?_
    | with_reducible refine s_isN ?_
    | with_reducible refine s_isS ?_
    | with_reducible refine s_truB ?_
    | with_reducible refine s_truI ?_
    | with_reducible refine s_truN ?_
    | with_reducible refine s_abs ?_
    | with_reducible refine s_min2 ?_
    | with_reducible refine s_max2 ?_
    | with_reducible refine s_intI ?_
    | with_reducible refine s_intB ?_
    | with_reducible refine s_ifT ?_
    | with_reducible refine s_ifF ?_
    | with_reducible refine s_ifnT ?_
    | with_reducible refine s_ifnF ?_
    | with_reducible refine s_gSub ?_
    | with_reducible refine s_gTup ?_
    | with_reducible refine s_augS ?_
    | ((with_reducible refine s_aug (x := ?v) ?e ?q); case e => exact rfl)
    | with_reducible refine s_yes ?_
    | with_reducible refine s_par ?_
    | with_reducible refine s_two ?_
    | with_reducible refine s_m1 ?_
    | with_reducible refine s_isstr ?_
    | with_reducible refine s_rev0 ?_
    | with_reducible refine s_gCons ?_
    | with_reducible refine s_gNil ?_
    | with_reducible refine s_ipI ?_
    | with_reducible refine s_ipA ?_
    | with_reducible refine s_sl ?_
    | with_reducible refine s_noPart ?_
    | with_reducible refine s_part ?_
    | with_reducible refine s_parte ?_
    | with_reducible refine s_for ?_
    | with_reducible refine s_lc ?_
    | with_reducible refine s_iL ?_
    | with_reducible refine s_iS ?_
    | with_reducible refine s_iT ?_
    | with_reducible refine s_itS ?_
    | with_reducible refine s_iR1 ?_
    | with_reducible refine s_iR2 ?_
    | with_reducible refine s_rg1 ?_
    | with_reducible refine s_rg2 ?_
    | with_reducible refine s_rg1e ?_
    | with_reducible refine s_rg2e ?_
    | with_reducible refine s_lrg ?_
    | with_reducible refine s_bm ?_
    | with_reducible refine s_bm0 ?_
    | with_reducible refine s_retN ?_)
  | `(tactic| walk_at "s") => `(tactic| first
    | with_reducible refine s_seq ?_
    | walk_at "e")

section
variable {K : PySem.W.Frag} {σ : L2.St} {H H0 : Hp} {Q : VK} {E : XK} {D : Addr} {b : Addr} {ys acc : List V} {m : Int} {ta : TA} {v v' : V} {n k : Nat} {En : Ends}
/-- a draw within a comprehension -/
theorem s_takeD (B : Bag K H0 b ys) (hD : (upd H0 b (.lst ys)) D = none) (h : 0 < m) (hl : m.natAbs.log2 < 9000)
    (q : ∀ (r : Int) (zs : List V), 0 ≤ r → r < m → Bag K H0 b zs → (upd H0 b (.lst zs)) D = none → Q (.int r) (upd (upd H0 b (.lst zs)) D (.lst acc))) :
    Fr (sp_take K) [.ref b, .int m] (upd (upd H0 b (.lst ys)) D (.lst acc)) Q E :=
  s_but hD ⟨_, _, rfl, b, H0, ys, m, rfl, rfl, rfl, B, h, hl, fun r zs h0 h1 B' hD' => q r zs h0 h1 B' hD'⟩
end
/-! ### words, rows -/
/-- what a maker of texts promises: the bag, a bound, a text between two lengths -/
def spText (K : PySem.W.Frag) (lo : Int) (hi : Int → Int) : Sp := sp2 fun x y H Q _ => ∃ (b : Addr) (H0 : Hp) (ys : List V) (m : Int), x = .ref b ∧ y = .int m ∧ H = upd H0 b (.lst ys) ∧ Bag K H0 b ys ∧ 1 ≤ m ∧ m ≤ 1000000 ∧
  ∀ (H' : Hp) (zs : List V) (l : List Nat), Same H0 H' → Bag K H' b zs → Low l → lo ≤ l.length → (l.length : Int) ≤ hi m → Q (.str (tx l)) (upd H' b (.lst zs))
abbrev sp_word (K : PySem.W.Frag) : Sp := spText K 1 fun m => m
abbrev sp_row (K : PySem.W.Frag) : Sp := spText K 2 fun m => max 2 m
section
variable {K : PySem.W.Frag} {H0 : Hp} {Q : VK} {E : XK} {b : Addr} {ys : List V} {m lo : Int} {hi : Int → Int}
theorem s_text (B : Bag K H0 b ys) (h : 1 ≤ m) (hl : m ≤ 1000000) (q : ∀ (H' : Hp) (zs : List V) (l : List Nat), Same H0 H' → Bag K H' b zs → Low l → lo ≤ l.length → (l.length : Int) ≤ hi m → Q (.str (tx l)) (upd H' b (.lst zs))) : Fr (spText K lo hi) [.ref b, .int m] (upd H0 b (.lst ys)) Q E :=
  s_all ⟨_, _, rfl, b, H0, ys, m, rfl, rfl, rfl, B, h, hl, q⟩
end
def t_word (K : PySem.W.Frag) : TS :=
  (tSeq (tAsg (tTup (tCons (gCall (sp_take K) E1 (tCons (tVar 0) (tCons (tC (.int 24)) tNil))) (tCons (tOp (rPlus K) (tC (.int 1)) (gCall (sp_take K) E1 (tCons (tVar 0) (tCons (tC (.int 3)) tNil)))) tNil))) (gTup K 2 (gCons (gName 2) (gCons (gName 3) gNil))))
  (tSeq (tAsg (tSl (rCut K) (tC (.str "abcdefghijklmnopqrstuvwxyz")) (tPart (tVar 2)) (tPart (tOp (rPlus K) (tVar 2) (tVar 3)))) (gName 4))
  (tSeq (tPar 5 6 (tCons (gCall (sp_take K) E1 (tCons (tVar 0) (tCons (tC (.int 4)) tNil))) (tCons (tOp (rPlus K) (tC (.int 1)) (gCall (sp_take K) E1 (tCons (tVar 0) (tCons (tVar 1) tNil)))) tNil)))
  (tSeq (tAsg (tOp (rIx K) (tLst (tCons (tVar 6) (tCons (tOp (rPlus K) (tC (.int 1)) (gCall (sp_take K) E1 (tCons (tVar 0) (tCons (tC (.int 4)) tNil)))) tNil))) (tCB rInt (tCons (tOp rMore (tVar 5) (tC (.int 1))) tNil))) (gName 7))
  (tSeq (tAsg (tM1 (rJoin K) (tC (.str "")) (tLc (iRng1 (tCons (tVar 7) tNil)) (gName 9) tYes (tOp (rIx K) (tVar 4) (gCall (sp_take K) E1 (tCons (tVar 0) (tCons (tVar 3) tNil)))) [9])) (gName 8))
  (tSeq (tAsg (tSl (rCut K) (tOp rTimes (tVar 8) (tOp (rPlus K) (tOp rDiv (tVar 6) (tVar 7)) (tC (.int 1)))) tNoPart (tPart (tVar 6))) (gName 8))
  (tRet (tOp (rIx K) (tLst (tCons (tVar 8) (tCons (tVar 8) (tCons (tVar 8) (tCons (tRev K (tVar 8)) tNil))))) (tVar 5)))))))))

theorem pu_word {K : PySem.W.Frag} (vs : List V) (H : Hp) (Q : VK) (E : XK) (h : sp_word K vs H Q E) : t_word K { nx := fun _ H' => Q .non H', rt := Q } (start ["_law_bag_here", "_law_most", "_law_start", "_law_few", "_law_letters", "_law_way", "_law_size", "_law_many", "_law_word_here", "_law_k"] vs) H := by
  obtain ⟨_, _, rfl, b, H0, ys, m, rfl, rfl, rfl, B, m1, m2, hQ⟩ := h
  unfold t_word
  rw [lit_az, lit_empty]
  repeat' walk_at "s"
  refine s_take B (by decide) (lg (by decide) (by decide)) ?_
  intro st ys a1 a2 B
  repeat' walk_at "s"
  refine s_take B (by decide) (lg (by decide) (by decide)) ?_
  intro r ys b1 b2 B
  repeat' walk_at "s"
  refine newB B (sz_of rfl) fun p H1 e1 hp B => ?_
  refine s_gTup (SqT.of (B.see _ _ hp)) rfl ?_
  repeat' walk_at "s"
  refine s_midX (by decide) (by omega) (by omega) ?_
  obtain ⟨ls, hls, lw, ll⟩ : ∃ ls : List Nat, (([97, 98, 99, 100, 101, 102, 103, 104, 105, 106, 107, 108, 109, 110, 111, 112, 113, 114, 115, 116, 117, 118, 119, 120, 121, 122] : List Nat).drop st.toNat).take ((st + (1 + r)).toNat - st.toNat) = ls ∧ Low ls ∧ (ls.length : Int) = 1 + r := by
    refine ⟨_, rfl, (low_az.drop _).take _, ?_⟩
    rw [List.length_take, List.length_drop]
    show ((min _ (26 - st.toNat) : Nat) : Int) = _
    omega
  rw [hls]
  clear hls
  repeat' walk_at "s"
  refine s_take B (by decide) (lg (by decide) (by decide)) ?_
  intro way ys c1 c2 B
  repeat' walk_at "s"
  refine s_take B (by omega) (lg (by omega) (by omega)) ?_
  intro sz ys d1 d2 B
  repeat' walk_at "s"
  refine s_take B (by decide) (lg (by decide) (by decide)) ?_
  intro r4 ys f1 f2 B
  repeat' walk_at "s"
  refine newB B (sz_of rfl) fun p2 H2 e2 hp2 B => ?_
  repeat' walk_at "s"
  refine s_pickP (fun x => ∃ s : Int, x = .int s ∧ 1 ≤ s ∧ s ≤ 1000004) (B.see _ _ hp2) (by split <;> omega) (by show (_ : Int) < 2; split <;> omega) (fun x hx => ?_) fun x hx => ?_
  · rcases List.mem_cons.mp hx with rfl | hx
    · exact ⟨_, rfl, by omega, by omega⟩
    · rcases List.mem_singleton.mp hx with rfl
      exact ⟨_, rfl, by omega, by omega⟩
  obtain ⟨many, rfl, g1, g2⟩ := hx
  repeat' walk_at "s"
  refine s_rn1 (by omega) (by omega) ?_
  intro D hD
  refine lcR hD (fun i acc Hi => ∃ (H3 : Hp) (ys : List V) (cs : List Nat), Hi = upd H3 b (.lst ys) ∧ Same H2 H3 ∧ Bag K H3 b ys ∧ acc = cs.map (fun c => V.str (tx [c])) ∧ Low cs ∧ cs.length = i) ⟨H2, ys, [], rfl, Same.refl _, B, rfl, Low.nil, rfl⟩ (fun i acc Hi hi hn hl z => ?_) fun acc Hi hn hl z => ?_
  · obtain ⟨H3, ys, cs, rfl, e3, B, rfl, lc, hc⟩ := z
    repeat' walk_at "s"
    refine ⟨rfl, ?_⟩
    repeat' walk_at "s"
    refine s_takeD B hn (by omega) (lg (by omega) (by omega)) ?_
    intro r5 ys i1 i2 B hn
    refine s_pickX (by omega) i1 (by omega) fun q hq _ => ?_
    refine lc_put hn hl (by rw [sizeLine_eq]; omega) ⟨H3, ys, cs ++ [ls[q]], rfl, e3, B, by rw [List.map_append]; rfl, lc.app fun c hc => ?_, by rw [List.length_append, hc]; rfl⟩
    rcases List.mem_singleton.mp hc with rfl
    exact lw _ (List.getElem_mem hq)
  · obtain ⟨H3, ys, cs, rfl, e3, B, rfl, lc, hc⟩ := z
    refine doneB B hn fun H4 e4 h4 B => ?_
    refine s_join (ls := cs.map fun c => [c]) (by rw [List.map_map]; exact SqL.of (B.see _ _ h4)) ?_ ?_
    · rw [List.map_map]
      have e : ((List.length : List Nat → Nat) ∘ fun c => [c]) = fun _ => 1 := rfl
      rw [e, List.map_const', List.sum_replicate_nat]
      omega
    have ef : (cs.map fun c => [c]).flatten = cs := by
      clear hc lc h4 hl hn
      induction cs with
      | nil => rfl
      | cons c cs ih => rw [List.map_cons, List.flatten_cons, ih]; rfl
    rw [ef]
    repeat' walk_at "s"
    refine s_div ⟨by omega, (lg (by omega) (by omega))⟩ ?_
    repeat' walk_at "s"
    have hmul := Int.mul_ediv_add_emod (1 + sz) many
    have hmod := Int.emod_lt_of_pos (1 + sz) (show 0 < many by omega)
    have hmod0 := Int.emod_nonneg (1 + sz) (show many ≠ 0 by omega)
    generalize hdv : (1 + sz) / many = dv at hmul ⊢
    have dv0 : 0 ≤ dv := by
      rw [← hdv]
      exact Int.ediv_nonneg (by omega) (by omega)
    have hcm : (cs.length : Int) = many := by omega
    have hlen : ((cs.length * (dv + 1).toNat : Nat) : Int) = many * dv + many := by
      rw [Int.natCast_mul, Int.toNat_of_nonneg (by omega), hcm, Int.mul_add, Int.mul_one]
    refine s_mulX (by omega) (by omega) ?_ ?_
    · have h1 : 1 * dv ≤ many * dv := Int.mul_le_mul_of_nonneg_right g1 dv0
      omega
    repeat' walk_at "s"
    refine s_toX (by rw [rep_len, Nat.mul_comm]; omega) (by omega) ?_
    obtain ⟨w, hw, ww, wl⟩ : ∃ w : List Nat, (List.replicate (dv + 1).toNat cs).flatten.take (1 + sz).toNat = w ∧ Low w ∧ (w.length : Int) = 1 + sz := by
      refine ⟨_, rfl, (lc.rep _).take _, ?_⟩
      rw [List.length_take, rep_len, Nat.mul_comm]
      omega
    rw [hw]
    repeat' walk_at "s"
    refine .inl ⟨_, rfl, by rw [tx_len, sizeLine_eq]; omega, ?_⟩
    rw [tx_rev]
    repeat' walk_at "s"
    refine newB B (sz_of rfl) fun p5 H5 e5 hp5 B => ?_
    repeat' walk_at "s"
    refine s_pickP (fun x => ∃ l : List Nat, x = .str (tx l) ∧ Low l ∧ (l.length : Int) = 1 + sz) (B.see _ _ hp5) c1 c2 (fun x hx => ?_) fun x hx => ?_
    · simp only [List.mem_cons, List.not_mem_nil, or_false] at hx
      rcases hx with rfl | rfl | rfl | rfl
      · exact ⟨_, rfl, ww, wl⟩
      · exact ⟨_, rfl, ww, wl⟩
      · exact ⟨_, rfl, ww, wl⟩
      · exact ⟨_, rfl, ww.rev, by rw [List.length_reverse]; exact wl⟩
    obtain ⟨l, rfl, hl1, hl2⟩ := hx
    exact hQ _ _ _ ((((e1.trans e2).trans e3).trans e4).trans e5) B hl1 (by omega) (by show (l.length : Int) ≤ m; omega)
end
section
/-- one step of a reading (e: none past a statement's end) -/
local macro_rules
  | `(tactic| walk_at "e") => `(tactic| first
    | with_reducible refine s_ifs ?_
    | with_reducible refine s_test ?_
    | with_reducible refine s_truth ?_
    | with_reducible refine s_op ?_
    | with_reducible refine s_un ?_
    | with_reducible refine s_asg ?_
    | with_reducible refine s_ret ?_
    | with_reducible refine s_next ?_
    | with_reducible refine s_drop ?_
    | with_reducible refine s_c ?_
    | ((with_reducible refine s_var (v := ?v) ?e ?q); case e => exact rfl)
    | with_reducible refine s_name ?_
    | with_reducible refine s_exq ?_
    | with_reducible refine s_cons ?_
    | with_reducible refine s_nil ?_
    | with_reducible refine s_lst ?_
    | with_reducible refine s_tup ?_
    | with_reducible refine s_cb ?_
    | with_reducible refine s_call ?_
    | with_reducible refine s_and ?_
    | with_reducible refine s_or ?_
    | with_reducible refine s_not ?_
    | with_reducible refine s_andV ?_
    | with_reducible refine s_orV ?_
    | with_reducible refine s_notV ?_
    | with_reducible refine s_ife ?_
    | with_reducible refine s_chain ?_
    | with_reducible refine s_addI ?_
    | with_reducible refine s_sub ?_
    | with_reducible refine s_neg ?_
    | with_reducible refine s_eqI ?_
    | with_reducible refine s_eqX ?_
    | with_reducible refine s_eqT ?_
    | with_reducible refine s_eqB ?_
    | with_reducible refine s_eqNI ?_
    | with_reducible refine s_eqIN ?_
    | with_reducible refine s_eqNN ?_
    | with_reducible refine s_neI ?_
    | with_reducible refine s_neX ?_
    | with_reducible refine s_neT ?_
    | with_reducible refine s_neB ?_
    | with_reducible refine s_lt ?_
    | with_reducible refine s_le ?_
    | with_reducible refine s_gt ?_
    | with_reducible refine s_ge ?_
    | with_reducible refine s_isN ?_
    | with_reducible refine s_isS ?_
    | with_reducible refine s_truB ?_
    | with_reducible refine s_truI ?_
    | with_reducible refine s_truN ?_
    | with_reducible refine s_abs ?_
    | with_reducible refine s_min2 ?_
    | with_reducible refine s_max2 ?_
    | with_reducible refine s_intI ?_
    | with_reducible refine s_intB ?_
    | with_reducible refine s_ifT ?_
    | with_reducible refine s_ifF ?_
    | with_reducible refine s_ifnT ?_
    | with_reducible refine s_ifnF ?_
    | with_reducible refine s_gSub ?_
    | with_reducible refine s_gTup ?_
    | with_reducible refine s_augS ?_
    | ((with_reducible refine s_aug (x := ?v) ?e ?q); case e => exact rfl)
    | with_reducible refine s_yes ?_
    | with_reducible refine s_par ?_
    | with_reducible refine s_two ?_
    | with_reducible refine s_m1 ?_
    | with_reducible refine s_isstr ?_
    | with_reducible refine s_rev0 ?_
    | with_reducible refine s_gCons ?_
    | with_reducible refine s_gNil ?_
    | with_reducible refine s_ipI ?_
    | with_reducible refine s_ipA ?_
    | with_reducible refine s_sl ?_
    | with_reducible refine s_noPart ?_
    | with_reducible refine s_part ?_
    | with_reducible refine s_parte ?_
    | with_reducible refine s_for ?_
    | with_reducible refine s_lc ?_
    | with_reducible refine s_iL ?_
    | with_reducible refine s_iS ?_
    | with_reducible refine s_iT ?_
    | with_reducible refine s_itS ?_
    | with_reducible refine s_iR1 ?_
    | with_reducible refine s_iR2 ?_
    | with_reducible refine s_rg1 ?_
    | with_reducible refine s_rg2 ?_
    | with_reducible refine s_rg1e ?_
    | with_reducible refine s_rg2e ?_
    | with_reducible refine s_lrg ?_
    | with_reducible refine s_bm ?_
    | with_reducible refine s_bm0 ?_
    | with_reducible refine s_retN ?_)
  | `(tactic| walk_at "s") => `(tactic| first
    | with_reducible refine s_seq ?_
    | walk_at "e")
theorem low_abc : Low [97, 98, 99] := by unfold Low; decide +kernel
/-- the letters of z that differ from c, two of three at least -/
theorem other_len (c : Nat) : 2 ≤ (([97, 98, 99] : List Nat).filter fun d => !decide (d = c)).length := by
  by_cases h1 : 97 = c
  · subst h1; decide
  · by_cases h2 : 98 = c
    · subst h2; decide
    · by_cases h3 : 99 = c
      · subst h3; decide
      · simp [List.filter, h1, h2, h3]
def t_row (K : PySem.W.Frag) : TS :=
  (tSeq (tAsg (gCall (sp_word K) E1 (tCons (tVar 0) (tCons (tVar 1) tNil))) (gName 2))
  (tSeq (tIfS (tTest (tOp rLess (tCB (rLen K) (tCons (tVar 2) tNil)) (tC (.int 2)))) (tAsg (tOp (rPlus K) (tVar 2) (tVar 2)) (gName 2)) tNext)
  (tSeq (tPar 3 4 (tCons (gCall (sp_take K) E1 (tCons (tVar 0) (tCons (tC (.int 3)) tNil))) (tCons (gCall (sp_take K) E1 (tCons (tVar 0) (tCons (tC (.int 2)) tNil))) tNil)))
  (tSeq (tIfS (tTest (tOp (rSame K) (tVar 3) (tC (.int 1)))) (tRet (tOp (rPlus K) (tSl (rCut K) (tVar 2) tNoPart (tPart (tUn (rU fun i => .int (-i)) (tC (.int 1))))) (tOp (rIx K) (tLc (iStr (tC (.str "abc"))) (gName 5) (tTest (tOp (rDiff K) (tVar 5) (tOp (rIx K) (tVar 2) (tC (.int 0))))) (tVar 5) [5]) (tVar 4)))) tNext)
  (tRet (tOp (rIx K) (tLst (tCons (tVar 2) (tCons (tVar 2) (tCons (tOp (rPlus K) (tSl (rCut K) (tVar 2) tNoPart (tPart (tUn (rU fun i => .int (-i)) (tC (.int 1))))) (tOp (rIx K) (tVar 2) (tC (.int 0)))) tNil)))) (tVar 3)))))))

theorem pu_row {K : PySem.W.Frag} (vs : List V) (H : Hp) (Q : VK) (E : XK) (h : sp_row K vs H Q E) : t_row K { nx := fun _ H' => Q .non H', rt := Q } (start ["_law_bag_here", "_law_most", "_law_text", "_law_way", "_law_turn", "_law_letter"] vs) H := by
  obtain ⟨_, _, rfl, b, H0, ys, m, rfl, rfl, rfl, B, m1, m2, hQ⟩ := h
  unfold t_row
  rw [lit_abc]
  repeat' walk_at "s"
  refine s_text B m1 m2 ?_
  intro H1 ys l e1 B lw l1 l2
  replace l2 : (l.length : Int) ≤ m := l2
  repeat' walk_at "e"
  with_reducible refine s_seqR (fun σ H => ∃ l : List Nat, Low l ∧ 2 ≤ (l.length : Int) ∧ (l.length : Int) ≤ max 2 m ∧ σ = [some (.ref b), some (.int m), some (.str (tx l)), none, none, none] ∧ H = upd H1 b (.lst ys)) (fun σ H z => ?_) fun N hN => ?_
  · clear lw l1 l2 l
    obtain ⟨l, lw, l1, l2, rfl, rfl⟩ := z
    obtain ⟨c, r, rfl⟩ : ∃ c r, l = c :: r := by
      cases l with
      | nil => exact absurd l1 (by decide)
      | cons c r => exact ⟨c, r, rfl⟩
    repeat' walk_at "s"
    refine s_take B (by decide) (lg (by decide) (by decide)) ?_
    intro way ys c1 c2 B
    repeat' walk_at "s"
    refine s_take B (by decide) (lg (by decide) (by decide)) ?_
    intro tn ys d1 d2 B
    repeat' walk_at "s"
    have hc : Low [c] := fun d hd => by
      rcases List.mem_singleton.mp hd with rfl
      exact lw _ List.mem_cons_self
    refine s_if (fun h => ?_) fun h => ?_
    · repeat' walk_at "s"
      refine s_lastX (by omega) ?_
      repeat' walk_at "s"
      intro D hD
      refine lcX hD (fun i acc Hi => Hi = upd H1 b (.lst ys) ∧ acc = ((([97, 98, 99] : List Nat).take i).filter fun d => !decide (d = c)).map fun d => V.str (tx [d])) ⟨rfl, rfl⟩ (fun i d acc Hi hi hn hl z => ?_) fun acc Hi hn hl z => ?_
      · obtain ⟨rfl, rfl⟩ := z
        repeat' walk_at "s"
        refine ⟨rfl, ?_⟩
        repeat' walk_at "s"
        refine s_ixX (m := c) (by omega) at_0 ?_
        repeat' walk_at "s"
        have et : ([97, 98, 99] : List Nat).take (i + 1) = ([97, 98, 99] : List Nat).take i ++ [d] := by rw [List.take_add_one, hi]; rfl
        have hi3 : i < 3 := (List.getElem?_eq_some_iff.mp hi).1
        refine s_ifn (fun h => ?_) fun h => ?_
        · have h : ¬ d = c := fun e => h (by rw [e])
          repeat' walk_at "s"
          refine lc_put hn hl (by rw [sizeLine_eq]; omega) ⟨rfl, ?_⟩
          rw [et, List.filter_append, List.map_append]
          congr 1
          simp [List.filter, h]
        · have h : d = c := by
            have e : [d] = [c] := h
            exact List.head_eq_of_cons_eq e
          refine lc_no hn hl ⟨rfl, ?_⟩
          rw [et, List.filter_append]
          simp [List.filter, h]
      · obtain ⟨rfl, rfl⟩ := z
        refine doneB B hn fun H4 e4 h4 B => ?_
        repeat' walk_at "s"
        have ho := other_len c
        refine s_pickP (fun x => ∃ d, x = .str (tx [d]) ∧ Low [d]) (B.see _ _ h4) d1 (by rw [List.length_map]; have : (([97, 98, 99] : List Nat).take ([97, 98, 99] : List Nat).length) = [97, 98, 99] := rfl; rw [this]; omega) (fun x hx => ?_) fun x hx => ?_
        · obtain ⟨d, hd, rfl⟩ := List.mem_map.mp hx
          refine ⟨d, rfl, fun q hq => ?_⟩
          rcases List.mem_singleton.mp hq with rfl
          exact low_abc _ (List.mem_of_mem_take (List.mem_filter.mp hd).1)
        obtain ⟨d, rfl, ld⟩ := hx
        have e : ((c :: r).dropLast ++ [d]).length = (c :: r).length := by
          rw [List.length_append, List.length_dropLast]
          show (c :: r).length - 1 + 1 = _
          omega
        refine s_addX (by rw [← List.length_append, e]; omega) ?_
        exact hQ _ _ _ (e1.trans e4) B (lw.last.app ld) (by rw [e]; exact l1) (by rw [e]; exact l2)
    · repeat' walk_at "s"
      refine s_lastX (by omega) ?_
      repeat' walk_at "s"
      refine s_ixX (m := c) (by omega) at_0 ?_
      have e : ((c :: r).dropLast ++ [c]).length = (c :: r).length := by
        rw [List.length_append, List.length_dropLast]
        show (c :: r).length - 1 + 1 = _
        omega
      refine s_addX (by rw [← List.length_append, e]; omega) ?_
      repeat' walk_at "s"
      refine newB B (sz_of rfl) fun p5 H5 e5 hp5 B => ?_
      repeat' walk_at "s"
      refine s_pickP (fun x => ∃ k : List Nat, x = .str (tx k) ∧ Low k ∧ k.length = (c :: r).length) (B.see _ _ hp5) c1 c2 (fun x hx => ?_) fun x hx => ?_
      · simp only [List.mem_cons, List.not_mem_nil, or_false] at hx
        rcases hx with rfl | rfl | rfl
        · exact ⟨_, rfl, lw, rfl⟩
        · exact ⟨_, rfl, lw, rfl⟩
        · exact ⟨_, rfl, lw.last.app hc, e⟩
      obtain ⟨k, rfl, hk1, hk2⟩ := hx
      exact hQ _ _ _ (e1.trans e5) B hk1 (by rw [hk2]; exact l1) (by rw [hk2]; exact l2)
  · repeat' walk_at "s"
    refine s_lenX (by omega) ?_
    repeat' walk_at "s"
    refine s_if (fun h => ?_) fun h => ?_
    · repeat' walk_at "s"
      refine s_addX (by omega) ?_
      repeat' walk_at "s"
      exact hN _ _ ⟨_, lw.app lw, by rw [List.length_append]; omega, by rw [List.length_append]; omega, rfl, rfl⟩
    · repeat' walk_at "s"
      exact hN _ _ ⟨l, lw, by omega, by omega, rfl, rfl⟩
end
section
/-! ### list(range(i, j, k)) -/
def stV (i k : Int) (n : Nat) : List V := (List.range n).map fun m => V.int (i + (m : Nat) * k)
def tLstR3 (ta : TA) : TE := fun σ H Q => ta σ H fun vs H1 => ∃ (i j k : Int) (n : Nat), vs = [.int i, .int j, .int k] ∧ RgC i j k n ∧ NewO (n ≤ 16777216) (.lst (stV i k n)) H1 Q
theorem vals_st {i k : Int} {n : Nat} {acc : Array Value} (h : ItemsOf (fun m v => ∃ t, v = .int (i + m * k) t) acc n) : Vals (stV i k n) acc.toList := by
  have e : acc.toList.length = n := by rw [Array.length_toList]; exact h.1
  unfold stV
  rw [← e]
  refine vals_of_get acc.toList _ fun j u hj => ?_
  obtain ⟨t, rfl⟩ := h.2 j u (by rw [← hj, Array.getElem?_toList])
  exact ⟨t, rfl⟩
theorem pe_list3 {X : Cx} {a b c : Expr} {ta : TA} {p p2 pos q : Pos} (hc : X.calm = true) (hg : Gl X "list") (hm : X.mg "list" = none) (hg2 : Gl X "range") (hm2 : X.mg "range" = none) (ha : PA X [a, b, c] ta)
    (hs : starEach [a, b, c] X.env = (false, eval a X.env) :: starEach [b, c] X.env := by rfl) (hpl : (backTo q (starEach [b, c] X.env)).any (·.1) = false := by rfl)
    (na : starEach [.Call (.Name "range" p2) [a, b, c] [] q] X.env = (false, eval (.Call (.Name "range" p2) [a, b, c] [] q) X.env) :: starEach [] X.env := by rfl) :
    PE X (.Call (.Name "list" p) [.Call (.Name "range" p2) [a, b, c] [] q] [] pos) (tLstR3 ta) := by
  refine ⟨fun pins s σ H Q I h => ?_⟩
  refine Call_ (ld_blt I hg hm boot_list (PyProof.Rows.callWith_type1 (args_cons (Call_ (ld_blt I hg2 hm2 boot_range (PyProof.Rows.callWith_type1 (thn (ha.run q pins s σ H _ I h) fun us s1 ⟨vs, H1, I1, r1, q1⟩ => ?_) hs hpl))) na) na))
  obtain ⟨i, j, k, n, e, ⟨c0, c1, c2, c3⟩, hz, qq⟩ := q1
  subst e
  cases r1 with
  | cons r rr =>
    cases rr with
    | cons r' rr =>
      cases rr with
      | cons r'' rr =>
        cases rr
        obtain ⟨t, rfl⟩ := r
        obtain ⟨t', rfl⟩ := r'
        obtain ⟨t'', rfl⟩ := r''
        refine call_range_3 c0 (args_nil ?_) (.inl (PyProof.noPylong_small c1))
        have I2 : Inv X pins σ H1 { s1 with heap := s1.heap.push { cls := .type "range", data := .fields #[.int i t, .int j t', .int k t''] } } := I1.kept (t' := s1.toks) fun b o e => Heap.get?_push_of_some _ e
        refine call_list_range (n := n) (I2.ok.hd hc) (IsRange.new ..) c2 c3 (by omega) fun h' tk acc c' hk e' hi => ?_
        refine ⟨.ref _, upd H1 _ (.lst (stV i k n)), I2.laid hk (Nat.le_refl _) (show ObjOk X.prog X.w _ _ _ (.lst (stV i k n)) from ⟨?_, acc.toList, c', vals_st hi, ?_⟩), rfl, qq _ (I2.hok.fresh (Nat.le_refl _))⟩
        · unfold stV
          rw [List.length_map, List.length_range, sizeLine_eq]
          omega
        · rw [Array.toArray_toList]; exact e'
theorem rgC_up {i j k : Int} (hi : 0 ≤ i) (hij : i ≤ j) (hj : j ≤ 1000000) (hk : 1 ≤ k) (hk2 : k ≤ 1000000) : ∃ n : Nat, RgC i j k n ∧ n ≤ 1000000 ∧ ∀ m : Nat, m < n ↔ i + m * k < j := by
  have key : ∀ m : Nat, i < j → ((m : Int) ≤ (j - i - 1) / k ↔ i + m * k < j) := fun m h => by
    rw [Int.le_ediv_iff_mul_le (by omega)]
    omega
  have d0 : i < j → 0 ≤ (j - i - 1) / k := fun h => Int.ediv_nonneg (by omega) (by omega)
  have d1 : i < j → (j - i - 1) / k ≤ j - i - 1 := fun h => Int.ediv_le_self _ (by omega)
  have hr : Builtin.Range.rangeSize i j k = if i < j then (j - i - 1) / k + 1 else 0 := by
    unfold Builtin.Range.rangeSize
    rw [if_pos (by omega)]
  refine ⟨(if i < j then (j - i - 1) / k + 1 else 0 : Int).toNat, ⟨by omega, by omega, ?_, ?_⟩, ?_, fun m => ?_⟩
  · unfold Builtin.Range.small
    rw [hr]
    have d2 : i < j → i + ((j - i - 1) / k + 1) * k < 2 ^ 62 := fun h => by
      have := Int.ediv_mul_le (j - i - 1) (show k ≠ 0 by omega)
      rw [Int.add_mul, Int.one_mul]
      omega
    have d3 : i < j → 0 ≤ ((j - i - 1) / k + 1) * k := fun h => Int.mul_nonneg (by have := d0 h; omega) (by omega)
    simp only [Builtin.Range.rangeFitsLong, Bool.and_eq_true, Bool.or_eq_true, decide_eq_true_eq, beq_iff_eq, show k > 0 by omega, if_true]
    split
    · rename_i h
      have := d0 h
      have := d1 h
      have := d2 h
      have := d3 h
      omega
    · omega
  · rw [hr]
    split
    · rename_i h
      have := d0 h
      omega
    · rfl
  · split
    · rename_i h
      have := d1 h
      omega
    · omega
  · split
    · rename_i h
      have := d0 h
      have := key m h
      omega
    · rename_i h
      have : (0 : Int) ≤ m * k := Int.mul_nonneg (by omega) (by omega)
      omega
theorem s_lr3 {ta : TA} {σ : L2.St} {H : Hp} {Q : VK} (q : ta σ H fun vs H1 => ∃ (i j k : Int) (n : Nat), vs = [.int i, .int j, .int k] ∧ RgC i j k n ∧ NewO (n ≤ 16777216) (.lst (stV i k n)) H1 Q) : tLstR3 ta σ H Q := q
theorem s_tyL {K : PySem.W.Frag} {H : Hp} {a : Addr} {xs : List V} {R : Prop} (h : SqL K H a xs) (q : R) : tyV K "list" (.ref a) H ∧ R := by
  exact ⟨.inl ⟨rfl, xs, h⟩, q⟩
theorem s_revL {H : Hp} {Q : VK} {a : Addr} {xs : List V} (h : H a = some (.lst xs)) (q : Q .non (upd H a (.lst xs.reverse))) : rReverse (.ref a) [] H Q := ⟨a, xs, rfl, rfl, h, q⟩
/-- one step of a reading (e: none past a statement's end) -/
local macro_rules
  | `(tactic| walk_at "e") => `(tactic| first
    | with_reducible refine s_ifs ?_
    | with_reducible refine s_test ?_
    | with_reducible refine s_truth ?_
    | with_reducible refine s_op ?_
    | with_reducible refine s_un ?_
    | with_reducible refine s_asg ?_
    | with_reducible refine s_ret ?_
    | with_reducible refine s_next ?_
    | with_reducible refine s_drop ?_
    | with_reducible refine s_c ?_
    | ((with_reducible refine s_var (v := ?v) ?e ?q); case e => exact rfl)
    | with_reducible refine s_name ?_
    | with_reducible refine s_exq ?_
    | with_reducible refine s_cons ?_
    | with_reducible refine s_nil ?_
    | with_reducible refine s_lst ?_
    | with_reducible refine s_tup ?_
    | with_reducible refine s_cb ?_
    | with_reducible refine s_call ?_
    | with_reducible refine s_and ?_
    | with_reducible refine s_or ?_
    | with_reducible refine s_not ?_
    | with_reducible refine s_andV ?_
    | with_reducible refine s_orV ?_
    | with_reducible refine s_notV ?_
    | with_reducible refine s_ife ?_
    | with_reducible refine s_chain ?_
    | with_reducible refine s_addI ?_
    | with_reducible refine s_sub ?_
    | with_reducible refine s_neg ?_
    | with_reducible refine s_eqI ?_
    | with_reducible refine s_eqX ?_
    | with_reducible refine s_eqT ?_
    | with_reducible refine s_eqB ?_
    | with_reducible refine s_eqNI ?_
    | with_reducible refine s_eqIN ?_
    | with_reducible refine s_eqNN ?_
    | with_reducible refine s_neI ?_
    | with_reducible refine s_neX ?_
    | with_reducible refine s_neT ?_
    | with_reducible refine s_neB ?_
    | with_reducible refine s_lt ?_
    | with_reducible refine s_le ?_
    | with_reducible refine s_gt ?_
    | with_reducible refine s_ge ?_
    | with_reducible refine s_isN ?_
    | with_reducible refine s_isS ?_
    | with_reducible refine s_truB ?_
    | with_reducible refine s_truI ?_
    | with_reducible refine s_truN ?_
    | with_reducible refine s_abs ?_
    | with_reducible refine s_min2 ?_
    | with_reducible refine s_max2 ?_
    | with_reducible refine s_intI ?_
    | with_reducible refine s_intB ?_
    | with_reducible refine s_ifT ?_
    | with_reducible refine s_ifF ?_
    | with_reducible refine s_ifnT ?_
    | with_reducible refine s_ifnF ?_
    | with_reducible refine s_gSub ?_
    | with_reducible refine s_gTup ?_
    | with_reducible refine s_augS ?_
    | ((with_reducible refine s_aug (x := ?v) ?e ?q); case e => exact rfl)
    | with_reducible refine s_yes ?_
    | with_reducible refine s_par ?_
    | with_reducible refine s_two ?_
    | with_reducible refine s_m1 ?_
    | with_reducible refine s_isstr ?_
    | with_reducible refine s_rev0 ?_
    | with_reducible refine s_gCons ?_
    | with_reducible refine s_gNil ?_
    | with_reducible refine s_ipI ?_
    | with_reducible refine s_ipA ?_
    | with_reducible refine s_sl ?_
    | with_reducible refine s_noPart ?_
    | with_reducible refine s_part ?_
    | with_reducible refine s_parte ?_
    | with_reducible refine s_for ?_
    | with_reducible refine s_lc ?_
    | with_reducible refine s_iL ?_
    | with_reducible refine s_iS ?_
    | with_reducible refine s_iT ?_
    | with_reducible refine s_itS ?_
    | with_reducible refine s_iR1 ?_
    | with_reducible refine s_iR2 ?_
    | with_reducible refine s_rg1 ?_
    | with_reducible refine s_rg2 ?_
    | with_reducible refine s_rg1e ?_
    | with_reducible refine s_rg2e ?_
    | with_reducible refine s_lrg ?_
    | with_reducible refine s_lr3 ?_
    | with_reducible refine s_bm ?_
    | with_reducible refine s_bm0 ?_
    | with_reducible refine s_retN ?_)
  | `(tactic| walk_at "s") => `(tactic| first
    | with_reducible refine s_seq ?_
    | walk_at "e")

/-! any row -/
def sp_any_row (K : PySem.W.Frag) : Sp := sp2 fun x y H Q _ => ∃ (b : Addr) (H0 : Hp) (ys : List V) (m : Int), x = .ref b ∧ y = .int m ∧ H = upd H0 b (.lst ys) ∧ Bag K H0 b ys ∧ 2 ≤ m ∧ m ≤ 1000000 ∧
  ∀ (H' : Hp) (zs : List V) (l : List Nat), Same H0 H' → Bag K H' b zs → Low l → 2 ≤ l.length → (l.length : Int) ≤ m → Q (.str (tx l)) (upd H' b (.lst zs))
section
variable {K : PySem.W.Frag} {H0 : Hp} {Q : VK} {E : XK} {b : Addr} {ys : List V} {m : Int}
theorem s_any (B : Bag K H0 b ys) (h : 2 ≤ m) (hl : m ≤ 1000000) (q : ∀ (H' : Hp) (zs : List V) (l : List Nat), Same H0 H' → Bag K H' b zs → Low l → 2 ≤ l.length → (l.length : Int) ≤ m → Q (.str (tx l)) (upd H' b (.lst zs))) : Fr (sp_any_row K) [.ref b, .int m] (upd H0 b (.lst ys)) Q E :=
  s_all ⟨_, _, rfl, b, H0, ys, m, rfl, rfl, rfl, B, h, hl, q⟩
end
theorem flat_one (cs : List Nat) : (cs.map fun c => [c]).flatten = cs := by
  induction cs with
  | nil => rfl
  | cons c cs ih => rw [List.map_cons, List.flatten_cons, ih]; rfl
theorem sum_one (cs : List Nat) : ((cs.map fun c => [c]).map List.length).sum = cs.length := by
  rw [List.map_map]
  have e : ((List.length : List Nat → Nat) ∘ fun c => [c]) = fun _ => 1 := rfl
  rw [e, List.map_const', List.sum_replicate_nat, Nat.mul_one]
def t_any_row (K : PySem.W.Frag) : TS :=
  (tSeq (tIfS (tTest (tOp rMore (gCall (sp_take K) E1 (tCons (tVar 0) (tCons (tC (.int 3)) tNil))) (tC (.int 0)))) (tRet (gCall (sp_row K) E1 (tCons (tVar 0) (tCons (tVar 1) tNil)))) tNext)
  (tSeq (tAsg (tOp (rPlus K) (tC (.int 2)) (gCall (sp_take K) E1 (tCons (tVar 0) (tCons (tOp rMinus (tVar 1) (tC (.int 1))) tNil)))) (gName 2))
  (tRet (tM1 (rJoin K) (tC (.str "")) (tLc (iRng1 (tCons (tVar 2) tNil)) (gName 3) tYes (tOp (rIx K) (tC (.str "abcdefghijklmnopqrstuvwxyz")) (gCall (sp_take K) E1 (tCons (tVar 0) (tCons (tC (.int 26)) tNil)))) [3])))))

theorem pu_any_row {K : PySem.W.Frag} (vs : List V) (H : Hp) (Q : VK) (E : XK) (h : sp_any_row K vs H Q E) : t_any_row K { nx := fun _ H' => Q .non H', rt := Q } (start ["_law_bag_here", "_law_most", "_law_size", "_law_k"] vs) H := by
  obtain ⟨_, _, rfl, b, H0, ys, m, rfl, rfl, rfl, B, m1, m2, hQ⟩ := h
  unfold t_any_row
  rw [lit_az, lit_empty]
  repeat' walk_at "s"
  refine s_take B (by decide) (lg (by decide) (by decide)) ?_
  intro r ys a1 a2 B
  repeat' walk_at "s"
  refine s_if (fun h => ?_) fun h => ?_
  · repeat' walk_at "s"
    refine s_text B (by omega) m2 ?_
    intro H1 ys l e1 B lw l1 l2
    replace l2 : (l.length : Int) ≤ max 2 m := l2
    exact hQ _ _ _ e1 B lw (by omega) (by omega)
  · repeat' walk_at "s"
    refine s_take B (by omega) (lg (by omega) (by omega)) ?_
    intro sz ys b1 b2 B
    repeat' walk_at "s"
    refine s_rn1 (by omega) (by omega) ?_
    intro D hD
    refine lcR hD (fun i acc Hi => ∃ (ys : List V) (cs : List Nat), Hi = upd H0 b (.lst ys) ∧ Bag K H0 b ys ∧ acc = cs.map (fun c => V.str (tx [c])) ∧ Low cs ∧ cs.length = i) ⟨ys, [], rfl, B, rfl, Low.nil, rfl⟩ (fun i acc Hi hi hn hl z => ?_) fun acc Hi hn hl z => ?_
    · obtain ⟨ys, cs, rfl, B, rfl, lc, hc⟩ := z
      repeat' walk_at "s"
      refine ⟨rfl, ?_⟩
      repeat' walk_at "s"
      refine s_takeD B hn (by omega) (lg (by omega) (by omega)) ?_
      intro r5 ys i1 i2 B hn
      refine s_pickX (by decide) i1 i2 fun q hq _ => ?_
      refine lc_put hn hl (by rw [sizeLine_eq]; omega) ⟨ys, cs ++ [_], rfl, B, by rw [List.map_append]; rfl, lc.app fun c hc => ?_, by rw [List.length_append, hc]; rfl⟩
      rcases List.mem_singleton.mp hc with rfl
      exact low_az _ (List.getElem_mem hq)
    · obtain ⟨ys, cs, rfl, B, rfl, lc, hc⟩ := z
      refine doneB B hn fun H4 e4 h4 B => ?_
      refine s_join (ls := cs.map fun c => [c]) (by rw [List.map_map]; exact SqL.of (B.see _ _ h4)) (by rw [sum_one]; omega) ?_
      rw [flat_one]
      exact hQ _ _ _ e4 B lc (by omega) (by omega)
end
section
/-! ### data: equal, well shown -/
theorem len_rgI (i j : Int) : (rgI i j).length = (j - i).toNat := by
  unfold rgI
  rw [List.length_map, List.length_range]
theorem mem_rgI {i j m : Int} (h : m ∈ rgI i j) : i ≤ m ∧ m < j := by
  obtain ⟨k, hk, rfl⟩ := List.mem_map.mp h
  have := List.mem_range.mp hk
  omega
theorem nice_ints {ns : List Int} {n : Nat} (h : ∀ m ∈ ns, m.natAbs < 10 ^ 100) (hn : ns.length ≤ n) (hz : n ≤ 10000) : Nice (dI ns) := by
  refine Bd.nice (bd_list (c := 101) (k := 0) (n := n) (fun d hd => ?_) (by rw [List.length_map]; exact hn)) (by omega) (by omega)
  obtain ⟨m, hm, rfl⟩ := List.mem_map.mp hd
  exact bd_int (k := 99) (h m hm) (by omega)
theorem nice_int {m : Int} (h : m.natAbs < 10 ^ 100) : Nice (.int m) := Bd.nice (bd_int (k := 99) h (by omega)) (by omega) (by omega)
theorem nice_non : Nice .none := bd_none.nice (by omega) (by omega)
theorem nice_bl (c : Bool) : Nice (.bool c) := (bd_bool c).nice (by omega) (by omega)
theorem eqvAll_int : ∀ a b : List Int, PyData.eqvAll (a.map .int) (b.map .int) = decide (a = b)
  | [], [] => rfl
  | [], _ :: _ => rfl
  | _ :: _, [] => rfl
  | x :: xs, y :: ys => by
    show (x == y && PyData.eqvAll (xs.map .int) (ys.map .int)) = _
    rw [eqvAll_int xs ys]
    by_cases h : x = y
    · subst h
      simp
    · simp [h]
theorem eqv_dI (a b : List Int) : PyData.eqv (dI a) (dI b) = decide (a = b) := eqvAll_int a b
theorem shaped_dI (a : List Int) : SeqAt.shaped (dI a) = true := by
  have h : PyData.canLayAll0 (a.map .int) = true ∧ PyData.depthAll (a.map .int) ≤ 0 := by
    induction a with
    | nil => exact ⟨rfl, Nat.le_refl _⟩
    | cons x xs ih => exact ⟨ih.1, Nat.max_le.mpr ⟨Nat.le_refl _, ih.2⟩⟩
  unfold SeqAt.shaped
  rw [Bool.and_eq_true]
  refine ⟨h.1, decide_eq_true ?_⟩
  show PyData.depthAll (a.map .int) + 1 ≤ 64
  have := h.2
  omega
section
variable {K : PySem.W.Frag} {H H0 : Hp} {Q : VK} {p q b : Addr} {o o' u : HO} {xs ys : List Int}
/-- lists of ints compared -/
theorem s_eqLI (h1 : SqL K H p (xs.map V.int)) (h2 : SqL K H q (ys.map V.int)) (r : Q (.bl (decide (xs = ys))) H) : rSame K (.ref p) (.ref q) H Q :=
  s_eqD (d := dI xs) (e := dI ys) (dp_ints h1) (dp_ints h2) (shaped_dI _) (shaped_dI _) (by rw [eqv_dI]; exact r)
theorem s_neLI (h1 : SqL K H p (xs.map V.int)) (h2 : SqL K H q (ys.map V.int)) (r : Q (.bl (!decide (xs = ys))) H) : rDiff K (.ref p) (.ref q) H Q :=
  s_neD (d := dI xs) (e := dI ys) (dp_ints h1) (dp_ints h2) (shaped_dI _) (shaped_dI _) (by rw [eqv_dI]; exact r)
theorem upd_in (ne : p ≠ b) : upd (upd (upd H p o) b u) p o' = upd (upd H p o') b u := by
  rw [upd_comm (H := upd H p o) (Ne.symm ne), upd_upd]
end
end
section
/-- one step of a reading (e: none past a statement's end) -/
local macro_rules
  | `(tactic| walk_at "e") => `(tactic| first
    | with_reducible refine s_ifs ?_
    | with_reducible refine s_test ?_
    | with_reducible refine s_truth ?_
    | with_reducible refine s_op ?_
    | with_reducible refine s_un ?_
    | with_reducible refine s_asg ?_
    | with_reducible refine s_ret ?_
    | with_reducible refine s_next ?_
    | with_reducible refine s_drop ?_
    | with_reducible refine s_c ?_
    | ((with_reducible refine s_var (v := ?v) ?e ?q); case e => exact rfl)
    | with_reducible refine s_name ?_
    | with_reducible refine s_exq ?_
    | with_reducible refine s_cons ?_
    | with_reducible refine s_nil ?_
    | with_reducible refine s_lst ?_
    | with_reducible refine s_tup ?_
    | with_reducible refine s_cb ?_
    | with_reducible refine s_call ?_
    | with_reducible refine s_and ?_
    | with_reducible refine s_or ?_
    | with_reducible refine s_not ?_
    | with_reducible refine s_andV ?_
    | with_reducible refine s_orV ?_
    | with_reducible refine s_notV ?_
    | with_reducible refine s_ife ?_
    | with_reducible refine s_chain ?_
    | with_reducible refine s_addI ?_
    | with_reducible refine s_sub ?_
    | with_reducible refine s_neg ?_
    | with_reducible refine s_eqI ?_
    | with_reducible refine s_eqX ?_
    | with_reducible refine s_eqT ?_
    | with_reducible refine s_eqB ?_
    | with_reducible refine s_eqNI ?_
    | with_reducible refine s_eqIN ?_
    | with_reducible refine s_eqNN ?_
    | with_reducible refine s_neI ?_
    | with_reducible refine s_neX ?_
    | with_reducible refine s_neT ?_
    | with_reducible refine s_neB ?_
    | with_reducible refine s_lt ?_
    | with_reducible refine s_le ?_
    | with_reducible refine s_gt ?_
    | with_reducible refine s_ge ?_
    | with_reducible refine s_isN ?_
    | with_reducible refine s_isS ?_
    | with_reducible refine s_truB ?_
    | with_reducible refine s_truI ?_
    | with_reducible refine s_truN ?_
    | with_reducible refine s_abs ?_
    | with_reducible refine s_min2 ?_
    | with_reducible refine s_max2 ?_
    | with_reducible refine s_intI ?_
    | with_reducible refine s_intB ?_
    | with_reducible refine s_ifT ?_
    | with_reducible refine s_ifF ?_
    | with_reducible refine s_ifnT ?_
    | with_reducible refine s_ifnF ?_
    | with_reducible refine s_gSub ?_
    | with_reducible refine s_gTup ?_
    | with_reducible refine s_augS ?_
    | ((with_reducible refine s_aug (x := ?v) ?e ?q); case e => exact rfl)
    | with_reducible refine s_yes ?_
    | with_reducible refine s_par ?_
    | with_reducible refine s_two ?_
    | with_reducible refine s_m1 ?_
    | with_reducible refine s_isstr ?_
    | with_reducible refine s_rev0 ?_
    | with_reducible refine s_gCons ?_
    | with_reducible refine s_gNil ?_
    | with_reducible refine s_ipI ?_
    | with_reducible refine s_ipA ?_
    | with_reducible refine s_sl ?_
    | with_reducible refine s_noPart ?_
    | with_reducible refine s_part ?_
    | with_reducible refine s_parte ?_
    | with_reducible refine s_for ?_
    | with_reducible refine s_lc ?_
    | with_reducible refine s_iL ?_
    | with_reducible refine s_iS ?_
    | with_reducible refine s_iT ?_
    | with_reducible refine s_itS ?_
    | with_reducible refine s_iR1 ?_
    | with_reducible refine s_iR2 ?_
    | with_reducible refine s_rg1 ?_
    | with_reducible refine s_rg2 ?_
    | with_reducible refine s_rg1e ?_
    | with_reducible refine s_rg2e ?_
    | with_reducible refine s_lrg ?_
    | with_reducible refine s_lr3 ?_
    | with_reducible refine s_bm ?_
    | with_reducible refine s_bm0 ?_
    | with_reducible refine s_retN ?_)
  | `(tactic| walk_at "s") => `(tactic| first
    | with_reducible refine s_seq ?_
    | walk_at "e")

theorem s_isi {K : PySem.W.Frag} {H : Hp} {Q : VK} {x : V} {T1 T2 : String} {r : Bool} (t : TyX K H x (.type T1)) (h : kitB T1 T2 = some r) (q : Q (.bl r) H) : rIsi K [x, .ty T2] H Q := ⟨x, .ty T2, .type T1, .type T2, r, rfl, .ty _, t, kit_ty h, q⟩
theorem isi_str {K : PySem.W.Frag} {H : Hp} {Q : VK} {z : Str} (q : Q (.bl true) H) : rIsi K [.str z, .ty "str"] H Q := s_isi (.base (.str _)) (by decide +kernel) q
theorem isi_int {K : PySem.W.Frag} {H : Hp} {Q : VK} {i : Int} (q : Q (.bl true) H) : rIsi K [.int i, .ty "int"] H Q := s_isi (.base (.int _)) (by decide +kernel) q
theorem at_int {α : Type} {l : List α} {k : Int} (h0 : 0 ≤ k) (h : k.toNat < l.length) : atI l k = some l[k.toNat] := by
  obtain ⟨m, rfl⟩ : ∃ m : Nat, k = m := ⟨k.toNat, by omega⟩
  exact at_get h
/-! ### rows made by calls -/
/-- the row that a call of the place k makes -/
def mk (l : List Nat) (k : Nat) : List Nat := l.take k ++ l ++ l.drop (k + 1)
theorem mk_len {l : List Nat} {k : Nat} (h : k < l.length) : (mk l k).length = 2 * l.length - 1 := by
  unfold mk
  rw [List.length_append, List.length_append, List.length_take, List.length_drop]
  omega
theorem mk_low {l : List Nat} {k : Nat} (h : Low l) : Low (mk l k) := ((h.take _).app h).app (h.drop _)
theorem mk_cut {l : List Nat} {k : Nat} (h : k < l.length) : l.take k ++ l.take k ++ [l[k]] ++ l.drop (k + 1) ++ l.drop (k + 1) = mk l k := by
  unfold mk
  have e : l.take k ++ [l[k]] ++ l.drop (k + 1) = l := by
    rw [List.append_assoc, List.singleton_append, List.getElem_cons_drop, List.take_append_drop]
  conv => rhs; rw [show l.take k ++ l = l.take k ++ (l.take k ++ [l[k]] ++ l.drop (k + 1)) by rw [e]]
  simp only [List.append_assoc]
/-- the row, a place: what made | the law's own slices make of them -/
def spMk (K : PySem.W.Frag) : Sp := sp2 fun x y H Q _ => ∃ (l : List Nat) (k : Int), x = .str (tx l) ∧ y = .int k ∧ 0 ≤ k ∧ k < l.length ∧ l.length ≤ 5000000 ∧ Q (.str (tx (mk l k.toNat))) H
abbrev sp_made (K : PySem.W.Frag) : Sp := spMk K
abbrev sp_called (K : PySem.W.Frag) : Sp := spMk K
def sp_call (K : PySem.W.Frag) : Sp := sp2 fun x y H Q _ => ∃ (l : List Nat) (k : Int), x = .str (tx l) ∧ y = .int k ∧ 0 ≤ k ∧ k < l.length ∧ 2 * l.length ≤ 1001 ∧ Q (.str (tx (mk l k.toNat))) H
section
variable {K : PySem.W.Frag} {H : Hp} {Q : VK} {E : XK} {l : List Nat} {k : Int}
theorem s_mk (h0 : 0 ≤ k) (h1 : k < l.length) (h2 : l.length ≤ 5000000) (q : Q (.str (tx (mk l k.toNat))) H) : Fr (spMk K) [.str (tx l), .int k] H Q E := s_all ⟨_, _, rfl, l, k, rfl, rfl, h0, h1, h2, q⟩
theorem s_callN (h0 : 0 ≤ k) (h1 : k < l.length) (h2 : 2 * l.length ≤ 1001) (q : Q (.str (tx (mk l k.toNat))) H) : Fr (sp_call K) [.str (tx l), .int k] H Q E := s_all ⟨_, _, rfl, l, k, rfl, rfl, h0, h1, h2, q⟩
end
def t_made (K : PySem.W.Frag) : TS :=
  (tRet (tOp (rPlus K) (tOp (rPlus K) (tSl (rCut K) (tVar 0) tNoPart (tPart (tVar 1))) (tVar 0)) (tSl (rCut K) (tVar 0) (tPart (tOp (rPlus K) (tVar 1) (tC (.int 1)))) tNoPart)))

theorem pu_made {K : PySem.W.Frag} (vs : List V) (H : Hp) (Q : VK) (E : XK) (h : sp_made K vs H Q E) : t_made K { nx := fun _ H' => Q .non H', rt := Q } (start ["row", "place"] vs) H := by
  obtain ⟨_, _, rfl, l, k, rfl, rfl, h0, h1, h2, hQ⟩ := h
  unfold t_made
  repeat' walk_at "s"
  refine s_toX (by omega) h0 ?_
  repeat' walk_at "s"
  refine s_addX (by rw [List.length_take]; omega) ?_
  repeat' walk_at "s"
  refine s_fromX (by omega) (by omega) ?_
  refine s_addX (by rw [List.length_append, List.length_take, List.length_drop]; omega) ?_
  rw [show (k + 1).toNat = k.toNat + 1 by omega]
  exact hQ
def t_called (K : PySem.W.Frag) : TS :=
  (tSeq (tPar 2 3 (tCons (tSl (rCut K) (tVar 0) tNoPart (tPart (tVar 1))) (tCons (tSl (rCut K) (tVar 0) (tPart (tOp (rPlus K) (tVar 1) (tC (.int 1)))) tNoPart) tNil)))
  (tRet (tOp (rPlus K) (tOp (rPlus K) (tOp (rPlus K) (tOp (rPlus K) (tVar 2) (tVar 2)) (tOp (rIx K) (tVar 0) (tVar 1))) (tVar 3)) (tVar 3))))

theorem pu_called {K : PySem.W.Frag} (vs : List V) (H : Hp) (Q : VK) (E : XK) (h : sp_called K vs H Q E) : t_called K { nx := fun _ H' => Q .non H', rt := Q } (start ["_law_row_here", "_law_place", "_law_ahead", "_law_behind"] vs) H := by
  obtain ⟨_, _, rfl, l, k, rfl, rfl, h0, h1, h2, hQ⟩ := h
  unfold t_called
  repeat' walk_at "s"
  refine s_toX (by omega) h0 ?_
  repeat' walk_at "s"
  refine s_fromX (by omega) (by omega) ?_
  repeat' walk_at "s"
  refine s_addX (by rw [List.length_take]; omega) ?_
  repeat' walk_at "s"
  have hk : k.toNat < l.length := by omega
  refine s_ixX (m := l[k.toNat]) (by omega) (at_int h0 hk) ?_
  refine s_addX (by rw [List.length_append, List.length_take]; show _ + 1 ≤ _; omega) ?_
  repeat' walk_at "s"
  refine s_addX (by rw [List.length_append, List.length_append, List.length_take, List.length_drop]; show _ + 1 + _ ≤ _; omega) ?_
  repeat' walk_at "s"
  refine s_addX (by rw [List.length_append, List.length_append, List.length_append, List.length_take, List.length_drop]; show _ + 1 + _ + _ ≤ _; omega) ?_
  rw [show (k + 1).toNat = k.toNat + 1 by omega, mk_cut hk]
  exact hQ
def t_call (K : PySem.W.Frag) : TS :=
  (tSeq (tIfS (tNot (tTest (tChain rLessE rLess (tC (.int 0)) (tVar 1) (tCB (rLen K) (tCons (tVar 0) tNil))))) tNever tNext)
  (tSeq (tIfS (tTest (tOp rMore (tOp rMinus (tOp rTimes (tC (.int 2)) (tCB (rLen K) (tCons (tVar 0) tNil))) (tC (.int 1))) (tC (.int 1000)))) tNever tNext)
  (tRet (gCall (sp_made K) E1 (tCons (tVar 0) (tCons (tVar 1) tNil))))))

theorem pu_call {K : PySem.W.Frag} (vs : List V) (H : Hp) (Q : VK) (E : XK) (h : sp_call K vs H Q E) : t_call K { nx := fun _ H' => Q .non H', rt := Q } (start ["row", "place"] vs) H := by
  obtain ⟨_, _, rfl, l, k, rfl, rfl, h0, h1, h2, hQ⟩ := h
  unfold t_call
  repeat' walk_at "s"
  refine s_if (fun _ => ?_) fun z => absurd h0 z
  repeat' walk_at "s"
  refine s_lenX (by omega) ?_
  repeat' walk_at "s"
  refine s_ifn (fun z => absurd h1 z) fun _ => ?_
  repeat' walk_at "s"
  refine s_lenX (by omega) ?_
  repeat' walk_at "s"
  refine s_mulI (mulW (by omega) (by omega)) ?_
  repeat' walk_at "s"
  refine s_if (fun z => by omega) fun _ => ?_
  repeat' walk_at "s"
  exact s_mk h0 h1 (by omega) hQ
end
section
/-- one step of a reading (e: none past a statement's end) -/
local macro_rules
  | `(tactic| walk_at "e") => `(tactic| first
    | with_reducible refine s_ifs ?_
    | with_reducible refine s_test ?_
    | with_reducible refine s_truth ?_
    | with_reducible refine s_op ?_
    | with_reducible refine s_un ?_
    | with_reducible refine s_asg ?_
    | with_reducible refine s_ret ?_
    | with_reducible refine s_next ?_
    | with_reducible refine s_drop ?_
    | with_reducible refine s_c ?_
    | ((with_reducible refine s_var (v := ?v) ?e ?q); case e => exact rfl)
    | with_reducible refine s_name ?_
    | with_reducible refine s_exq ?_
    | with_reducible refine s_cons ?_
    | with_reducible refine s_nil ?_
    | with_reducible refine s_lst ?_
    | with_reducible refine s_tup ?_
    | with_reducible refine s_cb ?_
    | with_reducible refine s_call ?_
    | with_reducible refine s_and ?_
    | with_reducible refine s_or ?_
    | with_reducible refine s_not ?_
    | with_reducible refine s_andV ?_
    | with_reducible refine s_orV ?_
    | with_reducible refine s_notV ?_
    | with_reducible refine s_ife ?_
    | with_reducible refine s_chain ?_
    | with_reducible refine s_addI ?_
    | with_reducible refine s_sub ?_
    | with_reducible refine s_neg ?_
    | with_reducible refine s_eqI ?_
    | with_reducible refine s_eqX ?_
    | with_reducible refine s_eqT ?_
    | with_reducible refine s_eqB ?_
    | with_reducible refine s_eqNI ?_
    | with_reducible refine s_eqIN ?_
    | with_reducible refine s_eqNN ?_
    | with_reducible refine s_neI ?_
    | with_reducible refine s_neX ?_
    | with_reducible refine s_neT ?_
    | with_reducible refine s_neB ?_
    | with_reducible refine s_lt ?_
    | with_reducible refine s_le ?_
    | with_reducible refine s_gt ?_
    | with_reducible refine s_ge ?_
    | with_reducible refine s_isN ?_
    | with_reducible refine s_isS ?_
    | with_reducible refine s_truB ?_
    | with_reducible refine s_truI ?_
    | with_reducible refine s_truN ?_
    | with_reducible refine s_abs ?_
    | with_reducible refine s_min2 ?_
    | with_reducible refine s_max2 ?_
    | with_reducible refine s_intI ?_
    | with_reducible refine s_intB ?_
    | with_reducible refine s_ifT ?_
    | with_reducible refine s_ifF ?_
    | with_reducible refine s_ifnT ?_
    | with_reducible refine s_ifnF ?_
    | with_reducible refine s_gSub ?_
    | with_reducible refine s_gTup ?_
    | with_reducible refine s_augS ?_
    | ((with_reducible refine s_aug (x := ?v) ?e ?q); case e => exact rfl)
    | with_reducible refine s_yes ?_
    | with_reducible refine s_par ?_
    | with_reducible refine s_two ?_
    | with_reducible refine s_m1 ?_
    | with_reducible refine s_isstr ?_
    | with_reducible refine s_rev0 ?_
    | with_reducible refine s_gCons ?_
    | with_reducible refine s_gNil ?_
    | with_reducible refine s_ipI ?_
    | with_reducible refine s_ipA ?_
    | with_reducible refine s_sl ?_
    | with_reducible refine s_noPart ?_
    | with_reducible refine s_part ?_
    | with_reducible refine s_parte ?_
    | with_reducible refine s_for ?_
    | with_reducible refine s_lc ?_
    | with_reducible refine s_iL ?_
    | with_reducible refine s_iS ?_
    | with_reducible refine s_iT ?_
    | with_reducible refine s_itS ?_
    | with_reducible refine s_iR1 ?_
    | with_reducible refine s_iR2 ?_
    | with_reducible refine s_rg1 ?_
    | with_reducible refine s_rg2 ?_
    | with_reducible refine s_rg1e ?_
    | with_reducible refine s_rg2e ?_
    | with_reducible refine s_lrg ?_
    | with_reducible refine s_lr3 ?_
    | with_reducible refine s_bm ?_
    | with_reducible refine s_bm0 ?_
    | with_reducible refine s_retN ?_)
  | `(tactic| walk_at "s") => `(tactic| first
    | with_reducible refine s_seq ?_
    | walk_at "e")

/-! ### walks with numbers -/
section
variable {K : PySem.W.Frag} {a : Addr} {xs : List V} {g : TG} {tb : TS} {En : Ends} {σ : L2.St} {H : Hp} {ts : TA}
theorem s_iE {R : It → Hp → Prop} (q : ts σ H fun vs H1 => ∃ a xs, vs = [.ref a] ∧ SqL K H1 a xs ∧ R (Ite K a) H1) : iEnum K ts σ H R := q
theorem s_itE {R : Addr → Prop} (h : SqL K H a xs) (q : R a) : ∃ p ys, [V.ref a] = [.ref p] ∧ SqL K H p ys ∧ R p := ⟨a, xs, rfl, h, q⟩
theorem forE (Pv : Nat → L2.St → Hp → Prop) (h0 : Pv 0 σ H) (hl : ∀ i σ H, i ≤ xs.length → Pv i σ H → SqL K H a xs)
    (hs : ∀ i x T σ H, xs[i]? = some x → i < xs.length → H T = none → Pv i σ H → g (.ref T) σ (upd H T (.tup [.int (i : Nat), x])) fun σ2 H2 => tb { En with nx := Pv (i + 1), ct := Pv (i + 1), bk := En.nx } σ2 H2) (hd : ∀ σ H, Pv xs.length σ H → En.nx σ H) :
    ∃ W : Nat → Nat → L2.St → Hp → Prop, (∃ m, W 0 m σ H) ∧ ∀ i m σ H, W i m σ H →
      ((Ite K a).stop i H ∧ En.nx σ H) ∨ ((Ite K a).go i H ∧ ∃ N : L2.St → Hp → Prop, (∀ σ' H', N σ' H' → ∃ m', m' < m ∧ W (i + 1) m' σ' H') ∧ ∀ x H', (Ite K a).yld i H x H' → g x σ H' fun σ2 H2 => tb { En with nx := N, ct := N, bk := En.nx } σ2 H2) := by
  refine ⟨fun i m σ H => m = xs.length - i ∧ i ≤ xs.length ∧ Pv i σ H, ⟨xs.length, by simp, Nat.zero_le _, h0⟩, ?_⟩
  rintro i m σ H ⟨rfl, hi, p⟩
  have q := hl i σ H hi p
  by_cases hlt : i < xs.length
  · refine .inr ⟨⟨xs, xs[i], q, List.getElem?_eq_getElem hlt⟩, Pv (i + 1), fun σ' H' p' => ⟨xs.length - (i + 1), by omega, rfl, hlt, p'⟩, fun x H' y => ?_⟩
    obtain ⟨T, z, rfl, hT, rfl, hz⟩ := y
    exact hs i z T σ H (hz xs q) hlt hT p
  · have e : i = xs.length := by omega
    subst e
    exact .inl ⟨⟨xs, q, Nat.le_refl _⟩, hd σ H p⟩
end
/-! ### a list that grows beside the bag: it stands outermost -/
section
variable {K : PySem.W.Frag} {H1 H : Hp} {Q : VK} {p b : Addr} {acc ys : List V} {o : HO} {y : V} {C : Prop}
theorem newD (B : Bag K H1 b ys) (hp : (upd H1 b (.lst ys)) p = none) (hC : C) (q : ∀ r H2, Same H1 H2 → H2 r = some o → Bag K H2 b ys → (upd H2 b (.lst ys)) p = none → Q (.ref r) (upd (upd H2 b (.lst ys)) p (.lst acc))) :
    NewO C o (upd (upd H1 b (.lst ys)) p (.lst acc)) Q := by
  refine ⟨hC, fun r hr => ?_⟩
  have ne : r ≠ p := fun e => by
    rw [e, upd_same] at hr
    cases hr
  rw [upd_ne ne] at hr
  have nb : r ≠ b := fun e => by
    rw [e, upd_same] at hr
    cases hr
  rw [upd_ne nb] at hr
  have hpb : p ≠ b := fun e => by
    rw [e, upd_same] at hp
    cases hp
  rw [upd_comm (H := upd H1 b (.lst ys)) (Ne.symm ne), upd_comm (H := H1) (Ne.symm nb)]
  refine q r (upd H1 r o) (same_new hr) upd_same (B.same (same_new hr) (by rw [upd_ne (Ne.symm nb)]; exact B.off)) ?_
  rw [upd_ne hpb] at hp ⊢
  rw [upd_ne (Ne.symm ne)]
  exact hp
theorem toB (o : HO) (B : Bag K H1 b ys) (hp : (upd H1 b (.lst ys)) p = none) : ∃ H', Same H1 H' ∧ H' p = some o ∧ Bag K H' b ys ∧ upd (upd H1 b (.lst ys)) p o = upd H' b (.lst ys) := by
  have ne : p ≠ b := fun e => by
    rw [e, upd_same] at hp
    cases hp
  rw [upd_ne ne] at hp
  exact ⟨upd H1 p o, same_new hp, upd_same, B.same (same_new hp) (by rw [upd_ne (Ne.symm ne)]; exact B.off), upd_comm (Ne.symm ne)⟩
theorem Bag.seeD (B : Bag K H1 b ys) (hp : (upd H1 b (.lst ys)) p = none) : Same H1 (upd (upd H1 b (.lst ys)) p o) := B.see.trans (same_new hp)
end
/-! ### stories -/
/-- calls of a row whose last place is l -/
def Sto (l : Int) (ns : List Int) : Prop := ∀ i (h : i < ns.length), 0 ≤ ns[i] ∧ ns[i] ≤ l * 2 ^ i
theorem sto_nil (l : Int) : Sto l [] := fun i h => absurd h (by simp)
theorem sto_cons {l n : Int} {ns : List Int} : Sto l (n :: ns) ↔ (0 ≤ n ∧ n ≤ l) ∧ Sto (2 * l) ns := by
  constructor
  · intro h
    refine ⟨?_, fun i hi => ?_⟩
    · have z := h 0 (by simp)
      rw [Int.pow_zero, Int.mul_one] at z
      exact z
    · have z := h (i + 1) (by simpa using hi)
      rw [Int.pow_succ, Int.mul_comm ((2 : Int) ^ i) 2, ← Int.mul_assoc, Int.mul_comm l 2] at z
      exact z
  · rintro ⟨h0, h⟩ i hi
    cases i with
    | zero =>
      rw [Int.pow_zero, Int.mul_one]
      exact h0
    | succ i =>
      have z := h i (by simpa using hi)
      rw [Int.pow_succ, Int.mul_comm ((2 : Int) ^ i) 2, ← Int.mul_assoc, Int.mul_comm l 2]
      exact z
theorem sto_snoc {l n : Int} {ns : List Int} (h : Sto l ns) (h0 : 0 ≤ n) (h1 : n ≤ l * 2 ^ ns.length) : Sto l (ns ++ [n]) := fun i hi => by
  by_cases c : i < ns.length
  · rw [List.getElem_append_left c]
    exact h i c
  · rw [List.length_append, List.length_singleton] at hi
    have e : i = ns.length := by omega
    subst e
    rw [List.getElem_append_right (Nat.le_refl _)]
    simpa using ⟨h0, h1⟩
theorem pow_le {i j : Nat} (h : i ≤ j) : (2 : Int) ^ i ≤ 2 ^ j := by
  have := Nat.pow_le_pow_right (show 0 < 2 by decide) h
  exact_mod_cast this
theorem pow_pos (i : Nat) : (1 : Int) ≤ 2 ^ i := by
  have := Nat.one_le_two_pow (n := i)
  exact_mod_cast this
/-- a doubled last place stays below a great number -/
theorem dbl_lt {l : Int} {i : Nat} (h0 : 0 ≤ l) (h : l ≤ 10 ^ 100) (hi : i ≤ 100) : 0 ≤ l * 2 ^ i ∧ l * 2 ^ i ≤ 10 ^ 131 := by
  refine ⟨Int.mul_nonneg h0 (by have := pow_pos i; omega), Int.le_trans (Int.mul_le_mul h (pow_le hi) (by have := pow_pos i; omega) (by decide)) (by decide +kernel)⟩
/-- the law's doubling -/
def sp_zdoubled (K : PySem.W.Frag) : Sp := sp2 fun x y H Q _ => ∃ (l k : Int), x = .int l ∧ y = .int k ∧ 0 ≤ l ∧ l ≤ 10 ^ 100 ∧ 0 ≤ k ∧ k ≤ 100 ∧ Q (.int (l * 2 ^ k.toNat)) H
/-- a story drawn -/
def sp_story (K : PySem.W.Frag) : Sp := sp3 fun x y z H Q _ => ∃ (b : Addr) (H0 : Hp) (ys : List V) (l k : Int), x = .ref b ∧ y = .int l ∧ z = .int k ∧ H = upd H0 b (.lst ys) ∧ Bag K H0 b ys ∧ 0 ≤ l ∧ l ≤ 10 ^ 100 ∧ 0 ≤ k ∧ k ≤ 100 ∧
  ∀ (H' : Hp) (zs : List V) (p : Addr) (ns : List Int), Same H0 H' → Bag K H' b zs → H' p = some (.lst (ns.map V.int)) → H0 p = none → Sto l ns → (ns.length : Int) = k → Q (.ref p) (upd H' b (.lst zs))
def t_zdoubled (K : PySem.W.Frag) : TS :=
  (tSeq (tFor (iRng1 (tCons (tVar 1) tNil)) (gName 2)
  (tAsg (tOp rTimes (tC (.int 2)) (tVar 0)) (gName 0)))
  (tRet (tVar 0)))
theorem pu_zdoubled {K : PySem.W.Frag} (vs : List V) (H : Hp) (Q : VK) (E : XK) (h : sp_zdoubled K vs H Q E) : t_zdoubled K { nx := fun _ H' => Q .non H', rt := Q } (start ["_law_last", "_law_calls", "_law_k"] vs) H := by
  obtain ⟨_, _, rfl, l, k, rfl, rfl, l0, l1, k0, k1, hQ⟩ := h
  unfold t_zdoubled
  repeat' walk_at "s"
  refine s_rn1 (by omega) (by omega) ?_
  refine for_range (fun i σ H' => H' = H ∧ ∃ x2, σ = [some (.int (l * 2 ^ i)), some (.int k), x2]) ⟨rfl, none, by rw [Int.pow_zero, Int.mul_one]; rfl⟩ (fun i σ H' hi z => ?_) fun σ H' z => ?_
  · obtain ⟨rfl, x2, rfl⟩ := z
    have hb := dbl_lt l0 l1 (i := i) (by omega)
    repeat' walk_at "s"
    refine s_mulI (mulW (by omega) (by omega)) ?_
    repeat' walk_at "s"
    have e : 2 * (l * 2 ^ i) = l * 2 ^ (i + 1) := by rw [Int.pow_succ, Int.mul_comm 2 (l * 2 ^ i), Int.mul_assoc]
    rw [e]
    exact ⟨rfl, _, rfl⟩
  · obtain ⟨rfl, x2, rfl⟩ := z
    repeat' walk_at "s"
    exact hQ
def t_story (K : PySem.W.Frag) : TS :=
  (tSeq (tAsg (tLst tNil) (gName 3))
  (tSeq (tFor (iRng1 (tCons (tVar 2) tNil)) (gName 4)
  (tSeq (tAsg (tIf (tTest (tOp (rDiff K) (tVar 3) (tLst tNil))) (tOp rTimes (tC (.int 2)) (tOp (rIx K) (tVar 3) (tUn (rU fun i => .int (-i)) (tC (.int 1))))) (tC (.int 0))) (gName 5))
  (tSeq (tAsg (tLst (tCons (tC (.int 0)) (tCons (tVar 1) (tCons (tOp rDiv (tVar 1) (tC (.int 2))) (tCons (tVar 5) (tCons (gCall (sp_take K) E1 (tCons (tVar 0) (tCons (tOp (rPlus K) (tVar 1) (tC (.int 1))) tNil))) (tCons (gCall (sp_take K) E1 (tCons (tVar 0) (tCons (tOp (rPlus K) (tVar 1) (tC (.int 1))) tNil))) tNil))))))) (gName 6))
  (tSeq (tDrop (tBM K "list" rAppend (tVar 3) (tCons (tOp (rIx K) (tVar 6) (gCall (sp_take K) E1 (tCons (tVar 0) (tCons (tC (.int 6)) tNil)))) tNil)))
  (tAsg (tOp rTimes (tC (.int 2)) (tVar 1)) (gName 1))))))
  (tRet (tVar 3))))
theorem pu_story {K : PySem.W.Frag} (vs : List V) (H : Hp) (Q : VK) (E : XK) (h : sp_story K vs H Q E) : t_story K { nx := fun _ H' => Q .non H', rt := Q } (start ["_law_bag_here", "_law_last", "_law_calls", "_law_found", "_law_k", "_law_again", "_law_some"] vs) H := by
  obtain ⟨_, _, _, rfl, b, H0, ys, l, k, rfl, rfl, rfl, rfl, B, l0, l1, k0, k1, hQ⟩ := h
  unfold t_story
  repeat' walk_at "s"
  refine ⟨sz_of rfl, fun p hp => ?_⟩
  repeat' walk_at "s"
  refine s_rn1 (by omega) (by omega) ?_
  have p0 : H0 p = none := by
    by_cases e : p = b
    · rw [e]; exact B.off
    · rw [upd_ne e] at hp; exact hp
  refine for_range (fun i σ H' => ∃ (H1 : Hp) (ys : List V) (ns : List Int) (x4 x5 x6 : Option V), Same H0 H1 ∧ Bag K H1 b ys ∧ (upd H1 b (.lst ys)) p = none ∧ Sto l ns ∧ ns.length = i ∧ H' = upd (upd H1 b (.lst ys)) p (.lst (ns.map V.int)) ∧ σ = [some (.ref b), some (.int (l * 2 ^ i)), some (.int k), some (.ref p), x4, x5, x6])
    ⟨H0, ys, [], _, _, _, Same.refl _, B, hp, sto_nil l, rfl, rfl, by rw [Int.pow_zero, Int.mul_one]; rfl⟩ (fun i σ H' hi z => ?_) fun σ H' z => ?_
  · clear B hp ys
    obtain ⟨H1, ys, ns, x4, x5, x6, e1, B, hp, hst, hl, rfl, rfl⟩ := z
    have hb := dbl_lt l0 l1 (i := i) (by omega)
    generalize hL : l * 2 ^ i = L at hb
    repeat' walk_at "e"
    with_reducible refine s_seqR (fun σ H => ∃ (H1 : Hp) (x5 : Int), Same H0 H1 ∧ Bag K H1 b ys ∧ (upd H1 b (.lst ys)) p = none ∧ H = upd (upd H1 b (.lst ys)) p (.lst (ns.map V.int)) ∧ 0 ≤ x5 ∧ x5 ≤ L ∧ σ = [some (.ref b), some (.int L), some (.int k), some (.ref p), some (.int (0 + (i : Nat))), some (.int x5), x6]) (fun σ H z => ?_) fun N hN => ?_
    · clear e1 B hp H1
      obtain ⟨H1, x5, e1, B, hp, rfl, h50, h51, rfl⟩ := z
      repeat' walk_at "s"
      refine s_div ⟨by decide, by decide⟩ ?_
      repeat' walk_at "s"
      refine s_takeD B hp (by omega) (lg (by omega) (by omega)) ?_
      intro r1 ys a1 a2 B hp
      repeat' walk_at "s"
      refine s_takeD B hp (by omega) (lg (by omega) (by omega)) ?_
      intro r2 ys b1 b2 B hp
      repeat' walk_at "s"
      refine newD B hp (sz_of rfl) fun q H2 e2 hq B hp => ?_
      repeat' walk_at "s"
      refine s_tyL (SqL.of upd_same) ?_
      repeat' walk_at "s"
      refine s_takeD B hp (by decide) (lg (by decide) (by decide)) ?_
      intro r3 ys c1 c2 B hp
      repeat' walk_at "s"
      refine s_pickP (fun x => ∃ s : Int, x = .int s ∧ 0 ≤ s ∧ s ≤ L) (B.seeD hp _ _ hq) c1 c2 (fun x hx => ?_) fun x hx => ?_
      · simp only [List.mem_cons, List.not_mem_nil, or_false] at hx
        rcases hx with rfl | rfl | rfl | rfl | rfl | rfl
        all_goals exact ⟨_, rfl, by omega, by omega⟩
      obtain ⟨s, rfl, s0, s1⟩ := hx
      repeat' walk_at "s"
      refine s_app upd_same (by rw [List.length_map, sizeLine_eq]; omega) ?_
      rw [upd_upd]
      repeat' walk_at "s"
      refine s_mulI (mulW (by omega) (by omega)) ?_
      repeat' walk_at "s"
      have e : 2 * L = l * 2 ^ (i + 1) := by rw [Int.pow_succ, ← Int.mul_assoc, hL, Int.mul_comm L 2]
      rw [e]
      exact ⟨H2, ys, ns ++ [s], _, _, _, e1.trans e2, B, hp, sto_snoc hst s0 (by rw [hl, hL]; exact s1), by rw [List.length_append, hl]; rfl, by rw [List.map_append]; rfl, rfl⟩
    · repeat' walk_at "s"
      refine newD B hp (sz_of rfl) fun q H2 e2 hq B hp => ?_
      refine s_neLI (xs := ns) (ys := []) (SqL.of upd_same) (SqL.of (B.seeD hp _ _ hq)) ?_
      repeat' walk_at "s"
      refine s_ifn (fun c => ?_) fun c => ?_
      · obtain ⟨ms, m, rfl⟩ : ∃ ms m, ns = ms ++ [m] := ⟨ns.dropLast, ns.getLast c, (List.dropLast_concat_getLast c).symm⟩
        rw [List.length_append, List.length_singleton] at hl
        have hm := hst ms.length (by rw [List.length_append, List.length_singleton]; omega)
        rw [List.getElem_append_right (Nat.le_refl _)] at hm
        simp only [Nat.sub_self, List.getElem_cons_zero] at hm
        have hL2 : L = 2 * (l * 2 ^ ms.length) := by
          rw [← hL, ← hl, Int.pow_succ, ← Int.mul_assoc, Int.mul_comm 2]
        repeat' walk_at "s"
        refine s_ixL (v := .int m) (SqL.of upd_same) (by rw [List.map_append]; exact atI_last _ _) ?_
        repeat' walk_at "s"
        refine s_mulI (mulW (by omega) (by omega)) ?_
        repeat' walk_at "s"
        exact hN _ _ ⟨H2, _, e1.trans e2, B, hp, rfl, by omega, by omega, rfl⟩
      · repeat' walk_at "s"
        exact hN _ _ ⟨H2, _, e1.trans e2, B, hp, rfl, by omega, by omega, rfl⟩
  · obtain ⟨H1, ys, ns, x4, x5, x6, e1, B, hp, hst, hl, rfl, rfl⟩ := z
    obtain ⟨H2, e2, h2, B, eq⟩ := toB (.lst (ns.map V.int)) B hp
    rw [eq]
    repeat' walk_at "s"
    exact hQ _ _ _ _ (e1.trans e2) B h2 p0 hst (by omega)
end
section
/-- one step of a reading (e: none past a statement's end) -/
local macro_rules
  | `(tactic| walk_at "e") => `(tactic| first
    | with_reducible refine s_ifs ?_
    | with_reducible refine s_test ?_
    | with_reducible refine s_truth ?_
    | with_reducible refine s_op ?_
    | with_reducible refine s_un ?_
    | with_reducible refine s_asg ?_
    | with_reducible refine s_ret ?_
    | with_reducible refine s_next ?_
    | with_reducible refine s_drop ?_
    | with_reducible refine s_c ?_
    | ((with_reducible refine s_var (v := ?v) ?e ?q); case e => exact rfl)
    | with_reducible refine s_name ?_
    | with_reducible refine s_exq ?_
    | with_reducible refine s_cons ?_
    | with_reducible refine s_nil ?_
    | with_reducible refine s_lst ?_
    | with_reducible refine s_tup ?_
    | with_reducible refine s_cb ?_
    | with_reducible refine s_call ?_
    | with_reducible refine s_and ?_
    | with_reducible refine s_or ?_
    | with_reducible refine s_not ?_
    | with_reducible refine s_andV ?_
    | with_reducible refine s_orV ?_
    | with_reducible refine s_notV ?_
    | with_reducible refine s_ife ?_
    | with_reducible refine s_chain ?_
    | with_reducible refine s_addI ?_
    | with_reducible refine s_sub ?_
    | with_reducible refine s_neg ?_
    | with_reducible refine s_eqI ?_
    | with_reducible refine s_eqX ?_
    | with_reducible refine s_eqT ?_
    | with_reducible refine s_eqB ?_
    | with_reducible refine s_eqNI ?_
    | with_reducible refine s_eqIN ?_
    | with_reducible refine s_eqNN ?_
    | with_reducible refine s_neI ?_
    | with_reducible refine s_neX ?_
    | with_reducible refine s_neT ?_
    | with_reducible refine s_neB ?_
    | with_reducible refine s_lt ?_
    | with_reducible refine s_le ?_
    | with_reducible refine s_gt ?_
    | with_reducible refine s_ge ?_
    | with_reducible refine s_isN ?_
    | with_reducible refine s_isS ?_
    | with_reducible refine s_truB ?_
    | with_reducible refine s_truI ?_
    | with_reducible refine s_truN ?_
    | with_reducible refine s_abs ?_
    | with_reducible refine s_min2 ?_
    | with_reducible refine s_max2 ?_
    | with_reducible refine s_intI ?_
    | with_reducible refine s_intB ?_
    | with_reducible refine s_ifT ?_
    | with_reducible refine s_ifF ?_
    | with_reducible refine s_ifnT ?_
    | with_reducible refine s_ifnF ?_
    | with_reducible refine s_gSub ?_
    | with_reducible refine s_gTup ?_
    | with_reducible refine s_augS ?_
    | ((with_reducible refine s_aug (x := ?v) ?e ?q); case e => exact rfl)
    | with_reducible refine s_yes ?_
    | with_reducible refine s_par ?_
    | with_reducible refine s_two ?_
    | with_reducible refine s_m1 ?_
    | with_reducible refine s_isstr ?_
    | with_reducible refine s_rev0 ?_
    | with_reducible refine s_gCons ?_
    | with_reducible refine s_gNil ?_
    | with_reducible refine s_ipI ?_
    | with_reducible refine s_ipA ?_
    | with_reducible refine s_sl ?_
    | with_reducible refine s_noPart ?_
    | with_reducible refine s_part ?_
    | with_reducible refine s_parte ?_
    | with_reducible refine s_for ?_
    | with_reducible refine s_lc ?_
    | with_reducible refine s_iL ?_
    | with_reducible refine s_iE ?_
    | with_reducible refine s_iS ?_
    | with_reducible refine s_iT ?_
    | with_reducible refine s_itS ?_
    | with_reducible refine s_iR1 ?_
    | with_reducible refine s_iR2 ?_
    | with_reducible refine s_iR3 ?_
    | with_reducible refine s_rg1 ?_
    | with_reducible refine s_rg2 ?_
    | with_reducible refine s_rg1e ?_
    | with_reducible refine s_rg2e ?_
    | with_reducible refine s_lrg ?_
    | with_reducible refine s_lr3 ?_
    | with_reducible refine s_bm ?_
    | with_reducible refine s_bm0 ?_
    | with_reducible refine s_retN ?_)
  | `(tactic| walk_at "s") => `(tactic| first
    | with_reducible refine s_seq ?_
    | walk_at "e")

/-! ### calls one after another -/
def fol (l : List Nat) (ns : List Int) : List Nat := ns.foldl (fun r n => mk r n.toNat) l
theorem fol_app (l : List Nat) (a c : List Int) : fol l (a ++ c) = fol (fol l a) c := List.foldl_append
theorem sto_take {l : Int} {ns : List Int} (h : Sto l ns) (i : Nat) : Sto l (ns.take i) := fun j hj => by
  rw [List.getElem_take]
  exact h j (by rw [List.length_take] at hj; omega)
theorem sto_drop {l : Int} {ns : List Int} (h : Sto l ns) (i : Nat) : Sto (l * 2 ^ i) (ns.drop i) := fun j hj => by
  rw [List.getElem_drop]
  have z := h (i + j) (by rw [List.length_drop] at hj; omega)
  rw [Int.pow_add, ← Int.mul_assoc] at z
  exact z
theorem fol_len : ∀ {ns : List Int} {l : List Nat}, 1 ≤ l.length → Sto ((l.length : Int) - 1) ns → ((fol l ns).length : Int) = ((l.length : Int) - 1) * 2 ^ ns.length + 1
  | [], l, _, _ => by
    show (l.length : Int) = ((l.length : Int) - 1) * 2 ^ 0 + 1
    rw [Int.pow_zero]
    omega
  | n :: r, l, h, s => by
    obtain ⟨⟨h0, h1⟩, s⟩ := sto_cons.mp s
    have hm := mk_len (l := l) (k := n.toNat) (by omega)
    have e : ((mk l n.toNat).length : Int) - 1 = 2 * ((l.length : Int) - 1) := by omega
    have z := fol_len (ns := r) (l := mk l n.toNat) (by omega) (by rw [e]; exact s)
    show ((fol (mk l n.toNat) r).length : Int) = _
    rw [z, e, List.length_cons, Int.pow_succ, Int.mul_comm 2, Int.mul_assoc, Int.mul_comm 2]
theorem fol_low : ∀ {ns : List Int} {l : List Nat}, Low l → Low (fol l ns)
  | [], _, h => h
  | n :: r, l, h => fol_low (ns := r) (mk_low h)
theorem nice_strs {ls : List (List Nat)} {n : Nat} (h : ∀ l ∈ ls, Low l ∧ l.length ≤ 1000) (hn : ls.length ≤ n) (hz : n ≤ 1000) : Nice (.list (ls.map fun l => .str (tx l))) := by
  refine Bd.nice (bd_list (c := 10002) (k := 0) (n := n) (fun d hd => ?_) (by rw [List.length_map]; exact hn)) (by omega) (by omega)
  obtain ⟨l, hl, rfl⟩ := List.mem_map.mp hd
  obtain ⟨h1, h2⟩ := h l hl
  exact (bd_str (n := 1000) (by rw [tx_len]; exact h2) fun c hc => by have := h1 c hc; omega).mono (by omega) (Nat.le_refl _)
theorem dp_txs {K : PySem.W.Frag} {H : Hp} {a : Addr} {ls : List (List Nat)} (h : SqL K H a (ls.map fun l => V.str (tx l))) : Dp K H (.ref a) (.list (ls.map fun l => .str (tx l))) := .lst h (dpAll_map _ _ (fun l => .str (tx l)) ls)
/-! lists cut, copied, changed -/
section
variable {K : PySem.W.Frag} {H H0 : Hp} {Q : VK} {E : XK} {a b p : Addr} {xs ys : List V} {lo hi : Option Int} {o : HO} {C : Prop}
theorem cutV_to {xs : List V} {k : Int} (h : 0 ≤ k) : cutV xs none (some k) = xs.take k.toNat := by
  obtain ⟨m, rfl⟩ : ∃ m : Nat, k = m := ⟨k.toNat, by omega⟩
  unfold cutV
  rw [HT.sIx_nat, HT.sIx_none, List.drop_zero, Nat.sub_zero, Int.toNat_natCast]
  by_cases h : m ≤ xs.length
  · rw [Nat.min_eq_left h]
  · rw [Nat.min_eq_right (by omega), List.take_of_length_le (Nat.le_refl _), List.take_of_length_le (by omega)]
theorem cutV_from {xs : List V} {k : Int} (h : 0 ≤ k) : cutV xs (some k) none = xs.drop k.toNat := by
  obtain ⟨m, rfl⟩ : ∃ m : Nat, k = m := ⟨k.toNat, by omega⟩
  unfold cutV
  rw [HT.sIx_nat, HT.sIx_none, Int.toNat_natCast]
  by_cases h : m ≤ xs.length
  · rw [Nat.min_eq_left h, List.take_of_length_le (by rw [List.length_drop]; omega)]
  · rw [Nat.min_eq_right (by omega), List.drop_of_length_le (Nat.le_refl _), List.drop_of_length_le (by omega)]
    simp
theorem s_cutN (h : SqL K H a xs) (q : NewO True (.lst (cutV xs lo hi)) H Q) : rCut K (.ref a) lo hi H Q := s_cutL h q.2
theorem s_listN (h : SqL K H a xs) (q : NewO True (.lst xs) H Q) : rListOf K [.ref a] H Q := .inl ⟨a, xs, rfl, .inl h, q.2⟩
theorem s_listX {l : List Nat} (h : l.length ≤ 16777216) (q : NewO True (.lst (l.map fun c => V.str (tx [c]))) H Q) : rListOf K [.str (tx l)] H Q := .inr ⟨tx l, rfl, by rw [tx_len, sizeLine_eq]; exact h, q.2⟩
/-- as newB, with the place's freshness -/
theorem newF (B : Bag K H0 b ys) (hC : C) (q : ∀ p H', H0 p = none → Same H0 H' → H' p = some o → Bag K H' b ys → Q (.ref p) (upd H' b (.lst ys))) : NewO C o (upd H0 b (.lst ys)) Q :=
  ⟨hC, bag_new B fun p hp _ B' => q p _ hp (same_new hp) upd_same B'⟩
/-- a list changed that the bag may look at -/
theorem bag_chg {xs' : List V} (B : Bag K H b ys) (h : H p = some (.lst xs)) (hx : ∀ ns : List Int, xs = ns.map V.int → ns.length ≤ 1000 → (∀ m ∈ ns, 0 ≤ m) → ∃ ms : List Int, xs' = ms.map V.int ∧ (∀ m ∈ ms, 0 ≤ m) ∧ ms.length ≤ 1000) : Bag K (upd H p (.lst xs')) b ys := by
  obtain ⟨off, c, a0, a1, a2, ns, rfl, hS, hn, hl, r⟩ := B
  have nb : b ≠ p := fun e => by
    rw [e, h] at off
    cases off
  have hoff : upd H p (.lst xs') b = none := by rw [upd_ne nb]; exact off
  by_cases e : c = p
  · subst e
    rcases hS with (z | ⟨o, z⟩) | z
    · rw [h] at z
      cases z
      obtain ⟨ms, rfl, h1, h2⟩ := hx ns rfl hl hn
      exact ⟨hoff, c, a0, a1, a2, ms, rfl, SqL.of upd_same, h1, h2, r⟩
    · rw [h] at z
      cases z
    · exact ⟨hoff, c, a0, a1, a2, ns, rfl, .inr z, hn, hl, r⟩
  · refine ⟨hoff, c, a0, a1, a2, ns, rfl, ?_, hn, hl, r⟩
    rcases hS with (z | ⟨o, z⟩) | z
    · exact .inl (.inl (by rw [upd_ne e]; exact z))
    · exact .inl (.inr ⟨o, by rw [upd_ne e]; exact z⟩)
    · exact .inr z
theorem upd_out {u : HO} (B : Bag K H b ys) (h : H p = some o) : upd (upd H b (.lst ys)) p u = upd (upd H p u) b (.lst ys) := upd_comm fun e => by
  have z := B.off
  rw [e, h] at z
  cases z
end
def sp_follow (K : PySem.W.Frag) : Sp := sp2 fun x y H Q _ => ∃ (l : List Nat) (p : Addr) (ns : List Int), x = .str (tx l) ∧ y = .ref p ∧ SqL K H p (ns.map V.int) ∧ 2 ≤ l.length ∧ Sto ((l.length : Int) - 1) ns ∧ ((l.length : Int) - 1) * 2 ^ ns.length + 1 ≤ 1000 ∧
  ∀ H', Same H H' → Q (.str (tx (fol l ns))) H'
theorem s_fol {K : PySem.W.Frag} {H : Hp} {Q : VK} {E : XK} {l : List Nat} {p : Addr} {ns : List Int} (hp : SqL K H p (ns.map V.int)) (h2 : 2 ≤ l.length) (hs : Sto ((l.length : Int) - 1) ns) (hb : ((l.length : Int) - 1) * 2 ^ ns.length + 1 ≤ 1000) (q : ∀ H', Same H H' → Q (.str (tx (fol l ns))) H') :
    sp_follow K [.str (tx l), .ref p] H Q E := ⟨_, _, rfl, l, p, ns, rfl, rfl, hp, h2, hs, hb, q⟩
def t_follow (K : PySem.W.Frag) : TS :=
  (tSeq (tAsg (tOp rMinus (tCB (rLen K) (tCons (tVar 0) tNil)) (tC (.int 1))) (gName 2))
  (tSeq (tFor (iEnum K (tCons (tVar 1) tNil)) (gTup K 2 (gCons (gName 3) (gCons (gName 4) gNil)))
  (tSeq (tIfS (tNot (tTest (tChain rLessE rLessE (tC (.int 0)) (tVar 4) (tVar 2)))) tNever tNext)
  (tAsg (tOp rTimes (tC (.int 2)) (tVar 2)) (gName 2))))
  (tSeq (tIfS (tTest (tOp rMore (tOp (rPlus K) (tVar 2) (tC (.int 1))) (tC (.int 1000)))) tNever tNext)
  (tSeq (tFor (iList K (tVar 1)) (gName 4)
  (tAsg (gCall (sp_made K) E1 (tCons (tVar 0) (tCons (tVar 4) tNil))) (gName 0)))
  (tRet (tVar 0))))))
theorem pu_follow {K : PySem.W.Frag} (vs : List V) (H : Hp) (Q : VK) (E : XK) (h : sp_follow K vs H Q E) : t_follow K { nx := fun _ H' => Q .non H', rt := Q } (start ["row", "calls", "last", "at", "place"] vs) H := by
  obtain ⟨_, _, rfl, l, p, ns, rfl, rfl, hp, l0, hst, hb, hQ⟩ := h
  have hb1 : ∀ i, i ≤ ns.length → ((l.length : Int) - 1) * 2 ^ i ≤ 999 ∧ 1 ≤ ((l.length : Int) - 1) * 2 ^ i := fun i hi => by
    have h1 : ((l.length : Int) - 1) * 2 ^ i ≤ ((l.length : Int) - 1) * 2 ^ ns.length := Int.mul_le_mul_of_nonneg_left (pow_le hi) (by omega)
    have h2 : ((l.length : Int) - 1) * 1 ≤ ((l.length : Int) - 1) * 2 ^ i := Int.mul_le_mul_of_nonneg_left (pow_pos i) (by omega)
    omega
  have hb0 := hb1 0 (Nat.zero_le _)
  rw [Int.pow_zero, Int.mul_one] at hb0
  unfold t_follow
  repeat' walk_at "s"
  refine s_lenX (by omega) ?_
  repeat' walk_at "s"
  refine s_itE hp ?_
  refine forE (xs := ns.map V.int) (fun i σ H' => Same H H' ∧ ∃ x3 x4, σ = [some (.str (tx l)), some (.ref p), some (.int (((l.length : Int) - 1) * 2 ^ i)), x3, x4]) ⟨Same.refl _, none, none, by rw [Int.pow_zero, Int.mul_one]; rfl⟩ (fun i σ H' _ z => z.1.seq hp) (fun i x T σ H' hx hi hT z => ?_) fun σ H' z => ?_
  · obtain ⟨e, x3, x4, rfl⟩ := z
    rw [List.length_map] at hi
    obtain ⟨n, rfl, hn⟩ := int_at hx
    have hn2 : n = ns[i] := by
      rw [List.getElem?_eq_getElem hi] at hn
      exact (Option.some.inj hn).symm
    have hs := hst i hi
    rw [← hn2] at hs
    have hbi := hb1 i (by omega)
    refine s_gTup (SqT.of upd_same) rfl ?_
    repeat' walk_at "s"
    refine s_if (fun _ => ?_) fun z => absurd hs.1 z
    repeat' walk_at "s"
    refine s_ifn (fun z => absurd hs.2 z) fun _ => ?_
    repeat' walk_at "s"
    refine s_mulI (mulW (by omega) (by omega)) ?_
    repeat' walk_at "s"
    have e2 : 2 * (((l.length : Int) - 1) * 2 ^ i) = ((l.length : Int) - 1) * 2 ^ (i + 1) := by rw [Int.pow_succ, Int.mul_comm 2 (((l.length : Int) - 1) * 2 ^ i), Int.mul_assoc]
    rw [e2]
    exact ⟨e.trans (same_new hT), _, _, rfl⟩
  · obtain ⟨e, x3, x4, rfl⟩ := z
    rw [List.length_map]
    have hbn := hb1 ns.length (Nat.le_refl _)
    repeat' walk_at "s"
    refine s_if (fun z => by omega) fun _ => ?_
    repeat' walk_at "s"
    have hp' := e.seq hp
    refine s_itL hp' ?_
    refine for_list (xs := ns.map V.int) (fun i σ H2 => H2 = H' ∧ ∃ x2 x4, σ = [some (.str (tx (fol l (ns.take i)))), some (.ref p), x2, x3, x4]) ⟨rfl, _, _, rfl⟩ (fun i σ H2 _ z => by rw [z.1]; exact hp') (fun i x σ H2 hx z => ?_) fun σ H2 z => ?_
    · obtain ⟨rfl, x2, x4, rfl⟩ := z
      obtain ⟨n, rfl, hn⟩ := int_at hx
      have hi : i < ns.length := (List.getElem?_eq_some_iff.mp hn).1
      have hn2 : n = ns[i] := ((List.getElem?_eq_some_iff.mp hn).2).symm
      have hs := hst i hi
      rw [← hn2] at hs
      have hl := fol_len (l := l) (by omega) (sto_take hst i)
      have hbi := hb1 i (by omega)
      rw [List.length_take, Nat.min_eq_left (by omega)] at hl
      repeat' walk_at "s"
      refine s_mk hs.1 (by omega) (by omega) ?_
      repeat' walk_at "s"
      have e3 : fol l (ns.take (i + 1)) = mk (fol l (ns.take i)) n.toNat := by
        rw [List.take_add_one, hn, fol_app]
        rfl
      rw [e3]
      exact ⟨rfl, _, _, rfl⟩
    · obtain ⟨rfl, x2, x4, rfl⟩ := z
      rw [List.length_map, List.take_of_length_le (Nat.le_refl _)]
      repeat' walk_at "s"
      exact hQ _ e
end
section
/-- one step of a reading (e: none past a statement's end) -/
local macro_rules
  | `(tactic| walk_at "e") => `(tactic| first
    | with_reducible refine s_ifs ?_
    | with_reducible refine s_test ?_
    | with_reducible refine s_truth ?_
    | with_reducible refine s_op ?_
    | with_reducible refine s_un ?_
    | with_reducible refine s_asg ?_
    | with_reducible refine s_ret ?_
    | with_reducible refine s_next ?_
    | with_reducible refine s_drop ?_
    | with_reducible refine s_c ?_
    | ((with_reducible refine s_var (v := ?v) ?e ?q); case e => exact rfl)
    | with_reducible refine s_name ?_
    | with_reducible refine s_exq ?_
    | with_reducible refine s_cons ?_
    | with_reducible refine s_nil ?_
    | with_reducible refine s_lst ?_
    | with_reducible refine s_tup ?_
    | with_reducible refine s_cb ?_
    | with_reducible refine s_call ?_
    | with_reducible refine s_and ?_
    | with_reducible refine s_or ?_
    | with_reducible refine s_not ?_
    | with_reducible refine s_andV ?_
    | with_reducible refine s_orV ?_
    | with_reducible refine s_notV ?_
    | with_reducible refine s_ife ?_
    | with_reducible refine s_chain ?_
    | with_reducible refine s_addI ?_
    | with_reducible refine s_sub ?_
    | with_reducible refine s_neg ?_
    | with_reducible refine s_eqI ?_
    | with_reducible refine s_eqX ?_
    | with_reducible refine s_eqT ?_
    | with_reducible refine s_eqB ?_
    | with_reducible refine s_eqNI ?_
    | with_reducible refine s_eqIN ?_
    | with_reducible refine s_eqNN ?_
    | with_reducible refine s_neI ?_
    | with_reducible refine s_neX ?_
    | with_reducible refine s_neT ?_
    | with_reducible refine s_neB ?_
    | with_reducible refine s_lt ?_
    | with_reducible refine s_le ?_
    | with_reducible refine s_gt ?_
    | with_reducible refine s_ge ?_
    | with_reducible refine s_isN ?_
    | with_reducible refine s_isS ?_
    | with_reducible refine s_truB ?_
    | with_reducible refine s_truI ?_
    | with_reducible refine s_truN ?_
    | with_reducible refine s_abs ?_
    | with_reducible refine s_min2 ?_
    | with_reducible refine s_max2 ?_
    | with_reducible refine s_intI ?_
    | with_reducible refine s_intB ?_
    | with_reducible refine s_ifT ?_
    | with_reducible refine s_ifF ?_
    | with_reducible refine s_ifnT ?_
    | with_reducible refine s_ifnF ?_
    | with_reducible refine s_gSub ?_
    | with_reducible refine s_gTup ?_
    | with_reducible refine s_augS ?_
    | ((with_reducible refine s_aug (x := ?v) ?e ?q); case e => exact rfl)
    | with_reducible refine s_yes ?_
    | with_reducible refine s_par ?_
    | with_reducible refine s_two ?_
    | with_reducible refine s_m1 ?_
    | with_reducible refine s_isstr ?_
    | with_reducible refine s_rev0 ?_
    | with_reducible refine s_gCons ?_
    | with_reducible refine s_gNil ?_
    | with_reducible refine s_ipI ?_
    | with_reducible refine s_ipA ?_
    | with_reducible refine s_sl ?_
    | with_reducible refine s_noPart ?_
    | with_reducible refine s_part ?_
    | with_reducible refine s_parte ?_
    | with_reducible refine s_for ?_
    | with_reducible refine s_lc ?_
    | with_reducible refine s_iL ?_
    | with_reducible refine s_iE ?_
    | with_reducible refine s_iS ?_
    | with_reducible refine s_iT ?_
    | with_reducible refine s_itS ?_
    | with_reducible refine s_iR1 ?_
    | with_reducible refine s_iR2 ?_
    | with_reducible refine s_iR3 ?_
    | with_reducible refine s_rg1 ?_
    | with_reducible refine s_rg2 ?_
    | with_reducible refine s_rg1e ?_
    | with_reducible refine s_rg2e ?_
    | with_reducible refine s_lrg ?_
    | with_reducible refine s_lr3 ?_
    | with_reducible refine s_bm ?_
    | with_reducible refine s_bm0 ?_
    | with_reducible refine s_retN ?_)
  | `(tactic| walk_at "s") => `(tactic| first
    | with_reducible refine s_seq ?_
    | walk_at "e")

/-! ### heaps that only grow -/
section
variable {K : PySem.W.Frag} {H H0 Hi : Hp} {Q : VK} {E : XK} {a b p D : Addr} {xs ys acc : List V} {o : HO} {C : Prop} {ns ms : List Int} {ts : TA} {σ : L2.St}
theorem newS (hC : C) (q : ∀ p H', H p = none → Same H H' → H' p = some o → Q (.ref p) H') : NewO C o H Q := ⟨hC, fun p hp => q p _ hp (same_new hp) upd_same⟩
theorem doneS (hD : Hi D = none) (q : ∀ H', Same Hi H' → H' D = some o → Q (.ref D) H') : DoneC Q D (upd Hi D o) := q _ (same_new hD) upd_same
theorem s_sorted (h : SqL K H a (ns.map V.int)) (hp : ns.Perm ms) (hs : ms.Pairwise (· ≤ ·)) (q : NewO True (.lst (ms.map V.int)) H Q) : rSortedI K [.ref a] H Q := by
  refine ⟨a, ns, rfl, h, fun ns' p p1 p2 fr => ?_⟩
  have e : ns' = ms := List.Perm.eq_of_pairwise (fun x y _ _ h1 h2 => Int.le_antisymm h1 h2) p2 hs (p1.trans hp)
  rw [e]
  exact q.2 p fr
theorem s_addN {zs : List V} (h1 : H a = some (.lst xs)) (h2 : H b = some (.lst zs)) (h : xs.length + zs.length ≤ 16777216) (q : NewO True (.lst (xs ++ zs)) H Q) : rPlus K (.ref a) (.ref b) H Q := s_addL h1 h2 (small_sz h) q.2
theorem s_mulN {i : Int} (h : H a = some (.lst xs)) (h1 : -(2 ^ 63) ≤ i) (h2 : i < 2 ^ 63) (h3 : xs.length * i.toNat ≤ 16777216) (q : NewO True (.lst (List.replicate i.toNat xs).flatten) H Q) : rTimes (.ref a) (.int i) H Q := s_mulL h h1 h2 (small_sz h3) q.2
/-- a callee that sees neither the list at D nor the bag -/
theorem s_hid2 {sp : Sp} {vs : List V} (B : Bag K H0 b ys) (hD : (upd H0 b (.lst ys)) D = none) (q : sp vs H0 (fun v H' => H' b = none → (upd H' b (.lst ys)) D = none → Q v (upd (upd H' b (.lst ys)) D (.lst acc))) fun c d H' => H' b = none → (upd H' b (.lst ys)) D = none → E c d (upd (upd H' b (.lst ys)) D (.lst acc))) :
    Fr sp vs (upd (upd H0 b (.lst ys)) D (.lst acc)) Q E := by
  have ne : D ≠ b := fun e => by
    rw [e, upd_same] at hD
    cases hD
  refine ⟨[(D, acc), (b, ys)], H0, rfl, fun m hm => ?_, ?_⟩
  · rcases List.mem_cons.mp hm with rfl | hm
    · rw [upd_ne ne] at hD
      exact hD
    · rcases List.mem_singleton.mp hm with rfl
      exact B.off
  · have key : ∀ (H' : Hp), Off [(D, acc), (b, ys)] H' ↔ (H' b = none ∧ (upd H' b (.lst ys)) D = none) := fun H' => by
      rw [upd_ne ne]
      exact ⟨fun o => ⟨o (b, ys) (by simp), o (D, acc) (by simp)⟩, fun o m hm => by
        rcases List.mem_cons.mp hm with rfl | hm
        · exact o.2
        · rcases List.mem_singleton.mp hm with rfl
          exact o.1⟩
    have e1 : (fun v H' => Off [(D, acc), (b, ys)] H' → Q v (lay [(D, acc), (b, ys)] H')) = fun v H' => H' b = none → (upd H' b (.lst ys)) D = none → Q v (upd (upd H' b (.lst ys)) D (.lst acc)) := by
      funext v H'
      exact propext ⟨fun z n1 n2 => z ((key H').mpr ⟨n1, n2⟩), fun z o => z ((key H').mp o).1 ((key H').mp o).2⟩
    have e2 : (fun c d H' => Off [(D, acc), (b, ys)] H' → E c d (lay [(D, acc), (b, ys)] H')) = fun c d H' => H' b = none → (upd H' b (.lst ys)) D = none → E c d (upd (upd H' b (.lst ys)) D (.lst acc)) := by
      funext c d H'
      exact propext ⟨fun z n1 n2 => z ((key H').mpr ⟨n1, n2⟩), fun z o => z ((key H').mp o).1 ((key H').mp o).2⟩
    rw [e1, e2]
    exact q
theorem s_iR3 {R : It → Hp → Prop} (q : ts σ H fun vs H1 => ∃ (i j c : Int) (n : Nat), vs = [.int i, .int j, .int c] ∧ RgC i j c n ∧ R (Itc i c n) H1) : iRng3 ts σ H R := q
/-- range(i, j, -1) -/
theorem s_rnD {R : Int → Int → Nat → Prop} {i j : Int} (h : -(2 ^ 62) ≤ i ∧ i < 2 ^ 62 ∧ -(2 ^ 62) ≤ j ∧ j < 2 ^ 62) (q : R i (-1) (i - j).toNat) : ∃ (i' j' c : Int) (n : Nat), [V.int i, V.int j, V.int (-1)] = [.int i', .int j', .int c] ∧ RgC i' j' c n ∧ R i' c n :=
  ⟨i, j, -1, _, rfl, RgC.neg h.1 h.2.1 h.2.2.1 h.2.2.2, q⟩
end
/-! ### places shown -/
/-- the place that is shown -/
def shownI (l c p : Int) : Int := if p < c then p else if p ≤ c + l then p - c else p - l
/-- the places that show a place -/
def showL (l c p : Int) : List Int := if p < c then [p, p + c] else if p = c then [2 * c] else [p + c, p + l]
def sp_shown (K : PySem.W.Frag) : Sp := sp3 fun x y z H Q _ => ∃ l c p : Int, x = .int l ∧ y = .int c ∧ z = .int p ∧ Q (.int (shownI l c p)) H
def sp_showing (K : PySem.W.Frag) : Sp := sp3 fun x y z H Q _ => ∃ l c p : Int, x = .int l ∧ y = .int c ∧ z = .int p ∧ c.natAbs < 10 ^ 200 ∧ ∀ q, H q = none → Q (.ref q) (upd H q (.lst ((showL l c p).map V.int)))
theorem s_shown {K : PySem.W.Frag} {H : Hp} {Q : VK} {E : XK} {l c p : Int} (q : Q (.int (shownI l c p)) H) : Fr (sp_shown K) [.int l, .int c, .int p] H Q E := s_all ⟨_, _, _, rfl, l, c, p, rfl, rfl, rfl, q⟩
theorem s_showing {K : PySem.W.Frag} {H : Hp} {Q : VK} {E : XK} {l c p : Int} (hc : c.natAbs < 10 ^ 200) (q : NewO True (.lst ((showL l c p).map V.int)) H Q) : Fr (sp_showing K) [.int l, .int c, .int p] H Q E := s_all ⟨_, _, _, rfl, l, c, p, rfl, rfl, rfl, hc, q.2⟩
theorem shown_le {l c p : Int} (h0 : 0 ≤ c) (h1 : c ≤ l) (h2 : 0 ≤ p) (h3 : p ≤ 2 * l) : 0 ≤ shownI l c p ∧ shownI l c p ≤ l := by
  unfold shownI
  split
  · omega
  · split <;> omega
theorem mem_showL {l c p m : Int} (h0 : 0 ≤ c) (h1 : c ≤ l) (h2 : 0 ≤ p) (h3 : p ≤ l) : m ∈ showL l c p ↔ 0 ≤ m ∧ m ≤ 2 * l ∧ shownI l c m = p := by
  unfold showL shownI
  by_cases a : p < c
  · rw [if_pos a]
    simp only [List.mem_cons, List.not_mem_nil, or_false]
    split <;> (try split) <;> omega
  · rw [if_neg a]
    by_cases b : p = c
    · rw [if_pos b]
      simp only [List.mem_cons, List.not_mem_nil, or_false]
      split <;> (try split) <;> omega
    · rw [if_neg b]
      simp only [List.mem_cons, List.not_mem_nil, or_false]
      split <;> (try split) <;> omega
theorem nodup_showL {l c p : Int} (h0 : 0 ≤ c) (h1 : c ≤ l) (h2 : 0 ≤ p) (h3 : p ≤ l) : (showL l c p).Nodup := by
  unfold showL
  by_cases a : p < c
  · rw [if_pos a]
    simp
    omega
  · rw [if_neg a]
    by_cases b : p = c
    · rw [if_pos b]
      simp
    · rw [if_neg b]
      simp
      omega
theorem len_showL (l c p : Int) : (showL l c p).length ≤ 2 := by
  unfold showL
  split
  · exact Nat.le_refl _
  · split
    · exact Nat.le_succ 1
    · exact Nat.le_refl _
/-- a letter of the made row is the letter of the place that it shows -/
theorem mk_at {l : List Nat} {k i : Nat} (hk : k < l.length) (hi : i < 2 * l.length - 1) : (mk l k)[i]? = l[(shownI ((l.length : Int) - 1) k i).toNat]? := by
  unfold mk shownI
  have e1 : (l.take k ++ l).length = k + l.length := by rw [List.length_append, List.length_take]; omega
  by_cases a : (i : Int) < k
  · rw [if_pos a, List.getElem?_append_left (by omega), List.getElem?_append_left (by rw [List.length_take]; omega), List.getElem?_take, if_pos (by omega), Int.toNat_natCast]
  · rw [if_neg a]
    by_cases c : (i : Int) ≤ k + ((l.length : Int) - 1)
    · rw [if_pos c, List.getElem?_append_left (by omega), List.getElem?_append_right (by rw [List.length_take]; omega), List.length_take, Nat.min_eq_left (by omega)]
      congr 1
      omega
    · rw [if_neg c, List.getElem?_append_right (by omega), e1, List.getElem?_drop]
      congr 1
      omega
def t_shown (K : PySem.W.Frag) : TS :=
  (tSeq (tIfS (tTest (tOp rLess (tVar 2) (tVar 1))) (tRet (tVar 2)) tNext)
  (tSeq (tIfS (tTest (tOp rLessE (tVar 2) (tOp (rPlus K) (tVar 1) (tVar 0)))) (tRet (tOp rMinus (tVar 2) (tVar 1))) tNext)
  (tRet (tOp rMinus (tVar 2) (tVar 0)))))
theorem pu_shown {K : PySem.W.Frag} (vs : List V) (H : Hp) (Q : VK) (E : XK) (h : sp_shown K vs H Q E) : t_shown K { nx := fun _ H' => Q .non H', rt := Q } (start ["last", "called", "place"] vs) H := by
  obtain ⟨_, _, _, rfl, l, c, p, rfl, rfl, rfl, hQ⟩ := h
  unfold t_shown
  unfold shownI at hQ
  repeat' walk_at "s"
  refine s_if (fun h1 => ?_) fun h1 => ?_
  · repeat' walk_at "s"
    rw [if_pos h1] at hQ
    exact hQ
  · rw [if_neg h1] at hQ
    repeat' walk_at "s"
    refine s_if (fun h2 => ?_) fun h2 => ?_
    · rw [if_pos h2] at hQ
      repeat' walk_at "s"
      exact hQ
    · rw [if_neg h2] at hQ
      repeat' walk_at "s"
      exact hQ
def t_showing (K : PySem.W.Frag) : TS :=
  (tSeq (tIfS (tTest (tOp rLess (tVar 2) (tVar 1))) (tRet (tLst (tCons (tVar 2) (tCons (tOp (rPlus K) (tVar 2) (tVar 1)) tNil)))) tNext)
  (tSeq (tIfS (tTest (tOp (rSame K) (tVar 2) (tVar 1))) (tRet (tLst (tCons (tOp rTimes (tC (.int 2)) (tVar 1)) tNil))) tNext)
  (tRet (tLst (tCons (tOp (rPlus K) (tVar 2) (tVar 1)) (tCons (tOp (rPlus K) (tVar 2) (tVar 0)) tNil))))))
theorem pu_showing {K : PySem.W.Frag} (vs : List V) (H : Hp) (Q : VK) (E : XK) (h : sp_showing K vs H Q E) : t_showing K { nx := fun _ H' => Q .non H', rt := Q } (start ["last", "called", "place"] vs) H := by
  obtain ⟨_, _, _, rfl, l, c, p, rfl, rfl, rfl, hc, hQ⟩ := h
  unfold t_showing
  unfold showL at hQ
  repeat' walk_at "s"
  refine s_if (fun h1 => ?_) fun h1 => ?_
  · repeat' walk_at "s"
    rw [if_pos h1] at hQ
    exact ⟨sz_of rfl, hQ⟩
  · rw [if_neg h1] at hQ
    repeat' walk_at "s"
    refine s_if (fun h2 => ?_) fun h2 => ?_
    · rw [if_pos h2] at hQ
      repeat' walk_at "s"
      refine s_mulI (mulW (by decide) hc) ?_
      repeat' walk_at "s"
      exact ⟨sz_of rfl, hQ⟩
    · rw [if_neg h2] at hQ
      repeat' walk_at "s"
      exact ⟨sz_of rfl, hQ⟩
end
section
/-- one step of a reading (e: none past a statement's end) -/
local macro_rules
  | `(tactic| walk_at "e") => `(tactic| first
    | with_reducible refine s_ifs ?_
    | with_reducible refine s_test ?_
    | with_reducible refine s_truth ?_
    | with_reducible refine s_op ?_
    | with_reducible refine s_un ?_
    | with_reducible refine s_asg ?_
    | with_reducible refine s_ret ?_
    | with_reducible refine s_next ?_
    | with_reducible refine s_drop ?_
    | with_reducible refine s_c ?_
    | ((with_reducible refine s_var (v := ?v) ?e ?q); case e => exact rfl)
    | with_reducible refine s_name ?_
    | with_reducible refine s_exq ?_
    | with_reducible refine s_cons ?_
    | with_reducible refine s_nil ?_
    | with_reducible refine s_lst ?_
    | with_reducible refine s_tup ?_
    | with_reducible refine s_cb ?_
    | with_reducible refine s_call ?_
    | with_reducible refine s_and ?_
    | with_reducible refine s_or ?_
    | with_reducible refine s_not ?_
    | with_reducible refine s_andV ?_
    | with_reducible refine s_orV ?_
    | with_reducible refine s_notV ?_
    | with_reducible refine s_ife ?_
    | with_reducible refine s_chain ?_
    | with_reducible refine s_addI ?_
    | with_reducible refine s_sub ?_
    | with_reducible refine s_neg ?_
    | with_reducible refine s_eqI ?_
    | with_reducible refine s_eqX ?_
    | with_reducible refine s_eqT ?_
    | with_reducible refine s_eqB ?_
    | with_reducible refine s_eqNI ?_
    | with_reducible refine s_eqIN ?_
    | with_reducible refine s_eqNN ?_
    | with_reducible refine s_neI ?_
    | with_reducible refine s_neX ?_
    | with_reducible refine s_neT ?_
    | with_reducible refine s_neB ?_
    | with_reducible refine s_lt ?_
    | with_reducible refine s_le ?_
    | with_reducible refine s_gt ?_
    | with_reducible refine s_ge ?_
    | with_reducible refine s_isN ?_
    | with_reducible refine s_isS ?_
    | with_reducible refine s_truB ?_
    | with_reducible refine s_truI ?_
    | with_reducible refine s_truN ?_
    | with_reducible refine s_abs ?_
    | with_reducible refine s_min2 ?_
    | with_reducible refine s_max2 ?_
    | with_reducible refine s_intI ?_
    | with_reducible refine s_intB ?_
    | with_reducible refine s_ifT ?_
    | with_reducible refine s_ifF ?_
    | with_reducible refine s_ifnT ?_
    | with_reducible refine s_ifnF ?_
    | with_reducible refine s_gSub ?_
    | with_reducible refine s_gTup ?_
    | with_reducible refine s_augS ?_
    | ((with_reducible refine s_aug (x := ?v) ?e ?q); case e => exact rfl)
    | with_reducible refine s_yes ?_
    | with_reducible refine s_par ?_
    | with_reducible refine s_two ?_
    | with_reducible refine s_m1 ?_
    | with_reducible refine s_isstr ?_
    | with_reducible refine s_rev0 ?_
    | with_reducible refine s_gCons ?_
    | with_reducible refine s_gNil ?_
    | with_reducible refine s_ipI ?_
    | with_reducible refine s_ipA ?_
    | with_reducible refine s_sl ?_
    | with_reducible refine s_noPart ?_
    | with_reducible refine s_part ?_
    | with_reducible refine s_parte ?_
    | with_reducible refine s_for ?_
    | with_reducible refine s_lc ?_
    | with_reducible refine s_iL ?_
    | with_reducible refine s_iS ?_
    | with_reducible refine s_iT ?_
    | with_reducible refine s_itS ?_
    | with_reducible refine s_iR1 ?_
    | with_reducible refine s_iR2 ?_
    | with_reducible refine s_rg1 ?_
    | with_reducible refine s_rg2 ?_
    | with_reducible refine s_rg1e ?_
    | with_reducible refine s_rg2e ?_
    | with_reducible refine s_lrg ?_
    | with_reducible refine s_bm ?_
    | with_reducible refine s_bm0 ?_
    | with_reducible refine s_retN ?_)
  | `(tactic| walk_at "s") => `(tactic| first
    | with_reducible refine s_seq ?_
    | walk_at "e")
/-! ### roots -/
/-- l repeats its first t letters -/
def Cy (l : List Nat) (t : Nat) : Prop := l.length % t = 0 ∧ ∀ i, i < l.length → l[i]? = l[i % t]?
/-- the least one -/
def Rt (l : List Nat) (s : Nat) : Prop := 1 ≤ s ∧ Cy l s ∧ ∀ t, 1 ≤ t → t < s → ¬ Cy l t
theorem rt_uniq {l : List Nat} {s t : Nat} (a : Rt l s) (b : Rt l t) : s = t := by
  rcases Nat.lt_trichotomy s t with h | h | h
  · exact absurd a.2.1 (b.2.2 s a.1 h)
  · exact h
  · exact absurd b.2.1 (a.2.2 t b.1 h)
theorem rt_le {l : List Nat} {s : Nat} (a : Rt l s) (h : 1 ≤ l.length) : s ≤ l.length := Nat.le_of_dvd h (Nat.dvd_of_mod_eq_zero a.2.1.1)
theorem cy_all (l : List Nat) : Cy l l.length := ⟨Nat.mod_self _, fun i h => by rw [Nat.mod_eq_of_lt h]⟩
theorem cy_cut {l : List Nat} {t : Nat} (ht : 1 ≤ t) (h : l.length % t = 0) : l.drop t = l.take (l.length - t) ↔ Cy l t := by
  constructor
  · intro e
    refine ⟨h, fun i => ?_⟩
    induction i using Nat.strongRecOn with
    | _ i ih =>
      intro hi
      by_cases c : i < t
      · rw [Nat.mod_eq_of_lt c]
      · have h1 := ih (i - t) (by omega) (by omega)
        have h2 : (l.drop t)[i - t]? = (l.take (l.length - t))[i - t]? := by rw [e]
        rw [List.getElem?_drop, List.getElem?_take, if_pos (by omega), show t + (i - t) = i by omega] at h2
        rw [h2, h1]
        congr 1
        conv => rhs; rw [show i = (i - t) + t by omega, Nat.add_mod_right]
  · intro c
    refine List.ext_getElem? fun i => ?_
    rw [List.getElem?_drop, List.getElem?_take]
    by_cases hi : i < l.length - t
    · rw [if_pos hi, c.2 (t + i) (by omega), c.2 i (by omega)]
      congr 1
      rw [Nat.add_mod_left]
    · rw [if_neg hi]
      exact List.getElem?_eq_none (by omega)
theorem rep_at {w : List Nat} {q i : Nat} (h : i < q * w.length) : (List.replicate q w).flatten[i]? = w[i % w.length]? := by
  induction q generalizing i with
  | zero => omega
  | succ q ih =>
    rw [List.replicate_succ, List.flatten_cons]
    by_cases c : i < w.length
    · rw [List.getElem?_append_left c, Nat.mod_eq_of_lt c]
    · have e : (q + 1) * w.length = q * w.length + w.length := by rw [Nat.add_mul, Nat.one_mul]
      rw [List.getElem?_append_right (by omega), ih (by omega)]
      congr 1
      conv => rhs; rw [show i = (i - w.length) + w.length by omega, Nat.add_mod_right]
theorem cy_rep {l : List Nat} {t : Nat} (ht : 1 ≤ t) (hl : t ≤ l.length) (h : l.length % t = 0) : (List.replicate (l.length / t) (l.take t)).flatten = l ↔ Cy l t := by
  have hw : (l.take t).length = t := by rw [List.length_take]; omega
  have hm : l.length / t * t = l.length := Nat.div_mul_cancel (Nat.dvd_of_mod_eq_zero h)
  have at_ : ∀ i, i < l.length → (List.replicate (l.length / t) (l.take t)).flatten[i]? = l[i % t]? := fun i hi => by
    rw [rep_at (by rw [hw, hm]; exact hi), hw, List.getElem?_take, if_pos (Nat.mod_lt _ ht)]
  constructor
  · intro e
    refine ⟨h, fun i hi => ?_⟩
    rw [← at_ i hi, e]
  · intro c
    refine List.ext_getElem? fun i => ?_
    by_cases hi : i < l.length
    · rw [at_ i hi, c.2 i hi]
    · rw [List.getElem?_eq_none (show (List.replicate (l.length / t) (l.take t)).flatten.length ≤ i by rw [rep_len, hw, hm]; omega), List.getElem?_eq_none (show l.length ≤ i by omega)]
theorem rt_self {l : List Nat} {s : Nat} (a : Rt l s) (h : 1 ≤ l.length) : Rt (l.take s) s := by
  have hs := rt_le a h
  have hw : (l.take s).length = s := by rw [List.length_take]; omega
  refine ⟨a.1, ⟨by rw [hw, Nat.mod_self], fun i hi => by rw [Nat.mod_eq_of_lt (by omega)]⟩, fun t h1 h2 c => a.2.2 t h1 h2 ?_⟩
  have c1 := c.1
  rw [hw] at c1
  have d : t ∣ s := Nat.dvd_of_mod_eq_zero c1
  refine ⟨Nat.mod_eq_zero_of_dvd (Nat.dvd_trans d (Nat.dvd_of_mod_eq_zero a.2.1.1)), fun i hi => ?_⟩
  have hr : i % s < s := Nat.mod_lt _ (by omega)
  have z := c.2 (i % s) (by omega)
  rw [List.getElem?_take, if_pos hr, List.getElem?_take, if_pos (Nat.lt_of_lt_of_le (Nat.mod_lt _ h1) (by omega)), Nat.mod_mod_of_dvd _ d] at z
  rw [a.2.1.2 i hi, z]
theorem per_gcd (f : Nat → Option Nat) : ∀ t s : Nat, (∀ i, f (i + t) = f i) → (∀ i, f (i + s) = f i) → ∀ i, f (i + Nat.gcd t s) = f i := by
  have mul : ∀ t : Nat, (∀ i, f (i + t) = f i) → ∀ k i, f (i + t * k) = f i := fun t ht k => by
    induction k with
    | zero => intro i; rfl
    | succ k ih => intro i; rw [Nat.mul_succ, ← Nat.add_assoc, ht, ih]
  intro t s
  induction t, s using Nat.gcd.induction with
  | H0 s => intro _ hs i; rw [Nat.gcd_zero_left]; exact hs i
  | H1 t s _ ih =>
    intro ht hs
    rw [Nat.gcd_rec]
    refine ih (fun i => ?_) ht
    have e := mul t ht (s / t) (i + s % t)
    rw [Nat.add_assoc, Nat.mod_add_div, hs] at e
    exact e.symm
theorem rt_rep {l : List Nat} {s k : Nat} (a : Rt l s) (h : 1 ≤ l.length) (hk : 1 ≤ k) : Rt (List.replicate k l).flatten s := by
  have hs := rt_le a h
  have hN : (List.replicate k l).flatten.length = k * l.length := rep_len k l
  have hle : l.length ≤ k * l.length := Nat.le_mul_of_pos_left _ hk
  have ds : s ∣ l.length := Nat.dvd_of_mod_eq_zero a.2.1.1
  have low : ∀ i, i < l.length → (List.replicate k l).flatten[i]? = l[i]? := fun i hi => by rw [rep_at (by omega), Nat.mod_eq_of_lt hi]
  have cs : Cy (List.replicate k l).flatten s := by
    refine ⟨by rw [hN]; exact Nat.mod_eq_zero_of_dvd (Nat.dvd_trans ds (Nat.dvd_mul_left _ _)), fun i hi => ?_⟩
    rw [hN] at hi
    have hm : i % l.length < l.length := Nat.mod_lt _ h
    have hms : i % s < s := Nat.mod_lt _ a.1
    rw [rep_at hi, a.2.1.2 _ hm, Nat.mod_mod_of_dvd _ ds, low _ (by omega)]
  refine ⟨a.1, cs, fun t h1 h2 c => ?_⟩
  have dt : t ∣ k * l.length := by rw [← hN]; exact Nat.dvd_of_mod_eq_zero c.1
  have f1 : ∀ u, 1 ≤ u → Cy (List.replicate k l).flatten u → ∀ i, (List.replicate k l).flatten[i % (k * l.length)]? = (List.replicate k l).flatten[i % u]? := fun u hu cu i => by
    have hm : i % (k * l.length) < k * l.length := Nat.mod_lt _ (by omega)
    rw [cu.2 _ (by omega), Nat.mod_mod_of_dvd _ (by rw [← hN]; exact Nat.dvd_of_mod_eq_zero cu.1)]
  have per : ∀ u, 1 ≤ u → Cy (List.replicate k l).flatten u → ∀ i, (List.replicate k l).flatten[(i + u) % (k * l.length)]? = (List.replicate k l).flatten[i % (k * l.length)]? := fun u hu cu i => by
    rw [f1 u hu cu, f1 u hu cu, Nat.add_mod_right]
  have pg := per_gcd (fun i => (List.replicate k l).flatten[i % (k * l.length)]?) t s (per t h1 c) (per s a.1 cs)
  have g1 : 1 ≤ Nat.gcd t s := Nat.gcd_pos_of_pos_left _ h1
  have g2 : Nat.gcd t s ≤ t := Nat.le_of_dvd h1 (Nat.gcd_dvd_left _ _)
  have pgk : ∀ q i, (List.replicate k l).flatten[(i + Nat.gcd t s * q) % (k * l.length)]? = (List.replicate k l).flatten[i % (k * l.length)]? := fun q => by
    induction q with
    | zero => intro i; rfl
    | succ q ih => intro i; rw [Nat.mul_succ, ← Nat.add_assoc]; exact (pg _).trans (ih i)
  refine a.2.2 (Nat.gcd t s) g1 (by omega) ⟨Nat.mod_eq_zero_of_dvd (Nat.dvd_trans (Nat.gcd_dvd_right _ _) ds), fun i hi => ?_⟩
  have z := pgk (i / Nat.gcd t s) (i % Nat.gcd t s)
  rw [Nat.mod_add_div] at z
  have hm : i % Nat.gcd t s < Nat.gcd t s := Nat.mod_lt _ g1
  rw [Nat.mod_eq_of_lt (show i < k * l.length by omega), Nat.mod_eq_of_lt (show i % Nat.gcd t s < k * l.length by omega), low i hi, low _ (by omega)] at z
  exact z
theorem rep_take {l : List Nat} {k s : Nat} (hk : 1 ≤ k) (hs : s ≤ l.length) : (List.replicate k l).flatten.take s = l.take s := by
  obtain ⟨q, rfl⟩ : ∃ q, k = q + 1 := ⟨k - 1, by omega⟩
  rw [List.replicate_succ, List.flatten_cons, List.take_append_of_le_length hs]

/-- the root of a text -/
def sp_root (K : PySem.W.Frag) : Sp := sp1 fun x H Q _ => ∃ l : List Nat, x = .str (tx l) ∧ 1 ≤ l.length ∧ l.length ≤ 1000000 ∧ ∀ s, Rt l s → Q (.str (tx (l.take s))) H
abbrev sp_zroot (K : PySem.W.Frag) : Sp := sp_root K
section
variable {K : PySem.W.Frag} {H : Hp} {Q : VK} {E : XK} {l : List Nat}
theorem s_root (h1 : 1 ≤ l.length) (h2 : l.length ≤ 1000000) (q : ∀ s, Rt l s → Q (.str (tx (l.take s))) H) : Fr (sp_root K) [.str (tx l)] H Q E := s_all ⟨_, rfl, l, rfl, h1, h2, q⟩
end
def t_root (K : PySem.W.Frag) : TS :=
  (tSeq (tAsg (tC (.int 1)) (gName 1))
  (tSeq (tWhile (tAnd (tTest (tOp rLess (tVar 1) (tCB (rLen K) (tCons (tVar 0) tNil)))) (tOr (tTest (tOp rMore (tOp rMod (tCB (rLen K) (tCons (tVar 0) tNil)) (tVar 1)) (tC (.int 0)))) (tTest (tOp (rDiff K) (tSl (rCut K) (tVar 0) (tPart (tVar 1)) tNoPart) (tSl (rCut K) (tVar 0) tNoPart (tPart (tOp rMinus (tCB (rLen K) (tCons (tVar 0) tNil)) (tVar 1))))))))
  (tAug 1 (tC (.int 1)) (ipAdd K)))
  (tRet (tSl (rCut K) (tVar 0) tNoPart (tPart (tVar 1))))))

theorem pu_root {K : PySem.W.Frag} (vs : List V) (H : Hp) (Q : VK) (E : XK) (h : sp_root K vs H Q E) : t_root K { nx := fun _ H' => Q .non H', rt := Q } (start ["text", "size"] vs) H := by
  obtain ⟨_, rfl, l, rfl, h1, h2, hQ⟩ := h
  unfold t_root
  repeat' walk_at "e"
  walk_at "s"
  repeat' walk_at "e"
  walk_at "s"
  refine ⟨fun m σ H' => H' = H ∧ ∃ s : Nat, m = l.length - s ∧ 1 ≤ s ∧ s ≤ l.length ∧ (∀ t, 1 ≤ t → t < s → ¬ Cy l t) ∧ σ = [some (.str (tx l)), some (.int s)], ⟨_, rfl, 1, rfl, by omega, h1, fun t _ _ => by omega, rfl⟩, fun m σ H' z => ?_⟩
  obtain ⟨rfl, s, rfl, s1, s2, hs, rfl⟩ := z
  have next : ¬ Cy l s → s < l.length → ∃ m', m' < l.length - s ∧ (H' = H' ∧ ∃ s' : Nat, m' = l.length - s' ∧ 1 ≤ s' ∧ s' ≤ l.length ∧ (∀ t, 1 ≤ t → t < s' → ¬ Cy l t) ∧ ([some (.str (tx l)), some (.int ((s : Int) + 1))] : L2.St) = [some (.str (tx l)), some (.int s')]) := fun hc hl =>
    ⟨_, by omega, rfl, s + 1, rfl, by omega, by omega, fun t t1 t2 => by
      by_cases e : t = s
      · subst e; exact hc
      · exact hs t t1 (by omega), rfl⟩
  have stop : Cy l s → Q (.str (tx (l.take s))) H' := fun c => hQ s ⟨s1, c, hs⟩
  repeat' walk_at "s"
  refine s_lenX (by omega) ?_
  repeat' walk_at "s"
  refine s_if (fun c => ?_) fun c => ?_
  · repeat' walk_at "s"
    refine s_lenX (by omega) ?_
    repeat' walk_at "s"
    refine s_mod (by omega) ?_
    repeat' walk_at "s"
    have hmod : ((l.length : Int) % (s : Int)) = ((l.length % s : Nat) : Int) := rfl
    rw [hmod]
    refine s_if (fun d => ?_) fun d => ?_
    · refine iteT ⟨_, fun _ _ z => z, ?_⟩
      repeat' walk_at "s"
      exact next (fun cy => by have := cy.1; omega) (by omega)
    · repeat' walk_at "s"
      refine s_fromX (by omega) (by omega) ?_
      repeat' walk_at "s"
      refine s_lenX (by omega) ?_
      repeat' walk_at "s"
      refine s_toX (by omega) (by omega) ?_
      repeat' walk_at "s"
      have e1 : ((l.length : Int) - (s : Int)).toNat = l.length - s := by omega
      rw [e1, Int.toNat_natCast]
      have key := cy_cut (l := l) s1 (by omega)
      refine s_ifn (fun d2 => ?_) fun d2 => ?_
      · refine ⟨_, fun _ _ z => z, ?_⟩
        repeat' walk_at "s"
        exact next (fun cy => d2 (key.mpr cy)) (by omega)
      · repeat' walk_at "s"
        refine s_toX (by omega) (by omega) ?_
        rw [Int.toNat_natCast]
        exact stop (key.mp d2)
  · refine iteF ?_
    repeat' walk_at "s"
    refine s_toX (by omega) (by omega) ?_
    rw [Int.toNat_natCast]
    have e : s = l.length := by omega
    exact stop (by rw [e]; exact cy_all l)
def t_zroot (K : PySem.W.Frag) : TS :=
  (tSeq (tFor (iRng2 (tCons (tC (.int 1)) (tCons (tCB (rLen K) (tCons (tVar 0) tNil)) tNil))) (gName 1)
  (tIfS (tAnd (tTest (tOp (rSame K) (tOp rMod (tCB (rLen K) (tCons (tVar 0) tNil)) (tVar 1)) (tC (.int 0)))) (tTest (tOp (rSame K) (tOp rTimes (tSl (rCut K) (tVar 0) tNoPart (tPart (tVar 1))) (tOp rDiv (tCB (rLen K) (tCons (tVar 0) tNil)) (tVar 1))) (tVar 0)))) (tRet (tSl (rCut K) (tVar 0) tNoPart (tPart (tVar 1)))) tNext))
  (tRet (tVar 0)))

theorem pu_zroot {K : PySem.W.Frag} (vs : List V) (H : Hp) (Q : VK) (E : XK) (h : sp_zroot K vs H Q E) : t_zroot K { nx := fun _ H' => Q .non H', rt := Q } (start ["_law_text", "_law_size"] vs) H := by
  obtain ⟨_, rfl, l, rfl, h1, h2, hQ⟩ := h
  unfold t_zroot
  repeat' walk_at "s"
  refine s_lenX (by omega) ?_
  repeat' walk_at "s"
  refine s_rn2 (by omega) ?_
  refine for_range (fun i σ H' => H' = H ∧ (∀ t, 1 ≤ t → t < i + 1 → ¬ Cy l t) ∧ ∃ x1, σ = [some (.str (tx l)), x1]) ⟨rfl, fun t _ _ => by omega, none, rfl⟩ (fun i σ H' hi z => ?_) fun σ H' z => ?_
  · obtain ⟨rfl, hs, x1, rfl⟩ := z
    have next : ¬ Cy l (i + 1) → (H' = H' ∧ (∀ t, 1 ≤ t → t < i + 1 + 1 → ¬ Cy l t) ∧ ∃ x1, ([some (.str (tx l)), some (.int (1 + (i : Nat)))] : L2.St) = [some (.str (tx l)), x1]) := fun hc =>
      ⟨rfl, fun t t1 t2 => by
        by_cases e : t = i + 1
        · subst e; exact hc
        · exact hs t t1 (by omega), _, rfl⟩
    have hi2 : i + 1 < l.length := by omega
    repeat' walk_at "s"
    refine s_lenX (by omega) ?_
    repeat' walk_at "s"
    refine s_mod (by omega) ?_
    repeat' walk_at "s"
    have hmod : ((l.length : Int) % (1 + (i : Int))) = ((l.length % (i + 1) : Nat) : Int) := by
      rw [show (1 + (i : Int)) = ((i + 1 : Nat) : Int) by omega]
      rfl
    have hdiv : ((l.length : Int) / (1 + (i : Int))) = ((l.length / (i + 1) : Nat) : Int) := by
      rw [show (1 + (i : Int)) = ((i + 1 : Nat) : Int) by omega]
      rfl
    rw [hmod]
    refine s_if (fun d => ?_) fun d => ?_
    · have hz : l.length % (i + 1) = 0 := by omega
      have key := cy_rep (l := l) (t := i + 1) (by omega) (by omega) hz
      repeat' walk_at "s"
      refine s_toX (by omega) (by omega) ?_
      repeat' walk_at "s"
      refine s_lenX (by omega) ?_
      repeat' walk_at "s"
      refine s_div ⟨by omega, lg (by omega) (by omega)⟩ ?_
      rw [hdiv, show (1 + (i : Int)).toNat = i + 1 by omega]
      have hw : (l.take (i + 1)).length = i + 1 := by rw [List.length_take]; omega
      have hm : l.length / (i + 1) * (i + 1) = l.length := Nat.div_mul_cancel (Nat.dvd_of_mod_eq_zero hz)
      refine s_mulX ?_ (Int.le_trans (by decide : -(2 ^ 63 : Int) ≤ 0) (Int.natCast_nonneg _)) ?_ ?_
      · rw [hw, Int.toNat_natCast, Nat.mul_comm, hm]
        omega
      · have : l.length / (i + 1) ≤ l.length := Nat.div_le_self _ _
        omega
      rw [Int.toNat_natCast]
      repeat' walk_at "s"
      refine s_if (fun c => ?_) fun c => ?_
      · repeat' walk_at "s"
        refine s_toX (by omega) (by omega) ?_
        rw [show (1 + (i : Int)).toNat = i + 1 by omega]
        exact hQ _ ⟨by omega, key.mp c, hs⟩
      · repeat' walk_at "s"
        exact next fun cy => c (key.mpr cy)
    · repeat' walk_at "s"
      exact next fun cy => by have := cy.1; omega
  · obtain ⟨rfl, hs, x1, rfl⟩ := z
    have z := hQ l.length ⟨h1, cy_all l, fun t t1 t2 => hs t t1 (by omega)⟩
    rw [List.take_of_length_le (Nat.le_refl _)] at z
    repeat' walk_at "s"
    exact z
end
section
theorem mul_bd {x y a b : Int} (h1 : 0 ≤ x) (h2 : x ≤ a) (h3 : 0 ≤ y) (h4 : y ≤ b) : 0 ≤ x * y ∧ x * y ≤ a * b := ⟨Int.mul_nonneg h1 h3, Int.mul_le_mul h2 h4 h3 (Int.le_trans h1 h2)⟩
theorem same_put {H0 H1 : Hp} {p : Addr} {o : HO} (e : Same H0 H1) (h : H0 p = none) : Same H0 (upd H1 p o) := fun x z hx => by
  have ne : x ≠ p := fun q => by
    rw [q, h] at hx
    cases hx
  rw [upd_ne ne]
  exact e x z hx
theorem lit_a1 : ("a" : Str) = tx [97] := by decide +kernel
theorem lit_b1 : ("b" : Str) = tx [98] := by decide +kernel
theorem low_1 {c : Nat} (h0 : 97 ≤ c) (h : c ≤ 122) : Low [c] := fun x hx => by
  rcases List.mem_singleton.mp hx with rfl
  exact ⟨h0, h⟩
def TxOk (x : V) : Prop := ∃ w : List Nat, x = .str (tx w) ∧ Low w ∧ 1 ≤ w.length ∧ w.length ≤ 1000
theorem s_listT {K : PySem.W.Frag} {H : Hp} {Q : VK} {a : Addr} {xs : List V} (h : SqT K H a xs) (q : NewO True (.lst xs) H Q) : rListOf K [.ref a] H Q := .inl ⟨a, xs, rfl, .inr h, q.2⟩
theorem same_none {H0 H1 : Hp} {p : Addr} (e : Same H0 H1) (h : H1 p = none) : H0 p = none := by
  cases q : H0 p with
  | none => rfl
  | some z =>
    rw [e _ _ q] at h
    cases h
theorem s_orT {K : PySem.W.Frag} {ta tb : TE} {σ : L2.St} {H : Hp} {Q : VK} (q : ta σ H fun x H1 => ∃ k, TruV K x H1 k ∧ if k = true then Q x H1 else tb σ H1 Q) : tOrT K ta tb σ H Q := q
theorem s_orC {K : PySem.W.Frag} {σ : L2.St} {H : Hp} {Q : VK} {l : List Nat} {v : V} (P : V → Prop) (hz : l.length ≤ 16777216) (h1 : l.length ≠ 0 → P (.str (tx l))) (h2 : P v) (q : ∀ x, P x → Q x H) : ∃ k, TruV K (.str (tx l)) H k ∧ if k = true then Q (.str (tx l)) H else tC v σ H Q := by
  refine ⟨(((tx l).length : Int) != 0), ⟨by rw [tx_len, sizeLine_eq]; exact hz, rfl⟩, ?_⟩
  refine ite2 (fun h => q _ (h1 fun e => ?_)) fun _ => q _ h2
  rw [tx_len, e] at h
  cases h
theorem tupleText_le : ∀ ts : List Str, (tupleText ts).length ≤ 3 + piled ts := fun ts => by
  unfold tupleText
  rw [Str.length_append, Str.length_append]
  have e1 : ((("(" : String) : Str)).length = 1 := by decide +kernel
  have e3 : (((if ts.length == 1 then ",)" else ")" : String) : Str)).length ≤ 2 := by split <;> decide +kernel
  rw [e1]
  by_cases h : ts = []
  · subst h
    show 1 + (Str.join ", " []).length + _ ≤ _
    have e2 : (Str.join ", " []).length = 0 := by decide +kernel
    rw [e2, piled_nil]
    omega
  · have := join_length_add ts h
    omega
theorem bd_tuple {c k n : Nat} {ds : List PyData} (h : ∀ d ∈ ds, Bd c k d) (hn : ds.length ≤ n) : Bd (3 + n * (c + 2)) (k + 1) (.tuple ds) := by
  obtain ⟨q1, q2, q3, q4⟩ := bd_all h
  refine ⟨?_, q1, q2, ?_⟩
  · show (tupleText (PyData.shownAll ds)).length ≤ _
    refine Nat.le_trans (tupleText_le _) ?_
    have l := piled_le _ q4
    rw [shownAll_map, List.length_map] at l
    rw [shownAll_map]
    have := Nat.mul_le_mul_right (c + 2) hn
    omega
  · show PyData.depthAll ds + 1 ≤ k + 1
    omega
theorem bd_tx {l : List Nat} {n : Nat} (h : Low l) (hz : l.length ≤ n) : Bd (10 * n + 2) 0 (.str (tx l)) := bd_str (by rw [tx_len]; exact hz) fun c hc => by have := h c hc; omega
theorem no_ints {x : Str} {xs : List V} {R : List Int → Prop} : ∀ ns : List Int, V.str x :: xs = ns.map V.int → R ns := fun ns e => by
  cases ns with
  | nil => cases e
  | cons n ns => cases e
section
variable {K : PySem.W.Frag} {H1 Hi : Hp} {a D : Addr} {xs acc : List V} {g : TG} {tt : TT} {te : TE} {vs : List Nat} {σ : L2.St} {Qd : Hp → Prop} {i n : Nat} {y : V} {lo : Int}
theorem lcT (hD : H1 D = none) (Pv : Nat → List V → Hp → Prop) (h0 : Pv 0 [] H1) (hl : ∀ i acc Hi, Pv i acc Hi → SqT K Hi a xs)
    (hs : ∀ i x acc Hi, xs[i]? = some x → i < xs.length → Hi D = none → acc.length ≤ i → Pv i acc Hi → g x (wipe σ vs) (upd Hi D (.lst acc)) fun σ2 H2 => wipe σ2 vs = wipe σ vs ∧ tt σ2 H2 fun b H3 =>
      if b = true then te σ2 H3 fun y H4 => ∃ acc, H4 D = some (.lst acc) ∧ acc.length < sizeLine ∧ PvD Pv D (i + 1) (upd H4 D (.lst (acc ++ [y]))) else PvD Pv D (i + 1) H3)
    (hd : ∀ acc Hi, Hi D = none → acc.length ≤ xs.length → Pv xs.length acc Hi → Qd (upd Hi D (.lst acc))) :
    ∃ W : Nat → Nat → Hp → Prop, (∃ m, W 0 m (upd H1 D (.lst []))) ∧ ∀ i m H, W i m H →
      ((Itt K a).stop i H ∧ Qd H) ∨ ((Itt K a).go i H ∧ ∃ Nx : Hp → Prop, (∀ H', Nx H' → ∃ m', m' < m ∧ W (i + 1) m' H') ∧ ∀ x H', (Itt K a).yld i H x H' → g x (wipe σ vs) H' fun σ2 H2 => wipe σ2 vs = wipe σ vs ∧ tt σ2 H2 fun b H3 =>
        if b = true then te σ2 H3 fun y H4 => ∃ acc, H4 D = some (.lst acc) ∧ acc.length < sizeLine ∧ Nx (upd H4 D (.lst (acc ++ [y]))) else Nx H3) := by
  refine lc_tup (xs := xs) (PvD Pv D) ⟨[], H1, rfl, hD, Nat.le_refl _, h0⟩ (fun i H _ p => ?_) (fun i x H e p => ?_) fun H p => ?_
  · obtain ⟨acc, Hi, rfl, h1, _, h2⟩ := p
    exact same_tup (same_new h1) (hl i acc Hi h2)
  · obtain ⟨acc, Hi, rfl, h1, h2, h3⟩ := p
    exact hs i x acc Hi e (List.getElem?_eq_some_iff.mp e).1 h1 h2 h3
  · obtain ⟨acc, Hi, rfl, h1, h2, h3⟩ := p
    exact hd acc Hi h1 h2 h3
end
/-- a new thing while a comprehension's list is hidden -/
theorem newH {H : Hp} {Q : VK} {D : Addr} {acc : List V} {o : HO} {C : Prop} (hD : H D = none) (hC : C) (q : ∀ r H2, Same H H2 → H2 r = some o → H2 D = none → Q (.ref r) (upd H2 D (.lst acc))) : NewO C o (upd H D (.lst acc)) Q := by
  refine ⟨hC, fun r hr => ?_⟩
  have ne : r ≠ D := fun e => by
    rw [e, upd_same] at hr
    cases hr
  rw [upd_ne ne] at hr
  rw [upd_comm (Ne.symm ne)]
  exact q r _ (same_new hr) upd_same (by rw [upd_ne (Ne.symm ne)]; exact hD)
theorem uD {n : Nat} (h : n + 65 < cLine) : n + 1 < cLine := by omega
section
variable {K : PySem.W.Frag} {H : Hp} {Q : VK} {a : Addr}
theorem s_sum {ns : List Int} (h : SqL K H a (ns.map V.int)) (q : Q (.int ns.sum) H) : rSum K [.ref a] H Q := ⟨a, ns, rfl, h, q⟩
theorem s_repr {v : V} {d : PyData} (h : Dp K H v d) (n : Nice d) (q : Q (.str d.shown) H) : rRepr K [v] H Q := ⟨v, d, rfl, h, n.sh, n.sw, n.sz, q⟩
end
end
section
/-- the first n letters of the word for ever -/
def rep (l : List Nat) (n : Nat) : List Nat := ((List.replicate (n / l.length + 1) l).flatten).take n
theorem rep_le (l : List Nat) (n : Nat) : (rep l n).length ≤ n := by
  unfold rep
  rw [List.length_take]
  exact Nat.min_le_left _ _
theorem low_rp {l : List Nat} (h : Low l) (n : Nat) : Low (rep l n) := (h.rep _).take _
def tw (l : List Nat) (a c : Int) : List Nat := rep l a.toNat ++ rep l (c - a + 1).toNat
open Classical in
/-- the first condition that does not hold -/
noncomputable def fl (l : List Nat) (a b c : Int) : Option Int :=
  if l.length < 2 ∨ ¬ Rt l l.length then some 0 else if ¬ (a < b ∧ b ≤ c) then some 1 else if (b - a) % (l.length : Int) ≠ 0 then some 2 else if a % (l.length : Int) = 0 then some 3
  else if (c - 2 * a) % (l.length : Int) ≠ 0 then some 4 else if l[0]? = l[(a % (l.length : Int)).toNat]? then none else some 5
theorem fl_none {l : List Nat} {a b c : Int} (h : fl l a b c = none) : 2 ≤ l.length ∧ a < b ∧ b ≤ c := by
  unfold fl at h
  split at h
  · cases h
  rename_i h1
  split at h
  · cases h
  rename_i h2
  exact ⟨by have : ¬ l.length < 2 := fun z => h1 (.inl z); omega, by omega, by omega⟩
section
variable {l : List Nat} {a b c : Int}
theorem fl_0 (h : l.length < 2 ∨ ¬ Rt l l.length) : fl l a b c = some 0 := by
  unfold fl
  rw [if_pos h]
theorem fl_1 (h : ¬ (l.length < 2 ∨ ¬ Rt l l.length)) (h1 : ¬ (a < b ∧ b ≤ c)) : fl l a b c = some 1 := by
  unfold fl
  rw [if_neg h, if_pos h1]
theorem fl_2 (h : ¬ (l.length < 2 ∨ ¬ Rt l l.length)) (h1 : ¬ ¬ (a < b ∧ b ≤ c)) (h2 : (b - a) % (l.length : Int) ≠ 0) : fl l a b c = some 2 := by
  unfold fl
  rw [if_neg h, if_neg h1, if_pos h2]
theorem fl_3 (h : ¬ (l.length < 2 ∨ ¬ Rt l l.length)) (h1 : ¬ ¬ (a < b ∧ b ≤ c)) (h2 : ¬ (b - a) % (l.length : Int) ≠ 0) (h3 : a % (l.length : Int) = 0) : fl l a b c = some 3 := by
  unfold fl
  rw [if_neg h, if_neg h1, if_neg h2, if_pos h3]
theorem fl_4 (h : ¬ (l.length < 2 ∨ ¬ Rt l l.length)) (h1 : ¬ ¬ (a < b ∧ b ≤ c)) (h2 : ¬ (b - a) % (l.length : Int) ≠ 0) (h3 : ¬ a % (l.length : Int) = 0) (h4 : (c - 2 * a) % (l.length : Int) ≠ 0) : fl l a b c = some 4 := by
  unfold fl
  rw [if_neg h, if_neg h1, if_neg h2, if_neg h3, if_pos h4]
theorem fl_5 (h : ¬ (l.length < 2 ∨ ¬ Rt l l.length)) (h1 : ¬ ¬ (a < b ∧ b ≤ c)) (h2 : ¬ (b - a) % (l.length : Int) ≠ 0) (h3 : ¬ a % (l.length : Int) = 0) (h4 : ¬ (c - 2 * a) % (l.length : Int) ≠ 0) (h5 : ¬ l[0]? = l[(a % (l.length : Int)).toNat]?) : fl l a b c = some 5 := by
  unfold fl
  rw [if_neg h, if_neg h1, if_neg h2, if_neg h3, if_neg h4, if_neg h5]
theorem fl_6 (h : ¬ (l.length < 2 ∨ ¬ Rt l l.length)) (h1 : ¬ ¬ (a < b ∧ b ≤ c)) (h2 : ¬ (b - a) % (l.length : Int) ≠ 0) (h3 : ¬ a % (l.length : Int) = 0) (h4 : ¬ (c - 2 * a) % (l.length : Int) ≠ 0) (h5 : l[0]? = l[(a % (l.length : Int)).toNat]?) : fl l a b c = none := by
  unfold fl
  rw [if_neg h, if_neg h1, if_neg h2, if_neg h3, if_neg h4, if_pos h5]
end
theorem rt_whole {l : List Nat} {s : Nat} (r : Rt l s) (h : 1 ≤ l.length) : l.take s = l ↔ Rt l l.length := by
  have hs := rt_le r h
  constructor
  · intro e
    have : s = l.length := by
      have := congrArg List.length e
      rw [List.length_take] at this
      omega
    rw [← this]
    exact r
  · intro q
    rw [rt_uniq r q, List.take_of_length_le (Nat.le_refl _)]
/-! ### twins: the plain law -/
/-- the letter of a place of the word for ever -/
def lt (l : List Nat) (x : Int) : Option Nat := l[(x % (l.length : Int)).toNat]?
theorem lt_add {l : List Nat} {x y : Int} (h : (l.length : Int) ∣ x - y) : lt l x = lt l y := by
  unfold lt
  rw [Int.emod_eq_emod_iff_emod_sub_eq_zero.mpr (Int.emod_eq_zero_of_dvd h)]
theorem lt_nat (l : List Nat) (i : Nat) : lt l i = l[i % l.length]? := by
  unfold lt
  rw [show ((i : Int) % (l.length : Int)).toNat = i % l.length by omega]
theorem rep_get {l : List Nat} (h : 1 ≤ l.length) (n i : Nat) : (rep l n)[i]? = if i < n then l[i % l.length]? else none := by
  unfold rep
  rw [List.getElem?_take]
  refine ite_congr rfl (fun hi => ?_) fun _ => rfl
  refine rep_at ?_
  have q := Nat.lt_div_mul_add (a := n) (b := l.length) (by omega)
  rw [Nat.add_mul, Nat.one_mul]
  omega
theorem rep_length {l : List Nat} (h : 1 ≤ l.length) (n : Nat) : (rep l n).length = n := by
  unfold rep
  rw [List.length_take, rep_len]
  have q := Nat.lt_div_mul_add (a := n) (b := l.length) (by omega)
  rw [Nat.add_mul, Nat.one_mul]
  omega
theorem tw_length {l : List Nat} {a c : Int} (h : 1 ≤ l.length) (h0 : 0 ≤ a) (h1 : a ≤ c + 1) (h2 : 0 ≤ c) : ((tw l a c).length : Int) = c + 1 := by
  unfold tw
  rw [List.length_append, rep_length h, rep_length h]
  omega
theorem tw_get {l : List Nat} {a c : Int} (h : 1 ≤ l.length) (h0 : 0 ≤ a) (h1 : a ≤ c + 1) (i : Nat) : (tw l a c)[i]? = if (i : Int) < a then lt l i else if (i : Int) ≤ c then lt l ((i : Int) - a) else none := by
  unfold tw
  by_cases c1 : (i : Int) < a
  · rw [if_pos c1, List.getElem?_append_left (by rw [rep_length h]; omega), rep_get h, if_pos (by omega), lt_nat]
  · rw [if_neg c1, List.getElem?_append_right (by rw [rep_length h]; omega), rep_length h, rep_get h]
    by_cases c2 : (i : Int) ≤ c
    · rw [if_pos c2, if_pos (by omega), ← lt_nat, show ((i - a.toNat : Nat) : Int) = i - a by omega]
    · rw [if_neg c2, if_neg (by omega)]
theorem mk_get {l : List Nat} {p : Nat} (h : p < l.length) (i : Nat) : (mk l p)[i]? = if i < p then l[i]? else if i < p + l.length then l[i - p]? else l[i + 1 - l.length]? := by
  unfold mk
  have e : (l.take p).length = p := by rw [List.length_take]; omega
  by_cases c1 : i < p
  · rw [if_pos c1, List.append_assoc, List.getElem?_append_left (by omega), List.getElem?_take, if_pos c1]
  · rw [if_neg c1]
    by_cases c2 : i < p + l.length
    · rw [if_pos c2, List.append_assoc, List.getElem?_append_right (by omega), e, List.getElem?_append_left (by omega)]
    · rw [if_neg c2, List.getElem?_append_right (by rw [List.length_append]; omega), List.length_append, e, List.getElem?_drop]
      congr 1
      omega
/-- the five conditions -/
structure TwOk (l : List Nat) (a b c : Int) : Prop where
  n2 : 2 ≤ l.length
  rt : Rt l l.length
  ab : a < b
  bc : b ≤ c
  d2 : (l.length : Int) ∣ b - a
  d3 : ¬ (l.length : Int) ∣ a
  d4 : (l.length : Int) ∣ c - 2 * a
  d5 : lt l 0 = lt l a
theorem twok_fl {l : List Nat} {a b c : Int} (t : TwOk l a b c) : fl l a b c = none := by
  refine fl_6 (fun q => q.elim (fun q => by have := t.n2; omega) fun q => q t.rt) (fun q => q ⟨t.ab, t.bc⟩) (fun q => q (Int.emod_eq_zero_of_dvd t.d2)) (fun q => t.d3 (Int.dvd_of_emod_eq_zero q)) (fun q => q (Int.emod_eq_zero_of_dvd t.d4)) ?_
  have := t.d5
  unfold lt at this
  rw [Int.zero_emod] at this
  exact this
theorem twok_call {l : List Nat} {a b c : Int} (t : TwOk l a b c) (a0 : 0 ≤ a) : mk (tw l b c) a.toNat = mk (tw l a c) b.toNat := by
  obtain ⟨n2, _, ab, bc, d2, _, d4, d5⟩ := t
  have n1 : 1 ≤ l.length := by omega
  have z1 := tw_length n1 (a := b) (c := c) (by omega) (by omega) (by omega)
  have z2 := tw_length n1 (a := a) (c := c) (by omega) (by omega) (by omega)
  refine List.ext_getElem? fun i => ?_
  rw [mk_get (by omega), mk_get (by omega)]
  have g1 := fun j => tw_get n1 (a := b) (c := c) (by omega) (by omega) j
  have g2 := fun j => tw_get n1 (a := a) (c := c) (by omega) (by omega) j
  generalize tw l b c = u at *
  generalize tw l a c = v at *
  by_cases c1 : (i : Int) < a
  · rw [if_pos (by omega), if_pos (by omega), g1, g2, if_pos (by omega), if_pos (by omega)]
  rw [if_neg (by omega)]
  by_cases c2 : (i : Int) < b
  · rw [if_pos (by omega), if_pos (by omega), g1, g2, if_pos (by omega), if_neg (by omega), if_pos (by omega)]
    congr 1
    omega
  rw [if_neg (show ¬ i < b.toNat by omega)]
  by_cases c3 : (i : Int) < a + b
  · rw [if_pos (by omega), if_pos (by omega), g1, g2, if_pos (by omega), if_pos (by omega)]
    refine lt_add ?_
    rw [show ((i - a.toNat : Nat) : Int) - ((i - b.toNat : Nat) : Int) = b - a by omega]
    exact d2
  by_cases c4 : (i : Int) ≤ a + c
  · rw [if_pos (by omega), if_pos (by omega), g1, g2, if_neg (by omega), if_pos (by omega), if_neg (by omega), if_pos (by omega)]
    congr 1
    omega
  rw [if_neg (by omega)]
  by_cases c5 : (i : Int) ≤ b + c
  · rw [if_pos (by omega), g1, g2, if_neg (show ¬ ((i - b.toNat : Nat) : Int) < a by omega), if_pos (show ((i - b.toNat : Nat) : Int) ≤ c by omega)]
    by_cases c6 : (i : Int) - c < b
    · rw [if_pos (by omega)]
      refine lt_add ?_
      rw [show ((i + 1 - u.length : Nat) : Int) - (((i - b.toNat : Nat) : Int) - a) = (b - a) - (c - 2 * a) by omega]
      exact Int.dvd_sub d2 d4
    · rw [if_neg (by omega), if_pos (by omega), show ((i + 1 - u.length : Nat) : Int) - b = 0 by omega, d5]
      refine lt_add ?_
      rw [show a - (((i - b.toNat : Nat) : Int) - a) = - (c - 2 * a) by omega]
      exact Int.dvd_neg.mpr d4
  · rw [if_neg (by omega), g1, g2]
    by_cases c6 : (i : Int) ≤ 2 * c
    · rw [if_neg (by omega), if_pos (by omega), if_neg (by omega), if_pos (by omega)]
      refine lt_add ?_
      rw [show ((i + 1 - u.length : Nat) : Int) - b - (((i + 1 - v.length : Nat) : Int) - a) = - (b - a) by omega]
      exact Int.dvd_neg.mpr d2
    · rw [if_neg (by omega), if_neg (by omega), if_neg (by omega), if_neg (by omega)]
theorem rt_turn {l : List Nat} (R : Rt l l.length) {r : Nat} (r0 : 0 < r) (r1 : r < l.length) (h : ∀ i, l[(i + r) % l.length]? = l[i % l.length]?) : False := by
  have pg := per_gcd (fun i => l[i % l.length]?) r l.length h (fun i => by rw [Nat.add_mod_right])
  have g1 : 1 ≤ Nat.gcd r l.length := Nat.gcd_pos_of_pos_left _ r0
  have g2 : Nat.gcd r l.length ≤ r := Nat.le_of_dvd r0 (Nat.gcd_dvd_left _ _)
  refine R.2.2 _ g1 (by omega) ⟨Nat.mod_eq_zero_of_dvd (Nat.gcd_dvd_right _ _), fun i hi => ?_⟩
  have pk : ∀ q i, l[(i + Nat.gcd r l.length * q) % l.length]? = l[i % l.length]? := fun q => by
    induction q with
    | zero => intro i; rfl
    | succ q ih => intro i; rw [Nat.mul_succ, ← Nat.add_assoc]; exact (pg _).trans (ih i)
  have z := pk (i / Nat.gcd r l.length) (i % Nat.gcd r l.length)
  rw [Nat.mod_add_div] at z
  have hm : i % Nat.gcd r l.length < Nat.gcd r l.length := Nat.mod_lt _ g1
  rw [Nat.mod_eq_of_lt hi, Nat.mod_eq_of_lt (show i % Nat.gcd r l.length < l.length by omega)] at z
  exact z
theorem twok_ne {l : List Nat} {a b c : Int} (t : TwOk l a b c) (a0 : 0 ≤ a) : tw l b c ≠ tw l a c := by
  intro e
  obtain ⟨n2, R, ab, bc, d2, d3, d4, d5⟩ := t
  have n1 : 1 ≤ l.length := by omega
  have le : (l.length : Int) ≤ b - a := Int.le_of_dvd (by omega) d2
  have m0 := Int.emod_nonneg a (show (l.length : Int) ≠ 0 by omega)
  have m1 := Int.emod_lt_of_pos a (show (0 : Int) < l.length by omega)
  refine rt_turn R (r := (a % (l.length : Int)).toNat) (by have : ¬ a % (l.length : Int) = 0 := fun z => d3 (Int.dvd_of_emod_eq_zero z); omega) (by omega) fun i => ?_
  have hi : i % l.length < l.length := Nat.mod_lt _ (by omega)
  have z : (tw l b c)[a.toNat + i % l.length]? = (tw l a c)[a.toNat + i % l.length]? := by rw [e]
  rw [tw_get n1 (by omega) (by omega), tw_get n1 (by omega) (by omega), if_pos (by omega), if_neg (by omega), if_pos (by omega)] at z
  have z2 : lt l ((i % l.length : Nat) : Int) = l[i % l.length]? := by rw [lt_nat, Nat.mod_mod]
  rw [show ((a.toNat + i % l.length : Nat) : Int) - a = ((i % l.length : Nat) : Int) by omega, z2] at z
  rw [← z, ← lt_nat]
  refine lt_add ?_
  have q1 := Int.mul_ediv_add_emod a (l.length : Int)
  have q2 := Nat.div_add_mod i l.length
  generalize hk : i % l.length = k at *
  refine ⟨(i / l.length : Nat) - a / (l.length : Int), ?_⟩
  rw [Int.mul_sub]
  have : ((l.length * (i / l.length) : Nat) : Int) = (l.length : Int) * ((i / l.length : Nat) : Int) := Int.natCast_mul _ _
  omega
/-! ### words that are no repetition -/
theorem rt_of {l : List Nat} (h : 1 ≤ l.length) (q : ∀ d, 1 ≤ d → d < l.length → l.length % d = 0 → (∀ i, i < l.length → l[i]? = l[i % d]?) → False) : Rt l l.length := ⟨h, cy_all l, fun t h1 h2 c => q t h1 h2 c.1 c.2⟩
theorem rt_ab {x y : Nat} (ne : x ≠ y) {s t : Nat} (hs : 1 ≤ s) (ht : 1 ≤ t) : Rt (List.replicate s x ++ List.replicate t y) (s + t) := by
  have hl : (List.replicate s x ++ List.replicate t y).length = s + t := by rw [List.length_append, List.length_replicate, List.length_replicate]
  have at_ : ∀ i, (List.replicate s x ++ List.replicate t y)[i]? = if i < s then some x else if i < s + t then some y else none := fun i => by
    by_cases c : i < s
    · rw [if_pos c, List.getElem?_append_left (by rw [List.length_replicate]; exact c), List.getElem?_replicate, if_pos c]
    · rw [if_neg c, List.getElem?_append_right (by rw [List.length_replicate]; omega), List.getElem?_replicate, List.length_replicate]
      by_cases c2 : i < s + t
      · rw [if_pos c2, if_pos (by omega)]
      · rw [if_neg c2, if_neg (by omega)]
  rw [← hl]
  refine rt_of (by omega) fun d h1 h2 hd q => ?_
  rw [hl] at h2 hd q
  have z1 := q (s + t - 1) (by omega)
  have e1 : (s + t - 1) % d = d - 1 := by
    obtain ⟨k, hk⟩ := Nat.dvd_of_mod_eq_zero hd
    have hk1 : 1 ≤ k := by
      rcases Nat.eq_zero_or_pos k with h | h
      · rw [h, Nat.mul_zero] at hk
        omega
      · exact h
    obtain ⟨j, rfl⟩ : ∃ j, k = j + 1 := ⟨k - 1, by omega⟩
    rw [Nat.mul_succ] at hk
    rw [show s + t - 1 = d - 1 + d * j by omega, Nat.add_mul_mod_self_left, Nat.mod_eq_of_lt (by omega)]
  rw [e1, at_, at_, if_neg (by omega), if_pos (by omega)] at z1
  have hd2 : s ≤ d - 1 := by
    by_cases c : d - 1 < s
    · rw [if_pos c] at z1
      exact absurd (Option.some.inj z1).symm ne
    · omega
  have z2 := q d h2
  rw [Nat.mod_self, at_, at_, if_neg (by omega), if_pos h2, if_pos (by omega)] at z2
  exact ne (Option.some.inj z2).symm
theorem rt_aba {x y : Nat} (ne : x ≠ y) {t : Nat} (ht : 1 ≤ t) : Rt ([x] ++ List.replicate t y ++ [x]) (t + 2) := by
  have hl : ([x] ++ List.replicate t y ++ [x]).length = t + 2 := by simp
  have at_ : ∀ i, i < t + 2 → ([x] ++ List.replicate t y ++ [x])[i]? = if i = 0 then some x else if i < t + 1 then some y else some x := fun i hi => by
    by_cases c : i < t + 1
    · rw [List.getElem?_append_left (by simp; omega)]
      by_cases c0 : i = 0
      · rw [if_pos c0, c0]
        rfl
      · rw [if_neg c0, if_pos c, List.getElem?_append_right (by simp; omega), List.getElem?_replicate, if_pos (by simp; omega)]
    · rw [if_neg (by omega), if_neg c, List.getElem?_append_right (by simp; omega), show i - ([x] ++ List.replicate t y).length = 0 by simp; omega]
      rfl
  rw [← hl]
  refine rt_of (by omega) fun d h1 h2 hd q => ?_
  rw [hl] at h2 hd q
  have z1 := q (t + 1) (by omega)
  have e1 : (t + 1) % d = d - 1 := by
    obtain ⟨k, hk⟩ := Nat.dvd_of_mod_eq_zero hd
    have hk1 : 1 ≤ k := by
      rcases Nat.eq_zero_or_pos k with h | h
      · rw [h, Nat.mul_zero] at hk
        omega
      · exact h
    obtain ⟨j, rfl⟩ : ∃ j, k = j + 1 := ⟨k - 1, by omega⟩
    rw [Nat.mul_succ] at hk
    rw [show t + 1 = d - 1 + d * j by omega, Nat.add_mul_mod_self_left, Nat.mod_eq_of_lt (by omega)]
  rw [e1, at_ _ (by omega), at_ _ (by omega), if_neg (by omega), if_neg (by omega)] at z1
  by_cases c : d - 1 = 0
  · have z2 := q 1 (by omega)
    have hd1 : d = 1 := by omega
    rw [hd1, at_ _ (by omega), at_ _ (by omega), if_neg (by omega), if_pos (by omega), if_pos (by omega)] at z2
    exact ne (Option.some.inj z2).symm
  · rw [if_neg c, if_pos (by omega)] at z1
    exact ne (Option.some.inj z1)
/-! ### each letter several times -/
def wide (l : List Nat) (k : Nat) : List Nat := (l.map fun e => (List.replicate k [e]).flatten).flatten
theorem rep1_at {e k i : Nat} (h : i < k) : ((List.replicate k [e]).flatten)[i]? = some e := by
  rw [rep_at (by simp; omega)]
  simp [Nat.mod_one]
theorem wide_length (l : List Nat) (k : Nat) : (wide l k).length = l.length * k := by
  unfold wide
  induction l with
  | nil => simp
  | cons x l ih => rw [List.map_cons, List.flatten_cons, List.length_append, ih, rep_len, List.length_singleton, List.length_cons, Nat.succ_mul]; omega
theorem wide_at {k : Nat} (hk : 1 ≤ k) : ∀ (l : List Nat) (i : Nat), (wide l k)[i]? = l[i / k]? := fun l => by
  induction l with
  | nil => intro i; simp [wide]
  | cons x l ih =>
    intro i
    show ((List.replicate k [x]).flatten ++ wide l k)[i]? = _
    by_cases c : i < k
    · rw [List.getElem?_append_left (by rw [rep_len]; simp; exact c), rep1_at c, Nat.div_eq_of_lt c]
      rfl
    · rw [List.getElem?_append_right (by rw [rep_len]; simp; omega), rep_len, List.length_singleton, Nat.mul_one, ih]
      have e : i / k = (i - k) / k + 1 := by
        conv => lhs; rw [show i = (i - k) + k by omega]
        exact Nat.add_div_right _ hk
      rw [e]
      rfl
theorem wide_lt {l : List Nat} {k : Nat} (hk : 1 ≤ k) (hl : 1 ≤ l.length) (x : Int) : lt (wide l k) (x * k) = lt l x := by
  unfold lt
  rw [wide_length, wide_at hk, Int.natCast_mul, Int.mul_comm x, Int.mul_comm (l.length : Int), Int.mul_emod_mul_of_pos _ _ (by omega)]
  congr 1
  have := Int.emod_nonneg x (show (l.length : Int) ≠ 0 by omega)
  obtain ⟨m, hm⟩ := Int.eq_ofNat_of_zero_le this
  rw [hm]
  rw [show ((k : Int) * (m : Int)).toNat = k * m by rw [← Int.natCast_mul]; rfl, Nat.mul_div_cancel_left _ (by omega)]
  rfl
theorem wide_rt {l : List Nat} {k : Nat} (hk : 1 ≤ k) (h2 : 2 ≤ l.length) (R : Rt l l.length) : Rt (wide l k) (wide l k).length := by
  have hlk : 1 ≤ l.length * k := Nat.mul_pos (by omega) hk
  have hW := wide_length l k
  refine rt_of (by omega) fun d d1 d2 hd q => ?_
  rw [hW] at d2 hd q
  have per : ∀ i, l[(i + d) / k % l.length]? = l[i / k % l.length]? := fun i => by
    have f : ∀ j, l[j / k % l.length]? = (wide l k)[j % d]? := fun j => by
      have e : (wide l k)[j % (l.length * k)]? = l[j / k % l.length]? := by
        rw [wide_at hk]
        congr 1
        rw [Nat.mul_comm, Nat.mod_mul_right_div_self]
      rw [← e, q _ (Nat.mod_lt _ (by omega)), Nat.mod_mod_of_dvd _ (Nat.dvd_of_mod_eq_zero hd)]
    rw [f, f, Nat.add_mod_right]
  by_cases c : d % k = 0
  · obtain ⟨e, rfl⟩ := Nat.dvd_of_mod_eq_zero c
    have he : 1 ≤ e := by
      rcases Nat.eq_zero_or_pos e with h | h
      · rw [h, Nat.mul_zero] at d1
        omega
      · exact h
    have hlt : e < l.length := by
      rw [Nat.mul_comm k e] at d2
      exact Nat.lt_of_mul_lt_mul_right d2
    refine rt_turn R he hlt fun i => ?_
    have z := per (i * k)
    rw [Nat.mul_comm k e, ← Nat.add_mul, Nat.mul_div_cancel _ (by omega), Nat.mul_div_cancel _ (by omega)] at z
    exact z
  · -- the word is of one letter
    have hk0 : 0 < k := hk
    have hr := Nat.mod_lt d hk0
    have hdd := Nat.div_add_mod d k
    refine rt_turn R (r := 1) (by omega) (by omega) fun i => ?_
    have step : ∀ j, l[(j + d / k + 1) % l.length]? = l[(j + d / k) % l.length]? := fun j => by
      have z1 := per (k * j)
      have z2 := per (k * j + (k - 1))
      rw [Nat.mul_div_cancel_left _ hk0] at z1
      rw [show k * j + (k - 1) = (k - 1) + k * j by omega, Nat.add_mul_div_left _ _ hk0, Nat.div_eq_of_lt (show k - 1 < k by omega), Nat.zero_add] at z2
      rw [← z2] at z1
      have e1 : (k * j + d) / k = j + d / k := by
        rw [Nat.add_comm, Nat.add_mul_div_left _ _ hk0, Nat.add_comm]
      have e2 : (k - 1 + k * j + d) / k = j + d / k + 1 := by
        rw [show k - 1 + k * j + d = (k - 1 + d % k - k) + k * (j + d / k + 1) by rw [Nat.mul_add, Nat.mul_add]; omega, Nat.add_mul_div_left _ _ hk0, Nat.div_eq_of_lt (by omega), Nat.zero_add]
      rw [e1, e2] at z1
      exact z1.symm
    -- from any place
    have z := step (i + (l.length * (d / k) - d / k))
    have hle : d / k ≤ l.length * (d / k) := Nat.le_mul_of_pos_left _ (by omega)
    rw [show i + (l.length * (d / k) - d / k) + d / k + 1 = (i + 1) + l.length * (d / k) by omega, show i + (l.length * (d / k) - d / k) + d / k = i + l.length * (d / k) by omega, Nat.add_mul_mod_self_left, Nat.add_mul_mod_self_left] at z
    exact z
theorem twok_wide {l : List Nat} {a b c k : Int} (t : TwOk l a b c) (hk : 1 ≤ k) : TwOk (wide l k.toNat) (a * k) (b * k) (c * k) := by
  obtain ⟨n2, R, ab, bc, d2, d3, d4, d5⟩ := t
  obtain ⟨k, rfl⟩ := Int.eq_ofNat_of_zero_le (show 0 ≤ k by omega)
  have hk1 : 1 ≤ k := by omega
  have hW := wide_length l k
  have hL : ((wide l k).length : Int) = (l.length : Int) * k := by rw [hW, Int.natCast_mul]
  have hle : l.length * 1 ≤ l.length * k := Nat.mul_le_mul_left _ hk1
  show TwOk (wide l k) _ _ _
  refine ⟨by omega, wide_rt hk1 n2 R, Int.mul_lt_mul_of_pos_right ab (by omega), Int.mul_le_mul_of_nonneg_right bc (by omega), ?_, fun q => d3 ?_, ?_, ?_⟩
  · rw [hL, ← Int.sub_mul]
    exact Int.mul_dvd_mul d2 (Int.dvd_refl _)
  · rw [hL] at q
    exact Int.dvd_of_mul_dvd_mul_right (by omega) q
  · rw [hL, ← Int.mul_assoc, ← Int.sub_mul]
    exact Int.mul_dvd_mul d4 (Int.dvd_refl _)
  · have z := wide_lt hk1 (show 1 ≤ l.length by omega) 0
    rw [Int.zero_mul] at z
    rw [z, wide_lt hk1 (by omega)]
    exact d5
end
section
/-- one step of a reading (e: none past a statement's end) -/
local macro_rules
  | `(tactic| walk_at "e") => `(tactic| first
    | with_reducible refine s_ifs ?_
    | with_reducible refine s_test ?_
    | with_reducible refine s_truth ?_
    | with_reducible refine s_op ?_
    | with_reducible refine s_un ?_
    | with_reducible refine s_asg ?_
    | with_reducible refine s_ret ?_
    | with_reducible refine s_next ?_
    | with_reducible refine s_drop ?_
    | with_reducible refine s_c ?_
    | ((with_reducible refine s_var (v := ?v) ?e ?q); case e => exact rfl)
    | with_reducible refine s_name ?_
    | with_reducible refine s_exq ?_
    | with_reducible refine s_cons ?_
    | with_reducible refine s_nil ?_
    | with_reducible refine s_lst ?_
    | with_reducible refine s_tup ?_
    | with_reducible refine s_cb ?_
    | with_reducible refine s_call ?_
    | with_reducible refine s_and ?_
    | with_reducible refine s_or ?_
    | with_reducible refine s_not ?_
    | with_reducible refine s_andV ?_
    | with_reducible refine s_orV ?_
    | with_reducible refine s_notV ?_
    | with_reducible refine s_ife ?_
    | with_reducible refine s_chain ?_
    | with_reducible refine s_addI ?_
    | with_reducible refine s_sub ?_
    | with_reducible refine s_neg ?_
    | with_reducible refine s_eqI ?_
    | with_reducible refine s_eqX ?_
    | with_reducible refine s_eqT ?_
    | with_reducible refine s_eqB ?_
    | with_reducible refine s_eqNI ?_
    | with_reducible refine s_eqIN ?_
    | with_reducible refine s_eqNN ?_
    | with_reducible refine s_neI ?_
    | with_reducible refine s_neX ?_
    | with_reducible refine s_neT ?_
    | with_reducible refine s_neB ?_
    | with_reducible refine s_lt ?_
    | with_reducible refine s_le ?_
    | with_reducible refine s_gt ?_
    | with_reducible refine s_ge ?_
    | with_reducible refine s_isN ?_
    | with_reducible refine s_isS ?_
    | with_reducible refine s_truB ?_
    | with_reducible refine s_truI ?_
    | with_reducible refine s_truN ?_
    | with_reducible refine s_abs ?_
    | with_reducible refine s_min2 ?_
    | with_reducible refine s_max2 ?_
    | with_reducible refine s_intI ?_
    | with_reducible refine s_intB ?_
    | with_reducible refine s_ifT ?_
    | with_reducible refine s_ifF ?_
    | with_reducible refine s_ifnT ?_
    | with_reducible refine s_ifnF ?_
    | with_reducible refine s_gSub ?_
    | with_reducible refine s_gTup ?_
    | with_reducible refine s_augS ?_
    | ((with_reducible refine s_aug (x := ?v) ?e ?q); case e => exact rfl)
    | with_reducible refine s_yes ?_
    | with_reducible refine s_par ?_
    | with_reducible refine s_two ?_
    | with_reducible refine s_m1 ?_
    | with_reducible refine s_isstr ?_
    | with_reducible refine s_rev0 ?_
    | with_reducible refine s_gCons ?_
    | with_reducible refine s_gNil ?_
    | with_reducible refine s_ipI ?_
    | with_reducible refine s_ipA ?_
    | with_reducible refine s_sl ?_
    | with_reducible refine s_noPart ?_
    | with_reducible refine s_part ?_
    | with_reducible refine s_parte ?_
    | with_reducible refine s_for ?_
    | with_reducible refine s_lc ?_
    | with_reducible refine s_iL ?_
    | with_reducible refine s_iE ?_
    | with_reducible refine s_iS ?_
    | with_reducible refine s_iT ?_
    | with_reducible refine s_itS ?_
    | with_reducible refine s_iR1 ?_
    | with_reducible refine s_iR2 ?_
    | with_reducible refine s_iR3 ?_
    | with_reducible refine s_rg1 ?_
    | with_reducible refine s_rg2 ?_
    | with_reducible refine s_rg1e ?_
    | with_reducible refine s_rg2e ?_
    | with_reducible refine s_lrg ?_
    | with_reducible refine s_lr3 ?_
    | with_reducible refine s_bm ?_
    | with_reducible refine s_bm0 ?_
    | with_reducible refine s_retN ?_)
  | `(tactic| walk_at "s") => `(tactic| first
    | with_reducible refine s_seq ?_
    | walk_at "e")

def vN : Option Int → V
  | none => .non
  | some i => .int i
def sp_repeated (K : PySem.W.Frag) : Sp := sp2 fun x y H Q _ => ∃ (l : List Nat) (n : Int), x = .str (tx l) ∧ y = .int n ∧ 1 ≤ l.length ∧ l.length ≤ 10000 ∧ 0 ≤ n ∧ n ≤ 10000 ∧ Q (.str (tx (rep l n.toNat))) H
abbrev sp_zrepeated (K : PySem.W.Frag) : Sp := sp_repeated K
def sp_failed (K : PySem.W.Frag) : Sp := sp4 fun x y z u H Q _ => ∃ (l : List Nat) (a b c : Int), x = .str (tx l) ∧ y = .int a ∧ z = .int b ∧ u = .int c ∧ l.length ≤ 10000 ∧ 0 ≤ a ∧ a ≤ 9000 ∧ Q (vN (fl l a b c)) H
def sp_zfailed (K : PySem.W.Frag) : Sp := sp1 fun x H Q _ => ∃ (p : Addr) (l : List Nat) (a b c : Int), x = .ref p ∧ SqT K H p [.str (tx l), .int a, .int b, .int c] ∧ l.length ≤ 10000 ∧ 0 ≤ a ∧ a ≤ 9000 ∧ Q (vN (fl l a b c)) H

def sp_twins (K : PySem.W.Frag) : Sp := sp4 fun x y z u H Q _ => ∃ (l : List Nat) (a b c : Int), x = .str (tx l) ∧ y = .int a ∧ z = .int b ∧ u = .int c ∧ l.length ≤ 10000 ∧ 0 ≤ a ∧ a ≤ 9000 ∧ c ≤ 9000 ∧ fl l a b c = none ∧ NewO True (.tup [.str (tx (tw l b c)), .str (tx (tw l a c))]) H Q
def sp_ztwins (K : PySem.W.Frag) : Sp := sp1 fun x H Q _ => ∃ (p : Addr) (l : List Nat) (a b c : Int), x = .ref p ∧ SqT K H p [.str (tx l), .int a, .int b, .int c] ∧ l.length ≤ 10000 ∧ 1 ≤ l.length ∧ 0 ≤ a ∧ 0 ≤ b ∧ a ≤ c ∧ b ≤ c ∧ c ≤ 9000 ∧ NewO True (.tup [.str (tx (tw l b c)), .str (tx (tw l a c))]) H Q
section
variable {K : PySem.W.Frag} {H : Hp} {Q : VK} {E : XK} {l : List Nat} {a b c n : Int} {p : Addr}
theorem s_repeated (h1 : 1 ≤ l.length) (h2 : l.length ≤ 10000) (h3 : 0 ≤ n) (h4 : n ≤ 10000) (q : Q (.str (tx (rep l n.toNat))) H) : Fr (sp_repeated K) [.str (tx l), .int n] H Q E := s_all ⟨_, _, rfl, l, n, rfl, rfl, h1, h2, h3, h4, q⟩
theorem s_zrepeated (h1 : 1 ≤ l.length) (h2 : l.length ≤ 10000) (h3 : 0 ≤ n) (h4 : n ≤ 10000) (q : Q (.str (tx (rep l n.toNat))) H) : Fr (sp_zrepeated K) [.str (tx l), .int n] H Q E := s_repeated h1 h2 h3 h4 q
theorem s_zrt (h1 : 1 ≤ l.length) (h2 : l.length ≤ 1000000) (q : ∀ s, Rt l s → Q (.str (tx (l.take s))) H) : Fr (sp_zroot K) [.str (tx l)] H Q E := s_root h1 h2 q
end
def t_repeated (K : PySem.W.Frag) : TS :=
  (tRet (tSl (rCut K) (tOp rTimes (tVar 0) (tOp (rPlus K) (tOp rDiv (tVar 1) (tCB (rLen K) (tCons (tVar 0) tNil))) (tC (.int 1)))) tNoPart (tPart (tVar 1))))
theorem pu_repeated {K : PySem.W.Frag} (vs : List V) (H : Hp) (Q : VK) (E : XK) (h : sp_repeated K vs H Q E) : t_repeated K { nx := fun _ H' => Q .non H', rt := Q } (start ["word", "many"] vs) H := by
  obtain ⟨_, _, rfl, l, n, rfl, rfl, h1, h2, h3, h4, hQ⟩ := h
  unfold t_repeated
  repeat' walk_at "s"
  refine s_lenX (by omega) ?_
  repeat' walk_at "s"
  refine s_div ⟨by omega, lg (by omega) (by omega)⟩ ?_
  have hd : n / (l.length : Int) = ((n.toNat / l.length : Nat) : Int) := by
    conv => lhs; rw [show n = (n.toNat : Int) by omega]
    rfl
  have hdl : n.toNat / l.length ≤ n.toNat := Nat.div_le_self _ _
  have hm : n.toNat / l.length * l.length ≤ n.toNat := Nat.div_mul_le_self _ _
  rw [hd]
  repeat' walk_at "s"
  generalize hq : n.toNat / l.length = q at hdl hm ⊢
  have e1 : ((q : Int) + 1).toNat = q + 1 := by omega
  refine s_mulX ?_ (by omega) (by omega) ?_
  · rw [e1, Nat.mul_add, Nat.mul_comm]
    omega
  repeat' walk_at "s"
  rw [e1]
  refine s_toX ?_ h3 ?_
  · rw [rep_len, Nat.add_mul]
    omega
  subst hq
  exact hQ
def t_zrepeated (K : PySem.W.Frag) : TS :=
  (tRet (tSl (rCut K) (tOp rTimes (tVar 0) (tOp (rPlus K) (tOp rDiv (tVar 1) (tCB (rLen K) (tCons (tVar 0) tNil))) (tC (.int 1)))) tNoPart (tPart (tVar 1))))
theorem pu_zrepeated {K : PySem.W.Frag} (vs : List V) (H : Hp) (Q : VK) (E : XK) (h : sp_zrepeated K vs H Q E) : t_zrepeated K { nx := fun _ H' => Q .non H', rt := Q } (start ["_law_word", "_law_many"] vs) H := by
  obtain ⟨_, _, rfl, l, n, rfl, rfl, h1, h2, h3, h4, hQ⟩ := h
  unfold t_zrepeated
  repeat' walk_at "s"
  refine s_lenX (by omega) ?_
  repeat' walk_at "s"
  refine s_div ⟨by omega, lg (by omega) (by omega)⟩ ?_
  have hd : n / (l.length : Int) = ((n.toNat / l.length : Nat) : Int) := by
    conv => lhs; rw [show n = (n.toNat : Int) by omega]
    rfl
  have hdl : n.toNat / l.length ≤ n.toNat := Nat.div_le_self _ _
  have hm : n.toNat / l.length * l.length ≤ n.toNat := Nat.div_mul_le_self _ _
  rw [hd]
  repeat' walk_at "s"
  generalize hq : n.toNat / l.length = q at hdl hm ⊢
  have e1 : ((q : Int) + 1).toNat = q + 1 := by omega
  refine s_mulX ?_ (by omega) (by omega) ?_
  · rw [e1, Nat.mul_add, Nat.mul_comm]
    omega
  repeat' walk_at "s"
  rw [e1]
  refine s_toX ?_ h3 ?_
  · rw [rep_len, Nat.add_mul]
    omega
  subst hq
  exact hQ
def t_failed (K : PySem.W.Frag) : TS :=
  (tSeq (tAsg (tCB (rLen K) (tCons (tVar 0) tNil)) (gName 4))
  (tSeq (tIfS (tOr (tTest (tOp rLess (tVar 4) (tC (.int 2)))) (tTest (tOp (rDiff K) (gCall (sp_root K) E1 (tCons (tVar 0) tNil)) (tVar 0)))) (tRet (tC (.int 0))) tNext)
  (tSeq (tIfS (tNot (tTest (tChain rLess rLessE (tVar 1) (tVar 2) (tVar 3)))) (tRet (tC (.int 1))) tNext)
  (tSeq (tIfS (tTest (tOp rMore (tOp rMod (tOp rMinus (tVar 2) (tVar 1)) (tVar 4)) (tC (.int 0)))) (tRet (tC (.int 2))) tNext)
  (tSeq (tIfS (tTest (tOp (rSame K) (tOp rMod (tVar 1) (tVar 4)) (tC (.int 0)))) (tRet (tC (.int 3))) tNext)
  (tSeq (tIfS (tTest (tOp rMore (tOp rMod (tOp rMinus (tVar 3) (tOp rTimes (tC (.int 2)) (tVar 1))) (tVar 4)) (tC (.int 0)))) (tRet (tC (.int 4))) tNext)
  (tRet (tIf (tTest (tOp (rDiff K) (tOp (rIx K) (tVar 0) (tC (.int 0))) (tOp (rIx K) (tVar 0) (tOp rMod (tVar 1) (tVar 4))))) (tC (.int 5)) (tC .non)))))))))
theorem pu_failed {K : PySem.W.Frag} (vs : List V) (H : Hp) (Q : VK) (E : XK) (h : sp_failed K vs H Q E) : t_failed K { nx := fun _ H' => Q .non H', rt := Q } (start ["word", "one", "other", "last", "size"] vs) H := by
  obtain ⟨_, _, _, _, rfl, l, a, b, c, rfl, rfl, rfl, rfl, h2, a0, a1, hQ⟩ := h
  unfold t_failed
  repeat' walk_at "s"
  refine s_lenX (by omega) ?_
  repeat' walk_at "s"
  refine s_if (fun d0 => ?_) fun d0 => ?_
  · repeat' walk_at "s"
    rw [fl_0 (.inl (by omega))] at hQ
    exact hQ
  repeat' walk_at "s"
  refine s_root (by omega) (by omega) fun s r => ?_
  repeat' walk_at "s"
  refine s_ifn (fun d1 => ?_) fun d1 => ?_
  · repeat' walk_at "s"
    rw [fl_0 (.inr fun q => d1 ((rt_whole r (by omega)).mpr q))] at hQ
    exact hQ
  have k0 : ¬ (l.length < 2 ∨ ¬ Rt l l.length) := fun q => q.elim (fun q => d0 (by omega)) fun q => q ((rt_whole r (by omega)).mp d1)
  have hn : (0 : Int) < l.length := by omega
  have m1 := Int.emod_nonneg (b - a) (Int.ne_of_gt hn)
  have m2 := Int.emod_nonneg a (Int.ne_of_gt hn)
  have m3 := Int.emod_nonneg (c - 2 * a) (Int.ne_of_gt hn)
  have m4 := Int.emod_lt_of_pos a hn
  have go1 : ¬ (a < b ∧ b ≤ c) → Q (.int 1) H := fun q => by
    rw [fl_1 k0 q] at hQ
    exact hQ
  repeat' walk_at "s"
  refine s_if (fun d2 => ?_) fun d2 => ?_
  rotate_left
  · repeat' walk_at "s"
    exact go1 (by omega)
  repeat' walk_at "s"
  refine s_ifn (fun d3 => ?_) fun d3 => ?_
  · repeat' walk_at "s"
    exact go1 (by omega)
  have k1 : ¬ ¬ (a < b ∧ b ≤ c) := fun q => q (by omega)
  repeat' walk_at "s"
  refine s_mod hn ?_
  repeat' walk_at "s"
  refine s_if (fun d4 => ?_) fun d4 => ?_
  · repeat' walk_at "s"
    rw [fl_2 k0 k1 (by omega)] at hQ
    exact hQ
  have k2 : ¬ (b - a) % (l.length : Int) ≠ 0 := by omega
  repeat' walk_at "s"
  refine s_mod hn ?_
  repeat' walk_at "s"
  refine s_if (fun d5 => ?_) fun d5 => ?_
  · repeat' walk_at "s"
    rw [fl_3 k0 k1 k2 d5] at hQ
    exact hQ
  repeat' walk_at "s"
  refine s_mulI (mulW (by omega) (by omega)) ?_
  repeat' walk_at "s"
  refine s_mod hn ?_
  repeat' walk_at "s"
  refine s_if (fun d6 => ?_) fun d6 => ?_
  · repeat' walk_at "s"
    rw [fl_4 k0 k1 k2 d5 (by omega)] at hQ
    exact hQ
  have k4 : ¬ (c - 2 * a) % (l.length : Int) ≠ 0 := by omega
  repeat' walk_at "s"
  refine s_pickX (by omega) (by omega) hn fun m hm em => ?_
  have em0 : m = 0 := by omega
  subst em0
  repeat' walk_at "s"
  refine s_mod hn ?_
  repeat' walk_at "s"
  refine s_pickX (by omega) m2 m4 fun m hm em => ?_
  have em1 : (a % (l.length : Int)).toNat = m := by omega
  have key : l[0]? = l[(a % (l.length : Int)).toNat]? ↔ [l[0]] = [l[m]] := by
    rw [em1, List.getElem?_eq_getElem hm, List.getElem?_eq_getElem (show 0 < l.length by omega)]
    simp
  repeat' walk_at "s"
  refine s_ifn (fun d7 => ?_) fun d7 => ?_
  · repeat' walk_at "s"
    rw [fl_5 k0 k1 k2 d5 k4 fun q => d7 (key.mp q)] at hQ
    exact hQ
  · repeat' walk_at "s"
    rw [fl_6 k0 k1 k2 d5 k4 (key.mpr d7)] at hQ
    exact hQ
def t_zfailed (K : PySem.W.Frag) : TS :=
  (tSeq (tAsg (tVar 0) (gTup K 4 (gCons (gName 1) (gCons (gName 2) (gCons (gName 3) (gCons (gName 4) gNil))))))
  (tSeq (tAsg (tCB (rLen K) (tCons (tVar 1) tNil)) (gName 5))
  (tSeq (tIfS (tOr (tTest (tOp rLess (tVar 5) (tC (.int 2)))) (tTest (tOp (rDiff K) (gCall (sp_zroot K) E1 (tCons (tVar 1) tNil)) (tVar 1)))) (tRet (tC (.int 0))) tNext)
  (tSeq (tIfS (tOr (tTest (tOp rMoreE (tVar 2) (tVar 3))) (tTest (tOp rMore (tVar 3) (tVar 4)))) (tRet (tC (.int 1))) tNext)
  (tSeq (tIfS (tTest (tOp (rDiff K) (tOp rMod (tOp rMinus (tVar 3) (tVar 2)) (tVar 5)) (tC (.int 0)))) (tRet (tC (.int 2))) tNext)
  (tSeq (tIfS (tTest (tOp (rSame K) (tOp rMod (tVar 2) (tVar 5)) (tC (.int 0)))) (tRet (tC (.int 3))) tNext)
  (tSeq (tIfS (tTest (tOp (rDiff K) (tOp rMod (tOp rMinus (tVar 4) (tOp rTimes (tC (.int 2)) (tVar 2))) (tVar 5)) (tC (.int 0)))) (tRet (tC (.int 4))) tNext)
  (tRet (tIf (tTest (tOp (rSame K) (tOp (rIx K) (tVar 1) (tC (.int 0))) (tOp (rIx K) (tVar 1) (tOp rMod (tVar 2) (tVar 5))))) (tC .non) (tC (.int 5)))))))))))
theorem pu_zfailed {K : PySem.W.Frag} (vs : List V) (H : Hp) (Q : VK) (E : XK) (h : sp_zfailed K vs H Q E) : t_zfailed K { nx := fun _ H' => Q .non H', rt := Q } (start ["_law_case", "_law_word", "_law_one", "_law_other", "_law_last", "_law_size"] vs) H := by
  obtain ⟨_, rfl, p, l, a, b, c, rfl, hP, h2, a0, a1, hQ⟩ := h
  unfold t_zfailed
  repeat' walk_at "s"
  refine s_gTup hP rfl ?_
  repeat' walk_at "s"
  refine s_lenX (by omega) ?_
  repeat' walk_at "s"
  refine s_if (fun d0 => ?_) fun d0 => ?_
  · repeat' walk_at "s"
    rw [fl_0 (.inl (by omega))] at hQ
    exact hQ
  repeat' walk_at "s"
  refine s_zrt (by omega) (by omega) fun s r => ?_
  repeat' walk_at "s"
  refine s_ifn (fun d1 => ?_) fun d1 => ?_
  · repeat' walk_at "s"
    rw [fl_0 (.inr fun q => d1 ((rt_whole r (by omega)).mpr q))] at hQ
    exact hQ
  have k0 : ¬ (l.length < 2 ∨ ¬ Rt l l.length) := fun q => q.elim (fun q => d0 (by omega)) fun q => q ((rt_whole r (by omega)).mp d1)
  have hn : (0 : Int) < l.length := by omega
  have m1 := Int.emod_nonneg (b - a) (Int.ne_of_gt hn)
  have m2 := Int.emod_nonneg a (Int.ne_of_gt hn)
  have m3 := Int.emod_nonneg (c - 2 * a) (Int.ne_of_gt hn)
  have m4 := Int.emod_lt_of_pos a hn
  have go1 : ¬ (a < b ∧ b ≤ c) → Q (.int 1) H := fun q => by
    rw [fl_1 k0 q] at hQ
    exact hQ
  repeat' walk_at "s"
  refine s_if (fun d2 => ?_) fun d2 => ?_
  · repeat' walk_at "s"
    exact go1 (by omega)
  repeat' walk_at "s"
  refine s_if (fun d3 => ?_) fun d3 => ?_
  · repeat' walk_at "s"
    exact go1 (by omega)
  have k1 : ¬ ¬ (a < b ∧ b ≤ c) := fun q => q (by omega)
  repeat' walk_at "s"
  refine s_mod hn ?_
  repeat' walk_at "s"
  refine s_ifn (fun d4 => ?_) fun d4 => ?_
  · repeat' walk_at "s"
    rw [fl_2 k0 k1 (by omega)] at hQ
    exact hQ
  have k2 : ¬ (b - a) % (l.length : Int) ≠ 0 := by omega
  repeat' walk_at "s"
  refine s_mod hn ?_
  repeat' walk_at "s"
  refine s_if (fun d5 => ?_) fun d5 => ?_
  · repeat' walk_at "s"
    rw [fl_3 k0 k1 k2 d5] at hQ
    exact hQ
  repeat' walk_at "s"
  refine s_mulI (mulW (by omega) (by omega)) ?_
  repeat' walk_at "s"
  refine s_mod hn ?_
  repeat' walk_at "s"
  refine s_ifn (fun d6 => ?_) fun d6 => ?_
  · repeat' walk_at "s"
    rw [fl_4 k0 k1 k2 d5 (by omega)] at hQ
    exact hQ
  have k4 : ¬ (c - 2 * a) % (l.length : Int) ≠ 0 := by omega
  repeat' walk_at "s"
  refine s_pickX (by omega) (by omega) hn fun m hm em => ?_
  have em0 : m = 0 := by omega
  subst em0
  repeat' walk_at "s"
  refine s_mod hn ?_
  repeat' walk_at "s"
  refine s_pickX (by omega) m2 m4 fun m hm em => ?_
  have em1 : (a % (l.length : Int)).toNat = m := by omega
  have key : l[0]? = l[(a % (l.length : Int)).toNat]? ↔ [l[0]] = [l[m]] := by
    rw [em1, List.getElem?_eq_getElem hm, List.getElem?_eq_getElem (show 0 < l.length by omega)]
    simp
  repeat' walk_at "s"
  refine s_if (fun d7 => ?_) fun d7 => ?_
  · repeat' walk_at "s"
    rw [fl_6 k0 k1 k2 d5 k4 (key.mpr d7)] at hQ
    exact hQ
  · repeat' walk_at "s"
    rw [fl_5 k0 k1 k2 d5 k4 fun q => d7 (key.mp q)] at hQ
    exact hQ
def t_twins (K : PySem.W.Frag) : TS :=
  (tSeq (tAsg (gCall (sp_failed K) E1 (tCons (tVar 0) (tCons (tVar 1) (tCons (tVar 2) (tCons (tVar 3) tNil))))) (gName 4))
  (tSeq (tIfS (tTest (tOp rIsSome (tVar 4) (tC .non))) tNever tNext)
  (tSeq (tAsg (tOp (rPlus K) (gCall (sp_repeated K) E1 (tCons (tVar 0) (tCons (tVar 2) tNil))) (gCall (sp_repeated K) E1 (tCons (tVar 0) (tCons (tOp (rPlus K) (tOp rMinus (tVar 3) (tVar 2)) (tC (.int 1))) tNil)))) (gName 5))
  (tRet (tTup (tCons (tVar 5) (tCons (tOp (rPlus K) (gCall (sp_repeated K) E1 (tCons (tVar 0) (tCons (tVar 1) tNil))) (gCall (sp_repeated K) E1 (tCons (tVar 0) (tCons (tOp (rPlus K) (tOp rMinus (tVar 3) (tVar 1)) (tC (.int 1))) tNil)))) tNil)))))))
theorem pu_twins {K : PySem.W.Frag} (vs : List V) (H : Hp) (Q : VK) (E : XK) (h : sp_twins K vs H Q E) : t_twins K { nx := fun _ H' => Q .non H', rt := Q } (start ["word", "one", "other", "last", "at", "first"] vs) H := by
  obtain ⟨_, _, _, _, rfl, l, a, b, c, rfl, rfl, rfl, rfl, h2, a0, a1, c1, e, hN⟩ := h
  unfold t_twins
  obtain ⟨l2, ab, bc⟩ := fl_none e
  repeat' walk_at "s"
  refine s_all ⟨_, _, _, _, rfl, l, a, b, c, rfl, rfl, rfl, rfl, h2, a0, a1, ?_⟩
  rw [e]
  repeat' walk_at "s"
  refine iteF ?_
  repeat' walk_at "s"
  refine s_repeated (by omega) (by omega) (by omega) (by omega) ?_
  repeat' walk_at "s"
  refine s_repeated (by omega) (by omega) (by omega) (by omega) ?_
  have z1 := rep_le l b.toNat
  have z2 := rep_le l (c - b + 1).toNat
  have z3 := rep_le l a.toNat
  have z4 := rep_le l (c - a + 1).toNat
  refine s_addX (by omega) ?_
  repeat' walk_at "s"
  refine s_repeated (by omega) (by omega) (by omega) (by omega) ?_
  repeat' walk_at "s"
  refine s_repeated (by omega) (by omega) (by omega) (by omega) ?_
  refine s_addX (by omega) ?_
  repeat' walk_at "s"
  exact ⟨sz_of rfl, hN.2⟩
def t_ztwins (K : PySem.W.Frag) : TS :=
  (tSeq (tAsg (tVar 0) (gTup K 4 (gCons (gName 1) (gCons (gName 2) (gCons (gName 3) (gCons (gName 4) gNil))))))
  (tSeq (tAsg (tOp (rPlus K) (gCall (sp_zrepeated K) E1 (tCons (tVar 1) (tCons (tVar 3) tNil))) (gCall (sp_zrepeated K) E1 (tCons (tVar 1) (tCons (tOp (rPlus K) (tOp rMinus (tVar 4) (tVar 3)) (tC (.int 1))) tNil)))) (gName 5))
  (tRet (tTup (tCons (tVar 5) (tCons (tOp (rPlus K) (gCall (sp_zrepeated K) E1 (tCons (tVar 1) (tCons (tVar 2) tNil))) (gCall (sp_zrepeated K) E1 (tCons (tVar 1) (tCons (tOp (rPlus K) (tOp rMinus (tVar 4) (tVar 2)) (tC (.int 1))) tNil)))) tNil))))))
theorem pu_ztwins {K : PySem.W.Frag} (vs : List V) (H : Hp) (Q : VK) (E : XK) (h : sp_ztwins K vs H Q E) : t_ztwins K { nx := fun _ H' => Q .non H', rt := Q } (start ["_law_case", "_law_word", "_law_one", "_law_other", "_law_last", "_law_first"] vs) H := by
  obtain ⟨_, rfl, p, l, a, b, c, rfl, hP, h2, l2, a0, b0, ac, bc, c1, hN⟩ := h
  unfold t_ztwins
  repeat' walk_at "s"
  refine s_gTup hP rfl ?_
  repeat' walk_at "s"
  refine s_zrepeated (by omega) (by omega) (by omega) (by omega) ?_
  repeat' walk_at "s"
  refine s_zrepeated (by omega) (by omega) (by omega) (by omega) ?_
  have z1 := rep_le l b.toNat
  have z2 := rep_le l (c - b + 1).toNat
  have z3 := rep_le l a.toNat
  have z4 := rep_le l (c - a + 1).toNat
  refine s_addX (by omega) ?_
  repeat' walk_at "s"
  refine s_zrepeated (by omega) (by omega) (by omega) (by omega) ?_
  repeat' walk_at "s"
  refine s_zrepeated (by omega) (by omega) (by omega) (by omega) ?_
  refine s_addX (by omega) ?_
  repeat' walk_at "s"
  exact ⟨sz_of rfl, hN.2⟩
end
section
/-- one step of a reading (e: none past a statement's end) -/
local macro_rules
  | `(tactic| walk_at "e") => `(tactic| first
    | with_reducible refine s_ifs ?_
    | with_reducible refine s_test ?_
    | with_reducible refine s_truth ?_
    | with_reducible refine s_op ?_
    | with_reducible refine s_un ?_
    | with_reducible refine s_asg ?_
    | with_reducible refine s_ret ?_
    | with_reducible refine s_next ?_
    | with_reducible refine s_drop ?_
    | with_reducible refine s_c ?_
    | ((with_reducible refine s_var (v := ?v) ?e ?q); case e => exact rfl)
    | with_reducible refine s_name ?_
    | with_reducible refine s_exq ?_
    | with_reducible refine s_cons ?_
    | with_reducible refine s_nil ?_
    | with_reducible refine s_lst ?_
    | with_reducible refine s_tup ?_
    | with_reducible refine s_cb ?_
    | with_reducible refine s_call ?_
    | with_reducible refine s_and ?_
    | with_reducible refine s_or ?_
    | with_reducible refine s_not ?_
    | with_reducible refine s_andV ?_
    | with_reducible refine s_orV ?_
    | with_reducible refine s_notV ?_
    | with_reducible refine s_ife ?_
    | with_reducible refine s_chain ?_
    | with_reducible refine s_addI ?_
    | with_reducible refine s_sub ?_
    | with_reducible refine s_neg ?_
    | with_reducible refine s_eqI ?_
    | with_reducible refine s_eqX ?_
    | with_reducible refine s_eqT ?_
    | with_reducible refine s_eqB ?_
    | with_reducible refine s_eqNI ?_
    | with_reducible refine s_eqIN ?_
    | with_reducible refine s_eqNN ?_
    | with_reducible refine s_neI ?_
    | with_reducible refine s_neX ?_
    | with_reducible refine s_neT ?_
    | with_reducible refine s_neB ?_
    | with_reducible refine s_lt ?_
    | with_reducible refine s_le ?_
    | with_reducible refine s_gt ?_
    | with_reducible refine s_ge ?_
    | with_reducible refine s_isN ?_
    | with_reducible refine s_isS ?_
    | with_reducible refine s_truB ?_
    | with_reducible refine s_truI ?_
    | with_reducible refine s_truN ?_
    | with_reducible refine s_abs ?_
    | with_reducible refine s_min2 ?_
    | with_reducible refine s_max2 ?_
    | with_reducible refine s_intI ?_
    | with_reducible refine s_intB ?_
    | with_reducible refine s_ifT ?_
    | with_reducible refine s_ifF ?_
    | with_reducible refine s_ifnT ?_
    | with_reducible refine s_ifnF ?_
    | with_reducible refine s_gSub ?_
    | with_reducible refine s_gTup ?_
    | with_reducible refine s_augS ?_
    | ((with_reducible refine s_aug (x := ?v) ?e ?q); case e => exact rfl)
    | with_reducible refine s_yes ?_
    | with_reducible refine s_par ?_
    | with_reducible refine s_two ?_
    | with_reducible refine s_m1 ?_
    | with_reducible refine s_isstr ?_
    | with_reducible refine s_rev0 ?_
    | with_reducible refine s_gCons ?_
    | with_reducible refine s_gNil ?_
    | with_reducible refine s_ipI ?_
    | with_reducible refine s_ipA ?_
    | with_reducible refine s_sl ?_
    | with_reducible refine s_noPart ?_
    | with_reducible refine s_part ?_
    | with_reducible refine s_parte ?_
    | with_reducible refine s_for ?_
    | with_reducible refine s_lc ?_
    | with_reducible refine s_iL ?_
    | with_reducible refine s_iE ?_
    | with_reducible refine s_iS ?_
    | with_reducible refine s_iT ?_
    | with_reducible refine s_itS ?_
    | with_reducible refine s_iR1 ?_
    | with_reducible refine s_iR2 ?_
    | with_reducible refine s_iR3 ?_
    | with_reducible refine s_rg1 ?_
    | with_reducible refine s_rg2 ?_
    | with_reducible refine s_rg1e ?_
    | with_reducible refine s_rg2e ?_
    | with_reducible refine s_lrg ?_
    | with_reducible refine s_lr3 ?_
    | with_reducible refine s_bm ?_
    | with_reducible refine s_bm0 ?_
    | with_reducible refine s_retN ?_)
  | `(tactic| walk_at "s") => `(tactic| first
    | with_reducible refine s_seq ?_
    | walk_at "e")
/-- a case drawn: a word, two places, a last place -/
structure Cas (l : List Nat) (a b c : Int) : Prop where
  lw : Low l
  l1 : 1 ≤ l.length
  l2 : l.length ≤ 1000
  a0 : 0 ≤ a
  a1 : a ≤ 999
  b0 : 0 ≤ b
  b1 : b ≤ 999
  c0 : 0 ≤ c
  c1 : c ≤ 999
abbrev cas (l : List Nat) (a b c : Int) : HO := .tup [.str (tx l), .int a, .int b, .int c]

def sp_ztwin_case (K : PySem.W.Frag) : Sp := sp2 fun x y H Q _ => ∃ (b : Addr) (H0 : Hp) (ys : List V) (m : Int), x = .ref b ∧ y = .int m ∧ H = upd H0 b (.lst ys) ∧ Bag K H0 b ys ∧ 30 ≤ m ∧ m ≤ 999 ∧
  ∀ (H' : Hp) (zs : List V) (p : Addr) (l : List Nat) (u o c : Int), Same H0 H' → Bag K H' b zs → H' p = some (cas l u o c) → Low l → 3 ≤ l.length → l.length ≤ 6 → (l.length : Int) ≤ c → 1 ≤ u → u < o → o ≤ c → c ≤ max 46 m → o ≤ 100 → Q (.ref p) (upd H' b (.lst zs))
def sp_ztriple_case (K : PySem.W.Frag) : Sp := sp1 fun x H Q _ => ∃ (b : Addr) (H0 : Hp) (ys : List V), x = .ref b ∧ H = upd H0 b (.lst ys) ∧ Bag K H0 b ys ∧
  ∀ (H' : Hp) (zs : List V) (p : Addr) (l : List Nat) (u o c : Int), Same H0 H' → Bag K H' b zs → H' p = some (cas l u o c) → Low l → 4 ≤ l.length → l.length ≤ 12 → 1 ≤ u → u < o → o ≤ c → c ≤ 44 → Q (.ref p) (upd H' b (.lst zs))
def sp_zspoiled_case (K : PySem.W.Frag) : Sp := sp2 fun x y H Q _ => ∃ (b : Addr) (H0 : Hp) (ys : List V) (p : Addr) (l : List Nat) (u o c : Int), x = .ref b ∧ y = .ref p ∧ H = upd H0 b (.lst ys) ∧ Bag K H0 b ys ∧ H0 p = some (cas l u o c) ∧ Cas l u o c ∧
  ∀ (H' : Hp) (zs : List V) (p : Addr) (l : List Nat) (u o c : Int), Same H0 H' → Bag K H' b zs → H' p = some (cas l u o c) → Cas l u o c → Q (.ref p) (upd H' b (.lst zs))
def sp_zbroken (K : PySem.W.Frag) : Sp := sp2 fun x y H Q _ => ∃ (b : Addr) (H0 : Hp) (ys : List V) (p : Addr) (l : List Nat) (u o c : Int), x = .ref b ∧ y = .ref p ∧ H = upd H0 b (.lst ys) ∧ Bag K H0 b ys ∧ H0 p = some (cas l u o c) ∧ Cas l u o c ∧ 3 ≤ l.length ∧ l.length ≤ 12 ∧ 1 ≤ u ∧ u < o ∧ o ≤ 100 ∧ o ≤ c ∧
  ∀ (H' : Hp) (zs : List V) (p : Addr) (l : List Nat) (u o c : Int), Same H0 H' → Bag K H' b zs → H' p = some (cas l u o c) → Cas l u o c → u ≤ c → o ≤ c → 1 ≤ c → Q (.ref p) (upd H' b (.lst zs))

/-- the five things: rows, places, a word -/
structure Fv (r : List Nat) (u : Int) (q : List Nat) (v : Int) (w : List Nat) : Prop where
  lr : Low r
  lq : Low q
  lw : Low w
  n : r.length = q.length
  r2 : 2 ≤ r.length
  r3 : r.length ≤ 1000
  u0 : 0 ≤ u
  u1 : u < r.length
  v0 : 0 ≤ v
  v1 : v < r.length
  w1 : 1 ≤ w.length
  w2 : w.length ≤ 1000
abbrev fiv (r : List Nat) (u : Int) (q : List Nat) (v : Int) (w : List Nat) : HO := .tup [.str (tx r), .int u, .str (tx q), .int v, .str (tx w)]
def sp_zbent (K : PySem.W.Frag) : Sp := sp2 fun x y H Q _ => ∃ (b : Addr) (H0 : Hp) (ys : List V) (p : Addr) (r : List Nat) (u : Int) (q : List Nat) (v : Int) (w : List Nat), x = .ref b ∧ y = .ref p ∧ H = upd H0 b (.lst ys) ∧ Bag K H0 b ys ∧ H0 p = some (fiv r u q v w) ∧ Fv r u q v w ∧
  ∀ (H' : Hp) (zs : List V) (p : Addr) (r : List Nat) (u : Int) (q : List Nat) (v : Int) (w : List Nat), Same H0 H' → Bag K H' b zs → H' p = some (fiv r u q v w) → Fv r u q v w → Q (.ref p) (upd H' b (.lst zs))
open Classical in
/-- whether rows are twins by a word, the lesser place first -/
noncomputable def E0 (w r : List Nat) (u : Int) (q : List Nat) (v : Int) : Bool := decide (fl w u v ((r.length : Int) - 1) = none ∧ tw w v ((r.length : Int) - 1) = r ∧ tw w u ((r.length : Int) - 1) = q)
noncomputable def tg (r : List Nat) (u : Int) (q : List Nat) (v : Int) (w : List Nat) : Bool := if u > v then E0 w q v r u else E0 w r u q v
theorem e0_no {w r q : List Nat} {u v : Int} {i : Int} (h : fl w u v ((r.length : Int) - 1) = some i) : E0 w r u q v = false := by
  unfold E0
  rw [h]
  exact decide_eq_false fun z => by cases z.1
theorem e0_yes {w r q : List Nat} {u v : Int} (h : fl w u v ((r.length : Int) - 1) = none) : E0 w r u q v = decide (tw w v ((r.length : Int) - 1) = r ∧ tw w u ((r.length : Int) - 1) = q) := by
  unfold E0
  rw [h]
  by_cases z : tw w v ((r.length : Int) - 1) = r ∧ tw w u ((r.length : Int) - 1) = q
  · rw [decide_eq_true z]
    exact decide_eq_true ⟨rfl, z⟩
  · rw [decide_eq_false z]
    exact decide_eq_false fun y => z y.2
theorem e0_same {w r q : List Nat} {u v : Int} (h : ¬ u < v) : E0 w r u q v = false := by
  cases e : fl w u v ((r.length : Int) - 1) with
  | some i => exact e0_no e
  | none => exact absurd (fl_none e).2.1 h
theorem tg_turn (r : List Nat) (u : Int) (q : List Nat) (v : Int) (w : List Nat) : tg q v r u w = tg r u q v w := by
  unfold tg
  by_cases h : u > v
  · rw [if_pos h, if_neg (by omega)]
  · rw [if_neg h]
    by_cases h2 : v > u
    · rw [if_pos h2]
    · rw [if_neg h2, e0_same (by omega), e0_same (by omega)]
theorem eqv_2 (a b r q : List Nat) : PyData.eqv (.tuple [.str (tx a), .str (tx b)]) (.tuple [.str (tx r), .str (tx q)]) = decide (a = r ∧ b = q) := by
  have e : ∀ x y : List Nat, PyData.eqv (.str (tx x)) (.str (tx y)) = decide (x = y) := fun x y => by
    rw [← dec_tx]
    show (tx x == tx y) = _
    first | rfl | exact beq_eq_decide _ _
  show (PyData.eqv (.str (tx a)) (.str (tx r)) && (PyData.eqv (.str (tx b)) (.str (tx q)) && true)) = _
  rw [e, e, Bool.and_true, Bool.decide_and]
theorem shp2 {a b : List Nat} (ha : Low a) (la : a.length ≤ 2000) (hb : Low b) (lb : b.length ≤ 2000) : SeqAt.shaped (.tuple [.str (tx a), .str (tx b)]) = true :=
  ((bd_tuple (c := 20002) (k := 0) (n := 2) (fun d hd => by
    simp only [List.mem_cons, List.not_mem_nil, or_false] at hd
    rcases hd with rfl | rfl
    · exact bd_tx (n := 2000) ha la
    · exact bd_tx (n := 2000) hb lb) (by exact Nat.le_refl 2)).nice (by decide) (by decide)).sh
theorem tw_le (w : List Nat) {a c : Int} (h0 : 0 ≤ a) (h1 : a ≤ c) (h2 : c ≤ 1000) : (tw w a c).length ≤ 2000 := by
  unfold tw
  rw [List.length_append]
  have z1 := rep_le w a.toNat
  have z2 := rep_le w (c - a + 1).toNat
  omega
theorem tw_low {w : List Nat} (h : Low w) (a c : Int) : Low (tw w a c) := (low_rp h _).app (low_rp h _)
def TxL (x : V) : Prop := ∃ w : List Nat, x = .str (tx w) ∧ Low w ∧ w.length ≤ 1000
def spDue (ok : Int → Int → Prop) (res : List Nat → Int → List Nat → Int → List Nat → Bool) : Sp := sp5 fun x y z t s H Q _ => ∃ (r : List Nat) (u : Int) (q : List Nat) (v : Int) (w : List Nat), x = .str (tx r) ∧ y = .int u ∧ z = .str (tx q) ∧ t = .int v ∧ s = .str (tx w) ∧ r.length ≤ 1000 ∧ q.length ≤ 1000 ∧ w.length ≤ 1000 ∧ 0 ≤ u ∧ u ≤ 1000 ∧ 0 ≤ v ∧ v ≤ 1000 ∧ 1 ≤ r.length ∧ 1 ≤ q.length ∧ Low r ∧ Low q ∧ Low w ∧ ok u v ∧
  ∀ H', Same H H' → Q (.bl (res r u q v w)) H'
noncomputable def sp_zdue1 (K : PySem.W.Frag) : Sp := spDue (fun u v => u ≤ v) fun r u q v w => E0 w r u q v
noncomputable def sp_zdue (K : PySem.W.Frag) : Sp := spDue (fun _ _ => True) tg
noncomputable def sp_are_twins (K : PySem.W.Frag) : Sp := spDue (fun _ _ => True) tg
def spNo : Sp := fun _ _ _ _ => False
theorem gf_no {P : Program} {w : World} {K : PySem.W.Frag} {mg : Str → Option Value} {base : Heap} {k : Nat} {f : Addr} {fd : FuncData} {ps : List Str} : Gf P w K mg base k f fd ps spNo := ⟨fun _ _ _ _ h => h.elim, fun _ _ _ _ _ _ _ _ _ _ _ _ _ _ h => h.elim⟩
/-- a list of nodup things in another one is no longer -/
theorem pig : ∀ (as l : List Nat), as.Nodup → (∀ a ∈ as, a ∈ l) → as.length ≤ l.length
  | [], _, _, _ => Nat.zero_le _
  | a :: as, l, hn, h => by
    have h1 := h a List.mem_cons_self
    have hn' := List.nodup_cons.mp hn
    have := pig as (l.erase a) hn'.2 fun c hc => (List.mem_erase_of_ne fun e => hn'.1 (by rw [← e]; exact hc)).mpr (h c (List.mem_cons_of_mem _ hc))
    rw [List.length_erase_of_mem h1] at this
    have h2 := List.length_pos_of_mem h1
    rw [List.length_cons]
    omega
theorem s_notinX {K : PySem.W.Frag} {H : Hp} {Q : VK} {c : Nat} {l : List Nat} (q : Q (.bl (!decide (c ∈ l))) H) : rIsNotIn K (.str (tx [c])) (.str (tx l)) H Q := by
  refine .inl ⟨_, _, rfl, rfl, ?_⟩
  have e := PySem.StrLaws.found_one (tx l) c
  have e2 : (!(Builtin.Str.occurrences (tx l) (tx [c]) 0 (tx l).length 1).isEmpty) = decide (c ∈ l) := e
  rw [e2]
  exact q
abbrev fou (l : List Nat) (u o c : Int) : List V := [.str (tx l), .int u, .int o, .int c]
theorem fou_at {l : List Nat} {u o c r : Int} (C : Cas l u o c) (h0 : 0 < r) (h1 : r < 4) : ∃ v : Int, atI (fou l u o c) r = some (.int v) ∧ 0 ≤ v ∧ v ≤ 999 := by
  have q : r = 1 ∨ r = 2 ∨ r = 3 := by omega
  rcases q with rfl | rfl | rfl
  · exact ⟨u, rfl, C.a0, C.a1⟩
  · exact ⟨o, rfl, C.b0, C.b1⟩
  · exact ⟨c, rfl, C.c0, C.c1⟩
theorem fou_set {l : List Nat} {u o c r : Int} (C : Cas l u o c) (h0 : 0 < r) (h1 : r < 4) : ∃ n, ixN (fou l u o c).length r = some n ∧ ∀ w : Int, 0 ≤ w → w ≤ 999 → ∃ u' o' c' : Int, (fou l u o c).set n (.int w) = fou l u' o' c' ∧ Cas l u' o' c' := by
  have q : r = 1 ∨ r = 2 ∨ r = 3 := by omega
  rcases q with rfl | rfl | rfl
  · exact ⟨1, rfl, fun w w0 w1 => ⟨w, o, c, rfl, { C with a0 := w0, a1 := w1 }⟩⟩
  · exact ⟨2, rfl, fun w w0 w1 => ⟨u, w, c, rfl, { C with b0 := w0, b1 := w1 }⟩⟩
  · exact ⟨3, rfl, fun w w0 w1 => ⟨u, o, w, rfl, { C with c0 := w0, c1 := w1 }⟩⟩
theorem lit_ab : ("ab" : Str) = tx [97, 98] := by decide +kernel
theorem lit_aab : ("aab" : Str) = tx [97, 97, 98] := by decide +kernel
theorem flat_ones (cs : List Nat) : (cs.map fun c => [c]).flatten = cs := by
  induction cs with
  | nil => rfl
  | cons c cs ih => rw [List.map_cons, List.flatten_cons, ih]; rfl
theorem sum_ones (cs : List Nat) : ((cs.map fun c => [c]).map List.length).sum = cs.length := by
  rw [List.map_map]
  have e : ((List.length : List Nat → Nat) ∘ fun c => [c]) = fun _ => 1 := rfl
  rw [e, List.map_const', List.sum_replicate_nat, Nat.mul_one]
theorem low_at {l : List Nat} (h : Low l) {q : Nat} (hq : q < l.length) : Low [l[q]] := fun c hc => by
  rcases List.mem_singleton.mp hc with rfl
  exact h _ (List.getElem_mem hq)
def t_ztwin_case (K : PySem.W.Frag) : TS :=
  (tSeq (tAsg (tOp (rPlus K) (tC (.int 3)) (gCall (sp_take K) E1 (tCons (tVar 0) (tCons (tC (.int 4)) tNil)))) (gName 2))
  (tSeq (tAsg (tOp (rPlus K) (tC (.int 1)) (gCall (sp_take K) E1 (tCons (tVar 0) (tCons (tOp rMinus (tVar 2) (tC (.int 1))) tNil)))) (gName 3))
  (tSeq (tAsg (gCall (sp_take K) E1 (tCons (tVar 0) (tCons (tC (.int 24)) tNil))) (gName 4))
  (tSeq (tAsg (tSl (rCut K) (tC (.str "abcdefghijklmnopqrstuvwxyz")) (tPart (tVar 4)) (tPart (tOp (rPlus K) (tVar 4) (tC (.int 3))))) (gName 5))
  (tSeq (tAsg (tM1 (rJoin K) (tC (.str "")) (tLc (iRng1 (tCons (tVar 2) tNil)) (gName 12) tYes (tOp (rIx K) (tVar 5) (gCall (sp_take K) E1 (tCons (tVar 0) (tCons (tC (.int 3)) tNil)))) [12])) (gName 6))
  (tSeq (tAsg (tOp (rPlus K) (tOp (rPlus K) (tSl (rCut K) (tVar 6) tNoPart (tPart (tVar 3))) (tOp (rIx K) (tVar 6) (tC (.int 0)))) (tSl (rCut K) (tVar 6) (tPart (tOp (rPlus K) (tVar 3) (tC (.int 1)))) tNoPart)) (gName 7))
  (tSeq (tIfS (tTest (tOp (rDiff K) (gCall (sp_zroot K) E1 (tCons (tVar 7) tNil)) (tVar 7))) (tSeq (tAsg (tOp (rPlus K) (tOp rTimes (tOp (rIx K) (tVar 5) (tC (.int 0))) (tOp (rPlus K) (tVar 3) (tC (.int 1)))) (tOp rTimes (tOp (rIx K) (tVar 5) (tC (.int 1))) (tOp rMinus (tOp rMinus (tVar 2) (tVar 3)) (tC (.int 1))))) (gName 7))
  (tIfS (tTest (tOp (rSame K) (tVar 3) (tOp rMinus (tVar 2) (tC (.int 1))))) (tAsg (tOp (rPlus K) (tOp (rPlus K) (tOp (rIx K) (tVar 5) (tC (.int 0))) (tOp rTimes (tOp (rIx K) (tVar 5) (tC (.int 1))) (tOp rMinus (tVar 2) (tC (.int 2))))) (tOp (rIx K) (tVar 5) (tC (.int 0)))) (gName 7)) tNext)) tNext)
  (tSeq (tAsg (tOp (rPlus K) (tVar 3) (tOp rTimes (tVar 2) (gCall (sp_take K) E1 (tCons (tVar 0) (tCons (tC (.int 4)) tNil))))) (gName 8))
  (tSeq (tAsg (tOp (rPlus K) (tVar 8) (tOp rTimes (tVar 2) (tOp (rPlus K) (tC (.int 1)) (gCall (sp_take K) E1 (tCons (tVar 0) (tCons (tC (.int 2)) tNil)))))) (gName 9))
  (tSeq (tAsg (tOp rTimes (tC (.int 2)) (tVar 8)) (gName 10))
  (tSeq (tWhile (tTest (tOp rLess (tVar 10) (tVar 9)))
  (tAsg (tOp (rPlus K) (tVar 10) (tVar 2)) (gName 10)))
  (tSeq (tWhile (tTest (tOp rMoreE (tOp rMinus (tVar 10) (tVar 2)) (tVar 9)))
  (tAsg (tOp rMinus (tVar 10) (tVar 2)) (gName 10)))
  (tSeq (tAsg (tOp (rPlus K) (tVar 10) (tOp rTimes (tVar 2) (gCall (sp_take K) E1 (tCons (tVar 0) (tCons (tOp (rPlus K) (tC (.int 1)) (tOp rDiv (tCB rMax2 (tCons (tC (.int 0)) (tCons (tOp rMinus (tVar 1) (tVar 10)) tNil))) (tVar 2))) tNil))))) (gName 11))
  (tRet (tTup (tCons (tVar 7) (tCons (tVar 8) (tCons (tVar 9) (tCons (tVar 11) tNil)))))))))))))))))))
theorem pu_ztwin_case {K : PySem.W.Frag} (vs : List V) (H : Hp) (Q : VK) (E : XK) (h : sp_ztwin_case K vs H Q E) : t_ztwin_case K { nx := fun _ H' => Q .non H', rt := Q } (start ["_law_bag_here", "_law_most", "_law_size", "_law_shift", "_law_start", "_law_letters", "_law_text", "_law_word", "_law_one", "_law_other", "_law_least", "_law_last", "_law_k"] vs) H := by
  obtain ⟨_, _, rfl, b, H0, ys, m, rfl, rfl, rfl, B, m1, m2, hQ⟩ := h
  unfold t_ztwin_case
  rw [lit_az, lit_empty]
  repeat' walk_at "s"
  refine s_take B (by decide) (lg (by decide) (by decide)) ?_
  intro r1 ys a1 a2 B
  repeat' walk_at "s"
  refine s_take B (by omega) (lg (by omega) (by omega)) ?_
  intro r2 ys b1 b2 B
  repeat' walk_at "s"
  refine s_take B (by decide) (lg (by decide) (by decide)) ?_
  intro st ys c1 c2 B
  repeat' walk_at "s"
  refine s_midX (by decide) (by omega) (by omega) ?_
  obtain ⟨ls, hls, lw, ll⟩ : ∃ ls : List Nat, (([97, 98, 99, 100, 101, 102, 103, 104, 105, 106, 107, 108, 109, 110, 111, 112, 113, 114, 115, 116, 117, 118, 119, 120, 121, 122] : List Nat).drop st.toNat).take ((st + 3).toNat - st.toNat) = ls ∧ Low ls ∧ ls.length = 3 := by
    refine ⟨_, rfl, (low_az.drop _).take _, ?_⟩
    rw [List.length_take, List.length_drop]
    show min _ (26 - st.toNat) = _
    omega
  rw [hls]
  clear hls
  generalize hn : 3 + r1 = n at *
  generalize hs : 1 + r2 = s at *
  repeat' walk_at "s"
  refine s_rn1 (by omega) (by omega) ?_
  intro D hD
  refine lcR hD (fun i acc Hi => ∃ (H3 : Hp) (ys : List V) (cs : List Nat), Hi = upd H3 b (.lst ys) ∧ Same H0 H3 ∧ Bag K H3 b ys ∧ acc = cs.map (fun c => V.str (tx [c])) ∧ Low cs ∧ cs.length = i) ⟨H0, ys, [], rfl, Same.refl _, B, rfl, Low.nil, rfl⟩ (fun i acc Hi hi hn hl z => ?_) fun acc Hi hn' hl z => ?_
  · obtain ⟨H3, ys, cs, rfl, e3, B, rfl, lc, hc⟩ := z
    repeat' walk_at "s"
    refine ⟨rfl, ?_⟩
    repeat' walk_at "s"
    refine s_takeD B hn (by omega) (lg (by omega) (by omega)) ?_
    intro r5 ys i1 i2 B hn
    refine s_pickX (by omega) i1 (by omega) fun q hq _ => ?_
    refine lc_put hn hl (by rw [sizeLine_eq]; omega) ⟨H3, ys, cs ++ [ls[q]], rfl, e3, B, by rw [List.map_append]; rfl, lc.app fun c hc => ?_, by rw [List.length_append, hc]; rfl⟩
    rcases List.mem_singleton.mp hc with rfl
    exact lw _ (List.getElem_mem hq)
  clear B hD ys
  obtain ⟨H3, ys, cs, rfl, e3, B, rfl, lc, hc⟩ := z
  refine doneB B hn' fun H4 e4 h4 B => ?_
  refine s_join (ls := cs.map fun c => [c]) (by rw [List.map_map]; exact SqL.of (B.see _ _ h4)) ?_ ?_
  · rw [List.map_map]
    have e : ((List.length : List Nat → Nat) ∘ fun c => [c]) = fun _ => 1 := rfl
    rw [e, List.map_const', List.sum_replicate_nat]
    omega
  have ef : (cs.map fun c => [c]).flatten = cs := by
    clear hc lc h4 hl hn'
    induction cs with
    | nil => rfl
    | cons c cs ih => rw [List.map_cons, List.flatten_cons, ih]; rfl
  rw [ef]
  have e4 := e3.trans e4
  clear e3 hn'
  repeat' walk_at "s"
  refine s_toX (by omega) (by omega) ?_
  repeat' walk_at "s"
  refine s_pickX (by omega) (by decide) (by omega) fun q hq _ => ?_
  refine s_addX (by rw [List.length_take]; simp only [List.length_singleton]; omega) ?_
  repeat' walk_at "s"
  refine s_fromX (by omega) (by omega) ?_
  refine s_addX (by rw [List.length_append, List.length_take, List.length_drop]; simp only [List.length_singleton]; omega) ?_
  obtain ⟨w, hw, ww, wl⟩ : ∃ w : List Nat, cs.take s.toNat ++ [cs[q]] ++ cs.drop (s + 1).toNat = w ∧ Low w ∧ (w.length : Int) = n := by
    refine ⟨_, rfl, ((lc.take _).app fun c hc => ?_).app (lc.drop _), ?_⟩
    · rcases List.mem_singleton.mp hc with rfl
      exact lc _ (List.getElem_mem hq)
    · rw [List.length_append, List.length_append, List.length_take, List.length_drop, List.length_singleton]
      omega
  rw [hw]
  clear hw hq
  repeat' walk_at "e"
  with_reducible refine s_seqR (fun σ H => ∃ (H1 : Hp) (ys : List V) (w : List Nat) (x6 x12 : Option V), Same H0 H1 ∧ Bag K H1 b ys ∧ H = upd H1 b (.lst ys) ∧ Low w ∧ (w.length : Int) = n ∧ σ = [some (.ref b), some (.int m), some (.int n), some (.int s), some (.int st), some (.str (tx ls)), x6, some (.str (tx w)), none, none, none, none, x12]) (fun σ H z => ?_) fun N hN => ?_
  · obtain ⟨H1, ys, w, x6, x12, e1, B, rfl, ww, wl, rfl⟩ := z
    repeat' walk_at "s"
    refine s_take B (by decide) (lg (by decide) (by decide)) ?_
    intro r3 ys d1 d2 B
    have g1 := mul_bd (x := n) (y := r3) (a := 6) (b := 3) (by omega) (by omega) d1 (by omega)
    refine s_mulI (mulW (by omega) (by omega)) ?_
    repeat' walk_at "s"
    refine s_take B (by decide) (lg (by decide) (by decide)) ?_
    intro r4 ys f1 f2 B
    repeat' walk_at "s"
    have g2 := mul_bd (x := n) (y := 1 + r4) (a := 6) (b := 2) (by omega) (by omega) (by omega) (by omega)
    have g3 : n * 1 ≤ n * (1 + r4) := Int.mul_le_mul_of_nonneg_left (by omega) (by omega)
    refine s_mulI (mulW (by omega) (by omega)) ?_
    repeat' walk_at "s"
    generalize hu : s + n * r3 = u at *
    generalize ho : u + n * (1 + r4) = o at *
    have u1 : 1 ≤ u := by omega
    have u2 : u ≤ 23 := by omega
    have o1 : u + n ≤ o := by omega
    have o2 : o ≤ 35 := by omega
    clear g1 g2 g3 hu ho d1 d2 f1 f2
    repeat' walk_at "s"
    refine s_mulI (mulW (by omega) (by omega)) ?_
    repeat' walk_at "e"
    with_reducible refine s_seqR (fun σ H => H = upd H1 b (.lst ys) ∧ ∃ L : Int, o ≤ L ∧ L ≤ 46 ∧ σ = [some (.ref b), some (.int m), some (.int n), some (.int s), some (.int st), some (.str (tx ls)), x6, some (.str (tx w)), some (.int u), some (.int o), some (.int L), none, x12]) (fun σ H z => ?_) fun N hN => ?_
    rotate_left
    · refine ⟨fun M σ H' => H' = upd H1 b (.lst ys) ∧ ∃ L : Int, M = (o - L).toNat ∧ 0 ≤ L ∧ (L = 2 * u ∨ L < o + n) ∧ σ = [some (.ref b), some (.int m), some (.int n), some (.int s), some (.int st), some (.str (tx ls)), x6, some (.str (tx w)), some (.int u), some (.int o), some (.int L), none, x12], ⟨_, rfl, 2 * u, rfl, by omega, .inl rfl, rfl⟩, fun M σ H' z => ?_⟩
      obtain ⟨rfl, L, rfl, L0, L1, rfl⟩ := z
      repeat' walk_at "s"
      refine s_if (fun d => ?_) fun d => ?_
      · refine ⟨_, fun _ _ z => z, ?_⟩
        repeat' walk_at "s"
        exact ⟨_, by omega, rfl, L + n, rfl, by omega, by omega, rfl⟩
      · exact hN _ _ ⟨rfl, L, by omega, by omega, rfl⟩
    obtain ⟨rfl, L, L0, L1, rfl⟩ := z
    repeat' walk_at "e"
    with_reducible refine s_seqR (fun σ H => H = upd H1 b (.lst ys) ∧ ∃ L : Int, o ≤ L ∧ L ≤ 46 ∧ σ = [some (.ref b), some (.int m), some (.int n), some (.int s), some (.int st), some (.str (tx ls)), x6, some (.str (tx w)), some (.int u), some (.int o), some (.int L), none, x12]) (fun σ H z => ?_) fun N hN => ?_
    rotate_left
    · refine ⟨fun M σ H' => H' = upd H1 b (.lst ys) ∧ ∃ L : Int, M = L.toNat ∧ o ≤ L ∧ L ≤ 46 ∧ σ = [some (.ref b), some (.int m), some (.int n), some (.int s), some (.int st), some (.str (tx ls)), x6, some (.str (tx w)), some (.int u), some (.int o), some (.int L), none, x12], ⟨_, rfl, L, rfl, L0, L1, rfl⟩, fun M σ H' z => ?_⟩
      clear L0 L1 L
      obtain ⟨rfl, L, rfl, L0, L1, rfl⟩ := z
      repeat' walk_at "s"
      refine s_if (fun d => ?_) fun d => ?_
      · refine ⟨_, fun _ _ z => z, ?_⟩
        repeat' walk_at "s"
        exact ⟨_, by omega, rfl, L - n, rfl, by omega, by omega, rfl⟩
      · exact hN _ _ ⟨rfl, L, by omega, by omega, rfl⟩
    clear L0 L1 L
    obtain ⟨rfl, L, L0, L1, rfl⟩ := z
    repeat' walk_at "s"
    refine s_div ⟨by omega, lg (by omega) (by omega)⟩ ?_
    have q1 := Int.mul_ediv_add_emod (max 0 (m - L)) n
    have q2 := Int.emod_nonneg (max 0 (m - L)) (show n ≠ 0 by omega)
    have q3 : 0 ≤ max 0 (m - L) / n := Int.ediv_nonneg (by omega) (by omega)
    have q4 : max 0 (m - L) / n ≤ max 0 (m - L) := Int.ediv_le_self _ (by omega)
    generalize hd : max 0 (m - L) / n = d at *
    repeat' walk_at "s"
    refine s_take B (by omega) (lg (by omega) (by omega)) ?_
    intro r5 ys k1 k2 B
    have q5 : n * r5 ≤ n * d := Int.mul_le_mul_of_nonneg_left (by omega) (by omega)
    have q6 : 0 ≤ n * r5 := Int.mul_nonneg (by omega) k1
    refine s_mulI (mulW (by omega) (by omega)) ?_
    repeat' walk_at "s"
    refine newB B (sz_of rfl) fun p H2 e2 hp B => ?_
    exact hQ H2 ys p w u o _ (e1.trans e2) B hp ww (by omega) (by omega) (by omega) u1 (by omega) (by omega) (by omega) (by omega)
  · repeat' walk_at "s"
    refine s_hid B ⟨_, rfl, w, rfl, by omega, by omega, fun t r h0 => ?_⟩
    repeat' walk_at "s"
    refine s_ifn (fun d => ?_) fun d => ?_
    · repeat' walk_at "s"
      refine s_pickX (by omega) (by decide) (by omega) fun i1 hi1 _ => ?_
      repeat' walk_at "s"
      refine s_mulX (by rw [List.length_singleton]; omega) (by omega) (by omega) ?_
      repeat' walk_at "s"
      refine s_pickX (by omega) (by decide) (by omega) fun i2 hi2 _ => ?_
      repeat' walk_at "s"
      refine s_mulX (by rw [List.length_singleton]; omega) (by omega) (by omega) ?_
      refine s_addX (by rw [rep_len, rep_len, List.length_singleton, List.length_singleton]; omega) ?_
      have lo1 : ∀ (q : Nat) (hq : q < ls.length), Low [ls[q]] := fun q hq c hc => by
        rcases List.mem_singleton.mp hc with rfl
        exact lw _ (List.getElem_mem hq)
      repeat' walk_at "s"
      refine s_if (fun d2 => ?_) fun d2 => ?_
      · repeat' walk_at "s"
        refine s_pickX (by omega) (by decide) (by omega) fun i1 hi1 _ => ?_
        repeat' walk_at "s"
        refine s_pickX (by omega) (by decide) (by omega) fun i2 hi2 _ => ?_
        repeat' walk_at "s"
        refine s_mulX (by rw [List.length_singleton]; omega) (by omega) (by omega) ?_
        refine s_addX (by rw [rep_len, List.length_singleton, List.length_singleton]; omega) ?_
        repeat' walk_at "s"
        refine s_pickX (by omega) (by decide) (by omega) fun i3 hi3 _ => ?_
        refine s_addX (by rw [List.length_append, rep_len, List.length_singleton, List.length_singleton, List.length_singleton]; omega) ?_
        repeat' walk_at "s"
        exact hN _ _ ⟨H4, ys, _, _, _, e4, B, rfl, ((lo1 _ _).app ((lo1 _ _).rep _)).app (lo1 _ _), by rw [List.length_append, List.length_append, rep_len, List.length_singleton, List.length_singleton, List.length_singleton]; omega, rfl⟩
      · repeat' walk_at "s"
        exact hN _ _ ⟨H4, ys, _, _, _, e4, B, rfl, ((lo1 _ _).rep _).app ((lo1 _ _).rep _), by rw [List.length_append, rep_len, rep_len, List.length_singleton, List.length_singleton]; omega, rfl⟩
    · repeat' walk_at "s"
      exact hN _ _ ⟨H4, ys, w, _, _, e4, B, rfl, ww, wl, rfl⟩
def t_ztriple_case (K : PySem.W.Frag) : TS :=
  (tSeq (tPar 1 2 (tCons (tOp (rPlus K) (tC (.int 1)) (gCall (sp_take K) E1 (tCons (tVar 0) (tCons (tC (.int 4)) tNil)))) (tCons (tOp (rPlus K) (tC (.int 1)) (gCall (sp_take K) E1 (tCons (tVar 0) (tCons (tC (.int 3)) tNil)))) tNil)))
  (tSeq (tAsg (tM1 (rJoin K) (tC (.str "")) (tLc (iRng1 (tCons (tVar 1) tNil)) (gName 8) tYes (tOp (rIx K) (tC (.str "ab")) (gCall (sp_take K) E1 (tCons (tVar 0) (tCons (tC (.int 2)) tNil)))) [8])) (gName 3))
  (tSeq (tAsg (tOp (rPlus K) (tOp (rIx K) (tVar 3) (tC (.int 0))) (tM1 (rJoin K) (tC (.str "")) (tLc (iRng1 (tCons (tVar 2) tNil)) (gName 8) tYes (tOp (rIx K) (tC (.str "abc")) (gCall (sp_take K) E1 (tCons (tVar 0) (tCons (tC (.int 3)) tNil)))) [8]))) (gName 4))
  (tSeq (tAsg (tOp (rPlus K) (tOp (rPlus K) (tVar 3) (tVar 4)) (tVar 3)) (gName 5))
  (tSeq (tIfS (tTest (tOp (rDiff K) (gCall (sp_zroot K) E1 (tCons (tVar 5) tNil)) (tVar 5))) (tAsg (tOp (rPlus K) (tOp (rPlus K) (tOp rTimes (tC (.str "a")) (tOp (rPlus K) (tVar 1) (tC (.int 1)))) (tOp rTimes (tC (.str "b")) (tVar 2))) (tOp rTimes (tC (.str "a")) (tVar 1))) (gName 5)) tNext)
  (tSeq (tAsg (tOp (rPlus K) (tC (.int 2)) (gCall (sp_take K) E1 (tCons (tVar 0) (tCons (tC (.int 2)) tNil)))) (gName 6))
  (tSeq (tAsg (tOp (rPlus K) (tVar 1) (tOp rTimes (tCB (rLen K) (tCons (tVar 5) tNil)) (tOp (rPlus K) (tC (.int 1)) (gCall (sp_take K) E1 (tCons (tVar 0) (tCons (tOp rMinus (tVar 6) (tC (.int 1))) tNil)))))) (gName 7))
  (tRet (tTup (tCons (tVar 5) (tCons (tVar 1) (tCons (tVar 7) (tCons (tOp (rPlus K) (tOp rTimes (tC (.int 2)) (tVar 1)) (tOp rTimes (tCB (rLen K) (tCons (tVar 5) tNil)) (tVar 6))) tNil)))))))))))))
theorem pu_ztriple_case {K : PySem.W.Frag} (vs : List V) (H : Hp) (Q : VK) (E : XK) (h : sp_ztriple_case K vs H Q E) : t_ztriple_case K { nx := fun _ H' => Q .non H', rt := Q } (start ["_law_bag_here", "_law_one", "_law_more", "_law_front", "_law_middle", "_law_word", "_law_many", "_law_other", "_law_k"] vs) H := by
  obtain ⟨_, rfl, b, H0, ys, rfl, rfl, B, hQ⟩ := h
  unfold t_ztriple_case
  rw [lit_empty, lit_ab, lit_abc, lit_a1, lit_b1]
  have low_ab : Low [97, 98] := by unfold Low; decide
  repeat' walk_at "s"
  refine s_take B (by decide) (lg (by decide) (by decide)) ?_
  intro r1 ys a1 a2 B
  repeat' walk_at "s"
  refine s_take B (by decide) (lg (by decide) (by decide)) ?_
  intro r2 ys b1 b2 B
  repeat' walk_at "s"
  generalize hu : 1 + r1 = u at *
  generalize hm : 1 + r2 = m at *
  repeat' walk_at "s"
  refine s_rn1 (by omega) (by omega) ?_
  intro D hD
  refine lcR hD (fun i acc Hi => ∃ (H3 : Hp) (ys : List V) (cs : List Nat), Hi = upd H3 b (.lst ys) ∧ Same H0 H3 ∧ Bag K H3 b ys ∧ acc = cs.map (fun c => V.str (tx [c])) ∧ Low cs ∧ cs.length = i) ⟨H0, ys, [], rfl, Same.refl _, B, rfl, Low.nil, rfl⟩ (fun i acc Hi hi hn hl z => ?_) fun acc Hi hn' hl z => ?_
  · obtain ⟨H3, ys, cs, rfl, e3, B, rfl, lc, hc⟩ := z
    repeat' walk_at "s"
    refine ⟨rfl, ?_⟩
    repeat' walk_at "s"
    refine s_takeD B hn (by decide) (lg (by decide) (by decide)) ?_
    intro r5 ys i1 i2 B hn
    refine s_pickX (by decide) i1 i2 fun q hq _ => ?_
    refine lc_put hn hl (by rw [sizeLine_eq]; omega) ⟨H3, ys, cs ++ [([97, 98] : List Nat)[q]], rfl, e3, B, by rw [List.map_append]; rfl, lc.app (low_at low_ab hq), by rw [List.length_append, hc]; rfl⟩
  clear B hD ys
  obtain ⟨H3, ys, fs, rfl, e3, B, rfl, lf, hf⟩ := z
  refine doneB B hn' fun H4 e4 h4 B => ?_
  refine s_join (ls := fs.map fun c => [c]) (by rw [List.map_map]; exact SqL.of (B.see _ _ h4)) (by rw [sum_ones]; omega) ?_
  rw [flat_ones]
  have e4 := e3.trans e4
  clear e3 hn' h4 hl
  repeat' walk_at "s"
  refine s_pickX (by omega) (by decide) (by omega) fun q0 hq0 _ => ?_
  repeat' walk_at "s"
  refine s_rn1 (by omega) (by omega) ?_
  intro D hD
  refine lcR hD (fun i acc Hi => ∃ (H3 : Hp) (ys : List V) (cs : List Nat), Hi = upd H3 b (.lst ys) ∧ Same H4 H3 ∧ Bag K H3 b ys ∧ acc = cs.map (fun c => V.str (tx [c])) ∧ Low cs ∧ cs.length = i) ⟨H4, ys, [], rfl, Same.refl _, B, rfl, Low.nil, rfl⟩ (fun i acc Hi hi hn hl z => ?_) fun acc Hi hn' hl z => ?_
  · obtain ⟨H3, ys, cs, rfl, e3, B, rfl, lc, hc⟩ := z
    repeat' walk_at "s"
    refine ⟨rfl, ?_⟩
    repeat' walk_at "s"
    refine s_takeD B hn (by decide) (lg (by decide) (by decide)) ?_
    intro r5 ys i1 i2 B hn
    refine s_pickX (by decide) i1 i2 fun q hq _ => ?_
    refine lc_put hn hl (by rw [sizeLine_eq]; omega) ⟨H3, ys, cs ++ [([97, 98, 99] : List Nat)[q]], rfl, e3, B, by rw [List.map_append]; rfl, lc.app (low_at low_abc hq), by rw [List.length_append, hc]; rfl⟩
  clear hD
  obtain ⟨H5, ys, ms, rfl, e5, B, rfl, lm, hms⟩ := z
  refine doneB B hn' fun H6 e6 h6 B => ?_
  refine s_join (ls := ms.map fun c => [c]) (by rw [List.map_map]; exact SqL.of (B.see _ _ h6)) (by rw [sum_ones]; omega) ?_
  rw [flat_ones]
  have e6 := e4.trans (e5.trans e6)
  clear e5 hn' h6 hl e4
  refine s_addX (by simp only [List.length_singleton]; omega) ?_
  repeat' walk_at "s"
  refine s_addX (by rw [List.length_append, List.length_singleton]; omega) ?_
  repeat' walk_at "s"
  refine s_addX (by rw [List.length_append, List.length_append, List.length_singleton]; omega) ?_
  obtain ⟨w, hw, ww, wl⟩ : ∃ w : List Nat, fs ++ ([fs[q0]] ++ ms) ++ fs = w ∧ Low w ∧ (w.length : Int) = 2 * u + m + 1 := by
    refine ⟨_, rfl, (lf.app ((low_at lf hq0).app lm)).app lf, ?_⟩
    rw [List.length_append, List.length_append, List.length_append, List.length_singleton]
    omega
  rw [hw]
  clear hw
  repeat' walk_at "e"
  with_reducible refine s_seqR (fun σ H => ∃ (w : List Nat) (x3 x4 : Option V), H = upd H6 b (.lst ys) ∧ Low w ∧ (w.length : Int) = 2 * u + m + 1 ∧ σ = [some (.ref b), some (.int u), some (.int m), x3, x4, some (.str (tx w)), none, none, none]) (fun σ H z => ?_) fun N hN => ?_
  rotate_left
  · repeat' walk_at "s"
    refine s_hid B ⟨_, rfl, w, rfl, by omega, by omega, fun t r h0 => ?_⟩
    repeat' walk_at "s"
    refine s_ifn (fun d => ?_) fun d => ?_
    · repeat' walk_at "s"
      refine s_mulX (by rw [List.length_singleton]; omega) (by omega) (by omega) ?_
      repeat' walk_at "s"
      refine s_mulX (by rw [List.length_singleton]; omega) (by omega) (by omega) ?_
      refine s_addX (by rw [rep_len, rep_len, List.length_singleton, List.length_singleton]; omega) ?_
      repeat' walk_at "s"
      refine s_mulX (by rw [List.length_singleton]; omega) (by omega) (by omega) ?_
      refine s_addX (by rw [List.length_append, rep_len, rep_len, rep_len, List.length_singleton, List.length_singleton]; omega) ?_
      repeat' walk_at "s"
      exact hN _ _ ⟨_, _, _, rfl, (((low_1 (c := 97) (by decide) (by decide)).rep _).app ((low_1 (c := 98) (by decide) (by decide)).rep _)).app ((low_1 (c := 97) (by decide) (by decide)).rep _), by rw [List.length_append, List.length_append, rep_len, rep_len, rep_len, List.length_singleton, List.length_singleton]; omega, rfl⟩
    · repeat' walk_at "s"
      exact hN _ _ ⟨w, _, _, rfl, ww, wl, rfl⟩
  clear ww wl
  obtain ⟨w, x3, x4, rfl, ww, wl, rfl⟩ := z
  repeat' walk_at "s"
  refine s_take B (by decide) (lg (by decide) (by decide)) ?_
  intro r3 ys c1 c2 B
  repeat' walk_at "s"
  refine s_lenX (by omega) ?_
  repeat' walk_at "s"
  refine s_take B (by omega) (lg (by omega) (by omega)) ?_
  intro r4 ys d1 d2 B
  have g1 := mul_bd (x := (w.length : Int)) (y := 1 + r4) (a := 12) (b := 2) (by omega) (by omega) (by omega) (by omega)
  have g2 := mul_bd (x := (w.length : Int)) (y := 2 + r3) (a := 12) (b := 3) (by omega) (by omega) (by omega) (by omega)
  have g3 : (w.length : Int) * 1 ≤ (w.length : Int) * (1 + r4) := Int.mul_le_mul_of_nonneg_left (by omega) (by omega)
  have g4 : (w.length : Int) * (1 + r4) ≤ (w.length : Int) * (2 + r3) := Int.mul_le_mul_of_nonneg_left (by omega) (by omega)
  repeat' walk_at "s"
  refine s_mulI (mulW (by omega) (by omega)) ?_
  repeat' walk_at "s"
  refine s_mulI (mulW (by omega) (by omega)) ?_
  repeat' walk_at "s"
  refine s_lenX (by omega) ?_
  repeat' walk_at "s"
  refine s_mulI (mulW (by omega) (by omega)) ?_
  repeat' walk_at "s"
  refine newB B (sz_of rfl) fun p H7 e7 hp B => ?_
  exact hQ H7 ys p w u _ _ (e6.trans e7) B hp ww (by omega) (by omega) (by omega) (by omega) (by omega) (by omega)
def t_zspoiled_case (K : PySem.W.Frag) : TS :=
  (tSeq (tAsg (tCB (rListOf K) (tCons (tVar 1) tNil)) (gName 2))
  (tSeq (tFor (iRng1 (tCons (tOp (rIx K) (tLst (tCons (tC (.int 0)) (tCons (tC (.int 1)) (tCons (tC (.int 1)) (tCons (tC (.int 2)) tNil))))) (gCall (sp_take K) E1 (tCons (tVar 0) (tCons (tC (.int 4)) tNil)))) tNil)) (gName 3)
  (tSeq (tAsg (gCall (sp_take K) E1 (tCons (tVar 0) (tCons (tC (.int 4)) tNil))) (gName 4))
  (tIfS (tTest (tOp rMore (tVar 4) (tC (.int 0)))) (tSeq (tAsg (tLst (tCons (tC (.int 0)) (tCons (tC (.int 1)) (tCons (tOp (rPlus K) (tOp (rIx K) (tVar 2) (tVar 4)) (tC (.int 1))) (tCons (tOp (rPlus K) (tOp (rIx K) (tVar 2) (tVar 4)) (tCB (rLen K) (tCons (tOp (rIx K) (tVar 2) (tC (.int 0))) tNil))) (tCons (tCB rMax2 (tCons (tC (.int 0)) (tCons (tOp rMinus (tOp (rIx K) (tVar 2) (tVar 4)) (tC (.int 1))) tNil))) (tCons (tOp (rIx K) (tVar 2) (tC (.int 2))) (tCons (tOp (rIx K) (tVar 2) (tC (.int 1))) tNil)))))))) (gName 5))
  (tAsg (tCB rMin2 (tCons (tC (.int 999)) (tCons (tOp (rIx K) (tOp (rPlus K) (tVar 5) (tLst (tCons (tC (.int 999)) (tCons (gCall (sp_take K) E1 (tCons (tVar 0) (tCons (tC (.int 40)) tNil))) (tCons (tOp rTimes (tC (.int 2)) (tOp (rIx K) (tVar 2) (tC (.int 1)))) tNil))))) (gCall (sp_take K) E1 (tCons (tVar 0) (tCons (tC (.int 10)) tNil)))) tNil))) (gSub (tVar 2) (tVar 4) rSetL))) (tSeq (tAsg (gCall (sp_take K) E1 (tCons (tVar 0) (tCons (tCB (rLen K) (tCons (tOp (rIx K) (tVar 2) (tC (.int 0))) tNil)) tNil))) (gName 6))
  (tSeq (tAsg (tOp (rPlus K) (tOp (rPlus K) (tSl (rCut K) (tOp (rIx K) (tVar 2) (tC (.int 0))) tNoPart (tPart (tVar 6))) (tOp (rIx K) (tC (.str "abz")) (gCall (sp_take K) E1 (tCons (tVar 0) (tCons (tC (.int 3)) tNil))))) (tSl (rCut K) (tOp (rIx K) (tVar 2) (tC (.int 0))) (tPart (tOp (rPlus K) (tVar 6) (tC (.int 1)))) tNoPart)) (gName 7))
  (tSeq (tAsg (tLst (tCons (tVar 7) (tCons (tSl (rCut K) (tOp rTimes (tOp (rIx K) (tVar 2) (tC (.int 0))) (tC (.int 2))) tNoPart (tPart (tC (.int 1000)))) (tCons (tSl (rCut K) (tOp (rIx K) (tVar 2) (tC (.int 0))) tNoPart (tPart (tC (.int 1)))) (tCons (tSl (rCut K) (tOp (rPlus K) (tOp (rIx K) (tVar 2) (tC (.int 0))) (tC (.str "a"))) tNoPart (tPart (tC (.int 1000)))) (tCons (tOrT K (tSl (rCut K) (tOp (rIx K) (tVar 2) (tC (.int 0))) (tPart (tC (.int 1))) tNoPart) (tC (.str "b"))) tNil)))))) (gName 5))
  (tSeq (tDrop (tBM K "list" rAppend (tVar 5) (tCons (tSl (rCut K) (tOp rTimes (tOp (rIx K) (tVar 2) (tC (.int 0))) (tC (.int 400))) tNoPart (tPart (tOp (rPlus K) (tC (.int 2)) (gCall (sp_take K) E1 (tCons (tVar 0) (tCons (tC (.int 999)) tNil)))))) tNil)))
  (tAsg (tOp (rIx K) (tOp (rPlus K) (tVar 5) (tLst (tCons (tOp rTimes (tC (.str "a")) (tOp (rPlus K) (tC (.int 2)) (gCall (sp_take K) E1 (tCons (tVar 0) (tCons (tC (.int 5)) tNil))))) tNil))) (gCall (sp_take K) E1 (tCons (tVar 0) (tCons (tC (.int 7)) tNil)))) (gSub (tVar 2) (tC (.int 0)) rSetL)))))))))
  (tRet (tTup (tCons (tOp (rIx K) (tVar 2) (tC (.int 0))) (tCons (tOp (rIx K) (tVar 2) (tC (.int 1))) (tCons (tOp (rIx K) (tVar 2) (tC (.int 2))) (tCons (tOp (rIx K) (tVar 2) (tC (.int 3))) tNil))))))))
theorem pu_zspoiled_case {K : PySem.W.Frag} (vs : List V) (H : Hp) (Q : VK) (E : XK) (h : sp_zspoiled_case K vs H Q E) : t_zspoiled_case K { nx := fun _ H' => Q .non H', rt := Q } (start ["_law_bag_here", "_law_case", "_law_found", "_law_k", "_law_at", "_law_some", "_law_spot", "_law_bent_here"] vs) H := by
  obtain ⟨_, _, rfl, b, H0, ys, p, l, u, o, c, rfl, rfl, rfl, B, hP, C, hQ⟩ := h
  unfold t_zspoiled_case
  rw [lit_abz, lit_a1, lit_b1]
  repeat' walk_at "s"
  refine s_listT (SqT.of (B.see _ _ hP)) ?_
  refine newF B trivial fun pf H1 hf e1 hpf B => ?_
  repeat' walk_at "s"
  refine newB B (sz_of rfl) fun p1 H2 e2 hp1 B => ?_
  repeat' walk_at "s"
  refine s_take B (by decide) (lg (by decide) (by decide)) ?_
  intro r1 ys a1 a2 B
  refine s_pickP (fun x => ∃ s : Int, x = .int s ∧ 0 ≤ s ∧ s ≤ 2) (B.see _ _ hp1) a1 a2 (fun x hx => ?_) fun x hx => ?_
  · simp only [List.mem_cons, List.not_mem_nil, or_false] at hx
    rcases hx with rfl | rfl | rfl | rfl
    all_goals exact ⟨_, rfl, by omega, by omega⟩
  obtain ⟨s, rfl, s0, s1⟩ := hx
  repeat' walk_at "s"
  refine s_rn1 (by omega) (by omega) ?_
  refine for_range (fun i σ H => ∃ (H3 : Hp) (ys : List V) (l : List Nat) (u o c : Int), ∃ x3 x4 x5 x6 x7 : Option V, Same H0 H3 ∧ Bag K H3 b ys ∧ H3 pf = some (.lst (fou l u o c)) ∧ Cas l u o c ∧ H = upd H3 b (.lst ys) ∧ σ = [some (.ref b), some (.ref p), some (.ref pf), x3, x4, x5, x6, x7])
    ⟨H2, ys, l, u, o, c, _, _, _, _, _, e1.trans e2, B, e2 _ _ hpf, C, rfl, rfl⟩ (fun i σ H hi z => ?_) fun σ H z => ?_
  · clear B C hP e1 e2 hpf hp1 l u o c ys
    obtain ⟨H3, ys, l, u, o, c, x3, x4, x5, x6, x7, e3, B, h3, C, rfl, rfl⟩ := z
    have Cl1 := C.l1
    have Cl2 := C.l2
    have Ca0 := C.a0
    have Ca1 := C.a1
    have Cb0 := C.b0
    have Cb1 := C.b1
    repeat' walk_at "s"
    refine s_take B (by decide) (lg (by decide) (by decide)) ?_
    intro r ys b1 b2 B
    repeat' walk_at "s"
    refine s_if (fun d => ?_) fun d => ?_
    · obtain ⟨v, hv, v0, v1⟩ := fou_at C d b2
      obtain ⟨n, hn, hset⟩ := fou_set C d b2
      repeat' walk_at "s"
      refine s_ixL (SqL.of (B.see _ _ h3)) hv ?_
      repeat' walk_at "s"
      refine s_ixL (SqL.of (B.see _ _ h3)) hv ?_
      repeat' walk_at "s"
      refine s_ixL (SqL.of (B.see _ _ h3)) at_0 ?_
      repeat' walk_at "s"
      refine s_lenX (by omega) ?_
      repeat' walk_at "s"
      refine s_ixL (SqL.of (B.see _ _ h3)) hv ?_
      repeat' walk_at "s"
      refine s_ixL (SqL.of (B.see _ _ h3)) (atI_nat (j := 2) rfl) ?_
      repeat' walk_at "s"
      refine s_ixL (SqL.of (B.see _ _ h3)) (atI_nat (j := 1) rfl) ?_
      repeat' walk_at "s"
      refine newB B (sz_of rfl) fun q1 H4 e4 hq1 B => ?_
      repeat' walk_at "s"
      refine s_take B (by decide) (lg (by decide) (by decide)) ?_
      intro r5 ys c1 c2 B
      repeat' walk_at "s"
      refine s_ixL (SqL.of (B.see _ _ (e4 _ _ h3))) (atI_nat (j := 1) rfl) ?_
      repeat' walk_at "s"
      refine s_mulI (mulW (by omega) (by omega)) ?_
      repeat' walk_at "s"
      refine newB B (sz_of rfl) fun q2 H5 e5 hq2 B => ?_
      repeat' walk_at "s"
      refine addB B (e5 _ _ hq1) hq2 (by simp) fun q3 H6 e6 hq3 B => ?_
      repeat' walk_at "s"
      refine s_take B (by decide) (lg (by decide) (by decide)) ?_
      intro r6 ys f1 f2 B
      refine s_pickP (fun x => ∃ s : Int, x = .int s ∧ 0 ≤ s) (B.see _ _ hq3) f1 f2 (fun x hx => ?_) fun x hx => ?_
      · simp only [List.mem_append, List.mem_cons, List.not_mem_nil, or_false] at hx
        rcases hx with (rfl | rfl | rfl | rfl | rfl | rfl | rfl) | (rfl | rfl | rfl)
        all_goals exact ⟨_, rfl, by omega⟩
      obtain ⟨w, rfl, w0⟩ := hx
      repeat' walk_at "s"
      have h6 := (((e4.trans e5).trans e6) _ _ h3)
      refine s_setL (B.see _ _ h6) hn ?_
      obtain ⟨u', o', c', hfs, C'⟩ := hset (min 999 w) (by omega) (by omega)
      rw [hfs, upd_out B h6]
      exact ⟨_, ys, l, u', o', c', _, _, _, _, _, same_put (((e3.trans e4).trans e5).trans e6) hf, bag_chg B h6 (no_ints), upd_same, C', rfl, rfl⟩
    · have er : r = 0 := by omega
      have lo := C.lw
      have ixl : ∀ {H : Hp} {R : VK}, H pf = some (.lst (fou l u o c)) → R (.str (tx l)) H → rIx K (.ref pf) (.int 0) H R := fun h q => s_ixL (SqL.of h) at_0 q
      repeat' walk_at "s"
      refine ixl (B.see _ _ h3) ?_
      repeat' walk_at "s"
      refine s_lenX (by omega) ?_
      repeat' walk_at "s"
      refine s_take B (by omega) (lg (by omega) (by omega)) ?_
      intro sp ys c1 c2 B
      repeat' walk_at "s"
      refine ixl (B.see _ _ h3) ?_
      repeat' walk_at "s"
      refine s_toX (by omega) (by omega) ?_
      repeat' walk_at "s"
      refine s_take B (by decide) (lg (by decide) (by decide)) ?_
      intro r5 ys f1 f2 B
      repeat' walk_at "s"
      refine s_pickX (by decide) f1 f2 fun q hq _ => ?_
      refine s_addX (by rw [List.length_take]; simp only [List.length_singleton]; omega) ?_
      repeat' walk_at "s"
      refine ixl (B.see _ _ h3) ?_
      repeat' walk_at "s"
      refine s_fromX (by omega) (by omega) ?_
      refine s_addX (by rw [List.length_append, List.length_take, List.length_drop]; simp only [List.length_singleton]; omega) ?_
      obtain ⟨be, hbe, be0⟩ : ∃ be : List Nat, l.take sp.toNat ++ [([97, 98, 122] : List Nat)[q]] ++ l.drop (sp + 1).toNat = be ∧ TxOk (.str (tx be)) := by
        refine ⟨_, rfl, _, rfl, ((lo.take _).app fun c hc => ?_).app (lo.drop _), ?_, ?_⟩
        · rcases List.mem_singleton.mp hc with rfl
          have hm := List.getElem_mem hq
          simp only [List.mem_cons, List.not_mem_nil, or_false] at hm
          omega
        · rw [List.length_append, List.length_append, List.length_singleton]
          omega
        · rw [List.length_append, List.length_append, List.length_take, List.length_drop, List.length_singleton]
          omega
      rw [hbe]
      repeat' walk_at "s"
      refine ixl (B.see _ _ h3) ?_
      repeat' walk_at "s"
      refine s_mulX (show l.length * 2 ≤ _ by omega) (by decide) (by decide) ?_
      repeat' walk_at "s"
      refine s_toX (by rw [rep_len]; show 2 * l.length ≤ _; omega) (by decide) ?_
      repeat' walk_at "s"
      refine ixl (B.see _ _ h3) ?_
      repeat' walk_at "s"
      refine s_toX (by omega) (by decide) ?_
      repeat' walk_at "s"
      refine ixl (B.see _ _ h3) ?_
      repeat' walk_at "s"
      refine s_addX (by simp only [List.length_singleton]; omega) ?_
      repeat' walk_at "s"
      refine s_toX (by rw [List.length_append]; simp only [List.length_singleton]; omega) (by decide) ?_
      refine s_orT ?_
      repeat' walk_at "s"
      refine ixl (B.see _ _ h3) ?_
      repeat' walk_at "s"
      refine s_fromX (by omega) (by decide) ?_
      refine s_orC TxOk (by rw [List.length_drop]; omega) (fun hne => ⟨_, rfl, lo.drop _, by omega, by rw [List.length_drop]; omega⟩) ⟨_, rfl, low_1 (by decide) (by decide), by decide, by decide⟩ fun x5 hx5 => ?_
      have t2 : TxOk (.str (tx ((List.replicate (2 : Int).toNat l).flatten.take (1000 : Int).toNat))) := ⟨_, rfl, (lo.rep _).take _, by rw [List.length_take, rep_len]; show 1 ≤ min 1000 (2 * l.length); omega, by rw [List.length_take]; exact Nat.min_le_left _ _⟩
      have t3 : TxOk (.str (tx (l.take (1 : Int).toNat))) := ⟨_, rfl, lo.take _, by rw [List.length_take]; show 1 ≤ min 1 l.length; omega, by rw [List.length_take]; exact Nat.le_trans (Nat.min_le_left _ _) (by decide)⟩
      have t4 : TxOk (.str (tx ((l ++ [97]).take (1000 : Int).toNat))) := ⟨_, rfl, (lo.app (low_1 (by decide) (by decide))).take _, by rw [List.length_take, List.length_append, List.length_singleton]; show 1 ≤ min 1000 (l.length + 1); omega, by rw [List.length_take]; exact Nat.min_le_left _ _⟩
      generalize (List.replicate (2 : Int).toNat l).flatten.take (1000 : Int).toNat = w2 at t2 ⊢
      generalize l.take (1 : Int).toNat = w3 at t3 ⊢
      generalize (l ++ [97]).take (1000 : Int).toNat = w4 at t4 ⊢
      repeat' walk_at "s"
      refine newF B (sz_of rfl) fun q1 H4 fq e4 hq1 B => ?_
      repeat' walk_at "s"
      refine s_tyL (SqL.of (B.see _ _ hq1)) ?_
      repeat' walk_at "s"
      refine ixl (B.see _ _ (e4 _ _ h3)) ?_
      repeat' walk_at "s"
      refine s_mulX (show l.length * 400 ≤ _ by omega) (by decide) (by decide) ?_
      repeat' walk_at "s"
      refine s_take B (by decide) (lg (by decide) (by decide)) ?_
      intro r6 ys g1 g2 B
      repeat' walk_at "s"
      refine s_toX (by rw [rep_len]; show 400 * l.length ≤ _; omega) (by omega) ?_
      have t6 : TxOk (.str (tx ((List.replicate (400 : Int).toNat l).flatten.take (2 + r6).toNat))) := ⟨_, rfl, (lo.rep _).take _, by rw [List.length_take, rep_len]; show 1 ≤ min _ (400 * l.length); omega, by rw [List.length_take]; exact Nat.le_trans (Nat.min_le_left _ _) (by omega)⟩
      generalize (List.replicate (400 : Int).toNat l).flatten.take (2 + r6).toNat = w6 at t6 ⊢
      repeat' walk_at "s"
      refine s_app (B.see _ _ hq1) (by rw [sizeLine_eq]; simp) ?_
      rw [upd_out B hq1]
      replace B := bag_chg (xs' := [.str (tx be), .str (tx w2), .str (tx w3), .str (tx w4), x5] ++ [.str (tx w6)]) B hq1 no_ints
      have npf : pf ≠ q1 := fun e => by
        rw [← e, h3] at fq
        cases fq
      have h5 : (upd H4 q1 (.lst ([.str (tx be), .str (tx w2), .str (tx w3), .str (tx w4), x5] ++ [.str (tx w6)]))) pf = some (.lst (fou l u o c)) := by
        rw [upd_ne npf]
        exact e4 _ _ h3
      have e5 : Same H0 (upd H4 q1 (.lst ([.str (tx be), .str (tx w2), .str (tx w3), .str (tx w4), x5] ++ [.str (tx w6)]))) := same_put (e3.trans e4) (same_none e3 fq)
      have hq5 : (upd H4 q1 (.lst ([.str (tx be), .str (tx w2), .str (tx w3), .str (tx w4), x5] ++ [.str (tx w6)]))) q1 = some (.lst ([.str (tx be), .str (tx w2), .str (tx w3), .str (tx w4), x5] ++ [.str (tx w6)])) := upd_same
      generalize (upd H4 q1 (.lst ([.str (tx be), .str (tx w2), .str (tx w3), .str (tx w4), x5] ++ [.str (tx w6)]))) = H5 at B h5 e5 hq5 ⊢
      repeat' walk_at "s"
      refine s_take B (by decide) (lg (by decide) (by decide)) ?_
      intro r7 ys i1 i2 B
      repeat' walk_at "s"
      refine s_mulX (by simp only [List.length_singleton]; omega) (by omega) (by omega) ?_
      have t7 : TxOk (.str (tx (List.replicate (2 + r7).toNat [97]).flatten)) := ⟨_, rfl, (low_1 (by decide) (by decide)).rep _, by rw [rep_len, List.length_singleton]; omega, by rw [rep_len, List.length_singleton]; omega⟩
      generalize (List.replicate (2 + r7).toNat [97]).flatten = w7 at t7 ⊢
      repeat' walk_at "s"
      refine newB B (sz_of rfl) fun q2 H6 e6 hq2 B => ?_
      repeat' walk_at "s"
      refine addB B (e6 _ _ hq5) hq2 (by simp) fun q3 H7 e7 hq3 B => ?_
      repeat' walk_at "s"
      refine s_take B (by decide) (lg (by decide) (by decide)) ?_
      intro r8 ys j1 j2 B
      refine s_pickP TxOk (B.see _ _ hq3) j1 j2 (fun x hx => ?_) fun x hx => ?_
      · simp only [List.mem_append, List.mem_cons, List.not_mem_nil, or_false] at hx
        rcases hx with ((rfl | rfl | rfl | rfl | rfl) | rfl) | rfl
        · exact be0
        · exact t2
        · exact t3
        · exact t4
        · exact hx5
        · exact t6
        · exact t7
      obtain ⟨w, rfl, ww, wl1, wl2⟩ := hx
      repeat' walk_at "s"
      have h7 := ((e6.trans e7) _ _ h5)
      refine s_setL (n := 0) (B.see _ _ h7) rfl ?_
      rw [upd_out B h7]
      exact ⟨_, ys, w, u, o, c, _, _, _, _, _, same_put ((e5.trans e6).trans e7) hf, bag_chg B h7 (no_ints), upd_same, { C with lw := ww, l1 := wl1, l2 := wl2 }, rfl, rfl⟩
  · clear B C hP e1 e2 hpf hp1
    obtain ⟨H3, ys, l, u, o, c, x3, x4, x5, x6, x7, e3, B, h3, C, rfl, rfl⟩ := z
    repeat' walk_at "s"
    refine s_ixL (SqL.of (B.see _ _ h3)) at_0 ?_
    repeat' walk_at "s"
    refine s_ixL (SqL.of (B.see _ _ h3)) (atI_nat (j := 1) rfl) ?_
    repeat' walk_at "s"
    refine s_ixL (SqL.of (B.see _ _ h3)) (atI_nat (j := 2) rfl) ?_
    repeat' walk_at "s"
    refine s_ixL (SqL.of (B.see _ _ h3)) (atI_nat (j := 3) rfl) ?_
    repeat' walk_at "s"
    refine newB B (sz_of rfl) fun p4 H4 e4 hp4 B => ?_
    exact hQ H4 ys p4 l u o c (e3.trans e4) B hp4 C
def t_zbroken (K : PySem.W.Frag) : TS :=
  (tSeq (tAsg (tVar 1) (gTup K 4 (gCons (gName 2) (gCons (gName 3) (gCons (gName 4) (gCons (gName 5) gNil))))))
  (tSeq (tPar 6 7 (tCons (tCB (rLen K) (tCons (tVar 2) tNil)) (tCons (gCall (sp_take K) E1 (tCons (tVar 0) (tCons (tC (.int 3)) tNil))) tNil)))
  (tSeq (tIfS (tTest (tOp (rSame K) (tVar 7) (tC (.int 0)))) (tSeq (tAsg (tLst (tCons (gCall (sp_take K) E1 (tCons (tVar 0) (tCons (tC (.int 3)) tNil))) (tCons (tOp (rPlus K) (tC (.int 1)) (gCall (sp_take K) E1 (tCons (tVar 0) (tCons (tC (.int 2)) tNil)))) (tCons (gCall (sp_take K) E1 (tCons (tVar 0) (tCons (tC (.int 3)) tNil))) tNil)))) (gName 8))
  (tRet (tTup (tCons (tVar 2) (tCons (tOp rTimes (tVar 6) (tOp (rIx K) (tVar 8) (tC (.int 0)))) (tCons (tOp rTimes (tVar 6) (tOp (rPlus K) (tOp (rIx K) (tVar 8) (tC (.int 0))) (tOp (rIx K) (tVar 8) (tC (.int 1))))) (tCons (tOp rTimes (tVar 6) (tCB (rSum K) (tCons (tVar 8) tNil))) tNil))))))) tNext)
  (tSeq (tIfS (tTest (tOp (rSame K) (tVar 7) (tC (.int 1)))) (tSeq (tAsg (tOp (rPlus K) (tC (.int 1)) (gCall (sp_take K) E1 (tCons (tVar 0) (tCons (tOp rMinus (tVar 6) (tC (.int 1))) tNil)))) (gName 9))
  (tRet (tTup (tCons (tVar 2) (tCons (tVar 3) (tCons (tVar 4) (tCons (tOp (rPlus K) (tVar 5) (tOp (rIx K) (tLst (tCons (tVar 9) (tCons (tOp rMinus (tC (.int 0)) (tVar 9)) tNil))) (tCB rInt (tCons (tOp rMore (tVar 5) (tC (.int 900))) tNil)))) tNil))))))) tNext)
  (tSeq (tAsg (tLc (iStr (tC (.str "abcdefghijklmnopqrstuvwxyz"))) (gName 11) (tTest (tOp (rIsNotIn K) (tVar 11) (tVar 2))) (tVar 11) [11]) (gName 10))
  (tRet (tTup (tCons (tOp (rPlus K) (tOp (rIx K) (tVar 10) (tC (.int 0))) (tSl (rCut K) (tVar 2) (tPart (tC (.int 1))) tNoPart)) (tCons (tVar 3) (tCons (tVar 4) (tCons (tVar 5) tNil)))))))))))
theorem pu_zbroken {K : PySem.W.Frag} (vs : List V) (H : Hp) (Q : VK) (E : XK) (h : sp_zbroken K vs H Q E) : t_zbroken K { nx := fun _ H' => Q .non H', rt := Q } (start ["_law_bag_here", "_law_case", "_law_word", "_law_one", "_law_other", "_law_last", "_law_size", "_law_way", "_law_many", "_law_more", "_law_strange", "_law_letter"] vs) H := by
  obtain ⟨_, _, rfl, b, H0, ys, p, l, u, o, c, rfl, rfl, rfl, B, hP, C, l3, l6, u1, uo, o1, oc, hQ⟩ := h
  unfold t_zbroken
  rw [lit_az]
  have Cc1 := C.c1
  have lw := C.lw
  repeat' walk_at "s"
  refine s_gTup (SqT.of (B.see _ _ hP)) rfl ?_
  repeat' walk_at "s"
  refine s_lenX (by omega) ?_
  repeat' walk_at "s"
  refine s_take B (by decide) (lg (by decide) (by decide)) ?_
  intro wy ys a1 a2 B
  repeat' walk_at "s"
  refine s_if (fun d => ?_) fun d => ?_
  · repeat' walk_at "s"
    refine s_take B (by decide) (lg (by decide) (by decide)) ?_
    intro m0 ys b1 b2 B
    repeat' walk_at "s"
    refine s_take B (by decide) (lg (by decide) (by decide)) ?_
    intro m1 ys c1 c2 B
    repeat' walk_at "s"
    refine s_take B (by decide) (lg (by decide) (by decide)) ?_
    intro m2 ys d1 d2 B
    repeat' walk_at "s"
    refine newB B (sz_of rfl) fun p1 H1 e1 hp1 B => ?_
    have h1 : SqL K (upd H1 b (.lst ys)) p1 ([m0, 1 + m1, m2].map V.int) := SqL.of (B.see _ _ hp1)
    repeat' walk_at "s"
    refine s_ixL h1 at_0 ?_
    repeat' walk_at "s"
    have g0 := mul_bd (x := (l.length : Int)) (y := m0) (a := 12) (b := 2) (by omega) (by omega) b1 (by omega)
    have g1 := mul_bd (x := (l.length : Int)) (y := m0 + (1 + m1)) (a := 12) (b := 4) (by omega) (by omega) (by omega) (by omega)
    have g2 := mul_bd (x := (l.length : Int)) (y := m0 + (1 + m1) + m2) (a := 12) (b := 6) (by omega) (by omega) (by omega) (by omega)
    have g3 : (l.length : Int) * (m0 + (1 + m1)) ≤ (l.length : Int) * (m0 + (1 + m1) + m2) := Int.mul_le_mul_of_nonneg_left (by omega) (by omega)
    have g4 : (l.length : Int) * m0 ≤ (l.length : Int) * (m0 + (1 + m1)) := Int.mul_le_mul_of_nonneg_left (by omega) (by omega)
    have g5 : (l.length : Int) * 1 ≤ (l.length : Int) * (m0 + (1 + m1)) := Int.mul_le_mul_of_nonneg_left (by omega) (by omega)
    refine s_mulI (mulW (by omega) (by omega)) ?_
    repeat' walk_at "s"
    refine s_ixL h1 at_0 ?_
    repeat' walk_at "s"
    refine s_ixL h1 (atI_nat (j := 1) rfl) ?_
    repeat' walk_at "s"
    refine s_mulI (mulW (by omega) (by omega)) ?_
    repeat' walk_at "s"
    refine s_sum h1 ?_
    have es : [m0, 1 + m1, m2].sum = m0 + (1 + m1) + m2 := by
      simp only [List.sum_cons, List.sum_nil]
      omega
    rw [es]
    repeat' walk_at "s"
    refine s_mulI (mulW (by omega) (by omega)) ?_
    repeat' walk_at "s"
    refine newB B (sz_of rfl) fun p2 H2 e2 hp2 B => ?_
    exact hQ H2 ys p2 l _ _ _ (e1.trans e2) B hp2 ⟨lw, C.l1, C.l2, by omega, by omega, by omega, by omega, by omega, by omega⟩ (by omega) (by omega) (by omega)
  repeat' walk_at "s"
  refine s_if (fun d1 => ?_) fun d1 => ?_
  · repeat' walk_at "s"
    refine s_take B (by omega) (lg (by omega) (by omega)) ?_
    intro m0 ys b1 b2 B
    repeat' walk_at "s"
    refine newB B (sz_of rfl) fun p1 H1 e1 hp1 B => ?_
    repeat' walk_at "s"
    by_cases hc : c > 900
    · rw [decide_eq_true hc, if_pos rfl]
      refine s_ixL (SqL.of (B.see _ _ hp1)) (atI_nat (j := 1) rfl) ?_
      repeat' walk_at "s"
      refine newB B (sz_of rfl) fun p2 H2 e2 hp2 B => ?_
      exact hQ H2 ys p2 l _ _ _ (e1.trans e2) B hp2 ⟨lw, C.l1, C.l2, by omega, by omega, by omega, by omega, by omega, by omega⟩ (by omega) (by omega) (by omega)
    · rw [decide_eq_false hc, if_neg (by decide)]
      refine s_ixL (SqL.of (B.see _ _ hp1)) at_0 ?_
      repeat' walk_at "s"
      refine newB B (sz_of rfl) fun p2 H2 e2 hp2 B => ?_
      exact hQ H2 ys p2 l _ _ _ (e1.trans e2) B hp2 ⟨lw, C.l1, C.l2, by omega, by omega, by omega, by omega, by omega, by omega⟩ (by omega) (by omega) (by omega)
  repeat' walk_at "s"
  intro D hD
  refine lcX hD (fun i acc Hi => Hi = upd H0 b (.lst ys) ∧ acc = ((([97, 98, 99, 100, 101, 102, 103, 104, 105, 106, 107, 108, 109, 110, 111, 112, 113, 114, 115, 116, 117, 118, 119, 120, 121, 122] : List Nat).take i).filter fun d => !decide (d ∈ l)).map fun d => V.str (tx [d])) ⟨rfl, rfl⟩ (fun i d acc Hi hi hn hl z => ?_) fun acc Hi hn hl z => ?_
  · obtain ⟨rfl, rfl⟩ := z
    repeat' walk_at "s"
    refine ⟨rfl, ?_⟩
    repeat' walk_at "s"
    refine s_notinX ?_
    repeat' walk_at "s"
    have et : ([97, 98, 99, 100, 101, 102, 103, 104, 105, 106, 107, 108, 109, 110, 111, 112, 113, 114, 115, 116, 117, 118, 119, 120, 121, 122] : List Nat).take (i + 1) = ([97, 98, 99, 100, 101, 102, 103, 104, 105, 106, 107, 108, 109, 110, 111, 112, 113, 114, 115, 116, 117, 118, 119, 120, 121, 122] : List Nat).take i ++ [d] := by rw [List.take_add_one, hi]; rfl
    have hi3 : i < 26 := (List.getElem?_eq_some_iff.mp hi).1
    refine s_ifn (fun h => ?_) fun h => ?_
    · repeat' walk_at "s"
      refine lc_put hn hl (by rw [sizeLine_eq]; omega) ⟨rfl, ?_⟩
      rw [et, List.filter_append, List.map_append]
      congr 1
      simp [List.filter, h]
    · refine lc_no hn hl ⟨rfl, ?_⟩
      rw [et, List.filter_append]
      simp [List.filter, h]
  obtain ⟨rfl, rfl⟩ := z
  refine doneB B hn fun H4 e4 h4 B => ?_
  have hf : 1 ≤ (([97, 98, 99, 100, 101, 102, 103, 104, 105, 106, 107, 108, 109, 110, 111, 112, 113, 114, 115, 116, 117, 118, 119, 120, 121, 122] : List Nat).filter fun d => !decide (d ∈ l)).length := by
    by_cases hz : (([97, 98, 99, 100, 101, 102, 103, 104, 105, 106, 107, 108, 109, 110, 111, 112, 113, 114, 115, 116, 117, 118, 119, 120, 121, 122] : List Nat).filter fun d => !decide (d ∈ l)) = []
    · have := pig ([97, 98, 99, 100, 101, 102, 103, 104, 105, 106, 107, 108, 109, 110, 111, 112, 113, 114, 115, 116, 117, 118, 119, 120, 121, 122] : List Nat) l (by decide) fun a ha => by
        by_cases hm : a ∈ l
        · exact hm
        · exact absurd (List.filter_eq_nil_iff.mp hz a ha) (by rw [decide_eq_false hm]; decide)
      have h26 : ([97, 98, 99, 100, 101, 102, 103, 104, 105, 106, 107, 108, 109, 110, 111, 112, 113, 114, 115, 116, 117, 118, 119, 120, 121, 122] : List Nat).length = 26 := rfl
      omega
    · exact List.length_pos_iff.mpr hz
  repeat' walk_at "s"
  refine s_pickP (fun x => ∃ d, x = .str (tx [d]) ∧ Low [d]) (B.see _ _ h4) (by decide) (by rw [List.length_map]; have : ([97, 98, 99, 100, 101, 102, 103, 104, 105, 106, 107, 108, 109, 110, 111, 112, 113, 114, 115, 116, 117, 118, 119, 120, 121, 122] : List Nat).take ([97, 98, 99, 100, 101, 102, 103, 104, 105, 106, 107, 108, 109, 110, 111, 112, 113, 114, 115, 116, 117, 118, 119, 120, 121, 122] : List Nat).length = ([97, 98, 99, 100, 101, 102, 103, 104, 105, 106, 107, 108, 109, 110, 111, 112, 113, 114, 115, 116, 117, 118, 119, 120, 121, 122] : List Nat) := rfl; rw [this]; omega) (fun x hx => ?_) fun x hx => ?_
  · obtain ⟨d, hd, rfl⟩ := List.mem_map.mp hx
    refine ⟨d, rfl, fun q hq => ?_⟩
    rcases List.mem_singleton.mp hq with rfl
    exact low_az _ (List.mem_of_mem_take (List.mem_filter.mp hd).1)
  obtain ⟨d, rfl, ld⟩ := hx
  repeat' walk_at "s"
  refine s_fromX (by omega) (by decide) ?_
  refine s_addX (by simp only [List.length_singleton]; rw [List.length_drop]; omega) ?_
  repeat' walk_at "s"
  refine newB B (sz_of rfl) fun p2 H2 e2 hp2 B => ?_
  exact hQ H2 ys p2 _ u o c (e4.trans e2) B hp2 { C with lw := ld.app (lw.drop _), l1 := (by rw [List.length_append, List.length_singleton]; omega), l2 := (by rw [List.length_append, List.length_singleton, List.length_drop]; omega) } (by omega) (by omega) (by omega)
def t_zdue (K : PySem.W.Frag) (S : Sp) : TS :=
  (tSeq (tIfS (tTest (tOp rMore (tVar 1) (tVar 3))) (tRet (gCall S E1 (tCons (tVar 2) (tCons (tVar 3) (tCons (tVar 0) (tCons (tVar 1) (tCons (tVar 4) tNil))))))) tNext)
  (tSeq (tAsg (tTup (tCons (tVar 4) (tCons (tVar 1) (tCons (tVar 3) (tCons (tOp rMinus (tCB (rLen K) (tCons (tVar 0) tNil)) (tC (.int 1))) tNil))))) (gName 5))
  (tRet (tAndV (tOp rIsNone (gCall (sp_zfailed K) E1 (tCons (tVar 5) tNil)) (tC .non)) (tOp (rSame K) (gCall (sp_ztwins K) E1 (tCons (tVar 5) tNil)) (tTup (tCons (tVar 0) (tCons (tVar 2) tNil))))))))
theorem pu_zdue1 {K : PySem.W.Frag} (vs : List V) (H : Hp) (Q : VK) (E : XK) (h : sp_zdue1 K vs H Q E) : t_zdue K spNo { nx := fun _ H' => Q .non H', rt := Q } (start ["_law_row", "_law_place", "_law_other", "_law_its", "_law_word", "_law_case"] vs) H := by
  obtain ⟨_, _, _, _, _, rfl, r, u, q, v, w, rfl, rfl, rfl, rfl, rfl, r3, q3, w3, u0, u1, v0, v1, r1, q1, lr, lq, lw, ok, hQ⟩ := h
  unfold t_zdue
  repeat' walk_at "s"
  refine s_if (fun d => ?_) fun d => ?_
  · exact absurd ok (by omega)
  repeat' walk_at "s"
  refine s_lenX (by omega) ?_
  repeat' walk_at "s"
  refine newS (sz_of rfl) fun p1 H1 _ e1 hp1 => ?_
  repeat' walk_at "s"
  refine s_all ⟨_, rfl, p1, w, u, v, _, rfl, SqT.of hp1, by omega, by omega, by omega, ?_⟩
  cases e : fl w u v ((r.length : Int) - 1) with
  | some j =>
    repeat' walk_at "s"
    refine iteF ?_
    have this : Q (.bl (E0 w r u q v)) H1 := hQ H1 e1
    rw [e0_no e] at this
    exact this
  | none =>
    obtain ⟨l2, uo, oc⟩ := fl_none e
    repeat' walk_at "s"
    refine iteT ?_
    repeat' walk_at "s"
    refine s_all ⟨_, rfl, p1, w, u, v, _, rfl, SqT.of hp1, by omega, by omega, by omega, by omega, by omega, by omega, by omega, newS trivial fun p2 H2 _ e2 hp2 => ?_⟩
    repeat' walk_at "s"
    refine newS (sz_of rfl) fun p3 H3 _ e3 hp3 => ?_
    refine s_eqD (.tup (SqT.of (e3 _ _ hp2)) (.cons (.str _) (.cons (.str _) .nil))) (.tup (SqT.of hp3) (.cons (.str _) (.cons (.str _) .nil))) (shp2 (tw_low lw _ _) (tw_le w (by omega) (by omega) (by omega)) (tw_low lw _ _) (tw_le w (by omega) (by omega) (by omega))) (shp2 lr (by omega) lq (by omega)) ?_
    rw [eqv_2]
    have this : Q (.bl (E0 w r u q v)) H3 := hQ H3 ((e1.trans e2).trans e3)
    rw [e0_yes e] at this
    exact this
theorem pu_zdue {K : PySem.W.Frag} (vs : List V) (H : Hp) (Q : VK) (E : XK) (h : sp_zdue K vs H Q E) : t_zdue K (sp_zdue1 K) { nx := fun _ H' => Q .non H', rt := Q } (start ["_law_row", "_law_place", "_law_other", "_law_its", "_law_word", "_law_case"] vs) H := by
  obtain ⟨_, _, _, _, _, rfl, r, u, q, v, w, rfl, rfl, rfl, rfl, rfl, r3, q3, w3, u0, u1, v0, v1, r1, q1, lr, lq, lw, ok, hQ⟩ := h
  unfold t_zdue
  repeat' walk_at "s"
  refine s_if (fun d => ?_) fun d => ?_
  · repeat' walk_at "s"
    refine s_all ⟨_, _, _, _, _, rfl, q, v, r, u, w, rfl, rfl, rfl, rfl, rfl, q3, r3, w3, v0, v1, u0, u1, q1, r1, lq, lr, lw, by omega, fun H' e => ?_⟩
    have := hQ H' e
    unfold tg at this
    rw [if_pos d] at this
    exact this
  repeat' walk_at "s"
  refine s_lenX (by omega) ?_
  repeat' walk_at "s"
  refine newS (sz_of rfl) fun p1 H1 _ e1 hp1 => ?_
  repeat' walk_at "s"
  refine s_all ⟨_, rfl, p1, w, u, v, _, rfl, SqT.of hp1, by omega, by omega, by omega, ?_⟩
  cases e : fl w u v ((r.length : Int) - 1) with
  | some j =>
    repeat' walk_at "s"
    refine iteF ?_
    have this : Q (.bl (tg r u q v w)) H1 := hQ H1 e1
    rw [show tg r u q v w = _ from (if_neg d).trans (e0_no e)] at this
    exact this
  | none =>
    obtain ⟨l2, uo, oc⟩ := fl_none e
    repeat' walk_at "s"
    refine iteT ?_
    repeat' walk_at "s"
    refine s_all ⟨_, rfl, p1, w, u, v, _, rfl, SqT.of hp1, by omega, by omega, by omega, by omega, by omega, by omega, by omega, newS trivial fun p2 H2 _ e2 hp2 => ?_⟩
    repeat' walk_at "s"
    refine newS (sz_of rfl) fun p3 H3 _ e3 hp3 => ?_
    refine s_eqD (.tup (SqT.of (e3 _ _ hp2)) (.cons (.str _) (.cons (.str _) .nil))) (.tup (SqT.of hp3) (.cons (.str _) (.cons (.str _) .nil))) (shp2 (tw_low lw _ _) (tw_le w (by omega) (by omega) (by omega)) (tw_low lw _ _) (tw_le w (by omega) (by omega) (by omega))) (shp2 lr (by omega) lq (by omega)) ?_
    rw [eqv_2]
    have this : Q (.bl (tg r u q v w)) H3 := hQ H3 ((e1.trans e2).trans e3)
    rw [show tg r u q v w = _ from (if_neg d).trans (e0_yes e)] at this
    exact this
def t_are_twins (K : PySem.W.Frag) : TS :=
  (tSeq (tIfS (tTest (tOp rMore (tVar 1) (tVar 3))) (tAsg (tTup (tCons (tVar 2) (tCons (tVar 3) (tCons (tVar 0) (tCons (tVar 1) tNil))))) (gTup K 4 (gCons (gName 0) (gCons (gName 1) (gCons (gName 2) (gCons (gName 3) gNil)))))) tNext)
  (tSeq (tIfS (tTest (tOp rIsSome (gCall (sp_failed K) E1 (tCons (tVar 4) (tCons (tVar 1) (tCons (tVar 3) (tCons (tOp rMinus (tCB (rLen K) (tCons (tVar 0) tNil)) (tC (.int 1))) tNil))))) (tC .non))) (tRet (tC (.bl false))) tNext)
  (tRet (tOp (rSame K) (gCall (sp_twins K) E1 (tCons (tVar 4) (tCons (tVar 1) (tCons (tVar 3) (tCons (tOp rMinus (tCB (rLen K) (tCons (tVar 0) tNil)) (tC (.int 1))) tNil))))) (tTup (tCons (tVar 0) (tCons (tVar 2) tNil)))))))
theorem pu_are_twins {K : PySem.W.Frag} (vs : List V) (H : Hp) (Q : VK) (E : XK) (h : sp_are_twins K vs H Q E) : t_are_twins K { nx := fun _ H' => Q .non H', rt := Q } (start ["row", "place", "other", "its", "word"] vs) H := by
  obtain ⟨_, _, _, _, _, rfl, r, u, q, v, w, rfl, rfl, rfl, rfl, rfl, r3, q3, w3, u0, u1, v0, v1, r1, q1, lr, lq, lw, ok, hQ⟩ := h
  unfold t_are_twins
  repeat' walk_at "e"
  with_reducible refine s_seqR (fun σ H1 => ∃ (r q : List Nat) (u v : Int), σ = [some (.str (tx r)), some (.int u), some (.str (tx q)), some (.int v), some (.str (tx w))] ∧ r.length ≤ 1000 ∧ q.length ≤ 1000 ∧ 0 ≤ u ∧ u ≤ 1000 ∧ 0 ≤ v ∧ v ≤ 1000 ∧ 1 ≤ r.length ∧ 1 ≤ q.length ∧ Low r ∧ Low q ∧ ∀ H', Same H1 H' → Q (.bl (E0 w r u q v)) H') (fun σ H1 z => ?_) fun N hN => ?_
  · clear hQ u0 u1 v0 v1 r1 q1 r3 q3 lr lq ok r q u v
    obtain ⟨r, q, u, v, rfl, r3, q3, u0, u1, v0, v1, r1, q1, lr, lq, hQ⟩ := z
    repeat' walk_at "s"
    refine s_lenX (by omega) ?_
    repeat' walk_at "s"
    refine s_all ⟨_, _, _, _, rfl, w, u, v, _, rfl, rfl, rfl, rfl, by omega, by omega, by omega, ?_⟩
    cases e : fl w u v ((r.length : Int) - 1) with
    | some j =>
      repeat' walk_at "s"
      refine iteT ?_
      repeat' walk_at "s"
      have := hQ H1 (Same.refl _)
      rw [e0_no e] at this
      exact this
    | none =>
      obtain ⟨l2, uo, oc⟩ := fl_none e
      repeat' walk_at "s"
      refine iteF ?_
      repeat' walk_at "s"
      refine s_lenX (by omega) ?_
      repeat' walk_at "s"
      refine s_all ⟨_, _, _, _, rfl, w, u, v, _, rfl, rfl, rfl, rfl, by omega, by omega, by omega, by omega, e, newS trivial fun p2 H2 _ e2 hp2 => ?_⟩
      repeat' walk_at "s"
      refine newS (sz_of rfl) fun p3 H3 _ e3 hp3 => ?_
      refine s_eqD (.tup (SqT.of (e3 _ _ hp2)) (.cons (.str _) (.cons (.str _) .nil))) (.tup (SqT.of hp3) (.cons (.str _) (.cons (.str _) .nil))) (shp2 (tw_low lw _ _) (tw_le w (by omega) (by omega) (by omega)) (tw_low lw _ _) (tw_le w (by omega) (by omega) (by omega))) (shp2 lr (by omega) lq (by omega)) ?_
      rw [eqv_2]
      have := hQ H3 (e2.trans e3)
      rw [e0_yes e] at this
      exact this
  · repeat' walk_at "s"
    refine s_if (fun d => ?_) fun d => ?_
    · repeat' walk_at "s"
      refine newS (sz_of rfl) fun p1 H1 _ e1 hp1 => ?_
      repeat' walk_at "s"
      refine s_gTup (SqT.of hp1) rfl ?_
      repeat' walk_at "s"
      exact hN _ _ ⟨q, r, v, u, rfl, q3, r3, v0, v1, u0, u1, q1, r1, lq, lr, fun H' e => by
        have := hQ H' (e1.trans e)
        rw [show tg r u q v w = _ from if_pos d] at this
        exact this⟩
    · repeat' walk_at "s"
      exact hN _ _ ⟨r, q, u, v, rfl, r3, q3, u0, u1, v0, v1, r1, q1, lr, lq, fun H' e => by
        have := hQ H' e
        rw [show tg r u q v w = _ from if_neg d] at this
        exact this⟩
def t_zbent (K : PySem.W.Frag) : TS :=
  (tSeq (tAsg (tVar 1) (gTup K 5 (gCons (gName 2) (gCons (gName 3) (gCons (gName 4) (gCons (gName 5) (gCons (gName 6) gNil)))))))
  (tSeq (tAsg (tOp rMinus (tCB (rLen K) (tCons (tVar 2) tNil)) (tC (.int 1))) (gName 7))
  (tSeq (tPar 8 9 (tCons (gCall (sp_take K) E1 (tCons (tVar 0) (tCons (tC (.int 9)) tNil))) (tCons (gCall (sp_take K) E1 (tCons (tVar 0) (tCons (tOp (rPlus K) (tVar 7) (tC (.int 1))) tNil))) tNil)))
  (tSeq (tIfS (tTest (tOp rLess (tVar 8) (tC (.int 2)))) (tRet (tOp (rIx K) (tLst (tCons (tTup (tCons (tVar 2) (tCons (tVar 9) (tCons (tVar 4) (tCons (tVar 5) (tCons (tVar 6) tNil)))))) (tCons (tTup (tCons (tVar 2) (tCons (tVar 3) (tCons (tVar 4) (tCons (tVar 9) (tCons (tVar 6) tNil)))))) tNil))) (tVar 8))) tNext)
  (tSeq (tIfS (tTest (tOp (rSame K) (tVar 8) (tC (.int 2)))) (tRet (tTup (tCons (tVar 2) (tCons (tVar 5) (tCons (tVar 4) (tCons (tVar 3) (tCons (tVar 6) tNil))))))) tNext)
  (tSeq (tIfS (tTest (tOp (rSame K) (tVar 8) (tC (.int 3)))) (tRet (tTup (tCons (tVar 4) (tCons (tVar 3) (tCons (tVar 2) (tCons (tVar 5) (tCons (tVar 6) tNil))))))) tNext)
  (tSeq (tIfS (tTest (tOp (rSame K) (tVar 8) (tC (.int 4)))) (tRet (tTup (tCons (tVar 2) (tCons (tVar 3) (tCons (tVar 2) (tCons (tVar 5) (tCons (tVar 6) tNil))))))) tNext)
  (tSeq (tIfS (tTest (tOp (rSame K) (tVar 8) (tC (.int 5)))) (tRet (tTup (tCons (tOp (rPlus K) (tOp (rPlus K) (tSl (rCut K) (tVar 2) tNoPart (tPart (tVar 9))) (tOp (rIx K) (tC (.str "abz")) (gCall (sp_take K) E1 (tCons (tVar 0) (tCons (tC (.int 3)) tNil))))) (tSl (rCut K) (tVar 2) (tPart (tOp (rPlus K) (tVar 9) (tC (.int 1)))) tNoPart)) (tCons (tVar 3) (tCons (tVar 4) (tCons (tVar 5) (tCons (tVar 6) tNil))))))) tNext)
  (tSeq (tIfS (tTest (tOp (rSame K) (tVar 8) (tC (.int 6)))) (tRet (tTup (tCons (tVar 2) (tCons (tVar 3) (tCons (tOp (rPlus K) (tOp (rPlus K) (tSl (rCut K) (tVar 4) tNoPart (tPart (tVar 9))) (tOp (rIx K) (tC (.str "abz")) (gCall (sp_take K) E1 (tCons (tVar 0) (tCons (tC (.int 3)) tNil))))) (tSl (rCut K) (tVar 4) (tPart (tOp (rPlus K) (tVar 9) (tC (.int 1)))) tNoPart)) (tCons (tVar 5) (tCons (tVar 6) tNil))))))) tNext)
  (tSeq (tAsg (tLst (tCons (tSl (rCut K) (tOp rTimes (tVar 6) (tC (.int 2))) tNoPart (tPart (tC (.int 1000)))) (tCons (tSl (rCut K) (tVar 6) tNoPart (tPart (tC (.int 1)))) (tCons (tRev K (tVar 6)) (tCons (tOp (rPlus K) (tSl (rCut K) (tVar 6) (tPart (tC (.int 1))) tNoPart) (tSl (rCut K) (tVar 6) tNoPart (tPart (tC (.int 1))))) (tCons (tSl (rCut K) (tOp (rPlus K) (tVar 6) (tOp (rIx K) (tVar 6) (tC (.int 0)))) tNoPart (tPart (tC (.int 1000)))) (tCons (tSl (rCut K) (tVar 2) tNoPart (tPart (tVar 5))) tNil))))))) (gName 10))
  (tSeq (tDrop (tBM K "list" rAppend (tVar 10) (tCons (tSl (rCut K) (tVar 4) tNoPart (tPart (tVar 3))) tNil)))
  (tSeq (tDrop (tBM K "list" rAppend (tVar 10) (tCons (tSl (rCut K) (tOp rTimes (tVar 6) (tOp (rPlus K) (tC (.int 2)) (gCall (sp_take K) E1 (tCons (tVar 0) (tCons (tC (.int 60)) tNil))))) tNoPart (tPart (tC (.int 1000)))) tNil)))
  (tRet (tTup (tCons (tVar 2) (tCons (tVar 3) (tCons (tVar 4) (tCons (tVar 5) (tCons (tOrT K (tOp (rIx K) (tVar 10) (gCall (sp_take K) E1 (tCons (tVar 0) (tCons (tC (.int 8)) tNil)))) (tC (.str "a"))) tNil)))))))))))))))))))
theorem pu_zbent {K : PySem.W.Frag} (vs : List V) (H : Hp) (Q : VK) (E : XK) (h : sp_zbent K vs H Q E) : t_zbent K { nx := fun _ H' => Q .non H', rt := Q } (start ["_law_bag_here", "_law_five", "_law_row", "_law_place", "_law_other", "_law_its", "_law_word", "_law_last", "_law_way", "_law_at", "_law_some"] vs) H := by
  obtain ⟨_, _, rfl, b, H0, ys, p, r, u, q, v, w, rfl, rfl, rfl, B, hP, F, hQ⟩ := h
  unfold t_zbent
  rw [lit_abz, lit_a1]
  have fn := F.n
  have r2 := F.r2
  have r3 := F.r3
  have u0 := F.u0
  have u1 := F.u1
  have v0 := F.v0
  have v1 := F.v1
  have w1 := F.w1
  have w2 := F.w2
  have lr := F.lr
  have lq := F.lq
  have lw := F.lw
  repeat' walk_at "s"
  refine s_gTup (SqT.of (B.see _ _ hP)) rfl ?_
  repeat' walk_at "s"
  refine s_lenX (by omega) ?_
  repeat' walk_at "s"
  refine s_take B (by decide) (lg (by decide) (by decide)) ?_
  intro wy ys a1 a2 B
  repeat' walk_at "s"
  refine s_take B (by omega) (lg (by omega) (by omega)) ?_
  intro at' ys b1 b2 B
  repeat' walk_at "s"
  refine s_if (fun d => ?_) fun d => ?_
  · repeat' walk_at "s"
    refine newB B (sz_of rfl) fun p1 H1 e1 hp1 B => ?_
    repeat' walk_at "s"
    refine newB B (sz_of rfl) fun p2 H2 e2 hp2 B => ?_
    repeat' walk_at "s"
    refine newB B (sz_of rfl) fun p3 H3 e3 hp3 B => ?_
    repeat' walk_at "s"
    refine s_pickP (fun x => ∃ (p : Addr) (u v : Int), x = .ref p ∧ H3 p = some (fiv r u q v w) ∧ Fv r u q v w) (B.see _ _ hp3) a1 d (fun x hx => ?_) fun x hx => ?_
    · simp only [List.mem_cons, List.not_mem_nil, or_false] at hx
      rcases hx with rfl | rfl
      · exact ⟨p1, at', v, rfl, e3 _ _ (e2 _ _ hp1), { F with u0 := b1, u1 := by omega }⟩
      · exact ⟨p2, u, at', rfl, e3 _ _ hp2, { F with v0 := b1, v1 := by omega }⟩
    obtain ⟨p4, u', v', rfl, hp4, F'⟩ := hx
    exact hQ H3 ys p4 r u' q v' w ((e1.trans e2).trans e3) B hp4 F'
  repeat' walk_at "s"
  refine s_if (fun d2 => ?_) fun d2 => ?_
  · repeat' walk_at "s"
    refine newB B (sz_of rfl) fun p1 H1 e1 hp1 B => ?_
    exact hQ H1 ys p1 r v q u w e1 B hp1 { F with u0 := v0, u1 := v1, v0 := u0, v1 := u1 }
  repeat' walk_at "s"
  refine s_if (fun d3 => ?_) fun d3 => ?_
  · repeat' walk_at "s"
    refine newB B (sz_of rfl) fun p1 H1 e1 hp1 B => ?_
    exact hQ H1 ys p1 q u r v w e1 B hp1 ⟨lq, lr, lw, fn.symm, by omega, by omega, u0, by omega, v0, by omega, w1, w2⟩
  repeat' walk_at "s"
  refine s_if (fun d4 => ?_) fun d4 => ?_
  · repeat' walk_at "s"
    refine newB B (sz_of rfl) fun p1 H1 e1 hp1 B => ?_
    exact hQ H1 ys p1 r u r v w e1 B hp1 ⟨lr, lr, lw, rfl, r2, r3, u0, u1, v0, v1, w1, w2⟩
  repeat' walk_at "s"
  refine s_if (fun d5 => ?_) fun d5 => ?_
  · repeat' walk_at "s"
    refine s_toX (by omega) (by omega) ?_
    repeat' walk_at "s"
    refine s_take B (by decide) (lg (by decide) (by decide)) ?_
    intro r5 ys c1 c2 B
    repeat' walk_at "s"
    refine s_pickX (by decide) c1 c2 fun k hk _ => ?_
    refine s_addX (by rw [List.length_take]; simp only [List.length_singleton]; omega) ?_
    repeat' walk_at "s"
    refine s_fromX (by omega) (by omega) ?_
    refine s_addX (by rw [List.length_append, List.length_take, List.length_drop]; simp only [List.length_singleton]; omega) ?_
    obtain ⟨be, hbe, lb, nb⟩ : ∃ be : List Nat, r.take at'.toNat ++ [([97, 98, 122] : List Nat)[k]] ++ r.drop (at' + 1).toNat = be ∧ Low be ∧ be.length = r.length := by
      refine ⟨_, rfl, ((lr.take _).app fun c hc => ?_).app (lr.drop _), ?_⟩
      · rcases List.mem_singleton.mp hc with rfl
        have hm := List.getElem_mem hk
        simp only [List.mem_cons, List.not_mem_nil, or_false] at hm
        omega
      · rw [List.length_append, List.length_append, List.length_singleton, List.length_take, List.length_drop]
        omega
    rw [hbe]
    repeat' walk_at "s"
    refine newB B (sz_of rfl) fun p1 H1 e1 hp1 B => ?_
    exact hQ H1 ys p1 be u q v w e1 B hp1 ⟨lb, lq, lw, by omega, by omega, by omega, u0, by omega, v0, by omega, w1, w2⟩
  repeat' walk_at "s"
  refine s_if (fun d6 => ?_) fun d6 => ?_
  · repeat' walk_at "s"
    refine s_toX (by omega) (by omega) ?_
    repeat' walk_at "s"
    refine s_take B (by decide) (lg (by decide) (by decide)) ?_
    intro r5 ys c1 c2 B
    repeat' walk_at "s"
    refine s_pickX (by decide) c1 c2 fun k hk _ => ?_
    refine s_addX (by rw [List.length_take]; simp only [List.length_singleton]; omega) ?_
    repeat' walk_at "s"
    refine s_fromX (by omega) (by omega) ?_
    refine s_addX (by rw [List.length_append, List.length_take, List.length_drop]; simp only [List.length_singleton]; omega) ?_
    obtain ⟨be, hbe, lb, nb⟩ : ∃ be : List Nat, q.take at'.toNat ++ [([97, 98, 122] : List Nat)[k]] ++ q.drop (at' + 1).toNat = be ∧ Low be ∧ be.length = q.length := by
      refine ⟨_, rfl, ((lq.take _).app fun c hc => ?_).app (lq.drop _), ?_⟩
      · rcases List.mem_singleton.mp hc with rfl
        have hm := List.getElem_mem hk
        simp only [List.mem_cons, List.not_mem_nil, or_false] at hm
        omega
      · rw [List.length_append, List.length_append, List.length_singleton, List.length_take, List.length_drop]
        omega
    rw [hbe]
    repeat' walk_at "s"
    refine newB B (sz_of rfl) fun p1 H1 e1 hp1 B => ?_
    exact hQ H1 ys p1 r u be v w e1 B hp1 ⟨lr, lb, lw, by omega, by omega, by omega, u0, by omega, v0, by omega, w1, w2⟩
  repeat' walk_at "s"
  refine s_mulX (show w.length * 2 ≤ _ by omega) (by decide) (by decide) ?_
  repeat' walk_at "s"
  refine s_toX (by rw [rep_len]; show 2 * w.length ≤ _; omega) (by decide) ?_
  repeat' walk_at "s"
  refine s_toX (by omega) (by decide) ?_
  repeat' walk_at "s"
  refine rev_X (by omega) ?_
  repeat' walk_at "s"
  refine s_fromX (by omega) (by decide) ?_
  repeat' walk_at "s"
  refine s_toX (by omega) (by decide) ?_
  refine s_addX (by rw [List.length_take, List.length_drop]; omega) ?_
  repeat' walk_at "s"
  refine s_pickX (by omega) (by decide) (by omega) fun k0 hk0 _ => ?_
  refine s_addX (by simp only [List.length_singleton]; omega) ?_
  repeat' walk_at "s"
  refine s_toX (by rw [List.length_append]; simp only [List.length_singleton]; omega) (by decide) ?_
  repeat' walk_at "s"
  refine s_toX (by omega) (by omega) ?_
  have t1 : TxL (.str (tx ((List.replicate (2 : Int).toNat w).flatten.take (1000 : Int).toNat))) := ⟨_, rfl, (lw.rep _).take _, by rw [List.length_take]; exact Nat.min_le_left _ _⟩
  have t2 : TxL (.str (tx (w.take (1 : Int).toNat))) := ⟨_, rfl, lw.take _, by rw [List.length_take]; exact Nat.le_trans (Nat.min_le_left _ _) (by decide)⟩
  have t3 : TxL (.str (tx w.reverse)) := ⟨_, rfl, fun c hc => lw c (List.mem_reverse.mp hc), by rw [List.length_reverse]; omega⟩
  have t4 : TxL (.str (tx (w.drop (1 : Int).toNat ++ w.take (1 : Int).toNat))) := ⟨_, rfl, (lw.drop _).app (lw.take _), by rw [List.length_append, List.length_take, List.length_drop]; omega⟩
  have t5 : TxL (.str (tx ((w ++ [w[k0]]).take (1000 : Int).toNat))) := ⟨_, rfl, (lw.app (low_at lw hk0)).take _, by rw [List.length_take]; exact Nat.min_le_left _ _⟩
  have t6 : TxL (.str (tx (r.take v.toNat))) := ⟨_, rfl, lr.take _, by rw [List.length_take]; omega⟩
  generalize (List.replicate (2 : Int).toNat w).flatten.take (1000 : Int).toNat = w1' at t1 ⊢
  generalize w.drop (1 : Int).toNat ++ w.take (1 : Int).toNat = w4' at t4 ⊢
  generalize w.take (1 : Int).toNat = w2' at t2 ⊢
  generalize w.reverse = w3' at t3 ⊢
  generalize (w ++ [w[k0]]).take (1000 : Int).toNat = w5' at t5 ⊢
  generalize r.take v.toNat = w6' at t6 ⊢
  repeat' walk_at "s"
  refine newF B (sz_of rfl) fun q1 H1 fq e1 hq1 B => ?_
  repeat' walk_at "s"
  refine s_tyL (SqL.of (B.see _ _ hq1)) ?_
  repeat' walk_at "s"
  refine s_toX (by omega) (by omega) ?_
  have t7 : TxL (.str (tx (q.take u.toNat))) := ⟨_, rfl, lq.take _, by rw [List.length_take]; omega⟩
  generalize q.take u.toNat = w7' at t7 ⊢
  repeat' walk_at "s"
  refine s_app (B.see _ _ hq1) (by rw [sizeLine_eq]; simp) ?_
  rw [upd_out B hq1]
  replace B := bag_chg (xs' := [.str (tx w1'), .str (tx w2'), .str (tx w3'), .str (tx w4'), .str (tx w5'), .str (tx w6')] ++ [.str (tx w7')]) B hq1 no_ints
  have e2 : Same H0 (upd H1 q1 (.lst ([.str (tx w1'), .str (tx w2'), .str (tx w3'), .str (tx w4'), .str (tx w5'), .str (tx w6')] ++ [.str (tx w7')]))) := same_put e1 fq
  have hq2 : (upd H1 q1 (.lst ([.str (tx w1'), .str (tx w2'), .str (tx w3'), .str (tx w4'), .str (tx w5'), .str (tx w6')] ++ [.str (tx w7')]))) q1 = some (.lst ([.str (tx w1'), .str (tx w2'), .str (tx w3'), .str (tx w4'), .str (tx w5'), .str (tx w6')] ++ [.str (tx w7')])) := upd_same
  generalize (upd H1 q1 (.lst ([.str (tx w1'), .str (tx w2'), .str (tx w3'), .str (tx w4'), .str (tx w5'), .str (tx w6')] ++ [.str (tx w7')]))) = H2 at B e2 hq2 ⊢
  repeat' walk_at "s"
  refine s_tyL (SqL.of (B.see _ _ hq2)) ?_
  repeat' walk_at "s"
  refine s_take B (by decide) (lg (by decide) (by decide)) ?_
  intro r6 ys g1 g2 B
  repeat' walk_at "s"
  refine s_mulX (Nat.le_trans (Nat.mul_le_mul w2 (show (2 + r6).toNat ≤ 62 by omega)) (by decide)) (by omega) (by omega) ?_
  repeat' walk_at "s"
  refine s_toX (by rw [rep_len, Nat.mul_comm]; exact Nat.le_trans (Nat.mul_le_mul w2 (show (2 + r6).toNat ≤ 62 by omega)) (by decide)) (by decide) ?_
  have t8 : TxL (.str (tx ((List.replicate (2 + r6).toNat w).flatten.take (1000 : Int).toNat))) := ⟨_, rfl, (lw.rep _).take _, by rw [List.length_take]; exact Nat.min_le_left _ _⟩
  generalize (List.replicate (2 + r6).toNat w).flatten.take (1000 : Int).toNat = w8' at t8 ⊢
  repeat' walk_at "s"
  refine s_app (B.see _ _ hq2) (by rw [sizeLine_eq]; simp) ?_
  rw [upd_out B hq2]
  replace B := bag_chg (xs' := ([.str (tx w1'), .str (tx w2'), .str (tx w3'), .str (tx w4'), .str (tx w5'), .str (tx w6')] ++ [.str (tx w7')]) ++ [.str (tx w8')]) B hq2 no_ints
  have e3 : Same H0 (upd H2 q1 (.lst (([.str (tx w1'), .str (tx w2'), .str (tx w3'), .str (tx w4'), .str (tx w5'), .str (tx w6')] ++ [.str (tx w7')]) ++ [.str (tx w8')]))) := same_put e2 fq
  have hq3 : (upd H2 q1 (.lst (([.str (tx w1'), .str (tx w2'), .str (tx w3'), .str (tx w4'), .str (tx w5'), .str (tx w6')] ++ [.str (tx w7')]) ++ [.str (tx w8')]))) q1 = some (.lst (([.str (tx w1'), .str (tx w2'), .str (tx w3'), .str (tx w4'), .str (tx w5'), .str (tx w6')] ++ [.str (tx w7')]) ++ [.str (tx w8')])) := upd_same
  generalize (upd H2 q1 (.lst (([.str (tx w1'), .str (tx w2'), .str (tx w3'), .str (tx w4'), .str (tx w5'), .str (tx w6')] ++ [.str (tx w7')]) ++ [.str (tx w8')]))) = H3 at B e3 hq3 ⊢
  repeat' walk_at "s"
  refine s_orT ?_
  repeat' walk_at "s"
  refine s_take B (by decide) (lg (by decide) (by decide)) ?_
  intro r7 ys i1 i2 B
  refine s_pickP TxL (B.see _ _ hq3) i1 i2 (fun x hx => ?_) fun x hx => ?_
  · simp only [List.mem_append, List.mem_cons, List.not_mem_nil, or_false] at hx
    rcases hx with ((rfl | rfl | rfl | rfl | rfl | rfl) | rfl) | rfl
    · exact t1
    · exact t2
    · exact t3
    · exact t4
    · exact t5
    · exact t6
    · exact t7
    · exact t8
  obtain ⟨w', rfl, lw', wl⟩ := hx
  refine s_orC TxOk (by omega) (fun hne => ⟨_, rfl, lw', by omega, wl⟩) ⟨_, rfl, low_1 (by decide) (by decide), by decide, by decide⟩ fun x hx => ?_
  obtain ⟨w'', rfl, lw'', wl1, wl2⟩ := hx
  repeat' walk_at "s"
  refine newB B (sz_of rfl) fun p2 H4 e4 hp2 B => ?_
  exact hQ H4 ys p2 r u q v w'' (e3.trans e4) B hp2 { F with lw := lw'', w1 := wl1, w2 := wl2 }
end
section
/-- one step of a reading (e: none past a statement's end) -/
local macro_rules
  | `(tactic| walk_at "e") => `(tactic| first
    | with_reducible refine s_ifs ?_
    | with_reducible refine s_test ?_
    | with_reducible refine s_truth ?_
    | with_reducible refine s_op ?_
    | with_reducible refine s_un ?_
    | with_reducible refine s_asg ?_
    | with_reducible refine s_ret ?_
    | with_reducible refine s_next ?_
    | with_reducible refine s_drop ?_
    | with_reducible refine s_c ?_
    | ((with_reducible refine s_var (v := ?v) ?e ?q); case e => exact rfl)
    | with_reducible refine s_name ?_
    | with_reducible refine s_exq ?_
    | with_reducible refine s_cons ?_
    | with_reducible refine s_nil ?_
    | with_reducible refine s_lst ?_
    | with_reducible refine s_tup ?_
    | with_reducible refine s_cb ?_
    | with_reducible refine s_call ?_
    | with_reducible refine s_and ?_
    | with_reducible refine s_or ?_
    | with_reducible refine s_not ?_
    | with_reducible refine s_andV ?_
    | with_reducible refine s_orV ?_
    | with_reducible refine s_notV ?_
    | with_reducible refine s_ife ?_
    | with_reducible refine s_chain ?_
    | with_reducible refine s_addI ?_
    | with_reducible refine s_sub ?_
    | with_reducible refine s_neg ?_
    | with_reducible refine s_eqI ?_
    | with_reducible refine s_eqX ?_
    | with_reducible refine s_eqT ?_
    | with_reducible refine s_eqB ?_
    | with_reducible refine s_eqNI ?_
    | with_reducible refine s_eqIN ?_
    | with_reducible refine s_eqNN ?_
    | with_reducible refine s_neI ?_
    | with_reducible refine s_neX ?_
    | with_reducible refine s_neT ?_
    | with_reducible refine s_neB ?_
    | with_reducible refine s_lt ?_
    | with_reducible refine s_le ?_
    | with_reducible refine s_gt ?_
    | with_reducible refine s_ge ?_
    | with_reducible refine s_isN ?_
    | with_reducible refine s_isS ?_
    | with_reducible refine s_truB ?_
    | with_reducible refine s_truI ?_
    | with_reducible refine s_truN ?_
    | with_reducible refine s_abs ?_
    | with_reducible refine s_min2 ?_
    | with_reducible refine s_max2 ?_
    | with_reducible refine s_intI ?_
    | with_reducible refine s_intB ?_
    | with_reducible refine s_ifT ?_
    | with_reducible refine s_ifF ?_
    | with_reducible refine s_ifnT ?_
    | with_reducible refine s_ifnF ?_
    | with_reducible refine s_gSub ?_
    | with_reducible refine s_gTup ?_
    | with_reducible refine s_augS ?_
    | ((with_reducible refine s_aug (x := ?v) ?e ?q); case e => exact rfl)
    | with_reducible refine s_yes ?_
    | with_reducible refine s_par ?_
    | with_reducible refine s_two ?_
    | with_reducible refine s_m1 ?_
    | with_reducible refine s_isstr ?_
    | with_reducible refine s_rev0 ?_
    | with_reducible refine s_gCons ?_
    | with_reducible refine s_gNil ?_
    | with_reducible refine s_ipI ?_
    | with_reducible refine s_ipA ?_
    | with_reducible refine s_sl ?_
    | with_reducible refine s_noPart ?_
    | with_reducible refine s_part ?_
    | with_reducible refine s_parte ?_
    | with_reducible refine s_for ?_
    | with_reducible refine s_lc ?_
    | with_reducible refine s_iL ?_
    | with_reducible refine s_iE ?_
    | with_reducible refine s_iS ?_
    | with_reducible refine s_iT ?_
    | with_reducible refine s_itS ?_
    | with_reducible refine s_iR1 ?_
    | with_reducible refine s_iR2 ?_
    | with_reducible refine s_iR3 ?_
    | with_reducible refine s_rg1 ?_
    | with_reducible refine s_rg2 ?_
    | with_reducible refine s_rg1e ?_
    | with_reducible refine s_rg2e ?_
    | with_reducible refine s_lrg ?_
    | with_reducible refine s_lr3 ?_
    | with_reducible refine s_bm ?_
    | with_reducible refine s_bm0 ?_
    | with_reducible refine s_retN ?_)
  | `(tactic| walk_at "s") => `(tactic| first
    | with_reducible refine s_seq ?_
    | walk_at "e")
def t_law (K : PySem.W.Frag) : TS :=
  (tSeq (tAsg (gCall (sp_bag K) E1 (tCons (tVar 0) tNil)) (gName 1))
  (tSeq (tFor (iRng1 (tCons (tC (.int 10)) tNil)) (gName 2)
  (tSeq (tAsg (tOp (rIx K) (tLst (tCons (gCall (sp_ztwin_case K) E1 (tCons (tVar 1) (tCons (tOp (rIx K) (tLst (tCons (tC (.int 30)) (tCons (tC (.int 999)) tNil))) (gCall (sp_take K) E1 (tCons (tVar 1) (tCons (tC (.int 2)) tNil)))) tNil))) (tCons (gCall (sp_ztriple_case K) E1 (tCons (tVar 1) tNil)) tNil))) (gCall (sp_take K) E1 (tCons (tVar 1) (tCons (tC (.int 2)) tNil)))) (gName 3))
  (tSeq (tAsg (gCall (sp_take K) E1 (tCons (tVar 1) (tCons (tC (.int 4)) tNil))) (gName 4))
  (tSeq (tIfS (tTest (tOp (rSame K) (tVar 4) (tC (.int 0)))) (tAsg (gCall (sp_zbroken K) E1 (tCons (tVar 1) (tCons (tVar 3) tNil))) (gName 3)) tNext)
  (tSeq (tIfS (tTest (tOp (rSame K) (tVar 4) (tC (.int 1)))) (tSeq (tAsg (gCall (sp_zspoiled_case K) E1 (tCons (tVar 1) (tCons (tVar 3) tNil))) (gName 15))
  (tIfS (tAnd (tTest (tOp rLessE (tCB rMax2 (tCons (tOp (rIx K) (tVar 15) (tC (.int 1))) (tCons (tOp (rIx K) (tVar 15) (tC (.int 2))) tNil))) (tOp (rIx K) (tVar 15) (tC (.int 3))))) (tTest (tOp rMore (tOp (rIx K) (tVar 15) (tC (.int 3))) (tC (.int 0))))) (tAsg (tVar 15) (gName 3)) tNext)) tNext)
  (tSeq (tAsg (gCall (sp_ztwins K) E1 (tCons (tVar 3) tNil)) (gName 5))
  (tSeq (tAsg (tTup (tCons (tOp (rIx K) (tVar 5) (tC (.int 0))) (tCons (tOp (rIx K) (tVar 3) (tC (.int 1))) (tCons (tOp (rIx K) (tVar 5) (tC (.int 1))) (tCons (tOp (rIx K) (tVar 3) (tC (.int 2))) (tCons (tOp (rIx K) (tVar 3) (tC (.int 0))) tNil)))))) (gName 6))
  (tSeq (tFor (iRng1 (tCons (tOp rTimes (tOp (rIx K) (tLst (tCons (tC (.int 0)) (tCons (tC (.int 1)) (tCons (tC (.int 1)) (tCons (tC (.int 2)) tNil))))) (gCall (sp_take K) E1 (tCons (tVar 1) (tCons (tC (.int 4)) tNil)))) (tCB rInt (tCons (tOp rMore (tVar 4) (tC (.int 0))) tNil))) tNil)) (gName 7)
  (tAsg (gCall (sp_zbent K) E1 (tCons (tVar 1) (tCons (tVar 6) tNil))) (gName 6)))
  (tSeq (tAsg (tVar 6) (gTup K 5 (gCons (gName 8) (gCons (gName 9) (gCons (gName 10) (gCons (gName 11) (gCons (gName 12) gNil)))))))
  (tSeq (tAsg (gCall (sp_zdue K) E1 (tCons (tVar 8) (tCons (tVar 9) (tCons (tVar 10) (tCons (tVar 11) (tCons (tVar 12) tNil)))))) (gName 13))
  (tSeq (tAsg (tLst (tCons (gCall (sp_are_twins K) E1 (tCons (tVar 8) (tCons (tVar 9) (tCons (tVar 10) (tCons (tVar 11) (tCons (tVar 12) tNil)))))) (tCons (gCall (sp_are_twins K) E1 (tCons (tVar 10) (tCons (tVar 11) (tCons (tVar 8) (tCons (tVar 9) (tCons (tVar 12) tNil)))))) tNil))) (gName 14))
  (tIfS (tNot (gTruth K (gCall (sp_alike K) E1 (tCons (tVar 14) (tCons (tLst (tCons (tVar 13) (tCons (tVar 13) tNil))) tNil))))) (tRet (tC (.bl false))) tNext))))))))))))
  (tRet (tC (.bl true)))))
theorem pu_law {K : PySem.W.Frag} (vs : List V) (H : Hp) (Q : VK) (E : XK) (h : sp_law K vs H Q E) : t_law K { nx := fun _ H' => Q .non H', rt := Q } (start ["_law_script", "_law_bag_here", "_law_turn", "_law_case", "_law_way", "_law_rows", "_law_five", "_law_k", "_law_row", "_law_place", "_law_other", "_law_its", "_law_word", "_law_due_here", "_law_told", "_law_bent_here"] vs) H := by
  obtain ⟨_, rfl, a, ns, rfl, _, hS, hQ⟩ := h
  unfold t_law
  repeat' walk_at "s"
  refine s_bag hS ?_
  intro H0 b ys e0 B
  repeat' walk_at "s"
  refine s_rn1 (by decide) (by decide) ?_
  refine for_range (fun i σ H => ∃ H0 ys, ∃ x2 x3 x4 x5 x6 x7 x8 x9 x10 x11 x12 x13 x14 x15 : Option V, σ = [some (.ref a), some (.ref b), x2, x3, x4, x5, x6, x7, x8, x9, x10, x11, x12, x13, x14, x15] ∧ H = upd H0 b (.lst ys) ∧ Bag K H0 b ys) ⟨_, _, _, _, _, _, _, _, _, _, _, _, _, _, _, _, rfl, rfl, B⟩ (fun i σ H hi z => ?_) fun σ H z => ?_
  · clear B e0 hS H0 ys
    obtain ⟨H0, ys, x2, x3, x4, x5, x6, x7, x8, x9, x10, x11, x12, x13, x14, x15, rfl, rfl, B⟩ := z
    repeat' walk_at "s"
    refine newB B (sz_of rfl) fun p1 H1 e1 hp1 B => ?_
    repeat' walk_at "s"
    refine s_take B (by decide) (lg (by decide) (by decide)) ?_
    intro r1 ys a1 a2 B
    refine s_pickP (fun x => ∃ s : Int, x = .int s ∧ 30 ≤ s ∧ s ≤ 999) (B.see _ _ hp1) a1 a2 (fun x hx => ?_) fun x hx => ?_
    · simp only [List.mem_cons, List.not_mem_nil, or_false] at hx
      rcases hx with rfl | rfl
      all_goals exact ⟨_, rfl, by omega, by omega⟩
    obtain ⟨m, rfl, m1, m2⟩ := hx
    repeat' walk_at "s"
    refine s_all ⟨_, _, rfl, b, H1, ys, m, rfl, rfl, rfl, B, m1, m2, fun H2 ys p2 l u o c e2 B hp2 lw l3 l6 lc u1 uo oc cm o1 => ?_⟩
    repeat' walk_at "s"
    refine s_all ⟨_, rfl, b, H2, ys, rfl, rfl, B, fun H3 ys p3 l' u' o' c' e3 B hp3 lw' l3' l6' u1' uo' oc' cm' => ?_⟩
    repeat' walk_at "s"
    refine newB B (sz_of rfl) fun p4 H4 e4 hp4 B => ?_
    repeat' walk_at "s"
    refine s_take B (by decide) (lg (by decide) (by decide)) ?_
    intro r2 ys b1 b2 B
    refine s_pickP (fun x => ∃ (p : Addr) (l : List Nat) (u o c : Int), x = .ref p ∧ H4 p = some (cas l u o c) ∧ Cas l u o c ∧ 3 ≤ l.length ∧ l.length ≤ 12 ∧ 1 ≤ u ∧ u < o ∧ o ≤ 100 ∧ o ≤ c) (B.see _ _ hp4) b1 b2 (fun x hx => ?_) fun x hx => ?_
    · simp only [List.mem_cons, List.not_mem_nil, or_false] at hx
      rcases hx with rfl | rfl
      · exact ⟨p2, l, u, o, c, rfl, e4 _ _ (e3 _ _ hp2), ⟨lw, by omega, by omega, by omega, by omega, by omega, by omega, by omega, by omega⟩, by omega, by omega, by omega, by omega, by omega, by omega⟩
      · exact ⟨p3, l', u', o', c', rfl, e4 _ _ hp3, ⟨lw', by omega, by omega, by omega, by omega, by omega, by omega, by omega, by omega⟩, by omega, by omega, by omega, by omega, by omega, by omega⟩
    clear hp2 hp3 hp4 e1 e2 e3 e4 hp1 lw l3 l6 lc u1 uo oc cm o1 lw' l3' l6' u1' uo' oc' cm' l u o c l' u' o' c' a1 a2 b1 b2 m1 m2
    obtain ⟨p5, l, u, o, c, rfl, hp5, C, l3, l12, u1, uo, o1, oc⟩ := hx
    repeat' walk_at "s"
    refine s_take B (by decide) (lg (by decide) (by decide)) ?_
    intro wy ys a1 a2 B
    repeat' walk_at "e"
    with_reducible refine s_seqR (fun σ H => ∃ (H5 : Hp) (ys : List V) (p : Addr) (l : List Nat) (u o c : Int), ∃ y2 x5 x6 x7 x8 x9 x10 x11 x12 x13 x14 x15 : Option V, Bag K H5 b ys ∧ H = upd H5 b (.lst ys) ∧ H5 p = some (cas l u o c) ∧ Cas l u o c ∧ u ≤ c ∧ o ≤ c ∧ 1 ≤ c ∧ σ = [some (.ref a), some (.ref b), y2, some (.ref p), some (.int wy), x5, x6, x7, x8, x9, x10, x11, x12, x13, x14, x15]) (fun σ H z => ?_) fun N hN => ?_
    rotate_left
    · repeat' walk_at "s"
      refine s_if (fun d => ?_) fun d => ?_
      · repeat' walk_at "s"
        refine s_all ⟨_, _, rfl, b, H4, ys, p5, l, u, o, c, rfl, rfl, rfl, B, hp5, C, l3, l12, u1, uo, o1, oc, fun H5 ys p l u o c e5 B hp C uc oc c1 => ?_⟩
        repeat' walk_at "s"
        exact hN _ _ ⟨H5, ys, p, l, u, o, c, _, _, _, _, _, _, _, _, _, _, _, _, B, rfl, hp, C, uc, oc, c1, rfl⟩
      · repeat' walk_at "s"
        exact hN _ _ ⟨H4, ys, p5, l, u, o, c, _, _, _, _, _, _, _, _, _, _, _, _, B, rfl, hp5, C, by omega, oc, by omega, rfl⟩
    clear B hp5 C l3 l12 u1 uo o1 oc l u o c ys
    obtain ⟨H5, ys, p, l, u, o, c, y2, x5, x6, x7, x8, x9, x10, x11, x12, x13, x14, x15, B, rfl, hp, C, uc, oc, c1, rfl⟩ := z
    repeat' walk_at "e"
    with_reducible refine s_seqR (fun σ H => ∃ (H5 : Hp) (ys : List V) (p : Addr) (l : List Nat) (u o c : Int), ∃ y2 x5 x6 x7 x8 x9 x10 x11 x12 x13 x14 x15 : Option V, Bag K H5 b ys ∧ H = upd H5 b (.lst ys) ∧ H5 p = some (cas l u o c) ∧ Cas l u o c ∧ u ≤ c ∧ o ≤ c ∧ 1 ≤ c ∧ σ = [some (.ref a), some (.ref b), y2, some (.ref p), some (.int wy), x5, x6, x7, x8, x9, x10, x11, x12, x13, x14, x15]) (fun σ H z => ?_) fun N hN => ?_
    rotate_left
    · repeat' walk_at "s"
      refine s_if (fun d => ?_) fun d => ?_
      · repeat' walk_at "s"
        refine s_all ⟨_, _, rfl, b, H5, ys, p, l, u, o, c, rfl, rfl, rfl, B, hp, C, fun H6 ys p6 l6 u6 o6 c6 e6 B hp6 C6 => ?_⟩
        have h6 := SqT.of (K := K) (B.see _ _ hp6)
        repeat' walk_at "s"
        refine s_ixT h6 (atI_nat (j := 1) rfl) ?_
        repeat' walk_at "s"
        refine s_ixT h6 (atI_nat (j := 2) rfl) ?_
        repeat' walk_at "s"
        refine s_ixT h6 (atI_nat (j := 3) rfl) ?_
        repeat' walk_at "s"
        refine s_if (fun d1 => ?_) fun d1 => ?_
        · repeat' walk_at "s"
          refine s_ixT h6 (atI_nat (j := 3) rfl) ?_
          repeat' walk_at "s"
          refine s_if (fun d2 => ?_) fun d2 => ?_
          · repeat' walk_at "s"
            exact hN _ _ ⟨H6, ys, p6, l6, u6, o6, c6, _, _, _, _, _, _, _, _, _, _, _, _, B, rfl, hp6, C6, by omega, by omega, by omega, rfl⟩
          · repeat' walk_at "s"
            exact hN _ _ ⟨H6, ys, p, l, u, o, c, _, _, _, _, _, _, _, _, _, _, _, _, B, rfl, e6 _ _ hp, C, uc, oc, c1, rfl⟩
        · repeat' walk_at "s"
          exact hN _ _ ⟨H6, ys, p, l, u, o, c, _, _, _, _, _, _, _, _, _, _, _, _, B, rfl, e6 _ _ hp, C, uc, oc, c1, rfl⟩
      · repeat' walk_at "s"
        exact hN _ _ ⟨H5, ys, p, l, u, o, c, _, _, _, _, _, _, _, _, _, _, _, _, B, rfl, hp, C, uc, oc, c1, rfl⟩
    clear B hp C uc oc c1 l u o c ys y2 x5 x6 x7 x8 x9 x10 x11 x12 x13 x14 x15 p H5
    obtain ⟨H5, ys, p, l, u, o, c, y2, x5, x6, x7, x8, x9, x10, x11, x12, x13, x14, x15, B, rfl, hp, C, uc, oc, c1, rfl⟩ := z
    have Cl1 := C.l1
    have Cl2 := C.l2
    have Ca0 := C.a0
    have Cb0 := C.b0
    have Cc1 := C.c1
    repeat' walk_at "s"
    refine s_hid B ⟨_, rfl, p, l, u, o, c, rfl, SqT.of hp, by omega, by omega, by omega, by omega, by omega, by omega, by omega, newS trivial fun p8 H7 _ e7 hp8 nb => ?_⟩
    replace B := B.same e7 nb
    have h8 := SqT.of (K := K) (B.see _ _ hp8)
    have hc := SqT.of (K := K) (B.see _ _ (e7 _ _ hp))
    repeat' walk_at "s"
    refine s_ixT h8 at_0 ?_
    repeat' walk_at "s"
    refine s_ixT hc (atI_nat (j := 1) rfl) ?_
    repeat' walk_at "s"
    refine s_ixT h8 (atI_nat (j := 1) rfl) ?_
    repeat' walk_at "s"
    refine s_ixT hc (atI_nat (j := 2) rfl) ?_
    repeat' walk_at "s"
    refine s_ixT hc at_0 ?_
    repeat' walk_at "s"
    refine newB B (sz_of rfl) fun p9 H8 e8 hp9 B => ?_
    have tl1 := tw_length (l := l) (a := o) (c := c) (by omega) (by omega) (by omega) (by omega)
    have tl2 := tw_length (l := l) (a := u) (c := c) (by omega) (by omega) (by omega) (by omega)
    have F : Fv (tw l o c) u (tw l u c) o l := ⟨tw_low C.lw _ _, tw_low C.lw _ _, C.lw, by omega, by omega, by omega, by omega, by omega, by omega, by omega, Cl1, Cl2⟩
    repeat' walk_at "s"
    refine newB B (sz_of rfl) fun p10 H9 e9 hp10 B => ?_
    repeat' walk_at "s"
    refine s_take B (by decide) (lg (by decide) (by decide)) ?_
    intro r3 ys b1 b2 B
    refine s_pickP (fun x => ∃ s : Int, x = .int s ∧ 0 ≤ s ∧ s ≤ 2) (B.see _ _ hp10) b1 b2 (fun x hx => ?_) fun x hx => ?_
    · simp only [List.mem_cons, List.not_mem_nil, or_false] at hx
      rcases hx with rfl | rfl | rfl | rfl
      all_goals exact ⟨_, rfl, by omega, by omega⟩
    obtain ⟨s, rfl, s0, s1⟩ := hx
    repeat' walk_at "s"
    obtain ⟨y, hy, y0, y1⟩ : ∃ y : Int, (if decide (wy > 0) = true then (1 : Int) else 0) = y ∧ 0 ≤ y ∧ y ≤ 1 := ⟨_, rfl, by split <;> decide, by split <;> decide⟩
    rw [hy]
    have sy := mul_bd (x := s) (y := y) (a := 2) (b := 1) s0 s1 y0 y1
    refine s_mulI (mulW (by omega) (by omega)) ?_
    repeat' walk_at "s"
    refine s_rn1 (by omega) (by omega) ?_
    have hp9' := e9 _ _ hp9
    clear hp10 e9 e8 hp9 tl1 tl2 h8 hc hy
    generalize tw l o c = r at F hp9' hp8
    generalize tw l u c = q at F hp9' hp8
    refine for_range (fun i σ H => ∃ (H9 : Hp) (ys : List V) (p : Addr) (r : List Nat) (u : Int) (q : List Nat) (v : Int) (w : List Nat), ∃ x3 x5 x7 x8 x9 x10 x11 x12 x13 x14 x15 : Option V, Bag K H9 b ys ∧ H = upd H9 b (.lst ys) ∧ H9 p = some (fiv r u q v w) ∧ Fv r u q v w ∧ σ = [some (.ref a), some (.ref b), y2, x3, some (.int wy), x5, some (.ref p), x7, x8, x9, x10, x11, x12, x13, x14, x15])
      ⟨H9, ys, p9, r, u, q, o, l, _, _, _, _, _, _, _, _, _, _, _, B, rfl, hp9', F, rfl⟩ (fun i σ H hi z => ?_) fun σ H z => ?_
    · clear B hp9' hp8 F r q hp C uc oc c1 Cl1 Cl2 Ca0 Cb0 Cc1 l u o c ys x5 x6 x7 x8 x9 x10 x11 x12 x13 x14 x15 e7
      obtain ⟨H10, ys, p, r, u, q, v, w, x3, x5, x7, x8, x9, x10, x11, x12, x13, x14, x15, B, rfl, hp, F, rfl⟩ := z
      repeat' walk_at "s"
      refine s_all ⟨_, _, rfl, b, H10, ys, p, r, u, q, v, w, rfl, rfl, rfl, B, hp, F, fun H11 ys p r u q v w e11 B hp F => ?_⟩
      repeat' walk_at "s"
      exact ⟨H11, ys, p, r, u, q, v, w, _, _, _, _, _, _, _, _, _, _, _, B, rfl, hp, F, rfl⟩
    clear B hp9' hp8 F r q hp C uc oc c1 Cl1 Cl2 Ca0 Cb0 Cc1 l u o c ys x5 x6 x7 x8 x9 x10 x11 x12 x13 x14 x15 e7
    obtain ⟨H10, ys, p, r, u, q, v, w, x3, x5, x7, x8, x9, x10, x11, x12, x13, x14, x15, B, rfl, hp, F, rfl⟩ := z
    have fn := F.n
    have r2 := F.r2
    have r3 := F.r3
    have u0 := F.u0
    have u1 := F.u1
    have v0 := F.v0
    have v1 := F.v1
    have w2 := F.w2
    repeat' walk_at "s"
    refine s_gTup (SqT.of (B.see _ _ hp)) rfl ?_
    repeat' walk_at "s"
    refine s_hid B ⟨_, _, _, _, _, rfl, r, u, q, v, w, rfl, rfl, rfl, rfl, rfl, by omega, by omega, by omega, by omega, by omega, by omega, by omega, by omega, by omega, F.lr, F.lq, F.lw, trivial, fun H11 e11 nb => ?_⟩
    replace B := B.same e11 nb
    repeat' walk_at "s"
    refine s_hid B ⟨_, _, _, _, _, rfl, r, u, q, v, w, rfl, rfl, rfl, rfl, rfl, by omega, by omega, by omega, by omega, by omega, by omega, by omega, by omega, by omega, F.lr, F.lq, F.lw, trivial, fun H12 e12 nb => ?_⟩
    replace B := B.same e12 nb
    repeat' walk_at "s"
    refine s_hid B ⟨_, _, _, _, _, rfl, q, v, r, u, w, rfl, rfl, rfl, rfl, rfl, by omega, by omega, by omega, by omega, by omega, by omega, by omega, by omega, by omega, F.lq, F.lr, F.lw, trivial, fun H13 e13 nb => ?_⟩
    replace B := B.same e13 nb
    rw [tg_turn r u q v w]
    generalize tg r u q v w = t
    repeat' walk_at "s"
    refine newB B (sz_of rfl) fun p11 H14 e14 hp11 B => ?_
    repeat' walk_at "s"
    refine newB B (sz_of rfl) fun p12 H15 e15 hp12 B => ?_
    repeat' walk_at "s"
    refine s_alike (d := .list [.bool t, .bool t]) (.lst (SqL.of (B.see _ _ (e15 _ _ hp11))) (.cons (.bl _) (.cons (.bl _) .nil))) (.lst (SqL.of (B.see _ _ hp12)) (.cons (.bl _) (.cons (.bl _) .nil)))
      ((bd_list (c := 5) (k := 0) (n := 2) (fun d hd => ?_) (by exact Nat.le_refl 2)).nice (by decide) (by decide)) ?_
    · simp only [List.mem_cons, List.not_mem_nil, or_false] at hd
      rcases hd with rfl | rfl
      all_goals exact bd_bool _
    repeat' walk_at "s"
    exact ⟨_, _, _, _, _, _, _, _, _, _, _, _, _, _, _, _, rfl, rfl, B⟩
  · obtain ⟨H0, ys, x2, x3, x4, x5, x6, x7, x8, x9, x10, x11, x12, x13, x14, x15, rfl, rfl, B⟩ := z
    repeat' walk_at "s"
    exact hQ _
end
section
abbrev top (i : Nat) : Stmt := PySem.Challenge.pw_ownlog_k57_twins_told_apart.main.body.getD i (.Pass ⟨0, 0, 0, 0⟩)
abbrev FnP (K : PySem.W.Frag) (x : Str) (st : Stmt) (f : Addr) (fd : FuncData) : Prop := FunD K x x (defArgs st) (defBody st) (defScope st) [] [] f fd
section
variable {P : Program} {w : World} {K : PySem.W.Frag} {mg : Str → Option Value} {base : Heap} {k : Nat} {f : Addr} {fd : FuncData}
abbrev st_bag : Stmt := top 10
theorem sc_bag : FnScope ["_law_script", "_law_cell"] ["_law_script"] (defScope st_bag) := ⟨rfl, rfl, rfl, by decide +kernel, rfl, by decide +kernel, by decide +kernel⟩
theorem ok_bag (F : FnP K "_law_bag" st_bag f fd) (B : Blt mg) : Gf P w K mg base (k + 1) f fd ["_law_script"] (sp_bag K) :=
  okG F sc_bag ln1 fun cdv A outer s H vs Q E hG hr h => by
    have hU := hr.units
    have hU0 := hr.units0
    have hU1 := u65 hr
    have hUR := u100 hr
    exact ⟨t_bag K, PSs.nox ((pss_one (ps_ret (pe_lst (pa_cons pe_int (pa_cons pe_int (pa_cons pe_int (pa_cons (pe_lc (own := [("_law_cell", 1)]) (g := (gName 1)) (tt := tYes) (by rfl) sc_bag.nd (pi_list (pe_slice o_sl (pv 0) po_none (po_some pe_int))) (blkOk_by (own := [("_law_cell", 1)]) (N := ["_law_script", "_law_cell"]) (sc := defScope st_bag) (by decide +kernel)) (fun _ _ _ _ _ => (pg_name (i := 1) sc_bag.nd rfl (Or.inl rfl))) (fun _ _ _ _ _ => pts_nil) (fun _ _ _ _ _ => (pe_callB o_abs (by rfl) (B "abs" (by decide)) (by decide +kernel) (pa_cons (pv 1) pa_nil)))) pa_nil)))))))), pu_bag vs H Q E h⟩
abbrev st_take : Stmt := top 11
theorem sc_take : FnScope ["_law_bag_here", "_law_many", "_law_cell", "_law_value", "_law_first", "_law_second"] ["_law_bag_here", "_law_many"] (defScope st_take) := ⟨rfl, rfl, rfl, by decide +kernel, rfl, by decide +kernel, by decide +kernel⟩
theorem ok_take (F : FnP K "_law_take" st_take f fd) (B : Blt mg) : Gf P w K mg base (k + 1) f fd ["_law_bag_here", "_law_many"] (sp_take K) :=
  okG F sc_take ln2 fun cdv A outer s H vs Q E hG hr h => by
    have hU := hr.units
    have hU0 := hr.units0
    have hU1 := u65 hr
    have hUR := u100 hr
    exact ⟨t_take K, PSs.nox ((pss_cons (ps_if (pt_cmpR (o_eq hU) (pe_ix o_ix (pv 0) pe_int (fun _ _ => rfl)) pe_int (nomark _)) (pss_cons (ps_set (i := 2) sc_take.nd rfl (Or.inl rfl) pe_int)
  (pss_cons (ps_if (pt_cmpR o_lt (pe_ix o_ix (pv 0) pe_int (fun _ _ => rfl)) (pe_callB o_len (by rfl) (B "len" (by decide)) (by decide +kernel) (pa_cons (pe_ix o_ix (pv 0) pe_int (fun _ _ => rfl)) pa_nil)) (nomark _)) (pss_one (ps_set (i := 2) sc_take.nd rfl (Or.inl rfl) (pe_ix o_ix (pe_ix o_ix (pv 0) pe_int (fun _ _ => rfl)) (pe_ix o_ix (pv 0) pe_int (fun _ _ => rfl)) (fun _ _ => rfl)))) pss_nil)
  (pss_cons (ps_augS (pv 0) pe_int get_list pe_int ip_plus set_list)
  (pss_cons (ps_if (pt_cmpR o_ge (pv 2) pe_int (nomark _)) (pss_one (ps_asg (pv 2) (pg_sub (pv 0) pe_int set_list))) pss_nil)
  (pss_one (ps_asg (pe_op o_mod (pe_op o_plus (pe_op o_plus (pe_op o_times (pe_ix o_ix (pv 0) pe_int (fun _ _ => rfl)) pe_int) (pe_op o_mod (pv 2) pe_int)) (pe_op o_times pe_int (pe_ix o_ix (pv 0) pe_int (fun _ _ => rfl)))) pe_int) (pg_sub (pv 0) pe_int set_list))))))) pss_nil)
  (pss_cons (ps_if (pt_cmpR o_gt (pe_ix o_ix (pv 0) pe_int (fun _ _ => rfl)) pe_int (nomark _)) (pss_cons (ps_set (i := 3) sc_take.nd rfl (Or.inl rfl) (pe_op o_mod (pe_ix o_ix (pv 0) pe_int (fun _ _ => rfl)) (pv 1)))
  (pss_cons (ps_asg (pe_op o_div (pe_ix o_ix (pv 0) pe_int (fun _ _ => rfl)) (pv 1)) (pg_sub (pv 0) pe_int set_list))
  (pss_one (ps_ret (pv 3))))) pss_nil)
  (pss_cons (ps_set (i := 4) sc_take.nd rfl (Or.inl rfl) (pe_op o_mod (pe_op o_times (pe_op o_plus (pe_ix o_ix (pv 0) pe_int (fun _ _ => rfl)) pe_int) pe_int) pe_int))
  (pss_cons (ps_set (i := 5) sc_take.nd rfl (Or.inl rfl) (pe_op o_mod (pe_op o_times (pe_op o_mod (pe_op o_times (pv 4) (pv 4)) pe_int) pe_int) pe_int))
  (pss_cons (ps_if (pt_cmpR o_gt (pv 1) pe_int (nomark _)) (pss_one (ps_ret (pe_op o_mod (pe_op o_plus (pe_op o_times (pv 5) pe_int) (pv 4)) (pv 1)))) pss_nil)
  (pss_one (ps_ret (pe_op o_mod (pe_op o_div (pv 5) pe_int) (pv 1)))))))))), pu_take vs H Q E h⟩
abbrev st_zrepeated : Stmt := top 13
theorem sc_zrepeated : FnScope ["_law_word", "_law_many"] ["_law_word", "_law_many"] (defScope st_zrepeated) := ⟨rfl, rfl, rfl, by decide +kernel, rfl, by decide +kernel, by decide +kernel⟩
theorem ok_zrepeated (F : FnP K "_law_repeated" st_zrepeated f fd) (B : Blt mg) : Gf P w K mg base (k + 1) f fd ["_law_word", "_law_many"] (sp_zrepeated K) :=
  okG F sc_zrepeated ln2 fun cdv A outer s H vs Q E hG hr h => by
    have hU := hr.units
    have hU0 := hr.units0
    have hU1 := u65 hr
    have hUR := u100 hr
    exact ⟨t_zrepeated K, PSs.nox ((pss_one (ps_ret (pe_slice o_sl (pe_op o_times (pv 0) (pe_op o_plus (pe_op o_div (pv 1) (pe_callB o_len (by rfl) (B "len" (by decide)) (by decide +kernel) (pa_cons (pv 0) pa_nil))) pe_int)) po_none (po_some (pv 1)))))), pu_zrepeated vs H Q E h⟩
abbrev st_ztwins : Stmt := top 17
theorem sc_ztwins : FnScope ["_law_case", "_law_word", "_law_one", "_law_other", "_law_last", "_law_first"] ["_law_case"] (defScope st_ztwins) := ⟨rfl, rfl, rfl, by decide +kernel, rfl, by decide +kernel, by decide +kernel⟩
theorem ok_ztwins (F : FnP K "_law_twins" st_ztwins f fd) (B : Blt mg) (c_zrepeated : Cal P w K mg base k "_law_repeated" 2 (sp_zrepeated K)) : Gf P w K mg base (k + 1) f fd ["_law_case"] (sp_ztwins K) :=
  okG F sc_ztwins ln1 fun cdv A outer s H vs Q E hG hr h => by
    have hU := hr.units
    have hU0 := hr.units0
    have hU1 := u65 hr
    have hUR := u100 hr
    exact ⟨t_ztwins K, PSs.nox ((pss_cons (ps_asg (pv 0) (pg_tup (by rfl) (pgs_cons (pg_name (i := 1) sc_ztwins.nd rfl (Or.inl rfl)) (pgs_cons (pg_name (i := 2) sc_ztwins.nd rfl (Or.inl rfl)) (pgs_cons (pg_name (i := 3) sc_ztwins.nd rfl (Or.inl rfl)) (pgs_cons (pg_name (i := 4) sc_ztwins.nd rfl (Or.inl rfl)) pgs_nil))))))
  (pss_cons (ps_set (i := 5) sc_ztwins.nd rfl (Or.inl rfl) (pe_op o_plus (g_call c_zrepeated hG hr (by rfl) passN (pa_cons (pv 1) (pa_cons (pv 3) pa_nil))) (g_call c_zrepeated hG hr (by rfl) passN (pa_cons (pv 1) (pa_cons (pe_op o_plus (pe_op o_minus (pv 4) (pv 3)) pe_int) pa_nil)))))
  (pss_one (ps_ret (pe_tup (pa_cons (pv 5) (pa_cons (pe_op o_plus (g_call c_zrepeated hG hr (by rfl) passN (pa_cons (pv 1) (pa_cons (pv 2) pa_nil))) (g_call c_zrepeated hG hr (by rfl) passN (pa_cons (pv 1) (pa_cons (pe_op o_plus (pe_op o_minus (pv 4) (pv 2)) pe_int) pa_nil)))) pa_nil)))))))), pu_ztwins vs H Q E h⟩
abbrev st_zroot : Stmt := top 14
theorem sc_zroot : FnScope ["_law_text", "_law_size"] ["_law_text"] (defScope st_zroot) := ⟨rfl, rfl, rfl, by decide +kernel, rfl, by decide +kernel, by decide +kernel⟩
theorem ok_zroot (F : FnP K "_law_root" st_zroot f fd) (B : Blt mg) : Gf P w K mg base (k + 1) f fd ["_law_text"] (sp_zroot K) :=
  okG F sc_zroot ln1 fun cdv A outer s H vs Q E hG hr h => by
    have hU := hr.units
    have hU0 := hr.units0
    have hU1 := u65 hr
    have hUR := u100 hr
    exact ⟨t_zroot K, PSs.nox ((pss_cons (ps_for PassesOwn.never rfl (pi_range2 (by rfl) (B "range" (by decide)) (pa_cons pe_int (pa_cons (pe_callB o_len (by rfl) (B "len" (by decide)) (by decide +kernel) (pa_cons (pv 0) pa_nil)) pa_nil))) (pg_name (i := 1) sc_zroot.nd rfl (Or.inl rfl))
  (pss_one (ps_if (PW.pt (pw_and (pt_cmpR (o_eq hU) (pe_op o_mod (pe_callB o_len (by rfl) (B "len" (by decide)) (by decide +kernel) (pa_cons (pv 0) pa_nil)) (pv 1)) pe_int (nomark _)) (pw_and1 (pt_cmpR (o_eq hU) (pe_op o_times (pe_slice o_sl (pv 0) po_none (po_some (pv 1))) (pe_op o_div (pe_callB o_len (by rfl) (B "len" (by decide)) (by decide +kernel) (pa_cons (pv 0) pa_nil)) (pv 1))) (pv 0) (nomark _))))) (pss_one (ps_ret (pe_slice o_sl (pv 0) po_none (po_some (pv 1))))) pss_nil)))
  (pss_one (ps_ret (pv 0))))), pu_zroot vs H Q E h⟩
abbrev st_zfailed : Stmt := top 18
theorem sc_zfailed : FnScope ["_law_case", "_law_word", "_law_one", "_law_other", "_law_last", "_law_size"] ["_law_case"] (defScope st_zfailed) := ⟨rfl, rfl, rfl, by decide +kernel, rfl, by decide +kernel, by decide +kernel⟩
theorem ok_zfailed (F : FnP K "_law_failed" st_zfailed f fd) (B : Blt mg) (c_zroot : Cal P w K mg base k "_law_root" 1 (sp_zroot K)) : Gf P w K mg base (k + 1) f fd ["_law_case"] (sp_zfailed K) :=
  okG F sc_zfailed ln1 fun cdv A outer s H vs Q E hG hr h => by
    have hU := hr.units
    have hU0 := hr.units0
    have hU1 := u65 hr
    have hUR := u100 hr
    exact ⟨t_zfailed K, PSs.nox ((pss_cons (ps_asg (pv 0) (pg_tup (by rfl) (pgs_cons (pg_name (i := 1) sc_zfailed.nd rfl (Or.inl rfl)) (pgs_cons (pg_name (i := 2) sc_zfailed.nd rfl (Or.inl rfl)) (pgs_cons (pg_name (i := 3) sc_zfailed.nd rfl (Or.inl rfl)) (pgs_cons (pg_name (i := 4) sc_zfailed.nd rfl (Or.inl rfl)) pgs_nil))))))
  (pss_cons (ps_set (i := 5) sc_zfailed.nd rfl (Or.inl rfl) (pe_callB o_len (by rfl) (B "len" (by decide)) (by decide +kernel) (pa_cons (pv 1) pa_nil)))
  (pss_cons (ps_if (PW.pt (pw_or (pt_cmpR o_lt (pv 5) pe_int (nomark _)) (pw_or1 (pt_cmpR (o_ne hU) (g_call c_zroot hG hr (by rfl) passN (pa_cons (pv 1) pa_nil)) (pv 1) (nomark _))))) (pss_one (ps_ret pe_int)) pss_nil)
  (pss_cons (ps_if (PW.pt (pw_or (pt_cmpR o_ge (pv 2) (pv 3) (nomark _)) (pw_or1 (pt_cmpR o_gt (pv 3) (pv 4) (nomark _))))) (pss_one (ps_ret pe_int)) pss_nil)
  (pss_cons (ps_if (pt_cmpR (o_ne hU) (pe_op o_mod (pe_op o_minus (pv 3) (pv 2)) (pv 5)) pe_int (nomark _)) (pss_one (ps_ret pe_int)) pss_nil)
  (pss_cons (ps_if (pt_cmpR (o_eq hU) (pe_op o_mod (pv 2) (pv 5)) pe_int (nomark _)) (pss_one (ps_ret pe_int)) pss_nil)
  (pss_cons (ps_if (pt_cmpR (o_ne hU) (pe_op o_mod (pe_op o_minus (pv 4) (pe_op o_times pe_int (pv 2))) (pv 5)) pe_int (nomark _)) (pss_one (ps_ret pe_int)) pss_nil)
  (pss_one (ps_ret (pe_ifExp (pt_cmpR (o_eq hU) (pe_ix o_ix (pv 1) pe_int (fun _ _ => rfl)) (pe_ix o_ix (pv 1) (pe_op o_mod (pv 2) (pv 5)) (fun _ _ => rfl)) (nomark _)) pe_non pe_int))))))))))), pu_zfailed vs H Q E h⟩
abbrev st_zdue : Stmt := top 21
theorem sc_zdue : FnScope ["_law_row", "_law_place", "_law_other", "_law_its", "_law_word", "_law_case"] ["_law_row", "_law_place", "_law_other", "_law_its", "_law_word"] (defScope st_zdue) := ⟨rfl, rfl, rfl, by decide +kernel, rfl, by decide +kernel, by decide +kernel⟩
theorem ok_zdue {S sp : Sp} (F : FnP K "_law_due" st_zdue f fd) (B : Blt mg) (c_ztwins : Cal P w K mg base k "_law_twins" 1 (sp_ztwins K)) (c_zfailed : Cal P w K mg base k "_law_failed" 1 (sp_zfailed K)) (c_self : Cal P w K mg base k "_law_due" 5 S) (len : ∀ vs H Q E, sp vs H Q E → vs.length = ["_law_row", "_law_place", "_law_other", "_law_its", "_law_word"].length) (pu : ∀ (vs : List V) (H : Hp) (Q : VK) (E : XK), sp vs H Q E → t_zdue K S { nx := fun _ H' => Q .non H', rt := Q } (start ["_law_row", "_law_place", "_law_other", "_law_its", "_law_word", "_law_case"] vs) H) : Gf P w K mg base (k + 1) f fd ["_law_row", "_law_place", "_law_other", "_law_its", "_law_word"] sp :=
  okG F sc_zdue len fun cdv A outer s H vs Q E hG hr h => by
    have hU := hr.units
    have hU0 := hr.units0
    have hU1 := u65 hr
    have hUR := u100 hr
    exact ⟨t_zdue K S, PSs.nox ((pss_cons (ps_if (pt_cmpR o_gt (pv 1) (pv 3) (nomark _)) (pss_one (ps_ret (g_call c_self hG hr (by rfl) passN (pa_cons (pv 2) (pa_cons (pv 3) (pa_cons (pv 0) (pa_cons (pv 1) (pa_cons (pv 4) pa_nil)))))))) pss_nil)
  (pss_cons (ps_set (i := 5) sc_zdue.nd rfl (Or.inl rfl) (pe_tup (pa_cons (pv 4) (pa_cons (pv 1) (pa_cons (pv 3) (pa_cons (pe_op o_minus (pe_callB o_len (by rfl) (B "len" (by decide)) (by decide +kernel) (pa_cons (pv 0) pa_nil)) pe_int) pa_nil))))))
  (pss_one (ps_ret (pe_and (pe_cmpR o_is (g_call c_zfailed hG hr (by rfl) passN (pa_cons (pv 5) pa_nil)) pe_non (nomark _)) (pe_one (pe_cmpR (o_eq hU) (g_call c_ztwins hG hr (by rfl) passN (pa_cons (pv 5) pa_nil)) (pe_tup (pa_cons (pv 0) (pa_cons (pv 2) pa_nil))) (nomark _))))))))), pu vs H Q E h⟩
abbrev st_zbroken : Stmt := top 20
theorem sc_zbroken : FnScope ["_law_bag_here", "_law_case", "_law_word", "_law_one", "_law_other", "_law_last", "_law_size", "_law_way", "_law_many", "_law_more", "_law_strange", "_law_letter"] ["_law_bag_here", "_law_case"] (defScope st_zbroken) := ⟨rfl, rfl, rfl, by decide +kernel, rfl, by decide +kernel, by decide +kernel⟩
theorem ok_zbroken (F : FnP K "_law_broken" st_zbroken f fd) (B : Blt mg) (c_take : Cal P w K mg base k "_law_take" 2 (sp_take K)) : Gf P w K mg base (k + 1) f fd ["_law_bag_here", "_law_case"] (sp_zbroken K) :=
  okG F sc_zbroken ln2 fun cdv A outer s H vs Q E hG hr h => by
    have hU := hr.units
    have hU0 := hr.units0
    have hU1 := u65 hr
    have hUR := u100 hr
    exact ⟨t_zbroken K, PSs.nox ((pss_cons (ps_asg (pv 1) (pg_tup (by rfl) (pgs_cons (pg_name (i := 2) sc_zbroken.nd rfl (Or.inr rfl)) (pgs_cons (pg_name (i := 3) sc_zbroken.nd rfl (Or.inl rfl)) (pgs_cons (pg_name (i := 4) sc_zbroken.nd rfl (Or.inl rfl)) (pgs_cons (pg_name (i := 5) sc_zbroken.nd rfl (Or.inl rfl)) pgs_nil))))))
  (pss_cons (ps_par (i := 6) (j := 7) (by rfl) sc_zbroken.nd rfl rfl (by decide) rfl rfl (pa_cons (pe_callB o_len (by rfl) (B "len" (by decide)) (by decide +kernel) (pa_cons (pv 2) pa_nil)) (pa_cons (g_call c_take hG hr (by rfl) passN (pa_cons (pv 0) (pa_cons pe_int pa_nil))) pa_nil)) (by rfl))
  (pss_cons (ps_if (pt_cmpR (o_eq hU) (pv 7) pe_int (nomark _)) (pss_cons (ps_set (i := 8) sc_zbroken.nd rfl (Or.inl rfl) (pe_lst (pa_cons (g_call c_take hG hr (by rfl) passN (pa_cons (pv 0) (pa_cons pe_int pa_nil))) (pa_cons (pe_op o_plus pe_int (g_call c_take hG hr (by rfl) passN (pa_cons (pv 0) (pa_cons pe_int pa_nil)))) (pa_cons (g_call c_take hG hr (by rfl) passN (pa_cons (pv 0) (pa_cons pe_int pa_nil))) pa_nil)))))
  (pss_one (ps_ret (pe_tup (pa_cons (pv 2) (pa_cons (pe_op o_times (pv 6) (pe_ix o_ix (pv 8) pe_int (fun _ _ => rfl))) (pa_cons (pe_op o_times (pv 6) (pe_op o_plus (pe_ix o_ix (pv 8) pe_int (fun _ _ => rfl)) (pe_ix o_ix (pv 8) pe_int (fun _ _ => rfl)))) (pa_cons (pe_op o_times (pv 6) (pe_callB (cr_sum rfl) (by rfl) (B "sum" (by decide)) (by decide +kernel) (pa_cons (pv 8) pa_nil))) pa_nil)))))))) pss_nil)
  (pss_cons (ps_if (pt_cmpR (o_eq hU) (pv 7) pe_int (nomark _)) (pss_cons (ps_set (i := 9) sc_zbroken.nd rfl (Or.inl rfl) (pe_op o_plus pe_int (g_call c_take hG hr (by rfl) passN (pa_cons (pv 0) (pa_cons (pe_op o_minus (pv 6) pe_int) pa_nil)))))
  (pss_one (ps_ret (pe_tup (pa_cons (pv 2) (pa_cons (pv 3) (pa_cons (pv 4) (pa_cons (pe_op o_plus (pv 5) (pe_ix o_ix (pe_lst (pa_cons (pv 9) (pa_cons (pe_op o_minus pe_int (pv 9)) pa_nil))) (pe_callTy o_int (by rfl) (B "int" (by decide)) (by decide +kernel) (pa_cons (pe_cmpR o_gt (pv 5) pe_int (nomark _)) pa_nil)) (fun _ _ => rfl))) pa_nil)))))))) pss_nil)
  (pss_cons (ps_setLc (i := 10) (own := [("_law_letter", 11)]) (g := (gName 11)) (tt := (tTest (tOp (rIsNotIn K) (tVar 11) (tVar 2)))) (by rfl) sc_zbroken.nd rfl rfl (sw_true rfl rfl rfl (by decide +kernel)) (pi_str pe_str) (blkOk_by (own := [("_law_letter", 11)]) (N := ["_law_bag_here", "_law_case", "_law_word", "_law_one", "_law_other", "_law_last", "_law_size", "_law_way", "_law_many", "_law_more", "_law_strange", "_law_letter"]) (sc := defScope st_zbroken) (by decide +kernel)) (fun _ _ _ _ _ => (pg_name (i := 11) sc_zbroken.nd rfl (Or.inl rfl))) (fun _ _ _ _ _ => (pts_one (pt_cmpR (o_notin hU1) (pv 11) (pv 2) (by rfl)))) (fun _ _ _ _ _ => (pv 11)))
  (pss_one (ps_ret (pe_tup (pa_cons (pe_op o_plus (pe_ix o_ix (pv 10) pe_int (fun _ _ => rfl)) (pe_slice o_sl (pv 2) (po_some pe_int) po_none)) (pa_cons (pv 3) (pa_cons (pv 4) (pa_cons (pv 5) pa_nil))))))))))))), pu_zbroken vs H Q E h⟩
abbrev st_zspoiled_case : Stmt := top 19
theorem sc_zspoiled_case : FnScope ["_law_bag_here", "_law_case", "_law_found", "_law_k", "_law_at", "_law_some", "_law_spot", "_law_bent_here"] ["_law_bag_here", "_law_case"] (defScope st_zspoiled_case) := ⟨rfl, rfl, rfl, by decide +kernel, rfl, by decide +kernel, by decide +kernel⟩
theorem ok_zspoiled_case (F : FnP K "_law_spoiled_case" st_zspoiled_case f fd) (B : Blt mg) (c_take : Cal P w K mg base k "_law_take" 2 (sp_take K)) : Gf P w K mg base (k + 1) f fd ["_law_bag_here", "_law_case"] (sp_zspoiled_case K) :=
  okG F sc_zspoiled_case ln2 fun cdv A outer s H vs Q E hG hr h => by
    have hU := hr.units
    have hU0 := hr.units0
    have hU1 := u65 hr
    have hUR := u100 hr
    exact ⟨t_zspoiled_case K, PSs.nox ((pss_cons (ps_set (i := 2) sc_zspoiled_case.nd rfl (Or.inl rfl) (pe_callTy (o_list rfl) (by rfl) (B "list" (by decide)) (by decide +kernel) (pa_cons (pv 1) pa_nil)))
  (pss_cons (ps_for PassesOwn.never rfl (pi_range1 (by rfl) (B "range" (by decide)) (pa_cons (pe_ix o_ix (pe_lst (pa_cons pe_int (pa_cons pe_int (pa_cons pe_int (pa_cons pe_int pa_nil))))) (g_call c_take hG hr (by rfl) passN (pa_cons (pv 0) (pa_cons pe_int pa_nil))) (fun _ _ => rfl)) pa_nil)) (pg_name (i := 3) sc_zspoiled_case.nd rfl (Or.inl rfl))
  (pss_cons (ps_set (i := 4) sc_zspoiled_case.nd rfl (Or.inl rfl) (g_call c_take hG hr (by rfl) passN (pa_cons (pv 0) (pa_cons pe_int pa_nil))))
  (pss_one (ps_if (pt_cmpR o_gt (pv 4) pe_int (nomark _)) (pss_cons (ps_set (i := 5) sc_zspoiled_case.nd rfl (Or.inl rfl) (pe_lst (pa_cons pe_int (pa_cons pe_int (pa_cons (pe_op o_plus (pe_ix o_ix (pv 2) (pv 4) (fun _ _ => rfl)) pe_int) (pa_cons (pe_op o_plus (pe_ix o_ix (pv 2) (pv 4) (fun _ _ => rfl)) (pe_callB o_len (by rfl) (B "len" (by decide)) (by decide +kernel) (pa_cons (pe_ix o_ix (pv 2) pe_int (fun _ _ => rfl)) pa_nil))) (pa_cons (pe_callB (o_max2 rfl) (by rfl) (B "max" (by decide)) (by decide +kernel) (pa_cons pe_int (pa_cons (pe_op o_minus (pe_ix o_ix (pv 2) (pv 4) (fun _ _ => rfl)) pe_int) pa_nil))) (pa_cons (pe_ix o_ix (pv 2) pe_int (fun _ _ => rfl)) (pa_cons (pe_ix o_ix (pv 2) pe_int (fun _ _ => rfl)) pa_nil)))))))))
  (pss_one (ps_asg (pe_callB (o_min2 rfl) (by rfl) (B "min" (by decide)) (by decide +kernel) (pa_cons pe_int (pa_cons (pe_ix o_ix (pe_op o_plus (pv 5) (pe_lst (pa_cons pe_int (pa_cons (g_call c_take hG hr (by rfl) passN (pa_cons (pv 0) (pa_cons pe_int pa_nil))) (pa_cons (pe_op o_times pe_int (pe_ix o_ix (pv 2) pe_int (fun _ _ => rfl))) pa_nil))))) (g_call c_take hG hr (by rfl) passN (pa_cons (pv 0) (pa_cons pe_int pa_nil))) (fun _ _ => rfl)) pa_nil))) (pg_sub (pv 2) (pv 4) set_list)))) (pss_cons (ps_set (i := 6) sc_zspoiled_case.nd rfl (Or.inl rfl) (g_call c_take hG hr (by rfl) passN (pa_cons (pv 0) (pa_cons (pe_callB o_len (by rfl) (B "len" (by decide)) (by decide +kernel) (pa_cons (pe_ix o_ix (pv 2) pe_int (fun _ _ => rfl)) pa_nil)) pa_nil))))
  (pss_cons (ps_set (i := 7) sc_zspoiled_case.nd rfl (Or.inl rfl) (pe_op o_plus (pe_op o_plus (pe_slice o_sl (pe_ix o_ix (pv 2) pe_int (fun _ _ => rfl)) po_none (po_some (pv 6))) (pe_ix o_ix pe_str (g_call c_take hG hr (by rfl) passN (pa_cons (pv 0) (pa_cons pe_int pa_nil))) (fun _ _ => rfl))) (pe_slice o_sl (pe_ix o_ix (pv 2) pe_int (fun _ _ => rfl)) (po_some (pe_op o_plus (pv 6) pe_int)) po_none)))
  (pss_cons (ps_set (i := 5) sc_zspoiled_case.nd rfl (Or.inl rfl) (pe_lst (pa_cons (pv 7) (pa_cons (pe_slice o_sl (pe_op o_times (pe_ix o_ix (pv 2) pe_int (fun _ _ => rfl)) pe_int) po_none (po_some pe_int)) (pa_cons (pe_slice o_sl (pe_ix o_ix (pv 2) pe_int (fun _ _ => rfl)) po_none (po_some pe_int)) (pa_cons (pe_slice o_sl (pe_op o_plus (pe_ix o_ix (pv 2) pe_int (fun _ _ => rfl)) pe_str) po_none (po_some pe_int)) (pa_cons (pe_orT (pe_slice o_sl (pe_ix o_ix (pv 2) pe_int (fun _ _ => rfl)) (po_some pe_int) po_none) (pe_one pe_str)) pa_nil)))))))
  (pss_cons (ps_expr (pe_bm PySem.F.plainAttrs_list PySem.F.slot_list_append PySem.F.type_list_append mt_append (pv 5) (pa_cons (pe_slice o_sl (pe_op o_times (pe_ix o_ix (pv 2) pe_int (fun _ _ => rfl)) pe_int) po_none (po_some (pe_op o_plus pe_int (g_call c_take hG hr (by rfl) passN (pa_cons (pv 0) (pa_cons pe_int pa_nil)))))) pa_nil)))
  (pss_one (ps_asg (pe_ix o_ix (pe_op o_plus (pv 5) (pe_lst (pa_cons (pe_op o_times pe_str (pe_op o_plus pe_int (g_call c_take hG hr (by rfl) passN (pa_cons (pv 0) (pa_cons pe_int pa_nil))))) pa_nil))) (g_call c_take hG hr (by rfl) passN (pa_cons (pv 0) (pa_cons pe_int pa_nil))) (fun _ _ => rfl)) (pg_sub (pv 2) pe_int set_list)))))))))))
  (pss_one (ps_ret (pe_tup (pa_cons (pe_ix o_ix (pv 2) pe_int (fun _ _ => rfl)) (pa_cons (pe_ix o_ix (pv 2) pe_int (fun _ _ => rfl)) (pa_cons (pe_ix o_ix (pv 2) pe_int (fun _ _ => rfl)) (pa_cons (pe_ix o_ix (pv 2) pe_int (fun _ _ => rfl)) pa_nil)))))))))), pu_zspoiled_case vs H Q E h⟩
abbrev st_zbent : Stmt := top 22
theorem sc_zbent : FnScope ["_law_bag_here", "_law_five", "_law_row", "_law_place", "_law_other", "_law_its", "_law_word", "_law_last", "_law_way", "_law_at", "_law_some"] ["_law_bag_here", "_law_five"] (defScope st_zbent) := ⟨rfl, rfl, rfl, by decide +kernel, rfl, by decide +kernel, by decide +kernel⟩
theorem ok_zbent (F : FnP K "_law_bent" st_zbent f fd) (B : Blt mg) (c_take : Cal P w K mg base k "_law_take" 2 (sp_take K)) : Gf P w K mg base (k + 1) f fd ["_law_bag_here", "_law_five"] (sp_zbent K) :=
  okG F sc_zbent ln2 fun cdv A outer s H vs Q E hG hr h => by
    have hU := hr.units
    have hU0 := hr.units0
    have hU1 := u65 hr
    have hUR := u100 hr
    exact ⟨t_zbent K, PSs.nox ((pss_cons (ps_asg (pv 1) (pg_tup (by rfl) (pgs_cons (pg_name (i := 2) sc_zbent.nd rfl (Or.inl rfl)) (pgs_cons (pg_name (i := 3) sc_zbent.nd rfl (Or.inl rfl)) (pgs_cons (pg_name (i := 4) sc_zbent.nd rfl (Or.inl rfl)) (pgs_cons (pg_name (i := 5) sc_zbent.nd rfl (Or.inl rfl)) (pgs_cons (pg_name (i := 6) sc_zbent.nd rfl (Or.inl rfl)) pgs_nil)))))))
  (pss_cons (ps_set (i := 7) sc_zbent.nd rfl (Or.inl rfl) (pe_op o_minus (pe_callB o_len (by rfl) (B "len" (by decide)) (by decide +kernel) (pa_cons (pv 2) pa_nil)) pe_int))
  (pss_cons (ps_par (i := 8) (j := 9) (by rfl) sc_zbent.nd rfl rfl (by decide) rfl rfl (pa_cons (g_call c_take hG hr (by rfl) passN (pa_cons (pv 0) (pa_cons pe_int pa_nil))) (pa_cons (g_call c_take hG hr (by rfl) passN (pa_cons (pv 0) (pa_cons (pe_op o_plus (pv 7) pe_int) pa_nil))) pa_nil)) (by rfl))
  (pss_cons (ps_if (pt_cmpR o_lt (pv 8) pe_int (nomark _)) (pss_one (ps_ret (pe_ix o_ix (pe_lst (pa_cons (pe_tup (pa_cons (pv 2) (pa_cons (pv 9) (pa_cons (pv 4) (pa_cons (pv 5) (pa_cons (pv 6) pa_nil)))))) (pa_cons (pe_tup (pa_cons (pv 2) (pa_cons (pv 3) (pa_cons (pv 4) (pa_cons (pv 9) (pa_cons (pv 6) pa_nil)))))) pa_nil))) (pv 8) (fun _ _ => rfl)))) pss_nil)
  (pss_cons (ps_if (pt_cmpR (o_eq hU) (pv 8) pe_int (nomark _)) (pss_one (ps_ret (pe_tup (pa_cons (pv 2) (pa_cons (pv 5) (pa_cons (pv 4) (pa_cons (pv 3) (pa_cons (pv 6) pa_nil)))))))) pss_nil)
  (pss_cons (ps_if (pt_cmpR (o_eq hU) (pv 8) pe_int (nomark _)) (pss_one (ps_ret (pe_tup (pa_cons (pv 4) (pa_cons (pv 3) (pa_cons (pv 2) (pa_cons (pv 5) (pa_cons (pv 6) pa_nil)))))))) pss_nil)
  (pss_cons (ps_if (pt_cmpR (o_eq hU) (pv 8) pe_int (nomark _)) (pss_one (ps_ret (pe_tup (pa_cons (pv 2) (pa_cons (pv 3) (pa_cons (pv 2) (pa_cons (pv 5) (pa_cons (pv 6) pa_nil)))))))) pss_nil)
  (pss_cons (ps_if (pt_cmpR (o_eq hU) (pv 8) pe_int (nomark _)) (pss_one (ps_ret (pe_tup (pa_cons (pe_op o_plus (pe_op o_plus (pe_slice o_sl (pv 2) po_none (po_some (pv 9))) (pe_ix o_ix pe_str (g_call c_take hG hr (by rfl) passN (pa_cons (pv 0) (pa_cons pe_int pa_nil))) (fun _ _ => rfl))) (pe_slice o_sl (pv 2) (po_some (pe_op o_plus (pv 9) pe_int)) po_none)) (pa_cons (pv 3) (pa_cons (pv 4) (pa_cons (pv 5) (pa_cons (pv 6) pa_nil)))))))) pss_nil)
  (pss_cons (ps_if (pt_cmpR (o_eq hU) (pv 8) pe_int (nomark _)) (pss_one (ps_ret (pe_tup (pa_cons (pv 2) (pa_cons (pv 3) (pa_cons (pe_op o_plus (pe_op o_plus (pe_slice o_sl (pv 4) po_none (po_some (pv 9))) (pe_ix o_ix pe_str (g_call c_take hG hr (by rfl) passN (pa_cons (pv 0) (pa_cons pe_int pa_nil))) (fun _ _ => rfl))) (pe_slice o_sl (pv 4) (po_some (pe_op o_plus (pv 9) pe_int)) po_none)) (pa_cons (pv 5) (pa_cons (pv 6) pa_nil)))))))) pss_nil)
  (pss_cons (ps_set (i := 10) sc_zbent.nd rfl (Or.inl rfl) (pe_lst (pa_cons (pe_slice o_sl (pe_op o_times (pv 6) pe_int) po_none (po_some pe_int)) (pa_cons (pe_slice o_sl (pv 6) po_none (po_some pe_int)) (pa_cons (pe_rev (pv 6)) (pa_cons (pe_op o_plus (pe_slice o_sl (pv 6) (po_some pe_int) po_none) (pe_slice o_sl (pv 6) po_none (po_some pe_int))) (pa_cons (pe_slice o_sl (pe_op o_plus (pv 6) (pe_ix o_ix (pv 6) pe_int (fun _ _ => rfl))) po_none (po_some pe_int)) (pa_cons (pe_slice o_sl (pv 2) po_none (po_some (pv 5))) pa_nil))))))))
  (pss_cons (ps_expr (pe_bm PySem.F.plainAttrs_list PySem.F.slot_list_append PySem.F.type_list_append mt_append (pv 10) (pa_cons (pe_slice o_sl (pv 4) po_none (po_some (pv 3))) pa_nil)))
  (pss_cons (ps_expr (pe_bm PySem.F.plainAttrs_list PySem.F.slot_list_append PySem.F.type_list_append mt_append (pv 10) (pa_cons (pe_slice o_sl (pe_op o_times (pv 6) (pe_op o_plus pe_int (g_call c_take hG hr (by rfl) passN (pa_cons (pv 0) (pa_cons pe_int pa_nil))))) po_none (po_some pe_int)) pa_nil)))
  (pss_one (ps_ret (pe_tup (pa_cons (pv 2) (pa_cons (pv 3) (pa_cons (pv 4) (pa_cons (pv 5) (pa_cons (pe_orT (pe_ix o_ix (pv 10) (g_call c_take hG hr (by rfl) passN (pa_cons (pv 0) (pa_cons pe_int pa_nil))) (fun _ _ => rfl)) (pe_one pe_str)) pa_nil))))))))))))))))))))), pu_zbent vs H Q E h⟩
abbrev st_root : Stmt := top 4
theorem sc_root : FnScope ["text", "size"] ["text"] (defScope st_root) := ⟨rfl, rfl, rfl, by decide +kernel, rfl, by decide +kernel, by decide +kernel⟩
theorem ok_root (F : FnP K "root" st_root f fd) (B : Blt mg) : Gf P w K mg base (k + 1) f fd ["text"] (sp_root K) :=
  okG F sc_root ln1 fun cdv A outer s H vs Q E hG hr h => by
    have hU := hr.units
    have hU0 := hr.units0
    have hU1 := u65 hr
    have hUR := u100 hr
    exact ⟨t_root K, PSs.nox ((pss_cons (ps_set (i := 1) sc_root.nd rfl (Or.inl rfl) pe_int)
  (pss_cons (ps_while PassesOwn.never (PW.pt (pw_and (pt_cmpR o_lt (pv 1) (pe_callB o_len (by rfl) (B "len" (by decide)) (by decide +kernel) (pa_cons (pv 0) pa_nil)) (nomark _)) (pw_and1 (PW.pt (pw_or (pt_cmpR o_gt (pe_op o_mod (pe_callB o_len (by rfl) (B "len" (by decide)) (by decide +kernel) (pa_cons (pv 0) pa_nil)) (pv 1)) pe_int (nomark _)) (pw_or1 (pt_cmpR (o_ne hU) (pe_slice o_sl (pv 0) (po_some (pv 1)) po_none) (pe_slice o_sl (pv 0) po_none (po_some (pe_op o_minus (pe_callB o_len (by rfl) (B "len" (by decide)) (by decide +kernel) (pa_cons (pv 0) pa_nil)) (pv 1)))) (nomark _))))))))
  (pss_one (ps_aug (i := 1) sc_root.nd rfl (Or.inl rfl) pe_int ip_plus)))
  (pss_one (ps_ret (pe_slice o_sl (pv 0) po_none (po_some (pv 1)))))))), pu_root vs H Q E h⟩
abbrev st_failed : Stmt := top 6
theorem sc_failed : FnScope ["word", "one", "other", "last", "size"] ["word", "one", "other", "last"] (defScope st_failed) := ⟨rfl, rfl, rfl, by decide +kernel, rfl, by decide +kernel, by decide +kernel⟩
theorem ok_failed (F : FnP K "failed" st_failed f fd) (B : Blt mg) (c_root : Cal P w K mg base k "root" 1 (sp_root K)) : Gf P w K mg base (k + 1) f fd ["word", "one", "other", "last"] (sp_failed K) :=
  okG F sc_failed ln4 fun cdv A outer s H vs Q E hG hr h => by
    have hU := hr.units
    have hU0 := hr.units0
    have hU1 := u65 hr
    have hUR := u100 hr
    exact ⟨t_failed K, PSs.nox ((pss_cons (ps_set (i := 4) sc_failed.nd rfl (Or.inl rfl) (pe_callB o_len (by rfl) (B "len" (by decide)) (by decide +kernel) (pa_cons (pv 0) pa_nil)))
  (pss_cons (ps_if (PW.pt (pw_or (pt_cmpR o_lt (pv 4) pe_int (nomark _)) (pw_or1 (pt_cmpR (o_ne hU) (g_call c_root hG hr (by rfl) passN (pa_cons (pv 0) pa_nil)) (pv 0) (nomark _))))) (pss_one (ps_ret pe_int)) pss_nil)
  (pss_cons (ps_if (pt_not (pt_chain o_lt o_le (pv 1) (pv 2) (pv 3))) (pss_one (ps_ret pe_int)) pss_nil)
  (pss_cons (ps_if (pt_cmpR o_gt (pe_op o_mod (pe_op o_minus (pv 2) (pv 1)) (pv 4)) pe_int (nomark _)) (pss_one (ps_ret pe_int)) pss_nil)
  (pss_cons (ps_if (pt_cmpR (o_eq hU) (pe_op o_mod (pv 1) (pv 4)) pe_int (nomark _)) (pss_one (ps_ret pe_int)) pss_nil)
  (pss_cons (ps_if (pt_cmpR o_gt (pe_op o_mod (pe_op o_minus (pv 3) (pe_op o_times pe_int (pv 1))) (pv 4)) pe_int (nomark _)) (pss_one (ps_ret pe_int)) pss_nil)
  (pss_one (ps_ret (pe_ifExp (pt_cmpR (o_ne hU) (pe_ix o_ix (pv 0) pe_int (fun _ _ => rfl)) (pe_ix o_ix (pv 0) (pe_op o_mod (pv 1) (pv 4)) (fun _ _ => rfl)) (nomark _)) pe_int pe_non)))))))))), pu_failed vs H Q E h⟩
abbrev st_repeated : Stmt := top 5
theorem sc_repeated : FnScope ["word", "many"] ["word", "many"] (defScope st_repeated) := ⟨rfl, rfl, rfl, by decide +kernel, rfl, by decide +kernel, by decide +kernel⟩
theorem ok_repeated (F : FnP K "repeated" st_repeated f fd) (B : Blt mg) : Gf P w K mg base (k + 1) f fd ["word", "many"] (sp_repeated K) :=
  okG F sc_repeated ln2 fun cdv A outer s H vs Q E hG hr h => by
    have hU := hr.units
    have hU0 := hr.units0
    have hU1 := u65 hr
    have hUR := u100 hr
    exact ⟨t_repeated K, PSs.nox ((pss_one (ps_ret (pe_slice o_sl (pe_op o_times (pv 0) (pe_op o_plus (pe_op o_div (pv 1) (pe_callB o_len (by rfl) (B "len" (by decide)) (by decide +kernel) (pa_cons (pv 0) pa_nil))) pe_int)) po_none (po_some (pv 1)))))), pu_repeated vs H Q E h⟩
abbrev st_twins : Stmt := top 7
theorem sc_twins : FnScope ["word", "one", "other", "last", "at", "first"] ["word", "one", "other", "last"] (defScope st_twins) := ⟨rfl, rfl, rfl, by decide +kernel, rfl, by decide +kernel, by decide +kernel⟩
theorem ok_twins (F : FnP K "twins" st_twins f fd) (B : Blt mg) (c_repeated : Cal P w K mg base k "repeated" 2 (sp_repeated K)) (c_failed : Cal P w K mg base k "failed" 4 (sp_failed K)) : Gf P w K mg base (k + 1) f fd ["word", "one", "other", "last"] (sp_twins K) :=
  okG F sc_twins ln4 fun cdv A outer s H vs Q E hG hr h => by
    have hU := hr.units
    have hU0 := hr.units0
    have hU1 := u65 hr
    have hUR := u100 hr
    exact ⟨t_twins K, PSs.nox ((pss_cons (ps_set (i := 4) sc_twins.nd rfl (Or.inl rfl) (g_call c_failed hG hr (by rfl) passN (pa_cons (pv 0) (pa_cons (pv 1) (pa_cons (pv 2) (pa_cons (pv 3) pa_nil))))))
  (pss_cons (ps_if (pt_cmpR o_isnot (pv 4) pe_non (nomark _)) (pss_one ps_never) pss_nil)
  (pss_cons (ps_set (i := 5) sc_twins.nd rfl (Or.inl rfl) (pe_op o_plus (g_call c_repeated hG hr (by rfl) passN (pa_cons (pv 0) (pa_cons (pv 2) pa_nil))) (g_call c_repeated hG hr (by rfl) passN (pa_cons (pv 0) (pa_cons (pe_op o_plus (pe_op o_minus (pv 3) (pv 2)) pe_int) pa_nil)))))
  (pss_one (ps_ret (pe_tup (pa_cons (pv 5) (pa_cons (pe_op o_plus (g_call c_repeated hG hr (by rfl) passN (pa_cons (pv 0) (pa_cons (pv 1) pa_nil))) (g_call c_repeated hG hr (by rfl) passN (pa_cons (pv 0) (pa_cons (pe_op o_plus (pe_op o_minus (pv 3) (pv 1)) pe_int) pa_nil)))) pa_nil))))))))), pu_twins vs H Q E h⟩
abbrev st_are_twins : Stmt := top 8
theorem sc_are_twins : FnScope ["row", "place", "other", "its", "word"] ["row", "place", "other", "its", "word"] (defScope st_are_twins) := ⟨rfl, rfl, rfl, by decide +kernel, rfl, by decide +kernel, by decide +kernel⟩
theorem ok_are_twins (F : FnP K "are_twins" st_are_twins f fd) (B : Blt mg) (c_twins : Cal P w K mg base k "twins" 4 (sp_twins K)) (c_failed : Cal P w K mg base k "failed" 4 (sp_failed K)) : Gf P w K mg base (k + 1) f fd ["row", "place", "other", "its", "word"] (sp_are_twins K) :=
  okG F sc_are_twins ln5 fun cdv A outer s H vs Q E hG hr h => by
    have hU := hr.units
    have hU0 := hr.units0
    have hU1 := u65 hr
    have hUR := u100 hr
    exact ⟨t_are_twins K, PSs.nox ((pss_cons (ps_if (pt_cmpR o_gt (pv 1) (pv 3) (nomark _)) (pss_one (ps_asg (pe_tup (pa_cons (pv 2) (pa_cons (pv 3) (pa_cons (pv 0) (pa_cons (pv 1) pa_nil))))) (pg_tup (by rfl) (pgs_cons (pg_name (i := 0) sc_are_twins.nd rfl (Or.inl rfl)) (pgs_cons (pg_name (i := 1) sc_are_twins.nd rfl (Or.inl rfl)) (pgs_cons (pg_name (i := 2) sc_are_twins.nd rfl (Or.inl rfl)) (pgs_cons (pg_name (i := 3) sc_are_twins.nd rfl (Or.inl rfl)) pgs_nil))))))) pss_nil)
  (pss_cons (ps_if (pt_cmpR o_isnot (g_call c_failed hG hr (by rfl) passN (pa_cons (pv 4) (pa_cons (pv 1) (pa_cons (pv 3) (pa_cons (pe_op o_minus (pe_callB o_len (by rfl) (B "len" (by decide)) (by decide +kernel) (pa_cons (pv 0) pa_nil)) pe_int) pa_nil))))) pe_non (nomark _)) (pss_one (ps_ret pe_bl)) pss_nil)
  (pss_one (ps_ret (pe_cmpR (o_eq hU) (g_call c_twins hG hr (by rfl) passN (pa_cons (pv 4) (pa_cons (pv 1) (pa_cons (pv 3) (pa_cons (pe_op o_minus (pe_callB o_len (by rfl) (B "len" (by decide)) (by decide +kernel) (pa_cons (pv 0) pa_nil)) pe_int) pa_nil))))) (pe_tup (pa_cons (pv 0) (pa_cons (pv 2) pa_nil))) (nomark _))))))), pu_are_twins vs H Q E h⟩
abbrev st_alike : Stmt := top 12
theorem sc_alike : FnScope ["_law_found", "_law_due_here"] ["_law_found", "_law_due_here"] (defScope st_alike) := ⟨rfl, rfl, rfl, by decide +kernel, rfl, by decide +kernel, by decide +kernel⟩
theorem ok_alike (F : FnP K "_law_alike" st_alike f fd) (B : Blt mg) : Gf P w K mg base (k + 1) f fd ["_law_found", "_law_due_here"] (sp_alike K) :=
  okG F sc_alike ln2 fun cdv A outer s H vs Q E hG hr h => by
    have hU := hr.units
    have hU0 := hr.units0
    have hU1 := u65 hr
    have hUR := u100 hr
    exact ⟨t_alike K, PSs.nox ((pss_one (ps_ret (pe_and (pe_cmpR (o_eq hU) (pv 0) (pv 1) (nomark _)) (pe_one (pe_cmpR (o_eq hU) (pe_callB (call_reprD hG hUR) (by rfl) (B "repr" (by decide)) (by decide +kernel) (pa_cons (pv 0) pa_nil)) (pe_callB (call_reprD hG hUR) (by rfl) (B "repr" (by decide)) (by decide +kernel) (pa_cons (pv 1) pa_nil)) (nomark _))))))), pu_alike vs H Q E h⟩
abbrev st_ztwin_case : Stmt := top 15
theorem sc_ztwin_case : FnScope ["_law_bag_here", "_law_most", "_law_size", "_law_shift", "_law_start", "_law_letters", "_law_text", "_law_word", "_law_one", "_law_other", "_law_least", "_law_last", "_law_k"] ["_law_bag_here", "_law_most"] (defScope st_ztwin_case) := ⟨rfl, rfl, rfl, by decide +kernel, rfl, by decide +kernel, by decide +kernel⟩
theorem ok_ztwin_case (F : FnP K "_law_twin_case" st_ztwin_case f fd) (B : Blt mg) (c_take : Cal P w K mg base k "_law_take" 2 (sp_take K)) (c_zroot : Cal P w K mg base k "_law_root" 1 (sp_zroot K)) : Gf P w K mg base (k + 1) f fd ["_law_bag_here", "_law_most"] (sp_ztwin_case K) :=
  okG F sc_ztwin_case ln2 fun cdv A outer s H vs Q E hG hr h => by
    have hU := hr.units
    have hU0 := hr.units0
    have hU1 := u65 hr
    have hUR := u100 hr
    exact ⟨t_ztwin_case K, PSs.nox ((pss_cons (ps_set (i := 2) sc_ztwin_case.nd rfl (Or.inl rfl) (pe_op o_plus pe_int (g_call c_take hG hr (by rfl) passN (pa_cons (pv 0) (pa_cons pe_int pa_nil)))))
  (pss_cons (ps_set (i := 3) sc_ztwin_case.nd rfl (Or.inl rfl) (pe_op o_plus pe_int (g_call c_take hG hr (by rfl) passN (pa_cons (pv 0) (pa_cons (pe_op o_minus (pv 2) pe_int) pa_nil)))))
  (pss_cons (ps_set (i := 4) sc_ztwin_case.nd rfl (Or.inl rfl) (g_call c_take hG hr (by rfl) passN (pa_cons (pv 0) (pa_cons pe_int pa_nil))))
  (pss_cons (ps_set (i := 5) sc_ztwin_case.nd rfl (Or.inr rfl) (pe_slice o_sl pe_str (po_some (pv 4)) (po_some (pe_op o_plus (pv 4) pe_int))))
  (pss_cons (ps_set (i := 6) sc_ztwin_case.nd rfl (Or.inl rfl) (pe_join pe_str (pe_lc (own := [("_law_k", 12)]) (g := (gName 12)) (tt := tYes) (by rfl) sc_ztwin_case.nd (pi_range1 (by rfl) (B "range" (by decide)) (pa_cons (pv 2) pa_nil)) (blkOk_by (own := [("_law_k", 12)]) (N := ["_law_bag_here", "_law_most", "_law_size", "_law_shift", "_law_start", "_law_letters", "_law_text", "_law_word", "_law_one", "_law_other", "_law_least", "_law_last", "_law_k"]) (sc := defScope st_ztwin_case) (by decide +kernel)) (fun _ _ _ _ _ => (pg_name (i := 12) sc_ztwin_case.nd rfl (Or.inl rfl))) (fun _ _ _ _ _ => pts_nil) (fun _ _ _ _ _ => (pe_ix o_ix (pv 5) (g_call c_take hG hr (by rfl) passN (pa_cons (pv 0) (pa_cons pe_int pa_nil))) (fun _ _ => rfl))))))
  (pss_cons (ps_set (i := 7) sc_ztwin_case.nd rfl (Or.inl rfl) (pe_op o_plus (pe_op o_plus (pe_slice o_sl (pv 6) po_none (po_some (pv 3))) (pe_ix o_ix (pv 6) pe_int (fun _ _ => rfl))) (pe_slice o_sl (pv 6) (po_some (pe_op o_plus (pv 3) pe_int)) po_none)))
  (pss_cons (ps_if (pt_cmpR (o_ne hU) (g_call c_zroot hG hr (by rfl) passN (pa_cons (pv 7) pa_nil)) (pv 7) (nomark _)) (pss_cons (ps_set (i := 7) sc_ztwin_case.nd rfl (Or.inl rfl) (pe_op o_plus (pe_op o_times (pe_ix o_ix (pv 5) pe_int (fun _ _ => rfl)) (pe_op o_plus (pv 3) pe_int)) (pe_op o_times (pe_ix o_ix (pv 5) pe_int (fun _ _ => rfl)) (pe_op o_minus (pe_op o_minus (pv 2) (pv 3)) pe_int))))
  (pss_one (ps_if (pt_cmpR (o_eq hU) (pv 3) (pe_op o_minus (pv 2) pe_int) (nomark _)) (pss_one (ps_set (i := 7) sc_ztwin_case.nd rfl (Or.inl rfl) (pe_op o_plus (pe_op o_plus (pe_ix o_ix (pv 5) pe_int (fun _ _ => rfl)) (pe_op o_times (pe_ix o_ix (pv 5) pe_int (fun _ _ => rfl)) (pe_op o_minus (pv 2) pe_int))) (pe_ix o_ix (pv 5) pe_int (fun _ _ => rfl))))) pss_nil))) pss_nil)
  (pss_cons (ps_set (i := 8) sc_ztwin_case.nd rfl (Or.inl rfl) (pe_op o_plus (pv 3) (pe_op o_times (pv 2) (g_call c_take hG hr (by rfl) passN (pa_cons (pv 0) (pa_cons pe_int pa_nil))))))
  (pss_cons (ps_set (i := 9) sc_ztwin_case.nd rfl (Or.inl rfl) (pe_op o_plus (pv 8) (pe_op o_times (pv 2) (pe_op o_plus pe_int (g_call c_take hG hr (by rfl) passN (pa_cons (pv 0) (pa_cons pe_int pa_nil)))))))
  (pss_cons (ps_set (i := 10) sc_ztwin_case.nd rfl (Or.inl rfl) (pe_op o_times pe_int (pv 8)))
  (pss_cons (ps_while PassesOwn.never (pt_cmpR o_lt (pv 10) (pv 9) (nomark _))
  (pss_one (ps_set (i := 10) sc_ztwin_case.nd rfl (Or.inl rfl) (pe_op o_plus (pv 10) (pv 2)))))
  (pss_cons (ps_while PassesOwn.never (pt_cmpR o_ge (pe_op o_minus (pv 10) (pv 2)) (pv 9) (nomark _))
  (pss_one (ps_set (i := 10) sc_ztwin_case.nd rfl (Or.inl rfl) (pe_op o_minus (pv 10) (pv 2)))))
  (pss_cons (ps_set (i := 11) sc_ztwin_case.nd rfl (Or.inl rfl) (pe_op o_plus (pv 10) (pe_op o_times (pv 2) (g_call c_take hG hr (by rfl) passN (pa_cons (pv 0) (pa_cons (pe_op o_plus pe_int (pe_op o_div (pe_callB (o_max2 rfl) (by rfl) (B "max" (by decide)) (by decide +kernel) (pa_cons pe_int (pa_cons (pe_op o_minus (pv 1) (pv 10)) pa_nil))) (pv 2))) pa_nil))))))
  (pss_one (ps_ret (pe_tup (pa_cons (pv 7) (pa_cons (pv 8) (pa_cons (pv 9) (pa_cons (pv 11) pa_nil))))))))))))))))))))), pu_ztwin_case vs H Q E h⟩
abbrev st_ztriple_case : Stmt := top 16
theorem sc_ztriple_case : FnScope ["_law_bag_here", "_law_one", "_law_more", "_law_front", "_law_middle", "_law_word", "_law_many", "_law_other", "_law_k"] ["_law_bag_here"] (defScope st_ztriple_case) := ⟨rfl, rfl, rfl, by decide +kernel, rfl, by decide +kernel, by decide +kernel⟩
theorem ok_ztriple_case (F : FnP K "_law_triple_case" st_ztriple_case f fd) (B : Blt mg) (c_take : Cal P w K mg base k "_law_take" 2 (sp_take K)) (c_zroot : Cal P w K mg base k "_law_root" 1 (sp_zroot K)) : Gf P w K mg base (k + 1) f fd ["_law_bag_here"] (sp_ztriple_case K) :=
  okG F sc_ztriple_case ln1 fun cdv A outer s H vs Q E hG hr h => by
    have hU := hr.units
    have hU0 := hr.units0
    have hU1 := u65 hr
    have hUR := u100 hr
    exact ⟨t_ztriple_case K, PSs.nox ((pss_cons (ps_par (i := 1) (j := 2) (by rfl) sc_ztriple_case.nd rfl rfl (by decide) rfl rfl (pa_cons (pe_op o_plus pe_int (g_call c_take hG hr (by rfl) passN (pa_cons (pv 0) (pa_cons pe_int pa_nil)))) (pa_cons (pe_op o_plus pe_int (g_call c_take hG hr (by rfl) passN (pa_cons (pv 0) (pa_cons pe_int pa_nil)))) pa_nil)) (by rfl))
  (pss_cons (ps_set (i := 3) sc_ztriple_case.nd rfl (Or.inl rfl) (pe_join pe_str (pe_lc (own := [("_law_k", 8)]) (g := (gName 8)) (tt := tYes) (by rfl) sc_ztriple_case.nd (pi_range1 (by rfl) (B "range" (by decide)) (pa_cons (pv 1) pa_nil)) (blkOk_by (own := [("_law_k", 8)]) (N := ["_law_bag_here", "_law_one", "_law_more", "_law_front", "_law_middle", "_law_word", "_law_many", "_law_other", "_law_k"]) (sc := defScope st_ztriple_case) (by decide +kernel)) (fun _ _ _ _ _ => (pg_name (i := 8) sc_ztriple_case.nd rfl (Or.inl rfl))) (fun _ _ _ _ _ => pts_nil) (fun _ _ _ _ _ => (pe_ix o_ix pe_str (g_call c_take hG hr (by rfl) passN (pa_cons (pv 0) (pa_cons pe_int pa_nil))) (fun _ _ => rfl))))))
  (pss_cons (ps_set (i := 4) sc_ztriple_case.nd rfl (Or.inl rfl) (pe_op o_plus (pe_ix o_ix (pv 3) pe_int (fun _ _ => rfl)) (pe_join pe_str (pe_lc (own := [("_law_k", 8)]) (g := (gName 8)) (tt := tYes) (by rfl) sc_ztriple_case.nd (pi_range1 (by rfl) (B "range" (by decide)) (pa_cons (pv 2) pa_nil)) (blkOk_by (own := [("_law_k", 8)]) (N := ["_law_bag_here", "_law_one", "_law_more", "_law_front", "_law_middle", "_law_word", "_law_many", "_law_other", "_law_k"]) (sc := defScope st_ztriple_case) (by decide +kernel)) (fun _ _ _ _ _ => (pg_name (i := 8) sc_ztriple_case.nd rfl (Or.inl rfl))) (fun _ _ _ _ _ => pts_nil) (fun _ _ _ _ _ => (pe_ix o_ix pe_str (g_call c_take hG hr (by rfl) passN (pa_cons (pv 0) (pa_cons pe_int pa_nil))) (fun _ _ => rfl)))))))
  (pss_cons (ps_set (i := 5) sc_ztriple_case.nd rfl (Or.inl rfl) (pe_op o_plus (pe_op o_plus (pv 3) (pv 4)) (pv 3)))
  (pss_cons (ps_if (pt_cmpR (o_ne hU) (g_call c_zroot hG hr (by rfl) passN (pa_cons (pv 5) pa_nil)) (pv 5) (nomark _)) (pss_one (ps_set (i := 5) sc_ztriple_case.nd rfl (Or.inl rfl) (pe_op o_plus (pe_op o_plus (pe_op o_times pe_str (pe_op o_plus (pv 1) pe_int)) (pe_op o_times pe_str (pv 2))) (pe_op o_times pe_str (pv 1))))) pss_nil)
  (pss_cons (ps_set (i := 6) sc_ztriple_case.nd rfl (Or.inl rfl) (pe_op o_plus pe_int (g_call c_take hG hr (by rfl) passN (pa_cons (pv 0) (pa_cons pe_int pa_nil)))))
  (pss_cons (ps_set (i := 7) sc_ztriple_case.nd rfl (Or.inl rfl) (pe_op o_plus (pv 1) (pe_op o_times (pe_callB o_len (by rfl) (B "len" (by decide)) (by decide +kernel) (pa_cons (pv 5) pa_nil)) (pe_op o_plus pe_int (g_call c_take hG hr (by rfl) passN (pa_cons (pv 0) (pa_cons (pe_op o_minus (pv 6) pe_int) pa_nil)))))))
  (pss_one (ps_ret (pe_tup (pa_cons (pv 5) (pa_cons (pv 1) (pa_cons (pv 7) (pa_cons (pe_op o_plus (pe_op o_times pe_int (pv 1)) (pe_op o_times (pe_callB o_len (by rfl) (B "len" (by decide)) (by decide +kernel) (pa_cons (pv 5) pa_nil)) (pv 6))) pa_nil))))))))))))))), pu_ztriple_case vs H Q E h⟩
abbrev st_law : Stmt := top 23
theorem sc_law : FnScope ["_law_script", "_law_bag_here", "_law_turn", "_law_case", "_law_way", "_law_rows", "_law_five", "_law_k", "_law_row", "_law_place", "_law_other", "_law_its", "_law_word", "_law_due_here", "_law_told", "_law_bent_here"] ["_law_script"] (defScope st_law) := ⟨rfl, rfl, rfl, by decide +kernel, rfl, by decide +kernel, by decide +kernel⟩
theorem ok_law (F : FnP K "law" st_law f fd) (B : Blt mg) (c_alike : Cal P w K mg base k "_law_alike" 2 (sp_alike K)) (c_are_twins : Cal P w K mg base k "are_twins" 5 (sp_are_twins K)) (c_zdue : Cal P w K mg base k "_law_due" 5 (sp_zdue K)) (c_take : Cal P w K mg base k "_law_take" 2 (sp_take K)) (c_zbent : Cal P w K mg base k "_law_bent" 2 (sp_zbent K)) (c_ztwins : Cal P w K mg base k "_law_twins" 1 (sp_ztwins K)) (c_zspoiled_case : Cal P w K mg base k "_law_spoiled_case" 2 (sp_zspoiled_case K)) (c_zbroken : Cal P w K mg base k "_law_broken" 2 (sp_zbroken K)) (c_ztriple_case : Cal P w K mg base k "_law_triple_case" 1 (sp_ztriple_case K)) (c_ztwin_case : Cal P w K mg base k "_law_twin_case" 2 (sp_ztwin_case K)) (c_bag : Cal P w K mg base k "_law_bag" 1 (sp_bag K)) : Gf P w K mg base (k + 1) f fd ["_law_script"] (sp_law K) :=
  okG F sc_law ln1 fun cdv A outer s H vs Q E hG hr h => by
    have hU := hr.units
    have hU0 := hr.units0
    have hU1 := u65 hr
    have hUR := u100 hr
    exact ⟨t_law K, PSs.nox ((pss_cons (ps_set (i := 1) sc_law.nd rfl (Or.inl rfl) (g_call c_bag hG hr (by rfl) passN (pa_cons (pv 0) pa_nil)))
  (pss_cons (ps_for PassesOwn.never rfl (pi_range1 (by rfl) (B "range" (by decide)) (pa_cons pe_int pa_nil)) (pg_name (i := 2) sc_law.nd rfl (Or.inl rfl))
  (pss_cons (ps_set (i := 3) sc_law.nd rfl (Or.inl rfl) (pe_ix o_ix (pe_lst (pa_cons (g_call c_ztwin_case hG hr (by rfl) passN (pa_cons (pv 1) (pa_cons (pe_ix o_ix (pe_lst (pa_cons pe_int (pa_cons pe_int pa_nil))) (g_call c_take hG hr (by rfl) passN (pa_cons (pv 1) (pa_cons pe_int pa_nil))) (fun _ _ => rfl)) pa_nil))) (pa_cons (g_call c_ztriple_case hG hr (by rfl) passN (pa_cons (pv 1) pa_nil)) pa_nil))) (g_call c_take hG hr (by rfl) passN (pa_cons (pv 1) (pa_cons pe_int pa_nil))) (fun _ _ => rfl)))
  (pss_cons (ps_set (i := 4) sc_law.nd rfl (Or.inl rfl) (g_call c_take hG hr (by rfl) passN (pa_cons (pv 1) (pa_cons pe_int pa_nil))))
  (pss_cons (ps_if (pt_cmpR (o_eq hU) (pv 4) pe_int (nomark _)) (pss_one (ps_set (i := 3) sc_law.nd rfl (Or.inl rfl) (g_call c_zbroken hG hr (by rfl) passN (pa_cons (pv 1) (pa_cons (pv 3) pa_nil))))) pss_nil)
  (pss_cons (ps_if (pt_cmpR (o_eq hU) (pv 4) pe_int (nomark _)) (pss_cons (ps_set (i := 15) sc_law.nd rfl (Or.inl rfl) (g_call c_zspoiled_case hG hr (by rfl) passN (pa_cons (pv 1) (pa_cons (pv 3) pa_nil))))
  (pss_one (ps_if (PW.pt (pw_and (pt_cmpR o_le (pe_callB (o_max2 rfl) (by rfl) (B "max" (by decide)) (by decide +kernel) (pa_cons (pe_ix o_ix (pv 15) pe_int (fun _ _ => rfl)) (pa_cons (pe_ix o_ix (pv 15) pe_int (fun _ _ => rfl)) pa_nil))) (pe_ix o_ix (pv 15) pe_int (fun _ _ => rfl)) (nomark _)) (pw_and1 (pt_cmpR o_gt (pe_ix o_ix (pv 15) pe_int (fun _ _ => rfl)) pe_int (nomark _))))) (pss_one (ps_set (i := 3) sc_law.nd rfl (Or.inl rfl) (pv 15))) pss_nil))) pss_nil)
  (pss_cons (ps_set (i := 5) sc_law.nd rfl (Or.inl rfl) (g_call c_ztwins hG hr (by rfl) passN (pa_cons (pv 3) pa_nil)))
  (pss_cons (ps_set (i := 6) sc_law.nd rfl (Or.inl rfl) (pe_tup (pa_cons (pe_ix o_ix (pv 5) pe_int (fun _ _ => rfl)) (pa_cons (pe_ix o_ix (pv 3) pe_int (fun _ _ => rfl)) (pa_cons (pe_ix o_ix (pv 5) pe_int (fun _ _ => rfl)) (pa_cons (pe_ix o_ix (pv 3) pe_int (fun _ _ => rfl)) (pa_cons (pe_ix o_ix (pv 3) pe_int (fun _ _ => rfl)) pa_nil)))))))
  (pss_cons (ps_for PassesOwn.never rfl (pi_range1 (by rfl) (B "range" (by decide)) (pa_cons (pe_op o_times (pe_ix o_ix (pe_lst (pa_cons pe_int (pa_cons pe_int (pa_cons pe_int (pa_cons pe_int pa_nil))))) (g_call c_take hG hr (by rfl) passN (pa_cons (pv 1) (pa_cons pe_int pa_nil))) (fun _ _ => rfl)) (pe_callTy o_int (by rfl) (B "int" (by decide)) (by decide +kernel) (pa_cons (pe_cmpR o_gt (pv 4) pe_int (nomark _)) pa_nil))) pa_nil)) (pg_name (i := 7) sc_law.nd rfl (Or.inl rfl))
  (pss_one (ps_set (i := 6) sc_law.nd rfl (Or.inl rfl) (g_call c_zbent hG hr (by rfl) passN (pa_cons (pv 1) (pa_cons (pv 6) pa_nil))))))
  (pss_cons (ps_asg (pv 6) (pg_tup (by rfl) (pgs_cons (pg_name (i := 8) sc_law.nd rfl (Or.inl rfl)) (pgs_cons (pg_name (i := 9) sc_law.nd rfl (Or.inl rfl)) (pgs_cons (pg_name (i := 10) sc_law.nd rfl (Or.inl rfl)) (pgs_cons (pg_name (i := 11) sc_law.nd rfl (Or.inl rfl)) (pgs_cons (pg_name (i := 12) sc_law.nd rfl (Or.inl rfl)) pgs_nil)))))))
  (pss_cons (ps_set (i := 13) sc_law.nd rfl (Or.inl rfl) (g_call c_zdue hG hr (by rfl) passN (pa_cons (pv 8) (pa_cons (pv 9) (pa_cons (pv 10) (pa_cons (pv 11) (pa_cons (pv 12) pa_nil)))))))
  (pss_cons (ps_set (i := 14) sc_law.nd rfl (Or.inl rfl) (pe_lst (pa_cons (g_call c_are_twins hG hr (by rfl) passN (pa_cons (pv 8) (pa_cons (pv 9) (pa_cons (pv 10) (pa_cons (pv 11) (pa_cons (pv 12) pa_nil)))))) (pa_cons (g_call c_are_twins hG hr (by rfl) passN (pa_cons (pv 10) (pa_cons (pv 11) (pa_cons (pv 8) (pa_cons (pv 9) (pa_cons (pv 12) pa_nil)))))) pa_nil))))
  (pss_one (ps_if (pt_not (g_truth (g_call c_alike hG hr (by rfl) passN (pa_cons (pv 14) (pa_cons (pe_lst (pa_cons (pv 13) (pa_cons (pv 13) pa_nil))) pa_nil))))) (pss_one (ps_ret pe_bl)) pss_nil)))))))))))))
  (pss_one (ps_ret pe_bl))))), pu_law vs H Q E h⟩
end
def d_bag : He.DefD := ⟨("_law_bag", none), "_law_bag", "_law_bag", defArgs st_bag, defBody st_bag, defScope st_bag, [], []⟩
def d_take : He.DefD := ⟨("_law_take", none), "_law_take", "_law_take", defArgs st_take, defBody st_take, defScope st_take, [], []⟩
def d_zrepeated : He.DefD := ⟨("_law_repeated", none), "_law_repeated", "_law_repeated", defArgs st_zrepeated, defBody st_zrepeated, defScope st_zrepeated, [], []⟩
def d_ztwins : He.DefD := ⟨("_law_twins", none), "_law_twins", "_law_twins", defArgs st_ztwins, defBody st_ztwins, defScope st_ztwins, [], []⟩
def d_zroot : He.DefD := ⟨("_law_root", none), "_law_root", "_law_root", defArgs st_zroot, defBody st_zroot, defScope st_zroot, [], []⟩
def d_zfailed : He.DefD := ⟨("_law_failed", none), "_law_failed", "_law_failed", defArgs st_zfailed, defBody st_zfailed, defScope st_zfailed, [], []⟩
def d_zdue : He.DefD := ⟨("_law_due", none), "_law_due", "_law_due", defArgs st_zdue, defBody st_zdue, defScope st_zdue, [], []⟩
def d_zbroken : He.DefD := ⟨("_law_broken", none), "_law_broken", "_law_broken", defArgs st_zbroken, defBody st_zbroken, defScope st_zbroken, [], []⟩
def d_zspoiled_case : He.DefD := ⟨("_law_spoiled_case", none), "_law_spoiled_case", "_law_spoiled_case", defArgs st_zspoiled_case, defBody st_zspoiled_case, defScope st_zspoiled_case, [], []⟩
def d_zbent : He.DefD := ⟨("_law_bent", none), "_law_bent", "_law_bent", defArgs st_zbent, defBody st_zbent, defScope st_zbent, [], []⟩
def d_root : He.DefD := ⟨("root", none), "root", "root", defArgs st_root, defBody st_root, defScope st_root, [], []⟩
def d_failed : He.DefD := ⟨("failed", none), "failed", "failed", defArgs st_failed, defBody st_failed, defScope st_failed, [], []⟩
def d_repeated : He.DefD := ⟨("repeated", none), "repeated", "repeated", defArgs st_repeated, defBody st_repeated, defScope st_repeated, [], []⟩
def d_twins : He.DefD := ⟨("twins", none), "twins", "twins", defArgs st_twins, defBody st_twins, defScope st_twins, [], []⟩
def d_are_twins : He.DefD := ⟨("are_twins", none), "are_twins", "are_twins", defArgs st_are_twins, defBody st_are_twins, defScope st_are_twins, [], []⟩
def d_alike : He.DefD := ⟨("_law_alike", none), "_law_alike", "_law_alike", defArgs st_alike, defBody st_alike, defScope st_alike, [], []⟩
def d_ztwin_case : He.DefD := ⟨("_law_twin_case", none), "_law_twin_case", "_law_twin_case", defArgs st_ztwin_case, defBody st_ztwin_case, defScope st_ztwin_case, [], []⟩
def d_ztriple_case : He.DefD := ⟨("_law_triple_case", none), "_law_triple_case", "_law_triple_case", defArgs st_ztriple_case, defBody st_ztriple_case, defScope st_ztriple_case, [], []⟩
def d_law : He.DefD := ⟨("law", none), "law", "law", defArgs st_law, defBody st_law, defScope st_law, [], []⟩
def fn : List He.DefD := [d_bag, d_take, d_zrepeated, d_ztwins, d_zroot, d_zfailed, d_zdue, d_zbroken, d_zspoiled_case, d_zbent, d_root, d_failed, d_repeated, d_twins, d_are_twins, d_alike, d_ztwin_case, d_ztriple_case, d_law]
def fa : List He.Fa := [.glo "_law_bag", .glo "_law_take", .glo "_law_repeated", .glo "_law_twins", .glo "_law_root", .glo "_law_failed", .glo "_law_due", .glo "_law_broken", .glo "_law_spoiled_case", .glo "_law_bent", .glo "root", .glo "failed", .glo "repeated", .glo "twins", .glo "are_twins", .glo "_law_alike", .glo "_law_twin_case", .glo "_law_triple_case", .glo "law"] ++ bltNames.map He.Fa.free
abbrev R : PySem.W.OpenRow := PySem.W.OpenLaw.row PySem.Challenge.rw_ownlog_k57_twins_told_apart
abbrev hk : PySem.W.Hook := He.hookD 5 fa fn
def ob (s : PySem.W.SharedT) : He.AlD := He.obsDG 5 fa fn (HandSHeadRun.getT s)
theorem ob_eq (s : PySem.W.SharedT) : ob s = hk.obs s.abs := He.obsDG_eq (HandSHeadRun.getT_eq s)
abbrev lo : List PySem.Str := (["OwnError", "NoTwins", "root", "repeated", "failed", "twins", "are_twins", "_law_bag", "_law_take", "_law_alike", "_law_repeated", "_law_root", "_law_twin_case", "_law_triple_case", "_law_twins", "_law_failed", "_law_spoiled_case", "_law_broken", "_law_due", "_law_bent"] : List PySem.Str)
theorem run (w : World) : HandSHeadRun.RunEq R (PySem.W.view R.prog [23]) hk ob 20000 (lo) w := by
  intro os
  kernel_rfl
theorem facts {P : Program} {w : World} {K : PySem.W.Frag} {h : Heap} {mg : Str → Option Value} {f : Addr} (X : K.In h) (G : h.Ns mainGlobals mg) (hfa : mg ("law" : Str) = some (.ref f)) (c : He.SaysD fa fn K) :
    ∃ fd : FuncData, (∀ (s : Shared) (v : Value), BindsTo s fd ⟨[v], []⟩ [("_law_script", v)]) ∧ ∀ base : Heap, K.In base → base.Ns mainGlobals mg → Gf P w K mg base 5 f fd ["_law_script"] (sp_law K) := by
  have B : Blt mg := blt_of X G fun i f h => c.fact (i + 19) (by exact h)
  obtain ⟨fd_bag, F_bag⟩ := c.def_ 0 (d := d_bag) rfl
  have m_bag := He.glo_ok X G (c.fact 0 (f := .glo "_law_bag") rfl)
  obtain ⟨fd_take, F_take⟩ := c.def_ 1 (d := d_take) rfl
  have m_take := He.glo_ok X G (c.fact 1 (f := .glo "_law_take") rfl)
  obtain ⟨fd_zrepeated, F_zrepeated⟩ := c.def_ 2 (d := d_zrepeated) rfl
  have m_zrepeated := He.glo_ok X G (c.fact 2 (f := .glo "_law_repeated") rfl)
  obtain ⟨fd_ztwins, F_ztwins⟩ := c.def_ 3 (d := d_ztwins) rfl
  have m_ztwins := He.glo_ok X G (c.fact 3 (f := .glo "_law_twins") rfl)
  obtain ⟨fd_zroot, F_zroot⟩ := c.def_ 4 (d := d_zroot) rfl
  have m_zroot := He.glo_ok X G (c.fact 4 (f := .glo "_law_root") rfl)
  obtain ⟨fd_zfailed, F_zfailed⟩ := c.def_ 5 (d := d_zfailed) rfl
  have m_zfailed := He.glo_ok X G (c.fact 5 (f := .glo "_law_failed") rfl)
  obtain ⟨fd_zdue, F_zdue⟩ := c.def_ 6 (d := d_zdue) rfl
  have m_zdue := He.glo_ok X G (c.fact 6 (f := .glo "_law_due") rfl)
  obtain ⟨fd_zbroken, F_zbroken⟩ := c.def_ 7 (d := d_zbroken) rfl
  have m_zbroken := He.glo_ok X G (c.fact 7 (f := .glo "_law_broken") rfl)
  obtain ⟨fd_zspoiled_case, F_zspoiled_case⟩ := c.def_ 8 (d := d_zspoiled_case) rfl
  have m_zspoiled_case := He.glo_ok X G (c.fact 8 (f := .glo "_law_spoiled_case") rfl)
  obtain ⟨fd_zbent, F_zbent⟩ := c.def_ 9 (d := d_zbent) rfl
  have m_zbent := He.glo_ok X G (c.fact 9 (f := .glo "_law_bent") rfl)
  obtain ⟨fd_root, F_root⟩ := c.def_ 10 (d := d_root) rfl
  have m_root := He.glo_ok X G (c.fact 10 (f := .glo "root") rfl)
  obtain ⟨fd_failed, F_failed⟩ := c.def_ 11 (d := d_failed) rfl
  have m_failed := He.glo_ok X G (c.fact 11 (f := .glo "failed") rfl)
  obtain ⟨fd_repeated, F_repeated⟩ := c.def_ 12 (d := d_repeated) rfl
  have m_repeated := He.glo_ok X G (c.fact 12 (f := .glo "repeated") rfl)
  obtain ⟨fd_twins, F_twins⟩ := c.def_ 13 (d := d_twins) rfl
  have m_twins := He.glo_ok X G (c.fact 13 (f := .glo "twins") rfl)
  obtain ⟨fd_are_twins, F_are_twins⟩ := c.def_ 14 (d := d_are_twins) rfl
  have m_are_twins := He.glo_ok X G (c.fact 14 (f := .glo "are_twins") rfl)
  obtain ⟨fd_alike, F_alike⟩ := c.def_ 15 (d := d_alike) rfl
  have m_alike := He.glo_ok X G (c.fact 15 (f := .glo "_law_alike") rfl)
  obtain ⟨fd_ztwin_case, F_ztwin_case⟩ := c.def_ 16 (d := d_ztwin_case) rfl
  have m_ztwin_case := He.glo_ok X G (c.fact 16 (f := .glo "_law_twin_case") rfl)
  obtain ⟨fd_ztriple_case, F_ztriple_case⟩ := c.def_ 17 (d := d_ztriple_case) rfl
  have m_ztriple_case := He.glo_ok X G (c.fact 17 (f := .glo "_law_triple_case") rfl)
  obtain ⟨fd_law, F_law⟩ := c.def_ 18 (d := d_law) rfl
  have e := hfa.symm.trans (He.glo_ok X G (c.fact 18 (f := .glo "law") rfl))
  cases e
  refine ⟨fd_law, fun s v => FunD.bindsA (ps := ["_law_script"]) F_law (fun _ _ _ _ _ _ us hl => match us, hl with | [_], _ => rfl) s [v] rfl, fun base _ _ => ?_⟩
  have c_bag : Cal P w K mg base 1 "_law_bag" 1 (sp_bag K) := ⟨_, _, ["_law_script"], rfl, ok_bag (k := 0) F_bag B, m_bag, F_bag.kp, F_bag.bindsN fun _ _ _ _ _ _ us hl => match us, hl with | [_], _ => rfl⟩
  have c_take : Cal P w K mg base 1 "_law_take" 2 (sp_take K) := ⟨_, _, ["_law_bag_here", "_law_many"], rfl, ok_take (k := 0) F_take B, m_take, F_take.kp, F_take.bindsN fun _ _ _ _ _ _ us hl => match us, hl with | [_, _], _ => rfl⟩
  have c_zrepeated : Cal P w K mg base 1 "_law_repeated" 2 (sp_zrepeated K) := ⟨_, _, ["_law_word", "_law_many"], rfl, ok_zrepeated (k := 0) F_zrepeated B, m_zrepeated, F_zrepeated.kp, F_zrepeated.bindsN fun _ _ _ _ _ _ us hl => match us, hl with | [_, _], _ => rfl⟩
  have c_ztwins : Cal P w K mg base 2 "_law_twins" 1 (sp_ztwins K) := ⟨_, _, ["_law_case"], rfl, ok_ztwins (k := 1) F_ztwins B (c_zrepeated.mono (by decide)), m_ztwins, F_ztwins.kp, F_ztwins.bindsN fun _ _ _ _ _ _ us hl => match us, hl with | [_], _ => rfl⟩
  have c_zroot : Cal P w K mg base 1 "_law_root" 1 (sp_zroot K) := ⟨_, _, ["_law_text"], rfl, ok_zroot (k := 0) F_zroot B, m_zroot, F_zroot.kp, F_zroot.bindsN fun _ _ _ _ _ _ us hl => match us, hl with | [_], _ => rfl⟩
  have c_zfailed : Cal P w K mg base 2 "_law_failed" 1 (sp_zfailed K) := ⟨_, _, ["_law_case"], rfl, ok_zfailed (k := 1) F_zfailed B (c_zroot.mono (by decide)), m_zfailed, F_zfailed.kp, F_zfailed.bindsN fun _ _ _ _ _ _ us hl => match us, hl with | [_], _ => rfl⟩
  have c_zdue_0 : Cal P w K mg base 0 "_law_due" 5 spNo := ⟨_, _, ["_law_row", "_law_place", "_law_other", "_law_its", "_law_word"], rfl, gf_no, m_zdue, F_zdue.kp, F_zdue.bindsN fun _ _ _ _ _ _ us hl => match us, hl with | [_, _, _, _, _], _ => rfl⟩
  have c_zdue_1 : Cal P w K mg base 3 "_law_due" 5 (sp_zdue1 K) := ⟨_, _, ["_law_row", "_law_place", "_law_other", "_law_its", "_law_word"], rfl, ok_zdue (k := 2) F_zdue B (c_ztwins.mono (by decide)) (c_zfailed.mono (by decide)) (c_zdue_0.mono (by decide)) (ln5 (x1 := "_law_row") (x2 := "_law_place") (x3 := "_law_other") (x4 := "_law_its") (x5 := "_law_word")) pu_zdue1, m_zdue, F_zdue.kp, F_zdue.bindsN fun _ _ _ _ _ _ us hl => match us, hl with | [_, _, _, _, _], _ => rfl⟩
  have c_zdue : Cal P w K mg base 4 "_law_due" 5 (sp_zdue K) := ⟨_, _, ["_law_row", "_law_place", "_law_other", "_law_its", "_law_word"], rfl, ok_zdue (k := 3) F_zdue B (c_ztwins.mono (by decide)) (c_zfailed.mono (by decide)) (c_zdue_1.mono (by decide)) (ln5 (x1 := "_law_row") (x2 := "_law_place") (x3 := "_law_other") (x4 := "_law_its") (x5 := "_law_word")) pu_zdue, m_zdue, F_zdue.kp, F_zdue.bindsN fun _ _ _ _ _ _ us hl => match us, hl with | [_, _, _, _, _], _ => rfl⟩
  have c_zbroken : Cal P w K mg base 2 "_law_broken" 2 (sp_zbroken K) := ⟨_, _, ["_law_bag_here", "_law_case"], rfl, ok_zbroken (k := 1) F_zbroken B (c_take.mono (by decide)), m_zbroken, F_zbroken.kp, F_zbroken.bindsN fun _ _ _ _ _ _ us hl => match us, hl with | [_, _], _ => rfl⟩
  have c_zspoiled_case : Cal P w K mg base 2 "_law_spoiled_case" 2 (sp_zspoiled_case K) := ⟨_, _, ["_law_bag_here", "_law_case"], rfl, ok_zspoiled_case (k := 1) F_zspoiled_case B (c_take.mono (by decide)), m_zspoiled_case, F_zspoiled_case.kp, F_zspoiled_case.bindsN fun _ _ _ _ _ _ us hl => match us, hl with | [_, _], _ => rfl⟩
  have c_zbent : Cal P w K mg base 2 "_law_bent" 2 (sp_zbent K) := ⟨_, _, ["_law_bag_here", "_law_five"], rfl, ok_zbent (k := 1) F_zbent B (c_take.mono (by decide)), m_zbent, F_zbent.kp, F_zbent.bindsN fun _ _ _ _ _ _ us hl => match us, hl with | [_, _], _ => rfl⟩
  have c_root : Cal P w K mg base 1 "root" 1 (sp_root K) := ⟨_, _, ["text"], rfl, ok_root (k := 0) F_root B, m_root, F_root.kp, F_root.bindsN fun _ _ _ _ _ _ us hl => match us, hl with | [_], _ => rfl⟩
  have c_failed : Cal P w K mg base 2 "failed" 4 (sp_failed K) := ⟨_, _, ["word", "one", "other", "last"], rfl, ok_failed (k := 1) F_failed B (c_root.mono (by decide)), m_failed, F_failed.kp, F_failed.bindsN fun _ _ _ _ _ _ us hl => match us, hl with | [_, _, _, _], _ => rfl⟩
  have c_repeated : Cal P w K mg base 1 "repeated" 2 (sp_repeated K) := ⟨_, _, ["word", "many"], rfl, ok_repeated (k := 0) F_repeated B, m_repeated, F_repeated.kp, F_repeated.bindsN fun _ _ _ _ _ _ us hl => match us, hl with | [_, _], _ => rfl⟩
  have c_twins : Cal P w K mg base 3 "twins" 4 (sp_twins K) := ⟨_, _, ["word", "one", "other", "last"], rfl, ok_twins (k := 2) F_twins B (c_repeated.mono (by decide)) (c_failed.mono (by decide)), m_twins, F_twins.kp, F_twins.bindsN fun _ _ _ _ _ _ us hl => match us, hl with | [_, _, _, _], _ => rfl⟩
  have c_are_twins : Cal P w K mg base 4 "are_twins" 5 (sp_are_twins K) := ⟨_, _, ["row", "place", "other", "its", "word"], rfl, ok_are_twins (k := 3) F_are_twins B (c_twins.mono (by decide)) (c_failed.mono (by decide)), m_are_twins, F_are_twins.kp, F_are_twins.bindsN fun _ _ _ _ _ _ us hl => match us, hl with | [_, _, _, _, _], _ => rfl⟩
  have c_alike : Cal P w K mg base 1 "_law_alike" 2 (sp_alike K) := ⟨_, _, ["_law_found", "_law_due_here"], rfl, ok_alike (k := 0) F_alike B, m_alike, F_alike.kp, F_alike.bindsN fun _ _ _ _ _ _ us hl => match us, hl with | [_, _], _ => rfl⟩
  have c_ztwin_case : Cal P w K mg base 2 "_law_twin_case" 2 (sp_ztwin_case K) := ⟨_, _, ["_law_bag_here", "_law_most"], rfl, ok_ztwin_case (k := 1) F_ztwin_case B (c_take.mono (by decide)) (c_zroot.mono (by decide)), m_ztwin_case, F_ztwin_case.kp, F_ztwin_case.bindsN fun _ _ _ _ _ _ us hl => match us, hl with | [_, _], _ => rfl⟩
  have c_ztriple_case : Cal P w K mg base 2 "_law_triple_case" 1 (sp_ztriple_case K) := ⟨_, _, ["_law_bag_here"], rfl, ok_ztriple_case (k := 1) F_ztriple_case B (c_take.mono (by decide)) (c_zroot.mono (by decide)), m_ztriple_case, F_ztriple_case.kp, F_ztriple_case.bindsN fun _ _ _ _ _ _ us hl => match us, hl with | [_], _ => rfl⟩
  exact ok_law (k := 4) F_law B (c_alike.mono (by decide)) (c_are_twins.mono (by decide)) (c_zdue.mono (by decide)) (c_take.mono (by decide)) (c_zbent.mono (by decide)) (c_ztwins.mono (by decide)) (c_zspoiled_case.mono (by decide)) (c_zbroken.mono (by decide)) (c_ztriple_case.mono (by decide)) (c_ztwin_case.mono (by decide)) (c_bag.mono (by decide))
end
end Ow
open PySem PySem.W PySem.Calls PyProof.Rows
theorem PySem.Challenge.cw_ownlog_k57_twins_told_apart_holds : PySem.Challenge.rw_ownlog_k57_twins_told_apart.Holds := by
  w_on
  o_law
  refine HandSHeadRun.head_any (r := OpenLaw.row PySem.Challenge.rw_ownlog_k57_twins_told_apart) (q := view (OpenLaw.row PySem.Challenge.rw_ownlog_k57_twins_told_apart).prog [23]) (H := Ow.hk) (ob := Ow.ob) (M := 20000) (loose := Ow.lo) (d := HandSHeadRun.topDef (OpenLaw.row PySem.Challenge.rw_ownlog_k57_twins_told_apart).prog 23) (kwd := []) Ow.ob_eq
    (by kernel_rfl) (fun s => by kernel_rfl) Ow.run (by kernel_rfl) (by kernel_rfl) (by kernel_rfl) (by rfl) (by first | assumption | decide +kernel) (by decide +kernel) ⟨rfl, rfl, rfl, rfl, rfl, by decide +kernel⟩ ?hw ?hc
  case hw => w_witness2
  case hc =>
    refine Ow.walk_g (l := PySem.Challenge.rw_ownlog_k57_twins_told_apart) (k := 5) (x := "_law_script") rfl (by kernel_rfl) ⟨rfl, by decide, by decide⟩ ?_
    intro w mg fa h Y G said
    obtain ⟨K, KX, c⟩ := Y
    have told : mg ("law" : PySem.Str) = some (.ref fa) := by
      have e : (HandSHeadRun.topDef (OpenLaw.row PySem.Challenge.rw_ownlog_k57_twins_told_apart).prog 23).name = ("law" : PySem.Str) := by kernel_rfl
      rw [← e]
      exact said
    obtain ⟨fd, hb, hF⟩ := Ow.facts (P := (PySem.Challenge.rw_ownlog_k57_twins_told_apart).prog) (w := w) KX G told c
    exact ⟨K, fd, KX, hb, hF⟩
