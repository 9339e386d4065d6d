import PyProof.Rows.All
import Wide.All
import OpenK.AllK
import Wide.FinOn
import PyProof.EqAt
import PyProof.EqKinds
import HandS.ForMost
import HandS.ForExc
import HandS.Flow
import HandS.Deep
import HandS.Conv
import HandS.StrMore
import HandS.HeadHook4
import HandS.HeadEnd
import HandS.Head2
import HandS.Wide
import HandS.WideBits
import HandS.WideMore
import HandS.Star
import HandS.SortInts
import HandS.IsInst
import HandS.RaiseMore
import HandS.TupAny
import HandS.More
import PyProof.StrBlock2
import KE.KRevSl
import PyProof.StrLawsRepr
import PyProof.FitsInt
import HandS.Iter
import HandS.Comp
import PyProof.ListStr
import HandS.Small
import HandS.Ends
import PySem.Challenge.RW_ownlog_k61_rows_counted_by_all
set_option Elab.async false
set_option linter.all false
set_option maxRecDepth 100000
set_option maxHeartbeats 0
namespace Ow
open PySem PySem.Spec L2
open PyProof.Rows hiding St
section
/-! the own layer: defs that know that no repr runs around them; frames -/

/-- a law's lists, laid over a heap -/
def lay : List (Addr × List V) → Hp → Hp
  | [], H => H
  | m :: ms, H => upd (lay ms H) m.1 (.lst m.2)
def Off (ms : List (Addr × List V)) (H : Hp) : Prop := ∀ m ∈ ms, H m.1 = none

theorem lay_in : ∀ {ms : List (Addr × List V)} {H : Hp} {a : Addr}, a ∈ ms.map (·.1) → ∃ xs, lay ms H a = some (.lst xs)
  | [], _, _, h => by cases h
  | m :: ms, H, a, h => by
    by_cases e : a = m.1
    · exact ⟨m.2, by rw [e]; exact upd_same⟩
    · have h2 : a ∈ ms.map (·.1) := by
        rcases List.mem_cons.mp h with q | q
        · exact absurd q e
        · exact q
      obtain ⟨xs, q⟩ := lay_in (H := H) h2
      exact ⟨xs, by show upd (lay ms H) m.1 _ a = _; rw [upd_ne e]; exact q⟩
theorem lay_out : ∀ {ms : List (Addr × List V)} {H : Hp} {a : Addr}, a ∉ ms.map (·.1) → lay ms H a = H a
  | [], _, _, _ => rfl
  | m :: ms, H, a, h => by
    have e : a ≠ m.1 := fun q => h (by rw [q]; exact List.mem_cons_self)
    have h2 : a ∉ ms.map (·.1) := fun q => h (List.mem_cons_of_mem _ q)
    show upd (lay ms H) m.1 _ a = _
    rw [upd_ne e]
    exact lay_out h2
theorem lay_same {ms : List (Addr × List V)} {H H' : Hp} {a : Addr} (h : a ∈ ms.map (·.1)) : lay ms H a = lay ms H' a := by
  induction ms with
  | nil => cases h
  | cons m ms ih =>
    show upd (lay ms H) m.1 _ a = upd (lay ms H') m.1 _ a
    by_cases e : a = m.1
    · rw [e, upd_same, upd_same]
    · rw [upd_ne e, upd_ne e]
      rcases List.mem_cons.mp h with q | q
      · exact absurd q e
      · exact ih q
theorem off_not {ms : List (Addr × List V)} {H : Hp} (o : Off ms H) {a : Addr} {u : HO} (h : H a = some u) : a ∉ ms.map (·.1) := fun q => by
  obtain ⟨m, hm, e⟩ := List.mem_map.mp q
  have z := o m hm
  rw [e, h] at z
  cases z
theorem lay_none {ms : List (Addr × List V)} {H : Hp} {a : Addr} (h : lay ms H a = none) : a ∉ ms.map (·.1) ∧ H a = none := by
  by_cases q : a ∈ ms.map (·.1)
  · obtain ⟨xs, e⟩ := lay_in (H := H) q
    rw [h] at e
    cases e
  · rw [lay_out q] at h
    exact ⟨q, h⟩
theorem lay_other {ms : List (Addr × List V)} {H : Hp} {a : Addr} {u : HO} (h : lay ms H a = some u) (n : ∀ xs, u ≠ .lst xs) : a ∉ ms.map (·.1) ∧ H a = some u := by
  by_cases q : a ∈ ms.map (·.1)
  · obtain ⟨xs, e⟩ := lay_in (H := H) q
    rw [h] at e
    exact absurd (Option.some.inj e) (n xs)
  · rw [lay_out q] at h
    exact ⟨q, h⟩
theorem same_lay {ms : List (Addr × List V)} {H : Hp} (o : Off ms H) : Same H (lay ms H) := fun b u e => by
  rw [lay_out (off_not o e)]
  exact e

section
variable {P : Program} {w : World} {ms : List (Addr × List V)} {H H' : Hp} {h h' : Heap}
/-- the laid lists taken away -/
theorem hok_off (o : Off ms H) (x : HOk P w (lay ms H) h) : HOk P w H h := fun a u e => by
  have q := x a u (by rw [lay_out (off_not o e)]; exact e)
  refine q.stay (fun _ _ _ z => z) (fun b z => ?_) fun b xs z => ?_
  · exact (lay_other z fun _ y => nomatch y).2
  · exact (lay_other z fun _ y => nomatch y).2
/-- .. and put back, where their objects stand -/
theorem hok_on (o : Off ms H') (x : HOk P w H' h') (y : HOk P w (lay ms H) h) (k : ∀ a u, a ∈ ms.map (·.1) → h.get? a = some u → h'.get? a = some u) : HOk P w (lay ms H') h' := fun a u e => by
  by_cases q : a ∈ ms.map (·.1)
  · obtain ⟨xs, e1⟩ := lay_in (H := H) q
    have e2 := lay_same (H := H) (H' := H') q
    rw [e1, e] at e2
    have eu : HO.lst xs = u := Option.some.inj e2
    subst eu
    obtain ⟨z, its, n, r, ho⟩ := y a _ e1
    exact ⟨z, its, n, r, k a _ q ho⟩
  · rw [lay_out q] at e
    refine (x a u e).stay (fun _ _ _ z => z) (fun b z => ?_) fun b xs z => ?_
    · rw [lay_out (off_not o z)]; exact z
    · rw [lay_out (off_not o z)]; exact z
theorem there_of (y : HOk P w (lay ms H) h) {a : Addr} (q : a ∈ ms.map (·.1)) : ∃ u, h.get? a = some u := by
  obtain ⟨xs, e1⟩ := lay_in (H := H) q
  obtain ⟨_, its, n, _, ho⟩ := y a _ e1
  exact ⟨_, ho⟩
end

/-- a def's promise, kept by runs around which no repr is under way -/
structure Gf (P : Program) (w : World) (K : PySem.W.Frag) (mg : Str → Option Value) (base : Heap) (k : Nat) (f : Addr) (fd : FuncData) (ps : List Str) (sp : Sp) : Prop where
  len : ∀ vs H Q E, sp vs H Q E → vs.length = ps.length
  run : ∀ (A : Around) (outer : List Env) (s : Shared) (H : Hp) (args : Args) (us : List Value) (vs : List V) (Q : VK) (E : XK), A.guards = some [] → Room k A → Env0 P w K mg base A outer s H →
    BindsTo s fd args (ps.zip us) → Vals vs us → sp vs H Q E → codeAny (model P w) A (.call (.ref f) args) (CR (L2.CX P w) outer P w H s Q E) s

/-- a promise over the lists that the callee does not see -/
def Fr (sp : Sp) : Sp := fun vs H Q E => ∃ (ms : List (Addr × List V)) (Hi : Hp), H = lay ms Hi ∧ Off ms Hi ∧
  sp vs Hi (fun v H' => Off ms H' → Q v (lay ms H')) (fun c d H' => Off ms H' → E c d (lay ms H'))

section
variable {P : Program} {w : World} {K : PySem.W.Frag} {mg : Str → Option Value} {base : Heap} {k j : Nat} {f : Addr} {fd : FuncData} {ps : List Str} {sp sp' : Sp}
theorem Gf.mono (F : Gf P w K mg base j f fd ps sp) (h : j ≤ k) : Gf P w K mg base k f fd ps sp :=
  ⟨F.len, fun A outer s H args us vs Q E hg hr => F.run A outer s H args us vs Q E hg (hr.mono h)⟩
theorem Gf.imp (F : Gf P w K mg base k f fd ps sp) (h : ∀ vs H Q E, sp' vs H Q E → sp vs H Q E) : Gf P w K mg base k f fd ps sp' :=
  ⟨fun vs H Q E q => F.len vs H Q E (h _ _ _ _ q), fun A outer s H args us vs Q E hg hr he hb hv hs => F.run A outer s H args us vs Q E hg hr he hb hv (h _ _ _ _ hs)⟩
theorem env_off {A : Around} {outer : List Env} {s : Shared} {ms : List (Addr × List V)} {H : Hp} (o : Off ms H) (e : Env0 P w K mg base A outer s (lay ms H)) : Env0 P w K mg base A outer s H :=
  ⟨e.frames, e.mod, fun b u q => ⟨(e.bs b u q).1, (lay_none (e.bs b u q).2).2⟩, e.bsz, e.funs, fun b hb => (lay_none (e.frf b hb)).2, hok_off o e.hok, e.bare⟩
theorem ce_on {A : Around} {outer : List Env} {s s' : Shared} {ms : List (Addr × List V)} {H : Hp} {Q : VK} {u : Value} (o : Off ms H) (e : Env0 P w K mg base A outer s (lay ms H))
    (c : CE outer P w H s (fun v H' => Off ms H' → Q v (lay ms H')) u s') : CE outer P w (lay ms H) s Q u s' := by
  obtain ⟨v, H', os, bare, un, hok, r, q⟩ := c
  have nf : ∀ a, a ∈ ms.map (·.1) → a ∉ frs outer := fun a ha hb => (lay_none (e.frf a hb)).1 ha
  have hn : ∀ a, a ∈ ms.map (·.1) → H a = none := fun a ha => by
    obtain ⟨m, hm, z⟩ := List.mem_map.mp ha
    rw [← z]
    exact o m hm
  have o' : Off ms H' := fun m hm => by
    have ha : m.1 ∈ ms.map (·.1) := List.mem_map_of_mem hm
    obtain ⟨ob, ho⟩ := there_of e.hok ha
    exact un.free m.1 ob ho (hn _ ha) (by simp)
  have kp : ∀ a ob, a ∈ ms.map (·.1) → s.heap.get? a = some ob → s'.heap.get? a = some ob := fun a ob ha ho => un.keep a ob ho (hn a ha) (nf a ha) (by simp)
  refine ⟨v, lay ms H', os, bare, ?_, hok_on o' hok e.hok kp, r, q o'⟩
  exact {
    keep := fun b ob h1 h2 h3 h4 => un.keep b ob h1 (lay_none h2).2 h3 h4
    slot := fun b ob h1 h2 h3 h4 => un.slot b ob h1 (lay_none h2).2 h3 h4
    free := fun b ob h1 h2 h3 => by rw [lay_out (lay_none h2).1]; exact un.free b ob h1 (lay_none h2).2 h3
    there := un.there
    tups := fun b xs h => by
      obtain ⟨h1, h2⟩ := lay_other h fun _ y => nomatch y
      rw [lay_out h1]; exact un.tups b xs h2
    frzs := fun b ob u h => by
      obtain ⟨h1, h2⟩ := lay_other h fun _ y => nomatch y
      rw [lay_out h1]; exact un.frzs b ob u h2
    tbls := fun b ps h => by
      obtain ⟨h1, h2⟩ := lay_other h fun _ y => nomatch y
      rw [lay_out h1]; exact un.tbls b ps h2 }
theorem cx_on {A : Around} {outer : List Env} {s s' : Shared} {ms : List (Addr × List V)} {H : Hp} {E : XK} {u : Value} (o : Off ms H) (e : Env0 P w K mg base A outer s (lay ms H))
    (c : L2.CX P w outer H s (fun c d H' => Off ms H' → E c d (lay ms H')) u s') : L2.CX P w outer (lay ms H) s E u s' := by
  obtain ⟨a, B, H', cls, d, ea, fl, hok, ub, na, os, ag, q⟩ := c
  have nf : ∀ a, a ∈ ms.map (·.1) → a ∉ frs outer := fun a ha hb => (lay_none (e.frf a hb)).1 ha
  have hn : ∀ a, a ∈ ms.map (·.1) → H a = none := fun a ha => by
    obtain ⟨m, hm, z⟩ := List.mem_map.mp ha
    rw [← z]
    exact o m hm
  have o' : Off ms H' := fun m hm => by
    have ha : m.1 ∈ ms.map (·.1) := List.mem_map_of_mem hm
    obtain ⟨ob, ho⟩ := there_of e.hok ha
    exact ub.free m.1 ob ho (hn _ ha)
  have kp : ∀ a ob, a ∈ ms.map (·.1) → s.heap.get? a = some ob → B.get? a = some ob := fun a ob ha ho => ub.keep a ob ho (hn a ha) (nf a ha)
  have nal : a ∉ ms.map (·.1) := fun ha => by
    obtain ⟨ob, ho⟩ := there_of e.hok ha
    have hb := kp a ob ha ho
    rw [fl.2.1] at hb
    cases hb
  refine ⟨a, B, lay ms H', cls, d, ea, fl, hok_on o' hok e.hok kp, ?_, by rw [lay_out nal]; exact na, os, ag, q o'⟩
  exact {
    keep := fun b ob h1 h2 h3 => ub.keep b ob h1 (lay_none h2).2 h3
    slot := ub.slot
    free := fun b ob h1 h2 => by rw [lay_out (lay_none h2).1]; exact ub.free b ob h1 (lay_none h2).2
    there := ub.there
    tups := fun b xs h => by
      obtain ⟨h1, h2⟩ := lay_other h fun _ y => nomatch y
      rw [lay_out h1]; exact ub.tups b xs h2
    frzs := fun b ob u h => by
      obtain ⟨h1, h2⟩ := lay_other h fun _ y => nomatch y
      rw [lay_out h1]; exact ub.frzs b ob u h2
    tbls := fun b ps h => by
      obtain ⟨h1, h2⟩ := lay_other h fun _ y => nomatch y
      rw [lay_out h1]; exact ub.tbls b ps h2 }
/-- THE FRAME -/
theorem Gf.frame (F : Gf P w K mg base k f fd ps sp) : Gf P w K mg base k f fd ps (Fr sp) := by
  refine ⟨fun vs H Q E ⟨_, _, _, _, h⟩ => F.len _ _ _ _ h, fun A outer s H args us vs Q E hg hr e0 hb hv hs => ?_⟩
  obtain ⟨ms, Hi, eH, o, h⟩ := hs
  subst eH
  refine codeAny_mono (F.run A outer s Hi args us vs _ _ hg hr (env_off o e0) hb hv h) fun r s' q => ?_
  cases r with
  | error e => exact cx_on o e0 q
  | ok fl =>
    cases fl with
    | ret u => exact ce_on o e0 q
    | next => exact q
    | brk => exact q
    | cont => exact q
end
end
section
section
variable {P : Program} {w : World} {K : PySem.W.Frag} {mg : Str → Option Value} {base : Heap}
/-- the context of a def's body -/
abbrev cx (P : Program) (w : World) (K : PySem.W.Frag) (mg : Str → Option Value) (base : Heap) (N : List Str) (qual : Str) (scope : Scope) (f : Addr) (cd : Value) (A : Around) (outer : List Env) (s : Shared) (H : Hp) (E : XK) : Cx :=
  cxOf (L2.CX P w) P w K mg base N qual scope f cd A outer s H E
/-- THE RULE for a def of the text -/
theorem okG {x qual : Str} {params : Arguments} {body : List Stmt} {scope : Scope} {dvs : List V} {kws : List (Str × V)} {f : Addr} {fd : FuncData} {N ps : List Str} {k : Nat} {sp : Sp}
    (F : FunD K x qual params body scope dvs kws f fd) (S : FnScope N ps scope) (len : ∀ vs H Q E, sp vs H Q E → vs.length = ps.length)
    (hbody : ∀ (cdv : Value) (A : Around) (outer : List Env) (s : Shared) (H : Hp) (vs : List V) (Q : VK) (E : XK), (cx P w K mg base N qual scope f cdv A outer s H E).A.guards = some [] →
      Room k (cx P w K mg base N qual scope f cdv A outer s H E).A → sp vs H Q E →
      ∃ t, PSs (cx P w K mg base N qual scope f cdv A outer s H E) body t ∧ t { nx := fun _ H' => Q .non H', rt := Q } (start N vs) H) : Gf P w K mg base (k + 1) f fd ps sp := by
  obtain ⟨oc, od, dV, kV, doc, pm, an, cdv, ct, osl, efd, lk, hcd, _, _⟩ := F.ex
  subst efd
  refine ⟨len, fun A outer s H args us vs Q E hg hr e0 hb r hsp => ?_⟩
  have hvl := len _ _ _ _ hsp
  have stands : ∀ b o, base.get? b = some o → s.heap.get? b = some o := fun b o e => (e0.bs b o e).1
  have KX : K.In s.heap := e0.mod.kin.keeps stands
  have pk : ∀ y ∈ ps.zip us, scope.names.lookup y.1 = some .local ∨ (scope.names.lookup y.1 = some .cell ∧ ((cellsFrom (s.heap.objs.size + 1) scope.names []).lookup y.1).isSome = true) := by
    rintro ⟨n, v⟩ hy
    exact (S.par n (List.of_mem_zip hy).1).imp id fun q => ⟨q, PySem.W.cellsFrom_some _ _ _ (.inl q)⟩
  refine codeAny_call_function hr.depth (KX _ _ lk) rfl S.co S.gen rfl (PySem.W.codeRec_of KX hcd) (hb _ _ _ _ (wpAny_newFunctionEnv_cells S.kind pk fun env he s1 x => ?_))
  subst he
  refine ⟨(e0.mod.nolimit.keeps stands).keeps x.toInCall.keep, codeAny_func ?_⟩
  obtain ⟨t, ht, hq⟩ := hbody cdv A outer s H vs Q E hg (hr.deeper _) hsp
  have I : Inv (cx P w K mg base N qual scope f cdv A outer s H E) [] (start N vs) H s1 := inv_start S hr.hd e0 hvl r x
  refine wpAny_mono (ht.run [] s1 (start N vs) H _ I hq) (fun fl s' hs => ?_) fun e s' hs => hs
  cases fl with
  | ret u => exact hs.elim fun v ⟨σ', H', J, rv, q⟩ => ⟨v, H', J.os, J.bare, J.base, J.hok, rv, q⟩
  | next => exact hs.elim fun σ' ⟨H', J, q⟩ => ⟨V.non, H', J.os, J.bare, J.base, J.hok, rfl, q⟩
  | brk => exact hs.elim fun _ ⟨_, _, q⟩ => q.elim
  | cont => exact hs.elim fun _ ⟨_, _, q⟩ => q.elim
end

/-! ### calls -/
/-- a callee: its name in the module, its promise -/
structure Cal (P : Program) (w : World) (K : PySem.W.Frag) (mg : Str → Option Value) (base : Heap) (k : Nat) (x : Str) (n : Nat) (sp : Sp) : Prop where
  ex : ∃ (f : Addr) (fd : FuncData) (ps : List Str), ps.length = n ∧ Gf P w K mg base k f fd ps sp ∧ mg x = some (.ref f) ∧ PySem.W.keepIn K (.ref f) = true ∧ Binds K fd ps []
def gCall (sp : Sp) (E : L2.St → XK) (t : TA) : TE := fun σ H Q => t σ H fun vs H1 => Fr sp vs H1 Q (E σ)
def PassG (X : Cx) (E : L2.St → XK) : Prop := ∀ (pins : List (Addr × Obj)) (σ : St) (H : Hp) (s : Shared) (e : Value) (s' : Shared), Inv X pins σ H s → L2.CX X.prog X.w X.stack H s (E σ) e s' → X.xe e s'
theorem passG {X : Cx} {W : WX} (tk : Takes X W) : PassG X (fun σ cls d H => W cls d σ H) := fun _ _ _ _ e s' I c => tk e s' (XE.of_call I (fun _ _ _ h => h) c)
/-- nothing is raised -/
abbrev E1 : L2.St → XK := fun _ _ _ _ => False
theorem passN {X : Cx} : PassG X E1 := fun _ _ _ _ _ _ _ ⟨_, _, _, _, _, _, _, _, _, _, _, _, z⟩ => z.elim
section
variable {X : Cx} {k : Nat} {f C : Addr} {fd : FuncData} {ps : List Str} {sp : Sp} {E : L2.St → XK} {x m : Str} {p pos apos : Pos} {e o : Expr} {es : List Expr} {ta : TE} {t : TA} {n : Nat}
theorem run_g {pins : List (Addr × Obj)} {σ : St} {H : Hp} {s : Shared} {Q : VK} {us : List Value} {vs : List V} (F : Gf X.prog X.w X.K X.mg X.base k f fd ps sp) (hG : X.A.guards = some []) (hr : Room k X.A) (hb : Binds X.K fd ps []) (hx : PassG X E)
    (I : Inv X pins σ H s) (r : Vals vs us) (h : sp vs H Q (E σ)) : wpAny (model X.prog X.w) X.A (call (.ref f) us) (EP X pins σ Q) X.xe s := by
  have b := hb s us I.kIn (by rw [List.append_nil, ← r.length]; exact F.len _ _ _ _ h)
  rw [List.append_nil] at b
  refine wpAny_call (codeAny_mono (F.run X.A X.stack s H ⟨us, []⟩ us vs Q (E σ) hG hr I.env0 b r h) fun rr s' hq => ?_)
  cases rr with
  | error e => exact hx pins σ H s e s' I hq
  | ok fl =>
    cases fl with
    | ret u => exact I.after hq
    | next => exact hq.elim
    | brk => exact hq.elim
    | cont => exact hq.elim
theorem g_call (c : Cal X.prog X.w X.K X.mg X.base k x n sp) (hG : X.A.guards = some []) (hr : Room k X.A) (hg : Gl X x) (hx : PassG X E) (ha : PA X (e :: es) t)
    (hdb : (x == ("__debug__" : Str)) = false := by decide) (he : starEach (e :: es) X.env = (false, eval e X.env) :: starEach es X.env := by rfl) (hpl : (backTo pos (starEach es X.env)).any (·.1) = false := by rfl) :
    PE X (.Call (.Name x p) (e :: es) [] pos) (gCall sp E t) := by
  obtain ⟨f, fd, ps, _, F, hm, hk, hb⟩ := c.ex
  refine ⟨fun pins s σ H Q I h => wpAny_Call_Name_kw (ld_glob I hg hm ?_ hdb)⟩
  refine PySem.W.callWith_K (h₀ := X.base) I.ok.mod.kin hk (thn (ha.run pos pins s σ H _ I h) fun us s1 ⟨vs, H1, I1, r, q⟩ => ?_) he hpl
  exact ⟨I1.kIn, run_g F.frame hG hr hb hx I1 r q⟩
theorem g_call0 (c : Cal X.prog X.w X.K X.mg X.base k x n sp) (hG : X.A.guards = some []) (hr : Room k X.A) (hg : Gl X x) (hx : PassG X E)
    (hdb : (x == ("__debug__" : Str)) = false := by decide) : PE X (.Call (.Name x p) [] [] pos) (gCall sp E tNil) := by
  obtain ⟨f, fd, ps, _, F, hm, hk, hb⟩ := c.ex
  exact ⟨fun pins s σ H Q I h => wpAny_Call_Name_kw (ld_glob I hg hm (PySem.W.callWith_K0 I.kIn hk (run_g (us := []) F.frame hG hr hb hx I .nil h)) hdb)⟩

/-- a method of the class at C -/
structure GMet (P : Program) (w : World) (K : PySem.W.Frag) (mg : Str → Option Value) (base : Heap) (k : Nat) (C : Addr) (m : Str) (n : Nat) (sp : Sp) : Prop where
  c : Cls K C
  ex : ∃ (f : Addr) (fd : FuncData) (ps : List Str), ps.length = n ∧ Gf P w K mg base k f fd ps sp ∧ Meth K C m f ∧ Binds K fd ps []
def gMeth (C : Addr) (m : Str) (sp : Sp) (E : L2.St → XK) (ta : TE) (t : TA) : TE := fun σ H Q => ta σ H fun x H1 => ∃ a dx fs, x = .ref a ∧ H1 a = some (.ins C dx fs) ∧ fs.lookup m = none ∧
  t σ H1 fun vs H2 => Fr sp (x :: vs) H2 Q (E σ)
theorem g_meth {pl : Sem Bool} (he : PE X o ta) (c : GMet X.prog X.w X.K X.mg X.base k C m n sp) (hG : X.A.guards = some []) (hr : Room k X.A) (hx : PassG X E) (ha : PA X (e :: es) t)
    (hst : starEach (e :: es) X.env = (false, eval e X.env) :: starEach es X.env := by rfl) (hpl : (backTo pos (starEach es X.env)).any (·.1) = false := by rfl)
    (ht : eval (.Call (.Attribute o m apos) (e :: es) [] pos) X.env = (do
      let ov ← eval o X.env
      standAt apos.atName
      let (f, first) ← holding [ov] (getMethod ov m pl)
      callWith pos f first (backTo pos (starEach (e :: es) X.env)) (backToKw pos (keywordEach [] X.env))) := by rfl) :
    PE X (.Call (.Attribute o m apos) (e :: es) [] pos) (gMeth C m sp E ta t) := by
  obtain ⟨f, fd, ps, _, F, hm, hb⟩ := c.ex
  refine ⟨fun pins s σ H Q I h => PySem.W.methodCall_KW (pl := pl) (thn (he.run pins s σ H _ I h) fun u s1 ⟨x, H1, I1, rx, a, dx, fs, ex, ea, l, q⟩ => ?_) ht⟩
  subst ex
  have eu : u = Value.ref a := rx
  subst eu
  refine getmeth_ok I1 ea c.c hm l (PySem.W.callWith_K (first := [.ref a]) (h₀ := X.base) I.ok.mod.kin hm.kp (thn (ha.run pos pins s1 σ H1 _ I1 q) fun us s2 ⟨vs, H2, I2, r, q2⟩ => ?_) hst hpl)
  exact ⟨I2.kIn, run_g (us := .ref a :: us) (vs := .ref a :: vs) F.frame hG hr hb hx I2 (.cons rfl r) q2⟩
theorem g_meth0 {pl : Sem Bool} (he : PE X o ta) (c : GMet X.prog X.w X.K X.mg X.base k C m n sp) (hG : X.A.guards = some []) (hr : Room k X.A) (hx : PassG X E)
    (ht : eval (.Call (.Attribute o m apos) [] [] pos) X.env = (do
      let ov ← eval o X.env
      standAt apos.atName
      let (f, first) ← holding [ov] (getMethod ov m pl)
      callWith pos f first (backTo pos (starEach [] X.env)) (backToKw pos (keywordEach [] X.env))) := by rfl) :
    PE X (.Call (.Attribute o m apos) [] [] pos) (gMeth C m sp E ta tNil) := by
  obtain ⟨f, fd, ps, _, F, hm, hb⟩ := c.ex
  refine ⟨fun pins s σ H Q I h => PySem.W.methodCall_KW (pl := pl) (thn (he.run pins s σ H _ I h) fun u s1 ⟨x, H1, I1, rx, a, dx, fs, ex, ea, l, q⟩ => ?_) ht⟩
  subst ex
  have eu : u = Value.ref a := rx
  subst eu
  exact getmeth_ok I1 ea c.c hm l (PySem.W.callWith_K0 (first := [.ref a]) I1.kIn hm.kp (run_g (us := [.ref a]) (vs := [.ref a]) F.frame hG hr hb hx I1 (.cons rfl .nil) q))
end

/-- a name of the module -/
theorem pe_gc {X : Cx} {x : Str} {v : V} {p : Pos} (hg : Gl X x) (hm : ∃ u, X.mg x = some u ∧ RelV v u) (hdb : (x == ("__debug__" : Str)) = false := by decide) : PE X (.Name x p) (tC v) :=
  ⟨fun pins s σ H Q I h => by
    obtain ⟨u, e, r⟩ := hm
    exact ld_glob I hg e ⟨v, H, I, r, h⟩ hdb⟩
/-! ### repr -/
section
variable {X : Cx}
theorem nodict_of {d : PyData} (h : SeqAt.shaped d = true) : d.hasDict = false := PyData.hasDict_of_canLay d (SeqAt.canLay_of_shaped h)
/-- repr of data -/
def rRepr (K : PySem.W.Frag) : List V → Hp → VK → Prop := fun xs H Q => ∃ v d, xs = [v] ∧ Dp K H v d ∧ SeqAt.shaped d = true ∧ d.showable = true ∧ d.shown.length ≤ sizeLine ∧ Q (.str d.shown) H
theorem call_reprD (hG : X.A.guards = some []) (hu : X.A.units + 100 < cLine) : CallR X (.builtin "repr") (rRepr X.K) := by
  intro pins s σ H xs us Q I r h
  obtain ⟨v, d, rfl, hd, sh, hs, hz, q⟩ := h
  cases r with
  | cons rv rn =>
    rename_i u us'
    cases rn
    obtain ⟨as, rd⟩ := Dp.reads I d v u hd rv
    have dep := SeqAt.depth_of_shaped sh
    have fin : ∀ h' u tk, (∀ b o, s.heap.get? b = some o → h'.get? b = some o) → EP X pins σ Q (.str d.shown u) { s with heap := h', toks := tk } := fun h' u tk hk =>
      ⟨.str d.shown, H, I.kept hk, ⟨_, rfl⟩, q⟩
    have onref : ∀ a, u = .ref a → wpAny (model X.prog X.w) X.A (call (.builtin "repr") [u]) (EP X pins σ Q) X.xe s := fun a e => by
      subst e
      exact repr_of_reads' rd hs (PyData.noDict_hsm (nodict_of sh)) hG (by omega) (fun _ _ e => e) (fun h' u tk hk => fin h' u tk hk) hz
    cases hd with
    | non =>
      have eu : u = .none := rv
      subst eu
      exact PySem.P.repr_of_none (fin _ _ _ fun _ _ z => z)
    | bl b =>
      have eu : u = .bool b := rv
      subst eu
      refine PySem.P.repr_of_bool ?_
      have z := fin s.heap s.toks (s.toks + 1) fun _ _ z => z
      exact z
    | int i =>
      obtain ⟨t, rfl⟩ := rv
      exact PySem.P.repr_of_int (of_decide_eq_true hs) (fin _ _ _ fun _ _ z => z)
    | str x =>
      obtain ⟨t, rfl⟩ := rv
      exact PySem.P.repr_of_str (fin _ _ _ fun _ _ z => z) hz
    | lst _ _ => exact onref _ rv
    | tup _ _ => exact onref _ rv
end
end
section
/-! ### rules that the syntax alone chooses -/
def rSMul : R2 := fun x y H Q => ∃ z n, x = .str z ∧ y = .int n ∧ MulOk z n ∧ Q (.str (Txt.mul z n)) H
theorem op_smul {X : Cx} : OpR X (binaryOp .Mult) rSMul := by
  intro pins s σ H x y v u Q I rx ry h
  obtain ⟨z, n, rfl, rfl, ok, q⟩ := h
  obtain ⟨t, rfl⟩ := rx
  obtain ⟨t', rfl⟩ := ry
  exact PySem.SB.mul ok fun t' k => ⟨.str _, H, I.tok _, ⟨_, rfl⟩, q⟩
def rAddI : R2 := rI0 fun i j => .int (i + j)
def rAddT : R2 := fun x y H Q => ∃ i j, x = .str i ∧ y = .str j ∧ i.length + j.length ≤ sizeLine ∧ Q (.str (i ++ j)) H
/-- a + b -/
def rPlus (K : PySem.W.Frag) : R2 := fun x y H Q => rAddI x y H Q ∨ (rAddT x y H Q ∨ (rCat x y H Q ∨ rCatA K x y H Q))
theorem o_plus {X : Cx} : OpR X (binaryOp .Add) (rPlus X.K) := OpR.or op_add (OpR.or op_add_str (OpR.or op_cat op_catA))
def rMinus : R2 := rI0 fun i j => .int (i - j)
theorem o_minus {X : Cx} : OpR X (binaryOp .Sub) rMinus := op_sub
def rMulI : R2 := rI CMulW fun i j => .int (i * j)
def rMulC : R2 := rI CMul fun i j => .int (i * j)
/-- a * b -/
def rTimes : R2 := fun x y H Q => rMulI x y H Q ∨ (rMulC x y H Q ∨ (rSMul x y H Q ∨ rRep x y H Q))
theorem o_times {X : Cx} : OpR X (binaryOp .Mult) rTimes := OpR.or op_mulW (OpR.or op_mul (OpR.or op_smul op_rep))
def rMod : R2 := rI (fun _ j => 0 < j) fun i j => .int (i % j)
theorem o_mod {X : Cx} : OpR X (binaryOp .Mod) rMod := op_mod
def rDiv : R2 := rI CDivW fun i j => .int (i / j)
theorem o_div {X : Cx} : OpR X (binaryOp .FloorDiv) rDiv := op_fdivW
def rPow : R2 := rI CPow fun i j => .int (i ^ j.toNat)
theorem o_pow {X : Cx} : OpR X (binaryOp .Pow) rPow := op_pow
/-- a == b, a != b -/
def rSame (K : PySem.W.Frag) : R2 := fun x y H Q => rEq x y H Q ∨ rEqD K x y H Q
theorem o_eq {X : Cx} (hu : X.A.units + 64 < cLine) : OpR X (compareOp .Eq) (rSame X.K) := OpR.or op_eq (op_eqD hu)
def rDiff (K : PySem.W.Frag) : R2 := fun x y H Q => rNe x y H Q ∨ rNeD K x y H Q
theorem o_ne {X : Cx} (hu : X.A.units + 64 < cLine) : OpR X (compareOp .NotEq) (rDiff X.K) := OpR.or op_ne (op_neD hu)
def rLess : R2 := fun x y H Q => (rI0 fun i j => .bl (decide (i < j))) x y H Q ∨ ∃ i j, x = .str i ∧ y = .str j ∧ Q (.bl (decide (i.cps.toList < j.cps.toList))) H
theorem o_lt {X : Cx} : OpR X (compareOp .Lt) rLess := OpR.or op_lt op_lt_str
def rLessE : R2 := fun x y H Q => (rI0 fun i j => .bl (decide (i ≤ j))) x y H Q ∨ ∃ i j, x = .str i ∧ y = .str j ∧ Q (.bl (!decide (j.cps.toList < i.cps.toList))) H
theorem o_le {X : Cx} : OpR X (compareOp .LtE) rLessE := OpR.or op_le op_le_str
def rMore : R2 := fun x y H Q => (rI0 fun i j => .bl (decide (j < i))) x y H Q ∨ ∃ i j, x = .str i ∧ y = .str j ∧ Q (.bl (decide (j.cps.toList < i.cps.toList))) H
theorem o_gt {X : Cx} : OpR X (compareOp .Gt) rMore := OpR.or op_gt op_gt_str
def rMoreE : R2 := fun x y H Q => (rI0 fun i j => .bl (decide (j ≤ i))) x y H Q ∨ ∃ i j, x = .str i ∧ y = .str j ∧ Q (.bl (!decide (i.cps.toList < j.cps.toList))) H
theorem o_ge {X : Cx} : OpR X (compareOp .GtE) rMoreE := OpR.or op_ge op_ge_str
def rInT : R2 := fun x y H Q => ∃ i j, x = .str i ∧ y = .str j ∧ Q (.bl (!(Builtin.Str.occurrences j i 0 j.length 1).isEmpty)) H
def rInC : R2 := fun x y H Q => ∃ (c : Nat) (z : Str), x = .str ⟨#[c]⟩ ∧ y = .str z ∧ Q (.bl (decide (c ∈ z.cps.toList))) H
/-- a in b -/
def rIsIn (K : PySem.W.Frag) : R2 := fun x y H Q => rInT x y H Q ∨ (rInC x y H Q ∨ (rInD K x y H Q ∨ rIn K false x y H Q))
theorem o_in {X : Cx} (hu : X.A.units + 65 < cLine) : OpR X (compareOp .In) (rIsIn X.K) := OpR.or op_in_str (OpR.or op_in_sign (OpR.or (op_inD hu) op_in_seq))
def rNotT : R2 := fun x y H Q => ∃ i j, x = .str i ∧ y = .str j ∧ Q (.bl (!(!(Builtin.Str.occurrences j i 0 j.length 1).isEmpty))) H
def rNotC : R2 := fun x y H Q => ∃ (c : Nat) (z : Str), x = .str ⟨#[c]⟩ ∧ y = .str z ∧ Q (.bl (!decide (c ∈ z.cps.toList))) H
def rIsNotIn (K : PySem.W.Frag) : R2 := fun x y H Q => rNotT x y H Q ∨ (rNotC x y H Q ∨ (rNotInD K x y H Q ∨ rIn K true x y H Q))
theorem o_notin {X : Cx} (hu : X.A.units + 65 < cLine) : OpR X (compareOp .NotIn) (rIsNotIn X.K) := OpR.or op_notin_str (OpR.or op_notIn_sign (OpR.or (op_notInD hu) op_notIn_seq))
def rIsNone : R2 := fun x y H Q => y = .non ∧ Q (.bl (decide (x = .non))) H
theorem o_is {X : Cx} : OpR X (compareOp .Is) rIsNone := op_isN
def rIsSome : R2 := fun x y H Q => y = .non ∧ Q (.bl (!decide (x = .non))) H
theorem o_isnot {X : Cx} : OpR X (compareOp .IsNot) rIsSome := op_notN
/-- a[i], a[i:j] -/
theorem o_ix {X : Cx} : IxR X (rIx X.K) := ix_seq
def rCut (K : PySem.W.Frag) : V → Option Int → Option Int → Hp → VK → Prop := fun x lo hi H Q => rSlS x lo hi H Q ∨ (rSlL K x lo hi H Q ∨ rSlA K x lo hi H Q)
theorem o_sl {X : Cx} : SlR X (rCut X.K) := SlR.or sl_str (SlR.or sl_list sl_tupA)

/-! ### a[::-1] -/
def revS (z : Str) : Str := ⟨z.cps.reverse⟩
theorem revS_len (z : Str) : (revS z).length = z.length := by show z.cps.reverse.size = z.cps.size; simp
theorem pick_rev (z : Str) : ((Builtin.Str.strSliceIndices none none (-1) z.length).filterMap (z.cps[·]?)).toArray = z.cps.reverse := by
  have e : Builtin.Str.strSliceIndices none none (-1) z.length = (List.range z.length).map fun k => z.length - 1 - k := by
    rw [← PySem.W.krv_sliceRange]
    first
      | rfl
      | simp [Builtin.Str.strSliceIndices]
  have h := PySem.pick_run z.cps 0 z.cps.size
  have e0 : (List.range z.cps.size).map (0 + ·) = List.range z.cps.size := by
    rw [show ((0 + ·) : Nat → Nat) = id from funext fun k => Nat.zero_add k, List.map_id]
  rw [e0, List.drop_zero, List.take_of_length_le (by rw [Array.length_toList]; exact Nat.le_refl _)] at h
  rw [e, PySem.W.krv_range, List.filterMap_reverse, show z.length = z.cps.size from rfl, h]
  rw [← List.reverse_toArray]
def tRev (K : PySem.W.Frag) (te : TE) : TE := fun σ H Q => te σ H fun x H1 => (∃ z, x = .str z ∧ z.length ≤ sizeLine ∧ Q (.str (revS z)) H1) ∨ (∃ a xs, x = .ref a ∧ SqL K H1 a xs ∧ ∀ p, H1 p = none → Q (.ref p) (upd H1 p (.lst xs.reverse)))
theorem pe_rev {X : Cx} {e : Expr} {te : TE} {p1 p2 p3 p4 : Pos} {j : _} (he : PE X e te) : PE X (.Subscript e (.Slice none none (some (.UnaryOp .USub (.Constant (.int 1) j p1) p2)) p3) p4) (tRev X.K te) := by
  refine ⟨fun pins s σ H Q I h => Subscript_ (thn (he.run pins s σ H _ I h) fun v s1 ⟨x, H1, I1, r1, q1⟩ => ?_)⟩
  refine wpAny_Slice ?_
  rw [evalPart_none]
  refine wpAny_pure (wpAny_pure ?_)
  rw [evalPart_some]
  have neg : PE X (.UnaryOp .USub (.Constant (.int 1) j p1) p2) (tUn (rU fun i => .int (-i)) (tC (.int 1))) := pe_un un_neg pe_int
  refine thn (neg.run pins s1 σ H1 (fun y H2 => y = .int (-1) ∧ H2 = H1) I1 ⟨1, rfl, rfl, rfl⟩) fun u s2 ⟨y, H2, I2, r2, ey, eH⟩ => ?_
  subst ey
  subst eH
  obtain ⟨tk, rfl⟩ := r2
  have I4 : Inv X pins σ H2 { s2 with heap := s2.heap.push { cls := .type "slice", data := .fields #[.none, .none, .int (-1) tk] } } := I2.kept (t' := s2.toks) fun b ob q => Heap.get?_push_of_some _ q
  show wpAny (model X.prog X.w) X.A (subscriptTail e _ v (.ref s2.heap.objs.size)) (EP X pins σ Q) X.xe { s2 with heap := s2.heap.push { cls := .type "slice", data := .fields #[.none, .none, .int (-1) tk] } }
  rcases q1 with ⟨z, rfl, hz, q⟩ | ⟨a, xs, rfl, hx, q⟩
  · obtain ⟨t, rfl⟩ := r1
    refine tail_any (typeIs_str _ z t) F.slot_str_getitem.lookup ?_ (by with_unfolding_all rfl)
    refine wpAny_getItem_str_slice (l := none) (u := none) (st := some (-1, tk)) ⟨_, Heap.get?_push_size _ rfl, rfl, rfl⟩ rfl ?_
    show Made.post (if ((-1 : Int) == 1 && (Builtin.Str.strSliceIndices none none (-1) z.length).length == z.length) = true then Made.val (.str z t)
      else Made.str ⟨((Builtin.Str.strSliceIndices none none (-1) z.length).filterMap (z.cps[·]?)).toArray⟩) (EP X pins σ Q) _
    rw [if_neg (by rw [show ((-1 : Int) == 1) = false by decide, Bool.false_and]; exact Bool.false_ne_true), pick_rev]
    exact ⟨by rw [show (⟨z.cps.reverse⟩ : Str) = revS z from rfl, revS_len]; exact hz, .str (revS z), H2, I4.tok _, ⟨_, rfl⟩, q⟩
  · have ea : v = Value.ref a := r1
    subst ea
    obtain ⟨its, r, ht, hzz⟩ := I4.list hx
    refine tail_any ht.isList.typeIs slot_list_getitem.lookup ?_ (by with_unfolding_all rfl)
    refine wpAny_getItem_list_slice ht.isList (Heap.IsSliceOf.new ..) .none .none (IsPart.int (-1) tk) (by decide) ?_ (by rw [List.size_toArray, ← r.length]; exact hzz)
    rw [PySem.W.krv_pick]
    refine ⟨.ref _, _, I4.laid (t' := s2.toks) (fun b o e => Heap.get?_push_of_some _ e) (Nat.le_refl _) ?_, rfl, q _ (I4.hok.fresh (Nat.le_refl _))⟩
    have rr : Vals xs.reverse its.reverse := by
      have key : ∀ {ys : List V} {us : List Value}, Vals ys us → Vals ys.reverse us.reverse := by
        intro ys us hyu
        induction hyu with
        | nil => exact .nil
        | cons h1 _ ih =>
          rw [List.reverse_cons, List.reverse_cons]
          exact ih.append (.cons h1 .nil)
      exact key r
    refine ⟨by rw [List.length_reverse]; exact hzz, its.reverse, 0, rr, ?_⟩
    exact Heap.get?_push_size _ rfl
end
section
/-! ### data -/
mutual
theorem Dp.same {K : PySem.W.Frag} {H H' : Hp} (e : Same H H') : ∀ {d : PyData} {v : V}, Dp K H v d → Dp K H' v d
  | _, _, .non => .non
  | _, _, .bl b => .bl b
  | _, _, .int i => .int i
  | _, _, .str x => .str x
  | _, _, .lst h a => .lst (e.seq h) (DpAll.same e a)
  | _, _, .tup h a => .tup (h.imp (fun r => r.imp (fun z => e _ _ z) fun ⟨o, z⟩ => ⟨o, e _ _ z⟩) id) (DpAll.same e a)
theorem DpAll.same {K : PySem.W.Frag} {H H' : Hp} (e : Same H H') : ∀ {ds : List PyData} {vs : List V}, DpAll K H vs ds → DpAll K H' vs ds
  | _, _, .nil => .nil
  | _, _, .cons h t => .cons (Dp.same e h) (DpAll.same e t)
end
theorem same_tup {K : PySem.W.Frag} {H H' : Hp} (e : Same H H') {a : Addr} {xs : List V} (h : SqT K H a xs) : SqT K H' a xs := h.imp (fun r => r.imp (fun z => e _ _ z) fun ⟨o, z⟩ => ⟨o, e _ _ z⟩) id
theorem same_new {H : Hp} {p : Addr} {o : HO} (h : H p = none) : Same H (upd H p o) := fun b u e => by
  rw [upd_ne (ne_of_none e h)]
  exact e
/-- two stores at different places -/
theorem upd_comm {H : Hp} {a b : Addr} {o u : HO} (h : a ≠ b) : upd (upd H a o) b u = upd (upd H b u) a o := by
  funext c
  unfold upd
  by_cases h1 : c = a
  · subst h1
    rw [if_neg h, if_pos rfl, if_pos rfl]
  · rw [if_neg h1, if_neg h1]
abbrev dI (ns : List Int) : PyData := .list (ns.map .int)
abbrev dS (xs : List Str) : PyData := .list (xs.map .str)
theorem dpAll_map {K : PySem.W.Frag} {H : Hp} {α : Type} (f : α → V) (g : α → PyData) (h : ∀ x, Dp K H (f x) (g x)) : ∀ xs : List α, DpAll K H (xs.map f) (xs.map g)
  | [] => .nil
  | x :: xs => .cons (h x) (dpAll_map f g h xs)
theorem dp_ints {K : PySem.W.Frag} {H : Hp} {a : Addr} {ns : List Int} (h : SqL K H a (ns.map V.int)) : Dp K H (.ref a) (dI ns) := .lst h (dpAll_map _ _ (fun i => .int i) ns)
theorem dp_strs {K : PySem.W.Frag} {H : Hp} {a : Addr} {xs : List Str} (h : SqL K H a (xs.map V.str)) : Dp K H (.ref a) (dS xs) := .lst h (dpAll_map _ _ (fun i => .str i) xs)

/-- what shows well -/
structure Nice (d : PyData) : Prop where
  sh : SeqAt.shaped d = true
  sw : d.showable = true
  sz : d.shown.length ≤ sizeLine
/-- bounds: c signs, k deep -/
structure Bd (c k : Nat) (d : PyData) : Prop where
  sz : d.shown.length ≤ c
  sw : d.showable = true
  cl : d.canLay0 = true
  dp : d.depth ≤ k
theorem Bd.nice {c k : Nat} {d : PyData} (b : Bd c k d) (hc : c ≤ 16777216) (hk : k ≤ 64) : Nice d :=
  ⟨by unfold SeqAt.shaped; rw [Bool.and_eq_true]; exact ⟨b.cl, decide_eq_true (Nat.le_trans b.dp hk)⟩, b.sw, Nat.le_trans b.sz (by rw [sizeLine_eq]; exact hc)⟩
theorem Bd.mono {c c' k k' : Nat} {d : PyData} (b : Bd c k d) (h : c ≤ c') (h' : k ≤ k') : Bd c' k' d := ⟨Nat.le_trans b.sz h, b.sw, b.cl, Nat.le_trans b.dp h'⟩
theorem bd_none : Bd 4 0 .none := ⟨by decide +kernel, rfl, rfl, Nat.le_refl _⟩
theorem bd_bool (b : Bool) : Bd 5 0 (.bool b) := ⟨by cases b <;> decide +kernel, rfl, rfl, Nat.le_refl _⟩
theorem bd_int {i : Int} {k : Nat} (h : i.natAbs < 10 ^ (k + 1)) (hk : k ≤ 500) : Bd (k + 2) 0 (.int i) := by
  refine ⟨?_, decide_eq_true ?_, rfl, Nat.le_refl _⟩
  · show (Str.ofString (toString i)).length ≤ _
    rw [PySem.ofString_length]
    exact int_text_length_le10 (by omega) h
  · by_cases z : i.natAbs = 0
    · rw [z]; decide
    · have h2 : i.natAbs < 2 ^ 1920 := Nat.lt_of_lt_of_le h (Nat.le_trans (Nat.pow_le_pow_right (by decide) (show k + 1 ≤ 501 by omega)) (by decide +kernel))
      exact (Nat.log2_lt z).mpr h2
theorem bd_str {x : Str} {n : Nat} (h : x.length ≤ n) (hx : ∀ c ∈ x.cps.toList, c < 128) : Bd (10 * n + 2) 0 (.str x) := by
  refine ⟨Nat.le_trans (StrLaws.reprText_len x fun c hc => Nat.lt_trans (hx c hc) (by decide)) (by omega), rfl, ?_, Nat.le_refl _⟩
  show x.cps.all (· < 0x110000) = true
  rw [Array.all_eq_true']
  intro c hc
  have q := hx c (by simpa using hc)
  exact decide_eq_true (Nat.lt_trans q (by decide))
theorem piled_le {c : Nat} : ∀ ts : List Str, (∀ t ∈ ts, t.length ≤ c) → piled ts ≤ ts.length * (c + 2)
  | [], _ => by simp [piled_nil]
  | t :: ts, h => by
    rw [piled_cons, List.length_cons]
    have h1 := h t List.mem_cons_self
    have h2 := piled_le ts fun u hu => h u (List.mem_cons_of_mem _ hu)
    rw [Nat.add_mul]
    omega
theorem shownAll_map : ∀ ds : List PyData, PyData.shownAll ds = ds.map PyData.shown
  | [] => rfl
  | d :: ds => by
    show PyData.shown d :: PyData.shownAll ds = _
    rw [shownAll_map ds]
    rfl
theorem bd_all {c k : Nat} : ∀ {ds : List PyData}, (∀ d ∈ ds, Bd c k d) → PyData.showableAll ds = true ∧ PyData.canLayAll0 ds = true ∧ PyData.depthAll ds ≤ k ∧ ∀ t ∈ PyData.shownAll ds, t.length ≤ c
  | [], _ => ⟨rfl, rfl, Nat.zero_le _, fun _ h => by cases h⟩
  | d :: ds, h => by
    have b := h d List.mem_cons_self
    obtain ⟨q1, q2, q3, q4⟩ := bd_all (ds := ds) fun u hu => h u (List.mem_cons_of_mem _ hu)
    refine ⟨?_, ?_, ?_, fun t ht => ?_⟩
    · show (PyData.showable d && PyData.showableAll ds) = true
      rw [b.sw, q1]; rfl
    · show (PyData.canLay0 d && PyData.canLayAll0 ds) = true
      rw [b.cl, q2]; rfl
    · show max _ _ ≤ k
      exact Nat.max_le.mpr ⟨b.dp, q3⟩
    · rcases List.mem_cons.mp ht with e | e
      · rw [e]; exact b.sz
      · exact q4 t e
theorem textFrom_le : ∀ ts : List Str, (listText ts).length ≤ 2 + piled ts := fun ts => by
  unfold listText
  cases ts with
  | nil =>
    show ((textFrom 0 "[" []) ++ ("]" : Str)).length ≤ _
    unfold textFrom
    rw [piled_nil]
    decide +kernel
  | cons t ts =>
    show ((textFrom 0 "[" (t :: ts)) ++ ("]" : Str)).length ≤ _
    unfold textFrom
    rw [Str.length_append, textFrom_length_pos _ _ _ (by omega), piled_cons]
    have e1 : ("[" : Str).length = 1 := by decide +kernel
    have e2 : ("]" : Str).length = 1 := by decide +kernel
    rw [if_neg (by omega : ¬ 0 > 0)]
    simp only [Str.length_append, e1, e2, show (Str.ofString "").length = 0 by decide +kernel]
    omega
theorem bd_list {c k n : Nat} {ds : List PyData} (h : ∀ d ∈ ds, Bd c k d) (hn : ds.length ≤ n) : Bd (2 + n * (c + 2)) (k + 1) (.list ds) := by
  obtain ⟨q1, q2, q3, q4⟩ := bd_all h
  refine ⟨?_, q1, q2, ?_⟩
  · show (listText (PyData.shownAll ds)).length ≤ _
    refine Nat.le_trans (textFrom_le _) ?_
    have l := piled_le _ q4
    rw [shownAll_map, List.length_map] at l
    rw [shownAll_map]
    have := Nat.mul_le_mul_right (c + 2) hn
    omega
  · show PyData.depthAll ds + 1 ≤ k + 1
    omega
end
section
/-! ### steps: what a reading asks, one piece at a time -/
/-- a new object -/
abbrev NewO (C : Prop) (o : HO) (H1 : Hp) (Q : VK) : Prop := C ∧ ∀ p, H1 p = none → Q (.ref p) (upd H1 p o)
/-- a comprehension is done -/
abbrev DoneC (Q : VK) (D : Addr) (H : Hp) : Prop := Q (.ref D) H
section
variable {K : PySem.W.Frag} {σ : L2.St} {H : Hp} {Q : VK} {D : Ends} {ta tb tc te : TE} {t u : TS} {T U : TT} {ts : TA} {r : R2} {i j : Int} {n : Nat} {x y v : V} {a b : Addr} {z z' : Str} {c k : Bool} {QT : Bool → Hp → Prop} {QA : List V → Hp → Prop}
theorem s_var (e : σ[n]? = some (some v)) (q : Q v H) : tVar n σ H Q := ⟨v, e, q⟩
theorem s_c (q : Q v H) : tC v σ H Q := q
theorem s_op (q : ta σ H fun x H1 => tb σ H1 fun y H2 => r x y H2 Q) : tOp r ta tb σ H Q := q
theorem s_un {f : V → Hp → VK → Prop} (q : ta σ H fun x H1 => f x H1 Q) : tUn f ta σ H Q := q
theorem s_neg {g : Int → V} (q : Q (g i) H) : rU g (.int i) H Q := ⟨i, rfl, q⟩
theorem s_addI (q : Q (.int (i + j)) H) : rPlus K (.int i) (.int j) H Q := .inl ⟨i, j, rfl, rfl, q⟩
theorem s_addT (h : z.length + z'.length ≤ sizeLine) (q : Q (.str (z ++ z')) H) : rPlus K (.str z) (.str z') H Q := .inr (.inl ⟨z, z', rfl, rfl, h, q⟩)
theorem s_addL {xs ys : List V} (h1 : H a = some (.lst xs)) (h2 : H b = some (.lst ys)) (h : xs.length + ys.length ≤ sizeLine) (q : ∀ p, H p = none → Q (.ref p) (upd H p (.lst (xs ++ ys)))) : rPlus K (.ref a) (.ref b) H Q :=
  .inr (.inr (.inl ⟨a, b, xs, ys, rfl, rfl, h1, h2, h, q⟩))
theorem s_sub (q : Q (.int (i - j)) H) : rMinus (.int i) (.int j) H Q := ⟨i, j, rfl, rfl, q⟩
theorem s_mulI (h : CMulW i j) (q : Q (.int (i * j)) H) : rTimes (.int i) (.int j) H Q := .inl ⟨i, j, rfl, rfl, h, q⟩
theorem s_mulT (h : MulOk z i) (q : Q (.str (Txt.mul z i)) H) : rTimes (.str z) (.int i) H Q := .inr (.inr (.inl ⟨z, i, rfl, rfl, h, q⟩))
theorem s_mulC (h : CMul i j) (q : Q (.int (i * j)) H) : rTimes (.int i) (.int j) H Q := .inr (.inl ⟨i, j, rfl, rfl, h, q⟩)
theorem s_mulL {xs : List V} (h : H a = some (.lst xs)) (h1 : -(2 ^ 63) ≤ i) (h2 : i < 2 ^ 63) (h3 : xs.length * i.toNat ≤ sizeLine) (q : ∀ p, H p = none → Q (.ref p) (upd H p (.lst (List.replicate i.toNat xs).flatten))) : rTimes (.ref a) (.int i) H Q :=
  .inr (.inr (.inr ⟨a, i, xs, rfl, rfl, h, h1, h2, h3, q⟩))
theorem s_mod (h : 0 < j) (q : Q (.int (i % j)) H) : rMod (.int i) (.int j) H Q := ⟨i, j, rfl, rfl, h, q⟩
theorem s_div (h : CDivW i j) (q : Q (.int (i / j)) H) : rDiv (.int i) (.int j) H Q := ⟨i, j, rfl, rfl, h, q⟩
theorem s_pow (h : CPow i j) (q : Q (.int (i ^ j.toNat)) H) : rPow (.int i) (.int j) H Q := ⟨i, j, rfl, rfl, h, q⟩
theorem dec_int (i j : Int) : decide (V.int i = V.int j) = decide (i = j) := decide_eq_decide.mpr ⟨fun h => V.int.inj h, fun h => by rw [h]⟩
theorem dec_str (z z' : Str) : decide (V.str z = V.str z') = decide (z = z') := decide_eq_decide.mpr ⟨fun h => V.str.inj h, fun h => by rw [h]⟩
theorem dec_bl (c k : Bool) : decide (V.bl c = V.bl k) = decide (c = k) := decide_eq_decide.mpr ⟨fun h => V.bl.inj h, fun h => by rw [h]⟩
theorem s_eqI (q : Q (.bl (decide (i = j))) H) : rSame K (.int i) (.int j) H Q := .inl ⟨rfl, by rw [dec_int]; exact q⟩
theorem s_eqT (q : Q (.bl (decide (z = z'))) H) : rSame K (.str z) (.str z') H Q := .inl ⟨rfl, by rw [dec_str]; exact q⟩
theorem s_eqB (q : Q (.bl (decide (c = k))) H) : rSame K (.bl c) (.bl k) H Q := .inl ⟨rfl, by rw [dec_bl]; exact q⟩
theorem s_eqNI (q : Q (.bl false) H) : rSame K .non (.int i) H Q := .inl ⟨rfl, q⟩
theorem s_eqIN (q : Q (.bl false) H) : rSame K (.int i) .non H Q := .inl ⟨rfl, q⟩
theorem s_eqNN (q : Q (.bl true) H) : rSame K .non .non H Q := .inl ⟨rfl, q⟩
theorem s_eqD {d e : PyData} (h1 : Dp K H x d) (h2 : Dp K H y e) (s1 : SeqAt.shaped d = true) (s2 : SeqAt.shaped e = true) (q : Q (.bl (PyData.eqv d e)) H) : rSame K x y H Q := .inr ⟨d, e, h1, h2, s1, s2, q⟩
theorem s_neI (q : Q (.bl (!decide (i = j))) H) : rDiff K (.int i) (.int j) H Q := .inl ⟨rfl, by rw [dec_int]; exact q⟩
theorem s_neT (q : Q (.bl (!decide (z = z'))) H) : rDiff K (.str z) (.str z') H Q := .inl ⟨rfl, by rw [dec_str]; exact q⟩
theorem s_neB (q : Q (.bl (!decide (c = k))) H) : rDiff K (.bl c) (.bl k) H Q := .inl ⟨rfl, by rw [dec_bl]; exact q⟩
theorem s_neD {d e : PyData} (h1 : Dp K H x d) (h2 : Dp K H y e) (s1 : SeqAt.shaped d = true) (s2 : SeqAt.shaped e = true) (q : Q (.bl (!PyData.eqv d e)) H) : rDiff K x y H Q := .inr ⟨d, e, h1, h2, s1, s2, q⟩
theorem s_lt (q : Q (.bl (decide (i < j))) H) : rLess (.int i) (.int j) H Q := .inl ⟨i, j, rfl, rfl, q⟩
theorem s_le (q : Q (.bl (decide (i ≤ j))) H) : rLessE (.int i) (.int j) H Q := .inl ⟨i, j, rfl, rfl, q⟩
theorem s_gt (q : Q (.bl (decide (j < i))) H) : rMore (.int i) (.int j) H Q := .inl ⟨i, j, rfl, rfl, q⟩
theorem s_ge (q : Q (.bl (decide (j ≤ i))) H) : rMoreE (.int i) (.int j) H Q := .inl ⟨i, j, rfl, rfl, q⟩
theorem s_isN (q : Q (.bl (decide (x = .non))) H) : rIsNone x .non H Q := ⟨rfl, q⟩
theorem s_isS (q : Q (.bl (!decide (x = .non))) H) : rIsSome x .non H Q := ⟨rfl, q⟩
/-! a[i] -/
theorem s_ixL {xs : List V} (h : SqL K H a xs) (e : atI xs i = some v) (q : Q v H) : rIx K (.ref a) (.int i) H Q := .inl ⟨a, xs, i, v, rfl, rfl, h, e, q⟩
theorem s_ixT {xs : List V} (h : SqT K H a xs) (e : atI xs i = some v) (q : Q v H) : rIx K (.ref a) (.int i) H Q := .inr (.inl ⟨a, xs, i, v, rfl, rfl, h, e, q⟩)
theorem s_ixS {m : Nat} (h : z.length ≤ sizeLine) (e : atI z.cps.toList i = some m) (q : Q (.str ⟨#[m]⟩) H) : rIx K (.str z) (.int i) H Q := .inr (.inr ⟨z, i, m, rfl, rfl, h, e, q⟩)
/-- an item of a written list, at a drawn place -/
theorem s_pick {xs : List V} (h : H a = some (.lst xs)) (h0 : 0 ≤ i) (h1 : i < xs.length) (q : ∀ (m : Nat) (hm : m < xs.length), i = (m : Int) → Q xs[m] H) : rIx K (.ref a) (.int i) H Q := by
  obtain ⟨m, rfl⟩ : ∃ m : Nat, i = (m : Int) := ⟨i.toNat, by omega⟩
  have hm : m < xs.length := by omega
  exact s_ixL (v := xs[m]) (SqL.of h) (atI_nat (by simp [List.getElem?_eq_getElem hm])) (q m hm rfl)
/-! tests -/
theorem s_test (q : ta σ H fun x H1 => ∃ k, x = .bl k ∧ QT k H1) : tTest ta σ H QT := q
theorem s_exq {R : Bool → Prop} (q : R c) : ∃ k, V.bl c = .bl k ∧ R k := ⟨c, rfl, q⟩
theorem s_truB {R : Bool → Prop} (q : R c) : ∃ k, TruV K (.bl c) H k ∧ R k := ⟨c, rfl, q⟩
theorem s_truI {R : Bool → Prop} (q : R (i != 0)) : ∃ k, TruV K (.int i) H k ∧ R k := ⟨_, rfl, q⟩
theorem s_truN {R : Bool → Prop} (q : R false) : ∃ k, TruV K .non H k ∧ R k := ⟨_, rfl, q⟩
theorem s_truL {R : Bool → Prop} {xs : List V} (h : SqL K H a xs) (q : R (!xs.isEmpty)) : ∃ k, TruV K (.ref a) H k ∧ R k := ⟨_, .inl ⟨xs, h, rfl⟩, q⟩
theorem s_and (q : T σ H fun c H1 => if c = true then U σ H1 QT else QT false H1) : tAnd T U σ H QT := q
theorem s_or (q : T σ H fun c H1 => if c = true then QT true H1 else U σ H1 QT) : tOr T U σ H QT := q
theorem s_not (q : T σ H fun c H1 => QT (!c) H1) : tNot T σ H QT := q
theorem s_andV (q : ta σ H fun x H1 => ∃ c, x = .bl c ∧ if c = true then tb σ H1 Q else Q (.bl false) H1) : tAndV ta tb σ H Q := q
theorem s_orV (q : ta σ H fun x H1 => ∃ c, x = .bl c ∧ if c = true then Q (.bl true) H1 else tb σ H1 Q) : tOrV ta tb σ H Q := q
theorem s_notV (q : ta σ H fun x H1 => ∃ c, x = .bl c ∧ Q (.bl (!c)) H1) : tNotV ta σ H Q := q
theorem s_ife (q : T σ H fun c H1 => if c = true then ta σ H1 Q else tb σ H1 Q) : tIf T ta tb σ H Q := q
theorem s_chain {r' : R2} (q : ta σ H fun x H1 => tb σ H1 fun y H2 => r x y H2 fun z H3 => ∃ k, z = .bl k ∧ (if k = true then tc σ H3 fun w' H4 => r' y w' H4 Q else Q (.bl false) H3)) : tChain r r' ta tb tc σ H Q := q
/-! an if -/
theorem s_if {p A B : Prop} [Decidable p] (h1 : p → A) (h2 : ¬ p → B) : if decide p = true then A else B := ite2 (fun h => h1 (of_decide_eq_true h)) (fun h => h2 fun hp => h (decide_eq_true hp))
theorem s_ifn {p A B : Prop} [Decidable p] (h1 : ¬ p → A) (h2 : p → B) : if (!decide p) = true then A else B := ite2 (fun h => h1 fun hp => by rw [decide_eq_true hp] at h; cases h) (fun h => h2 (Classical.byContradiction fun hp => h (by rw [decide_eq_false hp]; rfl)))
theorem s_ify {p A B : Prop} [Decidable p] (h : p) (q : A) : if decide p = true then A else B := by rw [if_pos (decide_eq_true h)]; exact q
theorem s_ifo {p A B : Prop} [Decidable p] (h : ¬ p) (q : B) : if decide p = true then A else B := by rw [if_neg (by rw [decide_eq_false h]; exact Bool.false_ne_true)]; exact q
theorem s_ifb {A B : Prop} (h1 : c = true → A) (h2 : c = false → B) : if c = true then A else B := ite2 h1 fun h => h2 (Bool.eq_false_iff.mpr h)
theorem s_ifT {A B : Prop} (q : A) : if true = true then A else B := iteT q
theorem s_ifF {A B : Prop} (q : B) : if false = true then A else B := iteF q
theorem s_ifnT {A B : Prop} (q : B) : if (!true) = true then A else B := iteF q
theorem s_ifnF {A B : Prop} (q : A) : if (!false) = true then A else B := iteT q
/-! displays, arguments -/
theorem s_nil (q : QA [] H) : tNil σ H QA := q
theorem s_cons {tr : TA} (q : ta σ H fun x H1 => tr σ H1 fun xs H2 => QA (x :: xs) H2) : tCons ta tr σ H QA := q
theorem s_tup (q : ts σ H fun xs H1 => NewO (xs.length ≤ sizeLine) (.tup xs) H1 Q) : tTup ts σ H Q := q
theorem s_lst (q : ts σ H fun xs H1 => NewO (xs.length ≤ sizeLine) (.lst xs) H1 Q) : tLst ts σ H Q := q
theorem small_sz {m : Nat} (h : m ≤ 16777216) : m ≤ sizeLine := by rw [sizeLine_eq]; exact h
theorem s_call {sp : Sp} {E : L2.St → XK} (q : ts σ H fun vs H1 => Fr sp vs H1 Q (E σ)) : gCall sp E ts σ H Q := q
theorem s_cb {f : List V → Hp → VK → Prop} (q : ts σ H fun vs H1 => f vs H1 Q) : tCB f ts σ H Q := q
/-- the callee sees all -/
theorem s_all {sp : Sp} {vs : List V} {E : XK} (q : sp vs H Q E) : Fr sp vs H Q E := by
  refine ⟨[], H, rfl, (fun _ h => by cases h), ?_⟩
  have e1 : (fun v H' => Off [] H' → Q v (lay [] H')) = Q := by
    funext v H'
    exact propext ⟨fun h => h (fun _ z => nomatch z), fun h _ => h⟩
  have e2 : (fun c d H' => Off [] H' → E c d (lay [] H')) = E := by
    funext c d H'
    exact propext ⟨fun h => h (fun _ z => nomatch z), fun h _ => h⟩
  rw [e1, e2]
  exact q
/-- the callee does not see the list at p -/
theorem s_but {sp : Sp} {vs : List V} {E : XK} {p : Addr} {xs : List V} (h : H p = none) (q : sp vs H (fun v H' => H' p = none → Q v (upd H' p (.lst xs))) fun c d H' => H' p = none → E c d (upd H' p (.lst xs))) : Fr sp vs (upd H p (.lst xs)) Q E := by
  refine ⟨[(p, xs)], H, rfl, fun m hm => ?_, ?_⟩
  · rcases List.mem_singleton.mp hm with rfl
    exact h
  · have e1 : (fun v H' => Off [(p, xs)] H' → Q v (lay [(p, xs)] H')) = fun v H' => H' p = none → Q v (upd H' p (.lst xs)) := by
      funext v H'
      exact propext ⟨fun h n => h fun m hm => by rcases List.mem_singleton.mp hm with rfl; exact n, fun h n => h (n _ List.mem_cons_self)⟩
    have e2 : (fun c d H' => Off [(p, xs)] H' → E c d (lay [(p, xs)] H')) = fun c d H' => H' p = none → E c d (upd H' p (.lst xs)) := by
      funext c d H'
      exact propext ⟨fun h n => h fun m hm => by rcases List.mem_singleton.mp hm with rfl; exact n, fun h n => h (n _ List.mem_cons_self)⟩
    rw [e1, e2]
    exact q
/-! statements -/
theorem s_seq (q : t { D with nx := u D } σ H) : tSeq t u D σ H := q
theorem s_asg {g : TG} (q : te σ H fun x H1 => g x σ H1 D.nx) : tAsg te g D σ H := q
theorem s_name {R : L2.St → Hp → Prop} (q : R (σ.set n (some v)) H) : gName n v σ H R := q
theorem s_ifs (q : T σ H fun c H1 => if c = true then t D σ H1 else u D σ H1) : tIfS T t u D σ H := q
theorem s_ret (q : te σ H D.rt) : tRet te D σ H := q
theorem s_next (q : D.nx σ H) : tNext D σ H := q
theorem s_drop (q : te σ H fun _ H1 => D.nx σ H1) : tDrop te D σ H := q
end
end
section
/-- the built-ins that no name of the module hides -/
def bltNames : List Str := ["len", "range", "int", "abs", "min", "max", "sorted", "repr", "isinstance", "list", "set", "dict", "str", "sum", "zip", "enumerate", "reversed", "all", "any", "divmod", "tuple", "super", "bool", "ValueError", "type"]
abbrev Blt (mg : Str → Option Value) : Prop := ∀ x : Str, x ∈ bltNames → mg x = none
section
variable {X : Cx} {e : Expr} {te : TE}
def gTruth (K : PySem.W.Frag) (te : TE) : TT := fun σ H Q => te σ H fun x H' => ∃ k, TruV K x H' k ∧ Q k H'
theorem g_truth (h : PE X e te) (he : ∀ whole, isTrue e X.env whole = (do let v ← whole; standAt e.pos; holding [v] (truthy v)) := by intro _; rfl) : PT X e (gTruth X.K te) := pt_truth h he
theorem o_len : CallR X (.builtin "len") (rLen X.K) := call_len
def rAbs : List V → Hp → VK → Prop := fun xs H Q => ∃ i, xs = [.int i] ∧ Q (.int (if i < 0 then -i else i)) H
theorem o_abs : CallR X (.builtin "abs") rAbs := call_abs
def rMin2 : List V → Hp → VK → Prop := fun xs H Q => ∃ i j, xs = [.int i, .int j] ∧ Q (.int (if j < i then j else i)) H
theorem o_min2 (hc : X.calm = true) : CallR X (.builtin "min") rMin2 := call_min2 hc
def rMax2 : List V → Hp → VK → Prop := fun xs H Q => ∃ i j, xs = [.int i, .int j] ∧ Q (.int (if j > i then j else i)) H
theorem o_max2 (hc : X.calm = true) : CallR X (.builtin "max") rMax2 := call_max2 hc
def rInt : List V → Hp → VK → Prop := fun xs H Q => (∃ i, xs = [.int i] ∧ Q (.int i) H) ∨ ∃ k, xs = [.bl k] ∧ Q (.int (if k then 1 else 0)) H
theorem o_int : CallR X (.type "int") rInt := call_int1
def rListS : List V → Hp → VK → Prop := fun xs H Q => ∃ z, xs = [.str z] ∧ z.length ≤ sizeLine ∧ ∀ l, H l = none → Q (.ref l) (upd H l (.lst (z.cps.toList.map fun c => .str ⟨#[c]⟩)))
/-- list(a text) -/
theorem o_listS (hc : X.calm = true) : CallR X (.type "list") rListS := by
  intro pins s σ H xs us Q I r h
  obtain ⟨z, rfl, hz, q⟩ := h
  obtain ⟨u, rfl, rx⟩ := vals1 r
  obtain ⟨t, rfl⟩ := rx
  refine call_list_str (I.ok.hd hc) z t (fun h' tk acc c' kp e hi => ?_) hz
  have len : acc.toList.length = z.cps.toList.length := by rw [Array.length_toList, Array.length_toList]; exact hi.1
  have rel : Vals (z.cps.toList.map fun c => V.str ⟨#[c]⟩) acc.toList := by
    refine vals_of_at (by rw [List.length_map, len]) fun j x v hx hv => ?_
    rw [List.getElem?_map] at hx
    cases hc2 : z.cps.toList[j]? with
    | none =>
      rw [hc2] at hx
      cases hx
    | some c =>
      rw [hc2] at hx
      cases hx
      obtain ⟨d, t', e1, e2⟩ := hi.2 j v (by rw [← hv, Array.getElem?_toList])
      rw [Array.getElem?_toList] at hc2
      rw [hc2] at e1
      cases e1
      exact ⟨t', e2⟩
  exact ⟨.ref s.heap.objs.size, _, I.laid (t' := tk) kp (Nat.le_refl _) (show ObjOk X.prog X.w _ h' _ (.lst _) from ⟨by rw [List.length_map, Array.length_toList]; exact hz, acc.toList, c', rel, by rw [Array.toArray_toList]; exact e⟩), rfl, q _ (I.hok.fresh (Nat.le_refl _))⟩
def rListOf (K : PySem.W.Frag) : List V → Hp → VK → Prop := fun xs H Q => (∃ p ys, xs = [.ref p] ∧ (SqL K H p ys ∨ SqT K H p ys) ∧ ∀ l, H l = none → Q (.ref l) (upd H l (.lst ys))) ∨ rListS xs H Q
theorem o_list (hc : X.calm = true) : CallR X (.type "list") (rListOf X.K) := CallR.or call_list_of (o_listS hc)
def rStrI : List V → Hp → VK → Prop := fun xs H Q => ∃ i, xs = [.int i] ∧ i.natAbs.log2 < 1920 ∧ Q (.str (toString i)) H
def rJoin (K : PySem.W.Frag) : V → List V → Hp → VK → Prop := fun x xs H Q => ∃ a p, ∃ ys : List Str, x = .str a ∧ xs = [.ref p] ∧ (SqL K H p (ys.map V.str) ∨ SqT K H p (ys.map V.str)) ∧ (ys.map (·.length)).sum + ys.length * a.length ≤ 16777216 ∧ Q (.str (Txt.join a ys)) H
def rStarts : V → List V → Hp → VK → Prop := fun x xs H Q => ∃ a b, x = .str a ∧ xs = [.str b] ∧ Q (.bl (Txt.startswith a b)) H
def rEnds : V → List V → Hp → VK → Prop := fun x xs H Q => ∃ a b, x = .str a ∧ xs = [.str b] ∧ Q (.bl (Txt.endswith a b)) H
def rCount : V → List V → Hp → VK → Prop := fun x xs H Q => ∃ a b, x = .str a ∧ xs = [.str b] ∧ Q (.int (Txt.count a b)) H
def rFind : V → List V → Hp → VK → Prop := fun x xs H Q => ∃ a b, x = .str a ∧ xs = [.str b] ∧ Q (.int (Txt.find a b)) H
def rInsert : V → List V → Hp → VK → Prop := fun x vs H Q => ∃ (l : Addr) (xs : List V) (i : Int) (y : V), x = .ref l ∧ vs = [.int i, y] ∧ H l = some (.lst xs) ∧ xs.length < sizeLine ∧ 0 ≤ i ∧ i < 2 ^ 63 ∧
  Q .non (upd H l (.lst (xs.take i.toNat ++ [y] ++ xs.drop i.toNat)))
/-- xs[i] op= e -/
def rGetL (K : PySem.W.Frag) : V → V → Hp → VK → Prop := rIxL K
theorem get_list : PGet X (rGetL X.K) := by
  intro pins s σ H o i ov iv Q I ro ri h
  obtain ⟨p, xs, j, z, rfl, rfl, hq, he, q⟩ := h
  cases ro
  obtain ⟨t, rfl⟩ := ri
  obtain ⟨its, r, pl, hz⟩ := I.list hq
  obtain ⟨m, h1, h2, h3, h4, h5⟩ := atI_get he
  obtain ⟨w, ew, rw'⟩ := r.get h2
  have hl := r.length
  have hn := line63
  have fin : EP X pins σ Q w s := ⟨z, H, I, rw', q⟩
  by_cases h0 : 0 ≤ j
  · have hj : j.toNat = m := by
      rw [seqIndex_of h0 h5] at h1
      exact Option.some.inj h1
    exact wpAny_getItem_list pl.isList h0 (by omega) (by rw [hj]; simpa using ew) fin
  · have hj : (j + (its.toArray.size : Int)).toNat = m := by
      rw [seqIndex_neg (by omega) h4] at h1
      rw [List.size_toArray, ← hl]
      exact Option.some.inj h1
    exact wpAny_getItem_list_neg pl.isList (by omega) (by rw [List.size_toArray] <;> omega) (by omega) (by rw [hj]; simpa using ew) fin
def ipAdd (K : PySem.W.Frag) : TIp := ipI fun i j => i + j
theorem ip_plus : PIp X .Add (ipAdd X.K) := ip_add
def ipMul : TIp := rI CMul fun i j => .int (i * j)
theorem ip_times : PIp X .Mult ipMul := iop_mul
end

section
variable {K : PySem.W.Frag} {σ : L2.St} {H : Hp} {Q : VK} {i j : Int} {n : Nat} {x y v : V} {a b : Addr} {z z' : Str} {c k : Bool} {QT : Bool → Hp → Prop} {ta tb te : TE} {to ti : TE}
theorem s_truth (q : te σ H fun x H' => ∃ k, TruV K x H' k ∧ QT k H') : gTruth K te σ H QT := q
theorem s_lenL {xs : List V} (h : SqL K H a xs) (q : Q (.int xs.length) H) : rLen K [.ref a] H Q := ⟨_, _, rfl, .inl ⟨xs, h, rfl⟩, q⟩
theorem s_lenS (h : z.length ≤ sizeLine) (q : Q (.int z.length) H) : rLen K [.str z] H Q := ⟨_, _, rfl, ⟨h, rfl⟩, q⟩
theorem s_abs (q : Q (.int (if i < 0 then -i else i)) H) : rAbs [.int i] H Q := ⟨i, rfl, q⟩
theorem s_min2 (q : Q (.int (min i j)) H) : rMin2 [.int i, .int j] H Q := ⟨i, j, rfl, by
  have e : (if j < i then j else i) = min i j := by
    rw [Int.min_def]
    split <;> split <;> omega
  rw [e]; exact q⟩
theorem s_max2 (q : Q (.int (max i j)) H) : rMax2 [.int i, .int j] H Q := ⟨i, j, rfl, by
  have e : (if j > i then j else i) = max i j := by
    rw [Int.max_def]
    split <;> split <;> omega
  rw [e]; exact q⟩
theorem s_intI (q : Q (.int i) H) : rInt [.int i] H Q := .inl ⟨i, rfl, q⟩
theorem s_intB (q : Q (.int (if c then 1 else 0)) H) : rInt [.bl c] H Q := .inr ⟨c, rfl, q⟩
theorem s_rg1 {R : Int → Int → Hp → Prop} (q : ta σ H fun x H1 => ∃ n, x = .int n ∧ R 0 n H1) : tRg1 ta σ H R := q
theorem s_rg2 {R : Int → Int → Hp → Prop} (q : ta σ H fun x H1 => tb σ H1 fun y H2 => ∃ i j, x = .int i ∧ y = .int j ∧ R i j H2) : tRg2 ta tb σ H R := q
theorem s_rg1e {R : Int → Prop} (q : R i) : ∃ n, V.int i = .int n ∧ R n := ⟨i, rfl, q⟩
theorem s_rg2e {R : Int → Int → Prop} (q : R i j) : ∃ n m, V.int i = .int n ∧ V.int j = .int m ∧ R n m := ⟨i, j, rfl, rfl, q⟩
theorem s_lrg {R : L2.St → Hp → (Int → Int → Hp → Prop) → Prop} (q : R σ H fun a b H1 => NewO (RgOk a b) (.lst (rgV a b)) H1 Q) : tLstRg R σ H Q := q
end

/-! ### the law's bag -/
/-- the bag's items -/
def bagV (c : Addr) (a0 a1 a2 : Int) : List V := [.int a0, .int a1, .int a2, .ref c]
/-- a bag at b, over the heap H without it -/
structure Bag (K : PySem.W.Frag) (H : Hp) (b : Addr) (xs : List V) : Prop where
  off : H b = none
  is : ∃ (c : Addr) (a0 a1 a2 : Int) (ns : List Int), xs = bagV c a0 a1 a2 ∧ SqL K H c (ns.map V.int) ∧ (∀ m ∈ ns, 0 ≤ m) ∧ ns.length ≤ 1000 ∧ 0 ≤ a0 ∧ 0 ≤ a1 ∧ a1 < 2147483647 ∧ 0 ≤ a2
theorem Bag.same {K : PySem.W.Frag} {H H' : Hp} {b : Addr} {xs : List V} (B : Bag K H b xs) (e : Same H H') (h : H' b = none) : Bag K H' b xs := by
  obtain ⟨c, a0, a1, a2, ns, h1, h2, h3, h4, h5, h6, h7, h8⟩ := B.is
  exact ⟨h, c, a0, a1, a2, ns, h1, e.seq h2, h3, h4, h5, h6, h7, h8⟩
/-- one, two, .. arguments -/
def sp1 (f : V → Hp → VK → XK → Prop) : Sp := fun vs H Q E => ∃ a, vs = [a] ∧ f a H Q E
def sp2 (f : V → V → Hp → VK → XK → Prop) : Sp := fun vs H Q E => ∃ a b, vs = [a, b] ∧ f a b H Q E
def sp3 (f : V → V → V → Hp → VK → XK → Prop) : Sp := fun vs H Q E => ∃ a b c, vs = [a, b, c] ∧ f a b c H Q E
def sp4 (f : V → V → V → V → Hp → VK → XK → Prop) : Sp := fun vs H Q E => ∃ a b c d, vs = [a, b, c, d] ∧ f a b c d H Q E
def sp5 (f : V → V → V → V → V → Hp → VK → XK → Prop) : Sp := fun vs H Q E => ∃ a b c d e, vs = [a, b, c, d, e] ∧ f a b c d e H Q E
theorem ln1 {f : V → Hp → VK → XK → Prop} {x1 : Str} : ∀ vs H Q E, sp1 f vs H Q E → vs.length = [x1].length := fun _ _ _ _ ⟨_, e, _⟩ => by rw [e]; rfl
theorem ln2 {f : V → V → Hp → VK → XK → Prop} {x1 x2 : Str} : ∀ vs H Q E, sp2 f vs H Q E → vs.length = [x1, x2].length := fun _ _ _ _ ⟨_, _, e, _⟩ => by rw [e]; rfl
theorem ln3 {f : V → V → V → Hp → VK → XK → Prop} {x1 x2 x3 : Str} : ∀ vs H Q E, sp3 f vs H Q E → vs.length = [x1, x2, x3].length := fun _ _ _ _ ⟨_, _, _, e, _⟩ => by rw [e]; rfl
theorem ln4 {f : V → V → V → V → Hp → VK → XK → Prop} {x1 x2 x3 x4 : Str} : ∀ vs H Q E, sp4 f vs H Q E → vs.length = [x1, x2, x3, x4].length := fun _ _ _ _ ⟨_, _, _, _, e, _⟩ => by rw [e]; rfl
theorem ln5 {f : V → V → V → V → V → Hp → VK → XK → Prop} {x1 x2 x3 x4 x5 : Str} : ∀ vs H Q E, sp5 f vs H Q E → vs.length = [x1, x2, x3, x4, x5].length := fun _ _ _ _ ⟨_, _, _, _, _, e, _⟩ => by rw [e]; rfl
/-- a draw -/
def sp_take (K : PySem.W.Frag) : Sp := sp2 fun x y H Q _ => ∃ (b : Addr) (H0 : Hp) (xs : List V) (m : Int), x = .ref b ∧ y = .int m ∧ H = upd H0 b (.lst xs) ∧ Bag K H0 b xs ∧ 0 < m ∧ m.natAbs.log2 < 9000 ∧
  ∀ (r : Int) (ys : List V), 0 ≤ r → r < m → Bag K H0 b ys → Q (.int r) (upd H0 b (.lst ys))
/-- the bag made of a script -/
def sp_bag (K : PySem.W.Frag) : Sp := sp1 fun x H Q _ => ∃ (a : Addr) (ns : List Int), x = .ref a ∧ SqL K H a (ns.map V.int) ∧
  ∀ (H0 : Hp) (b : Addr) (xs : List V), Same H H0 → H b = none → Bag K H0 b xs → Q (.ref b) (upd H0 b (.lst xs))
/-- found == due and repr(found) == repr(due), of equal data -/
def sp_alike (K : PySem.W.Frag) : Sp := sp2 fun x y H Q _ => ∃ d : PyData, Dp K H x d ∧ Dp K H y d ∧ Nice d ∧ Q (.bl true) H
section
variable {K : PySem.W.Frag} {H : Hp} {Q : VK} {E : XK} {b : Addr} {xs : List V} {m : Int} {x y : V}
/-- a draw, stepped -/
theorem s_take (B : Bag K H b xs) (h : 0 < m) (hl : m.natAbs.log2 < 9000) (q : ∀ (r : Int) (ys : List V), 0 ≤ r → r < m → Bag K H b ys → Q (.int r) (upd H b (.lst ys))) : Fr (sp_take K) [.ref b, .int m] (upd H b (.lst xs)) Q E :=
  s_all ⟨_, _, rfl, b, H, xs, m, rfl, rfl, rfl, B, h, hl, q⟩
theorem s_alike {d : PyData} (h1 : Dp K H x d) (h2 : Dp K H y d) (n : Nice d) (q : Q (.bl true) H) : Fr (sp_alike K) [x, y] H Q E := s_all ⟨_, _, rfl, d, h1, h2, n, q⟩
end
end
section
/-! ### the law itself -/
section
variable {P : Program} {w : World} {K : PySem.W.Frag} {mg mb : Str → Option Value} {k : Nat} {fa a : Addr} {fd : FuncData} {x : Str} {sp : Sp} {s1 : Shared} {us : List Value} {ns : List Int}
/-- the ground, with the tracked heap H told (H tracks the script alone) -/
theorem law_core {H : Hp} {o : Obj} (ho : s1.heap.get? a = some o) (hod : ∀ es ep, o.data ≠ .dict es ep)
    (hin : K.In s1.heap) (nsM : s1.heap.Ns mainGlobals mg) (nsB : s1.heap.Ns builtinsNs mb) (boot : ∀ y : Str, y ≠ "__name__" → mb y = bootBuiltins y) (nl : s1.heap.NoLimit) (gens : s1.gens = #[])
    (hr : Room k callerA) (F : ∀ base : Heap, K.In base → base.Ns mainGlobals mg → Gf P w K mg base k fa fd [x] sp) (bind : ∀ (s : Shared) (u : Value), BindsTo s fd ⟨[u], []⟩ [(x, u)])
    (only : Only H) (alone : ∀ b u, H b = some u → b = a) (offK : ∀ u, H a = some u → K.lookup a = none) (okH : HOk P w H s1.heap)
    (hsp : sp [.ref a] H (fun v _ => v = .bl true) fun _ _ _ => False) :
    codeAny (model P w) callerA (.call (.ref fa) ⟨[.ref a], []⟩) (fun r s' => r = .ok (.ret (.bool true)) ∧ OldK s1.heap s'.heap ∧ s'.os = s1.os ∧ AllBare s'.gens) s1 := by
  have stay : ∀ {b : Addr} {q : Obj}, s1.heap.get? b = some q → (b = a → ∃ es ep, q.data = .dict es ep) → (hidT s1.heap H).get? b = some q := fun {b q} e nd => by
    refine hidT_get e ?_
    cases z : H b with
    | none => rfl
    | some u =>
      have ea := alone b u z
      subst ea
      obtain ⟨es, ep, hd⟩ := nd rfl
      rw [ho] at e
      cases e
      exact absurd hd (hod es ep)
  have spaces : ∀ {b : Addr} {m : Str → Option Value}, s1.heap.Ns b m → (hidT s1.heap H).Ns b m := fun {b m} n => by
    obtain ⟨q, es, ep, e, hd, r⟩ := n
    exact ⟨q, es, ep, stay e fun _ => ⟨es, ep, hd⟩, hd, r⟩
  have inB : K.In (hidT s1.heap H) := fun b q e => by
    refine hidT_get (hin b q e) ?_
    cases z : H b with
    | none => rfl
    | some u =>
      have ea := alone b u z
      subst ea
      rw [offK u z] at e
      cases e
  have mod : Mod K mg (hidT s1.heap H) := by
    obtain ⟨mc, n1, n2⟩ := nl
    exact ⟨inB, spaces nsM, ⟨mb, spaces nsB, boot⟩, ⟨mc, spaces n1, n2⟩⟩
  have nof : ∀ b, ¬ b ∈ frs ([] : List Env) := fun b z => by
    have z2 : b ∈ ([] : List Addr) := z
    cases z2
  have env : Env0 P w K mg (hidT s1.heap H) callerA [] s1 H := ⟨rfl, mod, fun _ _ e => of_hidT e, Nat.le_of_eq (hidT_size _ _), trivial, fun b z => absurd z (nof b), okH, .of_eq gens⟩
  refine codeAny_mono ((F _ inB (spaces nsM)).run callerA [] s1 H ⟨[.ref a], []⟩ [.ref a] [.ref a] _ _ rfl hr env (bind s1 (.ref a)) (.cons rfl .nil) hsp) fun r s' res => ?_
  match r, res with
  | .error e, res =>
    obtain ⟨_, _, _, _, _, _, _, _, _, _, _, _, z⟩ := res
    exact z.elim
  | .ok .next, res => exact False.elim res
  | .ok .brk, res => exact False.elim res
  | .ok .cont, res => exact False.elim res
  | .ok (.ret u), res =>
    obtain ⟨v, H', eos, bare, un, ok2, rv, ev⟩ := res
    have ev2 : v = .bl true := ev
    subst ev2
    have eu : u = Value.bool true := rv
    subst eu
    refine ⟨rfl, OldK.of_keep fun b q e => ?_, eos, bare⟩
    cases z : H b with
    | none => exact un.keep b q e z (nof b) (by simp)
    | some t =>
      rcases only b with n | ⟨ob, xs, n⟩
      · rw [z] at n
        cases n
      · have p1 := (okH b _ n).1
        have p2 := (ok2 b _ (un.frzs b ob _ n)).1
        rw [e] at p1
        cases p1
        exact p2
theorem law_g (hin : K.In s1.heap) (nsM : s1.heap.Ns mainGlobals mg) (nsB : s1.heap.Ns builtinsNs mb) (boot : ∀ y : Str, y ≠ "__name__" → mb y = bootBuiltins y) (nl : s1.heap.NoLimit) (gens : s1.gens = #[])
    (ho : s1.heap.get? a = some { cls := .type "list", data := .seq us.toArray }) (hi : PyProof.Rows.IntsAre us ns) (hz : ns.length ≤ sizeLine)
    (hr : Room k callerA) (F : ∀ base : Heap, K.In base → base.Ns mainGlobals mg → Gf P w K mg base k fa fd [x] sp) (bind : ∀ (s : Shared) (u : Value), BindsTo s fd ⟨[u], []⟩ [(x, u)])
    (hsp : ∀ H : Hp, SqL K H a (ns.map V.int) → sp [.ref a] H (fun v _ => v = .bl true) fun _ _ _ => False) :
    codeAny (model P w) callerA (.call (.ref fa) ⟨[.ref a], []⟩) (fun r s' => r = .ok (.ret (.bool true)) ∧ OldK s1.heap s'.heap ∧ s'.os = s1.os ∧ AllBare s'.gens) s1 := by
  have rel := vals_ints hi
  have len := hi.length
  have nodict : ∀ es ep, ({ cls := .type "list", data := .seq us.toArray } : Obj).data ≠ .dict es ep := fun es ep z => by cases z
  cases inK : K.lookup a with
  | some q =>
    have e := hin a q inK
    rw [ho] at e
    cases e
    refine law_core (H := fun _ => none) ho nodict hin nsM nsB boot nl gens hr F bind (fun _ => .inl rfl) (fun b u z => by cases z) (fun u z => by cases z) (fun b u z => by cases z) (hsp _ (.inr ⟨_, us.toArray, _, inK, rfl, rfl, rfl, ?_, ?_⟩))
    · rw [List.size_toArray, len]
      exact hz
    · simpa using rel
  | none =>
    have here : (fun b => if b = a then some (HO.frz { cls := .type "list", data := .seq us.toArray } (.lst (ns.map V.int))) else none : Hp) a = some (.frz { cls := .type "list", data := .seq us.toArray } (.lst (ns.map V.int))) := if_pos rfl
    refine law_core (H := fun b => if b = a then some (.frz { cls := .type "list", data := .seq us.toArray } (.lst (ns.map V.int))) else none) ho nodict hin nsM nsB boot nl gens hr F bind (fun b => ?_) (fun b u z => ?_) (fun _ _ => inK) (fun b u z => ?_) (hsp _ (.inl (.inr ⟨_, here⟩)))
    · by_cases e : b = a
      · exact .inr ⟨_, _, if_pos e⟩
      · exact .inl (if_neg e)
    · by_cases e : b = a
      · exact e
      · have z2 := (if_neg e).symm.trans z
        cases z2
    · by_cases e : b = a
      · have z2 := (if_pos e).symm.trans z
        cases z2
        subst e
        exact ⟨ho, by rw [List.length_map]; exact hz, us, _, rel, ho⟩
      · have z2 := (if_neg e).symm.trans z
        cases z2
end
/-- what the law's def promises -/
def sp_law (K : PySem.W.Frag) : Sp := sp1 fun x H Q _ => ∃ (a : Addr) (ns : List Int), x = .ref a ∧ ns.length ≤ 63 ∧ SqL K H a (ns.map V.int) ∧ ∀ H', Q (.bl true) H'
/-- the row's end -/
theorem walk_g {l : PySem.W.OpenLaw} {k : Nat} {q : Program} {loose : List Str} {XP : (Str → Option Value) → Heap → Prop} {YP : World → Heap → Prop} {d : DefRec} {x : Str}
    (hn : l.most = some 63) (hdf : d.params.defaults = []) (hr : Room k callerA)
    (F : ∀ (w : World) (mg : Str → Option Value) (fa : Addr) (h : Heap), YP w h → h.Ns mainGlobals mg → mg d.name = some (.ref fa) →
      ∃ (K : PySem.W.Frag) (fd : FuncData), K.In h ∧ (∀ (s : Shared) (u : Value), BindsTo s fd ⟨[u], []⟩ [(x, u)]) ∧ ∀ base : Heap, K.In base → base.Ns mainGlobals mg → Gf l.prog w K mg base k fa fd [x] (sp_law K)) :
    PySem.W.WalkO q loose XP YP l.row.toRowW d [] (fun f vs => PySem.call f vs) := by
  refine Att.attach_call hn hdf fun w s0 s1 mg mb fa o pm cd doc a vs ns G Y ho hd hcd hmg hobj hints hlen hg => ?_
  obtain ⟨K, fd, KX, hb, hF⟩ := F w mg fa _ Y G.T.g hmg
  exact law_g KX G.T.g G.T.b G.T.builtins G.T.nolimit hg hobj hints (by rw [sizeLine_eq]; omega) hr hF hb fun H hS => ⟨.ref a, rfl, a, ns, rfl, hlen, hS, fun _ => rfl⟩
end
section
/-! ### more steps: stores, slices, loops -/
section
variable {K : PySem.W.Frag} {σ : L2.St} {H : Hp} {Q : VK} {D : Ends} {ta tb tc te to ti tl : TE} {t u : TS} {ts : TA} {r : R2} {i j : Int} {n m : Nat} {x y v : V} {a b : Addr} {z z' : Str} {c k : Bool} {g : TG} {tt : TT} {vs : List Nat} {wi : TI}
theorem s_gSub {st : TSet} {R : L2.St → Hp → Prop} (q : to σ H fun o H1 => ti σ H1 fun i H2 => st o i v H2 fun H3 => R σ H3) : gSub to ti st v σ H R := q
theorem s_augS {tget : V → V → Hp → VK → Prop} {tip : TIp} {tset : TSet} (q : to σ H fun o H1 => ti σ H1 fun i H2 => tget o i H2 fun x H3 => te σ H3 fun y H4 => tip x y H4 fun z H5 => tset o i z H5 fun H6 => D.nx σ H6) : tAugS to ti te tget tip tset D σ H := q
theorem s_aug {tip : TIp} (e : σ[n]? = some (some x)) (q : te σ H fun y H1 => tip x y H1 fun z H2 => D.nx (σ.set n (some z)) H2) : tAug n te tip D σ H := ⟨x, e, q⟩
theorem s_ipI {f : Int → Int → Int} (q : Q (.int (f i j)) H) : ipI f (.int i) (.int j) H Q := ⟨i, j, rfl, rfl, q⟩
theorem s_setL {xs : List V} (h : H a = some (.lst xs)) (e : ixN xs.length i = some n) {R : Hp → Prop} (q : R (upd H a (.lst (xs.set n v)))) : rSetL (.ref a) (.int i) v H R := ⟨a, xs, i, n, rfl, rfl, h, e, q⟩
theorem s_sl {rr : V → Option Int → Option Int → Hp → VK → Prop} {t1 t2 : TO} (q : te σ H fun x H1 => t1 σ H1 fun l H2 => t2 σ H2 fun u H3 => rr x l u H3 Q) : tSl rr te t1 t2 σ H Q := q
theorem s_noPart {R : Option Int → Hp → Prop} (q : R none H) : tNoPart σ H R := q
theorem s_part {R : Option Int → Hp → Prop} (q : te σ H fun x H1 => ∃ i, x = .int i ∧ R (some i) H1) : tPart te σ H R := q
theorem s_parte {R : Option Int → Prop} (q : R (some i)) : ∃ m, V.int i = .int m ∧ R (some m) := ⟨i, rfl, q⟩
theorem s_cutL {xs : List V} {lo hi : Option Int} (h : SqL K H a xs) (q : ∀ p, H p = none → Q (.ref p) (upd H p (.lst (cutV xs lo hi)))) : rCut K (.ref a) lo hi H Q := .inr (.inl ⟨a, xs, rfl, h, q⟩)
theorem s_retN (q : D.rt .non H) : tRetN D σ H := q
theorem s_for (q : wi σ H fun J H1 => ∃ W : Nat → Nat → L2.St → Hp → Prop, (∃ m, W 0 m σ H1) ∧ ∀ i m σ H, W i m σ H →
  (J.stop i H ∧ D.nx σ H) ∨ (J.go i H ∧ ∃ N : L2.St → Hp → Prop, (∀ σ' H', N σ' H' → ∃ m', m' < m ∧ W (i + 1) m' σ' H') ∧ ∀ x H', J.yld i H x H' → g x σ H' fun σ2 H2 => t { D with nx := N, ct := N, bk := D.nx } σ2 H2)) : tFor wi g t D σ H := q
theorem s_lc (q : wi σ H fun J H1 => ∀ D, H1 D = none → ∃ W : Nat → Nat → Hp → Prop, (∃ m, W 0 m (upd H1 D (.lst []))) ∧ ∀ i m H, W i m H →
  (J.stop i H ∧ DoneC Q D H) ∨ (J.go i H ∧ ∃ Nx : Hp → Prop, (∀ H', Nx H' → ∃ m', m' < m ∧ W (i + 1) m' H') ∧ ∀ x H', J.yld i H x H' → g x (wipe σ vs) H' fun σ2 H2 => wipe σ2 vs = wipe σ vs ∧ tt σ2 H2 fun b H3 =>
    if b = true then te σ2 H3 fun y H4 => ∃ acc, H4 D = some (.lst acc) ∧ acc.length < sizeLine ∧ Nx (upd H4 D (.lst (acc ++ [y]))) else Nx H3)) : tLc wi g tt te vs σ H Q := q
theorem s_iL {R : It → Hp → Prop} (q : tl σ H fun x H1 => ∃ a, x = .ref a ∧ (∃ xs, SqL K H1 a xs) ∧ R (Itl K a) H1) : iList K tl σ H R := q
theorem s_itL {R : Addr → Prop} {xs : List V} (h : SqL K H a xs) (q : R a) : ∃ p, V.ref a = .ref p ∧ (∃ ys, SqL K H p ys) ∧ R p := ⟨a, rfl, ⟨xs, h⟩, q⟩
theorem s_iT {R : It → Hp → Prop} (q : tl σ H fun x H1 => ∃ a, x = .ref a ∧ (∃ xs, SqT K H1 a xs) ∧ R (Itt K a) H1) : iTup K tl σ H R := q
theorem s_itT {R : Addr → Prop} {xs : List V} (h : SqT K H a xs) (q : R a) : ∃ p, V.ref a = .ref p ∧ (∃ ys, SqT K H p ys) ∧ R p := ⟨a, rfl, ⟨xs, h⟩, q⟩
theorem s_iS {R : It → Hp → Prop} (q : tl σ H fun x H1 => ∃ z, x = .str z ∧ R (Its z) H1) : iStr tl σ H R := q
theorem s_itS {R : Str → Prop} (q : R z) : ∃ z', V.str z = .str z' ∧ R z' := ⟨z, rfl, q⟩
theorem s_iR1 {R : It → Hp → Prop} (q : ts σ H fun vs H1 => ∃ j : Int, vs = [.int j] ∧ -(2 ^ 62) ≤ j ∧ j < 2 ^ 62 ∧ R (Itr 0 j.toNat) H1) : iRng1 ts σ H R := q
theorem s_iR2 {R : It → Hp → Prop} (q : ts σ H fun vs H1 => ∃ i j : Int, vs = [.int i, .int j] ∧ (-(2 ^ 62) ≤ i ∧ i < 2 ^ 62 ∧ -(2 ^ 62) ≤ j ∧ j < 2 ^ 62) ∧ R (Itr i (j - i).toNat) H1) : iRng2 ts σ H R := q
theorem s_rn1 {R : Int → Prop} (h : j < 2 ^ 62) (h' : -(2 ^ 62) ≤ j) (q : R j) : ∃ k : Int, [V.int j] = [.int k] ∧ -(2 ^ 62) ≤ k ∧ k < 2 ^ 62 ∧ R k := ⟨j, rfl, h', h, q⟩
theorem s_rn2 {R : Int → Int → Prop} (h : -(2 ^ 62) ≤ i ∧ i < 2 ^ 62 ∧ -(2 ^ 62) ≤ j ∧ j < 2 ^ 62) (q : R i j) : ∃ k l : Int, [V.int i, V.int j] = [.int k, .int l] ∧ (-(2 ^ 62) ≤ k ∧ k < 2 ^ 62 ∧ -(2 ^ 62) ≤ l ∧ l < 2 ^ 62) ∧ R k l := ⟨i, j, rfl, h, q⟩
theorem s_bm {T : String} {rr : V → List V → Hp → VK → Prop} (q : to σ H fun x H1 => tyV K T x H1 ∧ ts σ H1 fun xs H2 => rr x xs H2 Q) : tBM K T rr to ts σ H Q := q
theorem s_bm0 {T : String} {rr : V → List V → Hp → VK → Prop} (q : to σ H fun x H1 => tyV K T x H1 ∧ rr x [] H1 Q) : tBM0 K T rr to σ H Q := q
theorem s_app {xs : List V} (h : H a = some (.lst xs)) (hz : xs.length < sizeLine) (q : Q .non (upd H a (.lst (xs ++ [y])))) : rAppend (.ref a) [y] H Q := ⟨a, xs, y, rfl, rfl, h, hz, q⟩
end
section
variable {K : PySem.W.Frag} {σ : L2.St} {H : Hp} {Q : VK} {D : Ends} {t u : TS} {i j : Int} {v : V} {a : Addr}
theorem s_getL {xs : List V} (h : SqL K H a xs) (e : atI xs i = some v) (q : Q v H) : rGetL K (.ref a) (.int i) H Q := ⟨a, xs, i, v, rfl, rfl, h, e, q⟩
theorem s_ipA (q : Q (.int (i + j)) H) : ipAdd K (.int i) (.int j) H Q := ⟨i, j, rfl, rfl, q⟩
theorem s_yes {R : Bool → Hp → Prop} (q : R true H) : tYes σ H R := q
theorem sz_of {n : Nat} (h : Nat.ble n 16777216 = true) : n ≤ sizeLine := small_sz (Nat.le_of_ble_eq_true h)
theorem upd_off {p b : Addr} {o : HO} (e : upd H p o b = Option.none) : H b = Option.none := by
  unfold upd at e
  split at e
  · cases e
  · exact e
/-- a statement and the rest, by a word between them -/
theorem s_seqR (I : L2.St → Hp → Prop) (h2 : ∀ σ H, I σ H → u D σ H) (h1 : ∀ N : L2.St → Hp → Prop, (∀ σ H, I σ H → N σ H) → t { D with nx := N } σ H) : tSeq t u D σ H := h1 (u D) h2
end
section
variable {K : PySem.W.Frag} {σ : L2.St} {H H0 : Hp} {Q : VK} {v : V} {vs xs ys : List V} {a b : Addr} {n : Nat} {i m : Int} {o : HO} {g : TG} {gs : TGs} {R : L2.St → Hp → Prop}
theorem s_gTup (h : SqT K H a xs) (hn : xs.length = n) (q : gs xs σ H R) : gTup K n gs (.ref a) σ H R := ⟨a, xs, rfl, h, hn, q⟩
theorem s_gCons (q : g v σ H fun σ' H' => gs vs σ' H' R) : gCons g gs (v :: vs) σ H R := ⟨v, vs, rfl, q⟩
theorem s_gNil (q : R σ H) : gNil [] σ H R := ⟨rfl, q⟩
/-- an item of a written list, all of whose items are alike -/
theorem s_pickP {xs : List V} (P : V → Prop) (h : H a = some (.lst xs)) (h0 : 0 ≤ i) (h1 : i < xs.length) (hP : ∀ x ∈ xs, P x) (q : ∀ x, P x → Q x H) : rIx K (.ref a) (.int i) H Q :=
  s_pick h h0 h1 fun m hm _ => q _ (hP _ (List.getElem_mem hm))
theorem lg (h0 : 0 < m) (h : m < 10 ^ 200) : m.natAbs.log2 < 9000 := by
  have h2 : m.natAbs < 10 ^ 200 := by omega
  exact (Nat.log2_lt (by omega)).mpr (Nat.lt_trans h2 (by decide +kernel))
theorem mulW {i j : Int} (h : i.natAbs < 10 ^ 200) (h' : j.natAbs < 10 ^ 200) : CMulW i j := by
  have z : ∀ n : Nat, n < 10 ^ 200 → n.log2 < 1000 := fun n hn => by
    by_cases h : n = 0
    · rw [h]; decide
    · exact (Nat.log2_lt h).mpr (Nat.lt_trans hn (by decide +kernel))
  have := z _ h
  have := z _ h'
  unfold CMulW
  omega
/-- something new beside the bag -/
theorem bag_new (B : Bag K H0 b ys) (q : ∀ p, H0 p = none → p ≠ b → Bag K (upd H0 p o) b ys → Q (.ref p) (upd (upd H0 p o) b (.lst ys))) : ∀ p, (upd H0 b (.lst ys)) p = none → Q (.ref p) (upd (upd H0 b (.lst ys)) p o) := by
  intro p hp
  have ne : p ≠ b := fun e => by
    rw [e, upd_same] at hp
    cases hp
  rw [upd_ne ne] at hp
  rw [upd_comm (Ne.symm ne)]
  exact q p hp ne (B.same (same_new hp) (by rw [upd_ne (Ne.symm ne)]; exact B.off))
/-- what stands beside the bag -/
theorem Bag.see (B : Bag K H0 b ys) : Same H0 (upd H0 b (.lst ys)) := same_new B.off
end
/-! comprehensions: the new list hidden -/
def PvD (Pv : Nat → List V → Hp → Prop) (D : Addr) : Nat → Hp → Prop := fun i H => ∃ acc Hi, H = upd Hi D (.lst acc) ∧ Hi D = none ∧ acc.length ≤ i ∧ Pv i acc Hi
section
variable {K : PySem.W.Frag} {H1 Hi : Hp} {a D : Addr} {xs acc : List V} {g : TG} {tt : TT} {te : TE} {vs : List Nat} {σ : L2.St} {Qd : Hp → Prop} {i n : Nat} {y : V} {lo : Int}
theorem lcL (hD : H1 D = none) (Pv : Nat → List V → Hp → Prop) (h0 : Pv 0 [] H1) (hl : ∀ i acc Hi, Pv i acc Hi → SqL K Hi a xs)
    (hs : ∀ i x acc Hi, xs[i]? = some x → i < xs.length → Hi D = none → acc.length ≤ i → Pv i acc Hi → g x (wipe σ vs) (upd Hi D (.lst acc)) fun σ2 H2 => wipe σ2 vs = wipe σ vs ∧ tt σ2 H2 fun b H3 =>
      if b = true then te σ2 H3 fun y H4 => ∃ acc, H4 D = some (.lst acc) ∧ acc.length < sizeLine ∧ PvD Pv D (i + 1) (upd H4 D (.lst (acc ++ [y]))) else PvD Pv D (i + 1) H3)
    (hd : ∀ acc Hi, Hi D = none → acc.length ≤ xs.length → Pv xs.length acc Hi → Qd (upd Hi D (.lst acc))) :
    ∃ W : Nat → Nat → Hp → Prop, (∃ m, W 0 m (upd H1 D (.lst []))) ∧ ∀ i m H, W i m H →
      ((Itl K a).stop i H ∧ Qd H) ∨ ((Itl K a).go i H ∧ ∃ Nx : Hp → Prop, (∀ H', Nx H' → ∃ m', m' < m ∧ W (i + 1) m' H') ∧ ∀ x H', (Itl K a).yld i H x H' → g x (wipe σ vs) H' fun σ2 H2 => wipe σ2 vs = wipe σ vs ∧ tt σ2 H2 fun b H3 =>
        if b = true then te σ2 H3 fun y H4 => ∃ acc, H4 D = some (.lst acc) ∧ acc.length < sizeLine ∧ Nx (upd H4 D (.lst (acc ++ [y]))) else Nx H3) := by
  refine lc_list (xs := xs) (PvD Pv D) ⟨[], H1, rfl, hD, Nat.le_refl _, h0⟩ (fun i H _ p => ?_) (fun i x H e p => ?_) fun H p => ?_
  · obtain ⟨acc, Hi, rfl, h1, _, h2⟩ := p
    exact (same_new h1).seq (hl i acc Hi h2)
  · obtain ⟨acc, Hi, rfl, h1, h2, h3⟩ := p
    exact hs i x acc Hi e (List.getElem?_eq_some_iff.mp e).1 h1 h2 h3
  · obtain ⟨acc, Hi, rfl, h1, h2, h3⟩ := p
    exact hd acc Hi h1 h2 h3
theorem lcR (hD : H1 D = none) (Pv : Nat → List V → Hp → Prop) (h0 : Pv 0 [] H1)
    (hs : ∀ i acc Hi, i < n → Hi D = none → acc.length ≤ i → Pv i acc Hi → g (.int (lo + i)) (wipe σ vs) (upd Hi D (.lst acc)) fun σ2 H2 => wipe σ2 vs = wipe σ vs ∧ tt σ2 H2 fun b H3 =>
      if b = true then te σ2 H3 fun y H4 => ∃ acc, H4 D = some (.lst acc) ∧ acc.length < sizeLine ∧ PvD Pv D (i + 1) (upd H4 D (.lst (acc ++ [y]))) else PvD Pv D (i + 1) H3)
    (hd : ∀ acc Hi, Hi D = none → acc.length ≤ n → Pv n acc Hi → Qd (upd Hi D (.lst acc))) :
    ∃ W : Nat → Nat → Hp → Prop, (∃ m, W 0 m (upd H1 D (.lst []))) ∧ ∀ i m H, W i m H →
      ((Itr lo n).stop i H ∧ Qd H) ∨ ((Itr lo n).go i H ∧ ∃ Nx : Hp → Prop, (∀ H', Nx H' → ∃ m', m' < m ∧ W (i + 1) m' H') ∧ ∀ x H', (Itr lo n).yld i H x H' → g x (wipe σ vs) H' fun σ2 H2 => wipe σ2 vs = wipe σ vs ∧ tt σ2 H2 fun b H3 =>
        if b = true then te σ2 H3 fun y H4 => ∃ acc, H4 D = some (.lst acc) ∧ acc.length < sizeLine ∧ Nx (upd H4 D (.lst (acc ++ [y]))) else Nx H3) := by
  refine lc_range (PvD Pv D) ⟨[], H1, rfl, hD, Nat.le_refl _, h0⟩ (fun i H e p => ?_) fun H p => ?_
  · obtain ⟨acc, Hi, rfl, h1, h2, h3⟩ := p
    exact hs i acc Hi e h1 h2 h3
  · obtain ⟨acc, Hi, rfl, h1, h2, h3⟩ := p
    exact hd acc Hi h1 h2 h3
/-- a turn's end -/
theorem lc_put {Pv : Nat → List V → Hp → Prop} (h : Hi D = none) (hn : acc.length ≤ i) (hz : i < sizeLine) (p : Pv (i + 1) (acc ++ [y]) Hi) :
    ∃ ac, (upd Hi D (.lst acc)) D = some (.lst ac) ∧ ac.length < sizeLine ∧ PvD Pv D (i + 1) (upd (upd Hi D (.lst acc)) D (.lst (ac ++ [y]))) :=
  ⟨acc, upd_same, Nat.lt_of_le_of_lt hn hz, acc ++ [y], Hi, upd_upd, h, by rw [List.length_append, List.length_singleton]; omega, p⟩
theorem lc_no {Pv : Nat → List V → Hp → Prop} (h : Hi D = none) (hn : acc.length ≤ i) (p : Pv (i + 1) acc Hi) : PvD Pv D (i + 1) (upd Hi D (.lst acc)) := ⟨acc, Hi, rfl, h, by omega, p⟩
end
theorem cut_map {α : Type} (f : α → V) (xs : List α) (lo hi : Option Int) : cutV (xs.map f) lo hi = ((xs.drop (HT.sIx xs.length 0 lo)).take (HT.sIx xs.length xs.length hi - HT.sIx xs.length 0 lo)).map f := by
  unfold cutV
  rw [List.length_map, List.map_take, List.map_drop]

/-! room, facts -/
theorem u65 {k : Nat} {A : Around} (r : Room k A) : A.units + 65 < cLine := by have := r.un; omega
theorem u100 {k : Nat} {A : Around} (r : Room k A) : A.units + 100 < cLine := by have := r.un; omega
theorem Cal.mono {P : Program} {w : World} {K : PySem.W.Frag} {mg : Str → Option Value} {base : Heap} {j k n : Nat} {x : Str} {sp : Sp} (c : Cal P w K mg base j x n sp) (h : j ≤ k) : Cal P w K mg base k x n sp := by
  obtain ⟨f, fd, ps, h1, h2, h3, h4, h5⟩ := c.ex
  exact ⟨f, fd, ps, h1, h2.mono h, h3, h4, h5⟩
theorem blt_of {K : PySem.W.Frag} {h : Heap} {mg : Str → Option Value} (X : K.In h) (G : h.Ns mainGlobals mg) (c : ∀ (i : Nat) (f : He.Fa), (bltNames.map He.Fa.free)[i]? = some f → f.ok K = true) : Blt mg := fun x hx => by
  obtain ⟨i, hi, e⟩ := List.getElem_of_mem hx
  exact He.free_ok X G (c i (.free x) (by rw [List.getElem?_map, List.getElem?_eq_getElem hi, e]; rfl))
theorem gi_of {K : PySem.W.Frag} {h : Heap} {mg : Str → Option Value} (X : K.In h) (G : h.Ns mainGlobals mg) {x : Str} {i : Int} (c : (He.Fa.int x i).ok K = true) : ∃ u, mg x = some u ∧ RelV (.int i) u := by
  obtain ⟨t, e⟩ := He.int_ok X G c
  exact ⟨_, e, t, rfl⟩
theorem gs_of {K : PySem.W.Frag} {h : Heap} {mg : Str → Option Value} (X : K.In h) (G : h.Ns mainGlobals mg) {x z : Str} (c : (He.Fa.str x z).ok K = true) : ∃ u, mg x = some u ∧ RelV (.str z) u := by
  obtain ⟨t, e⟩ := He.str_ok X G c
  exact ⟨_, e, t, rfl⟩
end
section
/-- one step of a reading (e: none past a statement's end) -/
local macro_rules
  | `(tactic| walk_at "e") => `(tactic| first
    | with_reducible refine s_ifs ?_
    | with_reducible refine s_test ?_
    | with_reducible refine s_truth ?_
    | with_reducible refine s_op ?_
    | with_reducible refine s_un ?_
    | with_reducible refine s_asg ?_
    | with_reducible refine s_ret ?_
    | with_reducible refine s_next ?_
    | with_reducible refine s_drop ?_
    | with_reducible refine s_c ?_
    | ((with_reducible refine s_var (v := ?v) ?e ?q); case e => exact rfl)
    | with_reducible refine s_name ?_
    | with_reducible refine s_exq ?_
    | with_reducible refine s_cons ?_
    | with_reducible refine s_nil ?_
    | with_reducible refine s_lst ?_
    | with_reducible refine s_tup ?_
    | with_reducible refine s_cb ?_
    | with_reducible refine s_call ?_
    | with_reducible refine s_and ?_
    | with_reducible refine s_or ?_
    | with_reducible refine s_not ?_
    | with_reducible refine s_andV ?_
    | with_reducible refine s_orV ?_
    | with_reducible refine s_notV ?_
    | with_reducible refine s_ife ?_
    | with_reducible refine s_chain ?_
    | with_reducible refine s_addI ?_
    | with_reducible refine s_sub ?_
    | with_reducible refine s_neg ?_
    | with_reducible refine s_eqI ?_
    | with_reducible refine s_eqT ?_
    | with_reducible refine s_eqB ?_
    | with_reducible refine s_eqNI ?_
    | with_reducible refine s_eqIN ?_
    | with_reducible refine s_eqNN ?_
    | with_reducible refine s_neI ?_
    | with_reducible refine s_neT ?_
    | with_reducible refine s_neB ?_
    | with_reducible refine s_lt ?_
    | with_reducible refine s_le ?_
    | with_reducible refine s_gt ?_
    | with_reducible refine s_ge ?_
    | with_reducible refine s_isN ?_
    | with_reducible refine s_isS ?_
    | with_reducible refine s_truB ?_
    | with_reducible refine s_truI ?_
    | with_reducible refine s_truN ?_
    | with_reducible refine s_abs ?_
    | with_reducible refine s_min2 ?_
    | with_reducible refine s_max2 ?_
    | with_reducible refine s_intI ?_
    | with_reducible refine s_intB ?_
    | with_reducible refine s_ifT ?_
    | with_reducible refine s_ifF ?_
    | with_reducible refine s_ifnT ?_
    | with_reducible refine s_ifnF ?_
    | with_reducible refine s_gSub ?_
    | with_reducible refine s_gTup ?_
    | with_reducible refine s_augS ?_
    | ((with_reducible refine s_aug (x := ?v) ?e ?q); case e => exact rfl)
    | with_reducible refine s_yes ?_
    | with_reducible refine s_gCons ?_
    | with_reducible refine s_gNil ?_
    | with_reducible refine s_ipI ?_
    | with_reducible refine s_ipA ?_
    | with_reducible refine s_sl ?_
    | with_reducible refine s_noPart ?_
    | with_reducible refine s_part ?_
    | with_reducible refine s_parte ?_
    | with_reducible refine s_for ?_
    | with_reducible refine s_lc ?_
    | with_reducible refine s_iL ?_
    | with_reducible refine s_iS ?_
    | with_reducible refine s_iT ?_
    | with_reducible refine s_itS ?_
    | with_reducible refine s_iR1 ?_
    | with_reducible refine s_iR2 ?_
    | with_reducible refine s_rg1 ?_
    | with_reducible refine s_rg2 ?_
    | with_reducible refine s_rg1e ?_
    | with_reducible refine s_rg2e ?_
    | with_reducible refine s_lrg ?_
    | with_reducible refine s_bm ?_
    | with_reducible refine s_bm0 ?_
    | with_reducible refine s_retN ?_)
  | `(tactic| walk_at "s") => `(tactic| first
    | with_reducible refine s_seq ?_
    | walk_at "e")

def t_bag (K : PySem.W.Frag) : TS :=
  (tRet (tLst (tCons (tC (.int 0)) (tCons (tC (.int 1234567891)) (tCons (tC (.int 0)) (tCons (tLc (iList K (tSl (rCut K) (tVar 0) tNoPart (tPart (tC (.int 63))))) (gName 1) tYes (tCB rAbs (tCons (tVar 1) tNil)) [1]) tNil))))))

theorem int_at {ms : List Int} {x : V} {i : Nat} (e : (ms.map V.int)[i]? = some x) : ∃ m, x = .int m ∧ ms[i]? = some m := by
  rw [List.getElem?_map] at e
  cases h : ms[i]? with
  | none =>
    rw [h] at e
    cases e
  | some m =>
    rw [h] at e
    exact ⟨m, (Option.some.inj e).symm, rfl⟩
theorem pu_bag {K : PySem.W.Frag} (vs : List V) (H : Hp) (Q : VK) (E : XK) (h : sp_bag K vs H Q E) : t_bag K { nx := fun _ H' => Q .non H', rt := Q } (start ["_law_script", "_law_cell"] vs) H := by
  obtain ⟨x, rfl, a, ns, rfl, hS, hQ⟩ := h
  unfold t_bag
  repeat' walk_at "s"
  refine s_cutL hS fun p hp => ?_
  rw [cut_map]
  generalize hms : ((ns.drop (HT.sIx ns.length 0 none)).take (HT.sIx ns.length ns.length (some 63) - HT.sIx ns.length 0 none)) = ms
  have hml : ms.length ≤ 63 := by
    rw [← hms, List.length_take]
    have e : HT.sIx ns.length ns.length (some 63) ≤ 63 := by
      rw [show (some (63 : Int)) = some ((63 : Nat) : Int) from rfl, HT.sIx_nat]
      omega
    omega
  refine s_itL (SqL.of upd_same) ?_
  intro D hD
  refine lcL (xs := ms.map V.int) hD (fun i acc Hi => Hi = upd H p (.lst (ms.map V.int)) ∧ ∃ ks : List Int, acc = ks.map V.int ∧ ∀ m ∈ ks, 0 ≤ m) ⟨rfl, [], rfl, fun _ z => nomatch z⟩ (fun i acc Hi z => ?_) (fun i x acc Hi e hi hn hl z => ?_) fun acc Hi hn hl z => ?_
  · rw [z.1]
    exact SqL.of upd_same
  · obtain ⟨rfl, ks, rfl, hk⟩ := z
    obtain ⟨m, rfl, _⟩ := int_at e
    walk_at "s"
    refine ⟨rfl, ?_⟩
    repeat' walk_at "s"
    rw [List.length_map] at hi
    refine lc_put hn hl (by rw [sizeLine_eq]; omega) ⟨rfl, ks ++ [if m < 0 then -m else m], by rw [List.map_append]; rfl, fun q hq => ?_⟩
    rcases List.mem_append.mp hq with h1 | h1
    · exact hk q h1
    · rcases List.mem_singleton.mp h1 with rfl
      split <;> omega
  · obtain ⟨rfl, ks, rfl, hk⟩ := z
    rw [List.length_map, List.length_map] at hl
    repeat' walk_at "s"
    refine ⟨sz_of rfl, fun b hb => ?_⟩
    refine hQ _ b _ ((same_new hp).trans (same_new hn)) (upd_off (upd_off hb)) ⟨hb, D, 0, 1234567891, 0, ks, rfl, SqL.of upd_same, hk, by omega, by omega, by omega, by omega, by omega⟩
def t_take (K : PySem.W.Frag) : TS :=
  (tSeq (tIfS (tTest (tOp (rSame K) (tOp (rIx K) (tVar 0) (tC (.int 0))) (tC (.int 0)))) (tSeq (tAsg (tC (.int 0)) (gName 2))
  (tSeq (tIfS (tTest (tOp rLess (tOp (rIx K) (tVar 0) (tC (.int 2))) (tCB (rLen K) (tCons (tOp (rIx K) (tVar 0) (tC (.int 3))) tNil)))) (tAsg (tOp (rIx K) (tOp (rIx K) (tVar 0) (tC (.int 3))) (tOp (rIx K) (tVar 0) (tC (.int 2)))) (gName 2)) tNext)
  (tSeq (tAugS (tVar 0) (tC (.int 2)) (tC (.int 1)) (rGetL K) (ipAdd K) rSetL)
  (tSeq (tIfS (tTest (tOp rMoreE (tVar 2) (tC (.int 1000000000000000000)))) (tAsg (tVar 2) (gSub (tVar 0) (tC (.int 0)) rSetL)) tNext)
  (tAsg (tOp rMod (tOp (rPlus K) (tOp (rPlus K) (tOp rTimes (tOp (rIx K) (tVar 0) (tC (.int 1))) (tC (.int 48271))) (tOp rMod (tVar 2) (tC (.int 2147483647)))) (tOp rTimes (tC (.int 7919)) (tOp (rIx K) (tVar 0) (tC (.int 2))))) (tC (.int 2147483647))) (gSub (tVar 0) (tC (.int 1)) rSetL)))))) tNext)
  (tSeq (tIfS (tTest (tOp rMore (tOp (rIx K) (tVar 0) (tC (.int 0))) (tC (.int 0)))) (tSeq (tAsg (tOp rMod (tOp (rIx K) (tVar 0) (tC (.int 0))) (tVar 1)) (gName 3))
  (tSeq (tAsg (tOp rDiv (tOp (rIx K) (tVar 0) (tC (.int 0))) (tVar 1)) (gSub (tVar 0) (tC (.int 0)) rSetL))
  (tRet (tVar 3)))) tNext)
  (tSeq (tAsg (tOp rMod (tOp rTimes (tOp (rPlus K) (tOp (rIx K) (tVar 0) (tC (.int 1))) (tC (.int 1))) (tC (.int 39373))) (tC (.int 1000000007))) (gName 4))
  (tSeq (tAsg (tOp rMod (tOp rTimes (tOp rMod (tOp rTimes (tVar 4) (tVar 4)) (tC (.int 998244353))) (tC (.int 30011))) (tC (.int 998244353))) (gName 5))
  (tSeq (tIfS (tTest (tOp rMore (tVar 1) (tC (.int 1000000)))) (tRet (tOp rMod (tOp (rPlus K) (tOp rTimes (tVar 5) (tC (.int 1000000007))) (tVar 4)) (tVar 1))) tNext)
  (tRet (tOp rMod (tOp rDiv (tVar 5) (tC (.int 7))) (tVar 1))))))))

theorem pu_take {K : PySem.W.Frag} (vs : List V) (H : Hp) (Q : VK) (E : XK) (h : sp_take K vs H Q E) : t_take K { nx := fun _ H' => Q .non H', rt := Q } (start ["_law_bag_here", "_law_many", "_law_cell", "_law_value", "_law_first", "_law_second"] vs) H := by
  obtain ⟨x, y, rfl, b, H0, xs, m, rfl, rfl, rfl, B, hm, hl, hQ⟩ := h
  obtain ⟨off, c, a0, a1, a2, ns, rfl, hS, hn, hns, h0, h1, h1', h2⟩ := B
  unfold t_take
  refine s_seqR (fun σ H => ∃ x2 a0 a1 a2, σ = [some (.ref b), some (.int m), x2, none, none, none] ∧ H = upd H0 b (.lst (bagV c a0 a1 a2)) ∧ 0 ≤ a0 ∧ 0 ≤ a1 ∧ a1 < 2147483647 ∧ 0 ≤ a2) (fun σ H z => ?_) fun N hN => ?_
  · obtain ⟨x2, a0, a1, a2, rfl, rfl, h0, h1, h1', h2⟩ := z
    have bag : ∀ {a0 a1 a2 : Int}, 0 ≤ a0 → 0 ≤ a1 → a1 < 2147483647 → 0 ≤ a2 → Bag K H0 b (bagV c a0 a1 a2) := fun h0 h1 h1' h2 => ⟨off, c, _, _, _, ns, rfl, hS, hn, hns, h0, h1, h1', h2⟩
    repeat' walk_at "s"
    refine s_ixL (SqL.of upd_same) rfl ?_
    repeat' walk_at "s"
    refine s_if (fun hp => ?_) fun hp => ?_
    · repeat' walk_at "s"
      refine s_ixL (SqL.of upd_same) rfl ?_
      repeat' walk_at "s"
      refine s_mod hm ?_
      repeat' walk_at "s"
      refine s_ixL (SqL.of upd_same) rfl ?_
      repeat' walk_at "s"
      refine s_div ⟨hm, hl⟩ ?_
      repeat' walk_at "s"
      refine s_setL upd_same rfl ?_
      rw [upd_upd]
      repeat' walk_at "s"
      exact hQ _ _ (Int.emod_nonneg _ (by omega)) (Int.emod_lt_of_pos _ hm) (bag (Int.ediv_nonneg h0 (by omega)) h1 h1' h2)
    · repeat' walk_at "s"
      refine s_ixL (SqL.of upd_same) rfl ?_
      repeat' walk_at "s"
      refine s_mulC (.inr ⟨by decide, by decide⟩) ?_
      repeat' walk_at "s"
      refine s_mod (by decide) ?_
      generalize hf : (a1 + 1) * 39373 % 1000000007 = f
      have f0 : 0 ≤ f := by omega
      have f1 : f < 1000000007 := by omega
      repeat' walk_at "s"
      refine s_mulC (.inr ⟨by omega, by omega⟩) ?_
      repeat' walk_at "s"
      refine s_mod (by decide) ?_
      repeat' walk_at "s"
      refine s_mulC (.inr ⟨by decide, by decide⟩) ?_
      repeat' walk_at "s"
      refine s_mod (by decide) ?_
      generalize hg : f * f % 998244353 * 30011 % 998244353 = g
      have g0 : 0 ≤ g := by omega
      have g1 : g < 998244353 := by omega
      repeat' walk_at "s"
      refine s_if (fun hp => ?_) fun hp => ?_
      · repeat' walk_at "s"
        refine s_mulC (.inr ⟨by decide, by decide⟩) ?_
        repeat' walk_at "s"
        refine s_mod hm ?_
        repeat' walk_at "s"
        exact hQ _ _ (Int.emod_nonneg _ (by omega)) (Int.emod_lt_of_pos _ hm) (bag h0 h1 h1' h2)
      · repeat' walk_at "s"
        refine s_div ⟨by decide, by decide⟩ ?_
        repeat' walk_at "s"
        refine s_mod hm ?_
        repeat' walk_at "s"
        exact hQ _ _ (Int.emod_nonneg _ (by omega)) (Int.emod_lt_of_pos _ hm) (bag h0 h1 h1' h2)
  · repeat' walk_at "s"
    refine s_ixL (SqL.of upd_same) rfl ?_
    repeat' walk_at "s"
    refine s_if (fun hp => ?_) fun hp => ?_
    · walk_at "s"
      repeat' walk_at "e"
      with_reducible refine s_seqR (fun σ H => ∃ d : Int, 0 ≤ d ∧ σ = [some (.ref b), some (.int m), some (.int d), none, none, none] ∧ H = upd H0 b (.lst (bagV c a0 a1 a2))) (fun σ H z => ?_) fun N2 hN2 => ?_
      · obtain ⟨d, hd, rfl, rfl⟩ := z
        repeat' walk_at "s"
        refine s_getL (SqL.of upd_same) rfl ?_
        repeat' walk_at "s"
        refine s_setL upd_same rfl ?_
        rw [upd_upd]
        with_reducible refine s_seqR (fun σ H => ∃ a0 : Int, 0 ≤ a0 ∧ σ = [some (.ref b), some (.int m), some (.int d), none, none, none] ∧ H = upd H0 b (.lst (bagV c a0 a1 (a2 + 1)))) (fun σ H z => ?_) fun N2 hN2 => ?_
        · obtain ⟨a0, h0, rfl, rfl⟩ := z
          repeat' walk_at "s"
          refine s_ixL (SqL.of upd_same) rfl ?_
          repeat' walk_at "s"
          refine s_mulC (.inr ⟨by decide, by decide⟩) ?_
          repeat' walk_at "s"
          refine s_mod (by decide) ?_
          repeat' walk_at "s"
          refine s_ixL (SqL.of upd_same) rfl ?_
          repeat' walk_at "s"
          refine s_mulC (.inl ⟨by decide, by decide⟩) ?_
          repeat' walk_at "s"
          refine s_mod (by decide) ?_
          repeat' walk_at "s"
          refine s_setL upd_same rfl ?_
          rw [upd_upd]
          exact hN _ _ ⟨_, _, _, _, rfl, rfl, h0, by omega, by omega, by omega⟩
        · repeat' walk_at "s"
          refine s_if (fun hp => ?_) fun hp => ?_
          · repeat' walk_at "s"
            refine s_setL upd_same rfl ?_
            rw [upd_upd]
            exact hN2 _ _ ⟨d, hd, rfl, rfl⟩
          · repeat' walk_at "s"
            exact hN2 _ _ ⟨a0, h0, rfl, rfl⟩
      · repeat' walk_at "s"
        refine s_ixL (SqL.of upd_same) rfl ?_
        repeat' walk_at "s"
        refine s_ixL (SqL.of upd_same) rfl ?_
        repeat' walk_at "s"
        have hS' : SqL K (upd H0 b (.lst (bagV c a0 a1 a2))) c (ns.map V.int) := (same_new off).seq hS
        refine s_lenL hS' ?_
        repeat' walk_at "s"
        rw [List.length_map]
        refine s_if (fun hp => ?_) fun hp => ?_
        · repeat' walk_at "s"
          refine s_ixL (SqL.of upd_same) rfl ?_
          repeat' walk_at "s"
          refine s_ixL (SqL.of upd_same) rfl ?_
          repeat' walk_at "s"
          obtain ⟨q, rfl⟩ : ∃ q : Nat, a2 = (q : Int) := ⟨a2.toNat, by omega⟩
          have hq : q < ns.length := by omega
          refine s_ixL (v := .int ns[q]) hS' (atI_nat (by rw [List.getElem?_map, List.getElem?_eq_getElem hq]; rfl)) ?_
          repeat' walk_at "s"
          exact hN2 _ _ ⟨ns[q], hn _ (List.getElem_mem hq), rfl, rfl⟩
        · repeat' walk_at "s"
          exact hN2 _ _ ⟨0, by omega, rfl, rfl⟩
    · repeat' walk_at "s"
      exact hN _ _ ⟨_, _, _, _, rfl, rfl, h0, h1, h1', h2⟩
def t_alike (K : PySem.W.Frag) : TS :=
  (tRet (tAndV (tOp (rSame K) (tVar 0) (tVar 1)) (tOp (rSame K) (tCB (rRepr K) (tCons (tVar 0) tNil)) (tCB (rRepr K) (tCons (tVar 1) tNil)))))

theorem eqv_self {d : PyData} (h : SeqAt.shaped d = true) : PyData.eqv d d = true := by
  refine PySem.SeqAt.eqv_refl d ?_
  unfold SeqAt.shaped at h
  exact (Bool.and_eq_true_iff.mp h).1
theorem pu_alike {K : PySem.W.Frag} (vs : List V) (H : Hp) (Q : VK) (E : XK) (h : sp_alike K vs H Q E) : t_alike K { nx := fun _ H' => Q .non H', rt := Q } (start ["_law_found", "_law_due"] vs) H := by
  obtain ⟨x, y, rfl, d, h1, h2, hn, hQ⟩ := h
  unfold t_alike
  have first : ∀ R : VK, R (.bl true) H → rSame K x y H R := fun R q => s_eqD h1 h2 hn.sh hn.sh (by rw [eqv_self hn.sh]; exact q)
  repeat' walk_at "s"
  refine first _ ?_
  repeat' walk_at "s"
  refine ⟨x, d, rfl, h1, hn.sh, hn.sw, hn.sz, ?_⟩
  repeat' walk_at "s"
  refine ⟨y, d, rfl, h2, hn.sh, hn.sw, hn.sz, ?_⟩
  repeat' walk_at "s"
  rw [decide_eq_true rfl]
  exact hQ

/-! ### the bag outermost, the rest grows under it -/
/-- integers in a row -/
def rgI (i j : Int) : List Int := (List.range (j - i).toNat).map fun k => i + (k : Nat)
theorem rgV_eq (i j : Int) : rgV i j = (rgI i j).map V.int := by
  unfold rgV rgI
  rw [List.map_map]
  rfl
section
variable {K : PySem.W.Frag} {H H0 : Hp} {Q : VK} {E : XK} {v : V} {vs xs ys acc : List V} {a b D : Addr} {n : Nat} {i j m : Int} {o : HO} {ns : List Int} {σ : L2.St} {tt : TT}
theorem s_bag (h : SqL K H a (ns.map V.int)) (q : ∀ H0 b xs, Same H H0 → Bag K H0 b xs → Q (.ref b) (upd H0 b (.lst xs))) : Fr (sp_bag K) [.ref a] H Q E :=
  s_all ⟨_, rfl, a, ns, rfl, h, fun H0 b xs e _ B => q H0 b xs e B⟩
/-- a new object beside the bag -/
theorem newB {C : Prop} (B : Bag K H0 b ys) (hC : C) (q : ∀ p H', Same H0 H' → H' p = some o → Bag K H' b ys → Q (.ref p) (upd H' b (.lst ys))) : NewO C o (upd H0 b (.lst ys)) Q :=
  ⟨hC, bag_new B fun p hp _ B' => q p _ (same_new hp) upd_same B'⟩
theorem newR {C : Prop} (B : Bag K H0 b ys) (hC : C) (q : ∀ p H', Same H0 H' → H' p = some (.lst ((rgI i j).map V.int)) → Bag K H' b ys → Q (.ref p) (upd H' b (.lst ys))) : NewO C (.lst (rgV i j)) (upd H0 b (.lst ys)) Q := by
  rw [rgV_eq]
  exact newB B hC q
theorem addB {zs : List V} {p1 p2 : Addr} (B : Bag K H0 b ys) (h1 : H0 p1 = some (.lst xs)) (h2 : H0 p2 = some (.lst zs)) (hz : xs.length + zs.length ≤ 16777216) (q : ∀ p H', Same H0 H' → H' p = some (.lst (xs ++ zs)) → Bag K H' b ys → Q (.ref p) (upd H' b (.lst ys))) : rPlus K (.ref p1) (.ref p2) (upd H0 b (.lst ys)) Q :=
  s_addL (B.see _ _ h1) (B.see _ _ h2) (small_sz hz) (newB (C := True) B trivial q).2
theorem doneB (B : Bag K H0 b ys) (hD : (upd H0 b (.lst ys)) D = none) (q : ∀ H', Same H0 H' → H' D = some o → Bag K H' b ys → Q (.ref D) (upd H' b (.lst ys))) : DoneC Q D (upd (upd H0 b (.lst ys)) D o) := by
  have ne : D ≠ b := fun e => by
    rw [e, upd_same] at hD
    cases hD
  rw [upd_ne ne] at hD
  show Q (.ref D) (upd (upd H0 b (.lst ys)) D o)
  rw [upd_comm (Ne.symm ne)]
  exact q _ (same_new hD) upd_same (B.same (same_new hD) (by rw [upd_ne (Ne.symm ne)]; exact B.off))
/-- a callee that does not see the bag -/
theorem s_hid {sp : Sp} (B : Bag K H0 b ys) (q : sp vs H0 (fun v H' => H' b = none → Q v (upd H' b (.lst ys))) fun c d H' => H' b = none → E c d (upd H' b (.lst ys))) : Fr sp vs (upd H0 b (.lst ys)) Q E := s_but B.off q
end
end
section
/-! ### texts as lists of code points -/
def tx (l : List Nat) : Str := ⟨l.toArray⟩
theorem tx_len (l : List Nat) : (tx l).length = l.length := by
  show l.toArray.size = _
  simp
theorem tx_list (l : List Nat) : (tx l).cps.toList = l := rfl
theorem tx_app (l k : List Nat) : tx l ++ tx k = tx (l ++ k) := by
  show (⟨l.toArray ++ k.toArray⟩ : Str) = ⟨(l ++ k).toArray⟩
  simp
theorem tx_inj {l k : List Nat} : tx l = tx k ↔ l = k := by
  constructor
  · intro h
    have e : (tx l).cps.toList = (tx k).cps.toList := by rw [h]
    exact e
  · intro h
    rw [h]
theorem tx_one (c : Nat) : (⟨#[c]⟩ : Str) = tx [c] := rfl
theorem tx_rev (l : List Nat) : revS (tx l) = tx l.reverse := by
  show (⟨l.toArray.reverse⟩ : Str) = ⟨l.reverse.toArray⟩
  simp
theorem tx_mul (l : List Nat) (n : Int) : Txt.mul (tx l) n = tx (List.replicate n.toNat l).flatten := by
  unfold Txt.mul
  by_cases h : n < 1
  · rw [if_pos h, show n.toNat = 0 by omega]
    rfl
  · rw [if_neg h]
    by_cases h2 : (n == 1 || (tx l).length == 0) = true
    · rw [if_pos h2]
      rcases Bool.or_eq_true_iff.mp h2 with e | e
      · have e1 : n = 1 := eq_of_beq e
        subst e1
        show tx l = tx (List.replicate 1 l).flatten
        simp
      · have e1 : l.length = 0 := by
          rw [← tx_len]
          exact eq_of_beq e
        have e2 : l = [] := List.length_eq_zero_iff.mp e1
        subst e2
        simp
    · rw [if_neg h2]
      have key : ∀ (m : Nat) (acc : Array Nat), (List.replicate m l.toArray).foldl (· ++ ·) acc = (acc.toList ++ (List.replicate m l).flatten).toArray := by
        intro m
        induction m with
        | zero => intro acc; simp
        | succ m ih =>
          intro acc
          rw [List.replicate_succ, List.foldl_cons, ih]
          simp [List.replicate_succ]
      show (⟨(List.replicate n.toNat l.toArray).foldl (· ++ ·) #[]⟩ : Str) = _
      rw [key]
      simp [tx]
theorem mul_ok {l : List Nat} {n : Int} (h : l.length * n.toNat ≤ 16777216) (h0 : -(2 ^ 63) ≤ n) (hn : n < 2 ^ 63) : MulOk (tx l) n := by
  refine ⟨?_, fun h1 h2 => ?_, fun h1 h2 => ?_⟩
  · rw [Bool.or_eq_false_iff]
    exact ⟨decide_eq_false (by omega), decide_eq_false (by omega)⟩
  · rw [tx_len]
    intro z
    have p : 0 < n := by omega
    have z3 : (2 ^ 63 - 1 : Int) / n < l.length := z
    have z4 : (2 ^ 63 - 1 : Int) < l.length * n := by
      have := (Int.ediv_lt_iff_lt_mul p).mp z3
      omega
    have e : (l.length : Int) * n = ((l.length * n.toNat : Nat) : Int) := by
      rw [Int.natCast_mul, Int.toNat_of_nonneg (by omega)]
    rw [e] at z4
    omega
  · rw [tx_len]
    exact decide_eq_false (by rw [sizeLine_eq]; omega)
theorem tx_cut (l : List Nat) (lo hi : Option Int) : cutS (tx l) lo hi = tx ((l.drop (HT.sIx l.length 0 lo)).take (HT.sIx l.length l.length hi - HT.sIx l.length 0 lo)) := by
  unfold cutS
  rw [tx_len]
  rfl
theorem cut_to (l : List Nat) {k : Int} (h : 0 ≤ k) : cutS (tx l) none (some k) = tx (l.take k.toNat) := by
  obtain ⟨m, rfl⟩ : ∃ m : Nat, k = m := ⟨k.toNat, by omega⟩
  rw [tx_cut, HT.sIx_nat, HT.sIx_none, List.drop_zero, Nat.sub_zero, Int.toNat_natCast]
  congr 1
  by_cases h : m ≤ l.length
  · rw [Nat.min_eq_left h]
  · rw [Nat.min_eq_right (by omega), List.take_of_length_le (Nat.le_refl _), List.take_of_length_le (by omega)]
theorem cut_from (l : List Nat) {k : Int} (h : 0 ≤ k) : cutS (tx l) (some k) none = tx (l.drop k.toNat) := by
  obtain ⟨m, rfl⟩ : ∃ m : Nat, k = m := ⟨k.toNat, by omega⟩
  rw [tx_cut, HT.sIx_nat, HT.sIx_none, Int.toNat_natCast]
  congr 1
  by_cases h : m ≤ l.length
  · rw [Nat.min_eq_left h, List.take_of_length_le (by rw [List.length_drop]; omega)]
  · rw [Nat.min_eq_right (by omega), List.drop_of_length_le (Nat.le_refl _), List.drop_of_length_le (by omega)]
    simp
theorem cut_mid (l : List Nat) {i j : Int} (h : 0 ≤ i) (h' : 0 ≤ j) : cutS (tx l) (some i) (some j) = tx ((l.drop i.toNat).take (j.toNat - i.toNat)) := by
  obtain ⟨m, rfl⟩ : ∃ m : Nat, i = m := ⟨i.toNat, by omega⟩
  obtain ⟨n, rfl⟩ : ∃ m : Nat, j = m := ⟨j.toNat, by omega⟩
  rw [tx_cut, HT.sIx_nat, HT.sIx_nat, Int.toNat_natCast, Int.toNat_natCast]
  congr 1
  by_cases h : m ≤ l.length
  · rw [Nat.min_eq_left h]
    by_cases h2 : n ≤ l.length
    · rw [Nat.min_eq_left h2]
    · rw [Nat.min_eq_right (by omega : l.length ≤ n), List.take_of_length_le (by rw [List.length_drop]; omega), List.take_of_length_le (by rw [List.length_drop]; omega)]
  · rw [Nat.min_eq_right (by omega : l.length ≤ m), List.drop_of_length_le (Nat.le_refl _), List.drop_of_length_le (by omega : l.length ≤ m)]
    simp
theorem cut_last (l : List Nat) : cutS (tx l) none (some (-1)) = tx l.dropLast := by
  rw [tx_cut, HT.sIx_none, List.drop_zero, Nat.sub_zero, List.dropLast_eq_take]
  congr 1
  have e : HT.sIx l.length l.length (some (-1)) = l.length - 1 := by
    show (if (-1 : Int) < 0 then ((-1 : Int) + (l.length : Int)).toNat else min (-1 : Int).toNat l.length) = _
    rw [if_pos (by decide)]
    omega
  rw [e]
theorem tx_join (ls : List (List Nat)) : Txt.join (tx []) (ls.map tx) = tx ls.flatten := by
  have key : ∀ (ks : List (List Nat)) (acc : List Nat), (ks.map tx).foldl (fun acc p => acc ++ (tx []).cps ++ p.cps) acc.toArray = (acc ++ ks.flatten).toArray := by
    intro ks
    induction ks with
    | nil => intro acc; simp
    | cons k ks ih =>
      intro acc
      rw [List.map_cons, List.foldl_cons]
      have e : acc.toArray ++ (tx []).cps ++ (tx k).cps = (acc ++ k).toArray := by
        show acc.toArray ++ ([] : List Nat).toArray ++ k.toArray = _
        simp
      rw [e, ih]
      simp
  cases ls with
  | nil => rfl
  | cons k ks =>
    have h := key ks k
    rw [List.flatten_cons]
    show (⟨_⟩ : Str) = _
    unfold tx at h ⊢
    exact congrArg Str.mk h
/-- small letters alone -/
def Low (l : List Nat) : Prop := ∀ c ∈ l, 97 ≤ c ∧ c ≤ 122
theorem Low.nil : Low [] := fun _ h => nomatch h
theorem Low.app {l k : List Nat} (a : Low l) (b : Low k) : Low (l ++ k) := fun c h => (List.mem_append.mp h).elim (a c) (b c)
theorem Low.take {l : List Nat} (a : Low l) (n : Nat) : Low (l.take n) := fun c h => a c (List.mem_of_mem_take h)
theorem Low.drop {l : List Nat} (a : Low l) (n : Nat) : Low (l.drop n) := fun c h => a c (List.mem_of_mem_drop h)
theorem Low.last {l : List Nat} (a : Low l) : Low l.dropLast := fun c h => a c (List.dropLast_subset l h)
theorem Low.rev {l : List Nat} (a : Low l) : Low l.reverse := fun c h => a c (List.mem_reverse.mp h)
theorem Low.rep {l : List Nat} (a : Low l) (n : Nat) : Low (List.replicate n l).flatten := fun c h => by
  obtain ⟨k, hk, hc⟩ := List.mem_flatten.mp h
  exact a c (by rw [← List.eq_of_mem_replicate hk]; exact hc)
theorem rep_len (n : Nat) (l : List Nat) : (List.replicate n l).flatten.length = n * l.length := by
  induction n with
  | zero => simp
  | succ n ih =>
    rw [List.replicate_succ, List.flatten_cons, List.length_append, ih, Nat.add_mul]
    omega
theorem nice_str {l : List Nat} (h : Low l) (hz : l.length ≤ 1000000) : Nice (.str (tx l)) :=
  (bd_str (n := l.length) (by rw [tx_len]; exact Nat.le_refl _) fun c hc => by have := h c hc; omega).nice (by omega) (by omega)
section
variable {K : PySem.W.Frag} {σ : L2.St} {H : Hp} {Q : VK} {l k : List Nat} {i j n : Int} {te : TE} {v : V} {m : Nat}
theorem s_addX (h : l.length + k.length ≤ 16777216) (q : Q (.str (tx (l ++ k))) H) : rPlus K (.str (tx l)) (.str (tx k)) H Q := s_addT (by rw [tx_len, tx_len, sizeLine_eq]; exact h) (by rw [tx_app]; exact q)
theorem s_mulX (h : l.length * n.toNat ≤ 16777216) (h0 : -(2 ^ 63) ≤ n) (hn : n < 2 ^ 63) (q : Q (.str (tx (List.replicate n.toNat l).flatten)) H) : rTimes (.str (tx l)) (.int n) H Q := s_mulT (mul_ok h h0 hn) (by rw [tx_mul]; exact q)
theorem dec_tx (l k : List Nat) : decide (tx l = tx k) = decide (l = k) := decide_eq_decide.mpr tx_inj
theorem s_eqX (q : Q (.bl (decide (l = k))) H) : rSame K (.str (tx l)) (.str (tx k)) H Q := s_eqT (by rw [dec_tx]; exact q)
theorem s_neX (q : Q (.bl (!decide (l = k))) H) : rDiff K (.str (tx l)) (.str (tx k)) H Q := s_neT (by rw [dec_tx]; exact q)
theorem s_lenX (h : l.length ≤ 16777216) (q : Q (.int l.length) H) : rLen K [.str (tx l)] H Q := s_lenS (by rw [tx_len, sizeLine_eq]; exact h) (by rw [tx_len]; exact q)
theorem s_ixX (h : l.length ≤ 16777216) (e : atI l i = some m) (q : Q (.str (tx [m])) H) : rIx K (.str (tx l)) (.int i) H Q := s_ixS (by rw [tx_len, sizeLine_eq]; exact h) e q
theorem s_pickX (h : l.length ≤ 16777216) (h0 : 0 ≤ i) (h1 : i < l.length) (q : ∀ (m : Nat) (hm : m < l.length), i = m → Q (.str (tx [l[m]])) H) : rIx K (.str (tx l)) (.int i) H Q := by
  obtain ⟨m, rfl⟩ : ∃ m : Nat, i = m := ⟨i.toNat, by omega⟩
  exact s_ixX h (atI_nat (List.getElem?_eq_getElem (by omega))) (q m (by omega) rfl)
theorem s_toX (h : l.length ≤ 16777216) (hi : 0 ≤ i) (q : Q (.str (tx (l.take i.toNat))) H) : rCut K (.str (tx l)) none (some i) H Q := .inl ⟨_, rfl, by rw [tx_len, sizeLine_eq]; exact h, by rw [cut_to _ hi]; exact q⟩
theorem s_fromX (h : l.length ≤ 16777216) (hi : 0 ≤ i) (q : Q (.str (tx (l.drop i.toNat))) H) : rCut K (.str (tx l)) (some i) none H Q := .inl ⟨_, rfl, by rw [tx_len, sizeLine_eq]; exact h, by rw [cut_from _ hi]; exact q⟩
theorem s_midX (h : l.length ≤ 16777216) (hi : 0 ≤ i) (hj : 0 ≤ j) (q : Q (.str (tx ((l.drop i.toNat).take (j.toNat - i.toNat)))) H) : rCut K (.str (tx l)) (some i) (some j) H Q := .inl ⟨_, rfl, by rw [tx_len, sizeLine_eq]; exact h, by rw [cut_mid _ hi hj]; exact q⟩
theorem s_lastX (h : l.length ≤ 16777216) (q : Q (.str (tx l.dropLast)) H) : rCut K (.str (tx l)) none (some (-1)) H Q := .inl ⟨_, rfl, by rw [tx_len, sizeLine_eq]; exact h, by rw [cut_last]; exact q⟩
theorem s_revX (q : te σ H fun x H1 => ∃ l, x = .str (tx l) ∧ l.length ≤ 16777216 ∧ Q (.str (tx l.reverse)) H1) (mono : ∀ R R' : VK, (∀ v H, R v H → R' v H) → te σ H R → te σ H R') : tRev K te σ H Q :=
  mono _ _ (fun v H1 h => by
    obtain ⟨l, rfl, hz, q⟩ := h
    exact .inl ⟨tx l, rfl, by rw [tx_len, sizeLine_eq]; exact hz, by rw [tx_rev]; exact q⟩) q
abbrev RevO (K : PySem.W.Frag) (x : V) (H1 : Hp) (Q : VK) : Prop := (∃ z, x = .str z ∧ z.length ≤ sizeLine ∧ Q (.str (revS z)) H1) ∨ (∃ a xs, x = .ref a ∧ SqL K H1 a xs ∧ ∀ p, H1 p = none → Q (.ref p) (upd H1 p (.lst xs.reverse)))
theorem s_rev0 (q : te σ H fun x H1 => RevO K x H1 Q) : tRev K te σ H Q := q
theorem rev_X (h : l.length ≤ 16777216) (q : Q (.str (tx l.reverse)) H) : RevO K (.str (tx l)) H Q := .inl ⟨tx l, rfl, by rw [tx_len, sizeLine_eq]; exact h, by rw [tx_rev]; exact q⟩
theorem rev_L {a : Addr} {xs : List V} (h : SqL K H a xs) (q : NewO True (.lst xs.reverse) H Q) : RevO K (.ref a) H Q := .inr ⟨a, xs, rfl, h, q.2⟩
theorem s_m1 {rr : V → List V → Hp → VK → Prop} {to te : TE} (q : to σ H fun x H1 => (∃ a, x = .str a) ∧ te σ H1 fun y H2 => rr x [y] H2 Q) : tM1 rr to te σ H Q := q
theorem s_join {p : Addr} {ls : List (List Nat)} (h : SqL K H p (ls.map fun l => V.str (tx l))) (hz : (ls.map List.length).sum ≤ 16777216) (q : Q (.str (tx ls.flatten)) H) : rJoin K (.str (tx [])) [.ref p] H Q := by
  refine ⟨_, p, ls.map tx, rfl, rfl, .inl (by rw [List.map_map]; exact h), ?_, by rw [tx_join]; exact q⟩
  rw [List.map_map, tx_len]
  have e : (Str.length ∘ tx) = List.length := funext fun l => tx_len l
  rw [e]
  simpa using hz
end
section
variable {K : PySem.W.Frag} {σ : L2.St} {ta : TA} {v v' : V} {n k : Nat} {En : Ends}
theorem s_par (q : ta σ H fun vs H1 => ∃ v v', vs = [v, v'] ∧ En.nx ((σ.set n (some v)).set k (some v')) H1) : tPar n k ta En σ H := q
theorem s_two {R : V → V → Prop} (q : R v v') : ∃ x y, [v, v'] = [x, y] ∧ R x y := ⟨v, v', rfl, q⟩
theorem s_isstr {z : Str} {R : Prop} (q : R) : (∃ a, V.str z = .str a) ∧ R := ⟨⟨z, rfl⟩, q⟩
end
/-! walks over a text -/
section
variable {K : PySem.W.Frag} {H1 Hi : Hp} {D : Addr} {l : List Nat} {acc : List V} {g : TG} {tt : TT} {te : TE} {vs : List Nat} {σ : L2.St} {Qd : Hp → Prop} {H : Hp} {tb : TS} {En : Ends}
theorem tx_at {l : List Nat} {i c : Nat} (h : (tx l).cps[i]? = some c) : l[i]? = some c := by
  have e : (tx l).cps[i]? = l[i]? := by
    show l.toArray[i]? = l[i]?
    simp
  rw [← e]
  exact h
theorem lcX (hD : H1 D = none) (Pv : Nat → List V → Hp → Prop) (h0 : Pv 0 [] H1)
    (hs : ∀ i d acc Hi, l[i]? = some d → Hi D = none → acc.length ≤ i → Pv i acc Hi → g (.str (tx [d])) (wipe σ vs) (upd Hi D (.lst acc)) fun σ2 H2 => wipe σ2 vs = wipe σ vs ∧ tt σ2 H2 fun b H3 =>
      if b = true then te σ2 H3 fun y H4 => ∃ acc, H4 D = some (.lst acc) ∧ acc.length < sizeLine ∧ PvD Pv D (i + 1) (upd H4 D (.lst (acc ++ [y]))) else PvD Pv D (i + 1) H3)
    (hd : ∀ acc Hi, Hi D = none → acc.length ≤ l.length → Pv l.length acc Hi → Qd (upd Hi D (.lst acc))) :
    ∃ W : Nat → Nat → Hp → Prop, (∃ m, W 0 m (upd H1 D (.lst []))) ∧ ∀ i m H, W i m H →
      ((Its (tx l)).stop i H ∧ Qd H) ∨ ((Its (tx l)).go i H ∧ ∃ Nx : Hp → Prop, (∀ H', Nx H' → ∃ m', m' < m ∧ W (i + 1) m' H') ∧ ∀ x H', (Its (tx l)).yld i H x H' → g x (wipe σ vs) H' fun σ2 H2 => wipe σ2 vs = wipe σ vs ∧ tt σ2 H2 fun b H3 =>
        if b = true then te σ2 H3 fun y H4 => ∃ acc, H4 D = some (.lst acc) ∧ acc.length < sizeLine ∧ Nx (upd H4 D (.lst (acc ++ [y]))) else Nx H3) := by
  have hsz : (tx l).cps.size = l.length := tx_len l
  refine ⟨fun i m H => m = l.length - i ∧ i ≤ l.length ∧ PvD Pv D i H, ⟨l.length, by simp, Nat.zero_le _, [], H1, rfl, hD, Nat.le_refl _, h0⟩, ?_⟩
  rintro i m H ⟨rfl, hi, acc, Hi, rfl, p1, p2, p3⟩
  by_cases hlt : i < l.length
  · refine .inr ⟨by show i < (tx l).cps.size; omega, PvD Pv D (i + 1), fun H' p' => ⟨l.length - (i + 1), by omega, rfl, hlt, p'⟩, fun x H' y => ?_⟩
    obtain ⟨e, c, hc, rfl⟩ := y
    subst e
    exact hs i c acc Hi (tx_at hc) p1 p2 p3
  · have e : i = l.length := by omega
    subst e
    exact .inl ⟨by show (tx l).cps.size ≤ _; omega, hd acc Hi p1 p2 p3⟩
theorem forX (Pv : Nat → L2.St → Hp → Prop) (h0 : Pv 0 σ H)
    (hs : ∀ i c σ H, l[i]? = some c → Pv i σ H → g (.str (tx [c])) σ H fun σ2 H2 => tb { En with nx := Pv (i + 1), ct := Pv (i + 1), bk := En.nx } σ2 H2) (hd : ∀ σ H, Pv l.length σ H → En.nx σ H) :
    ∃ W : Nat → Nat → L2.St → Hp → Prop, (∃ m, W 0 m σ H) ∧ ∀ i m σ H, W i m σ H →
      ((Its (tx l)).stop i H ∧ En.nx σ H) ∨ ((Its (tx l)).go i H ∧ ∃ N : L2.St → Hp → Prop, (∀ σ' H', N σ' H' → ∃ m', m' < m ∧ W (i + 1) m' σ' H') ∧ ∀ x H', (Its (tx l)).yld i H x H' → g x σ H' fun σ2 H2 => tb { En with nx := N, ct := N, bk := En.nx } σ2 H2) := by
  have hsz : (tx l).cps.size = l.length := tx_len l
  refine ⟨fun i m σ H => m = l.length - i ∧ i ≤ l.length ∧ Pv i σ H, ⟨l.length, by simp, Nat.zero_le _, h0⟩, ?_⟩
  rintro i m σ H ⟨rfl, hi, p⟩
  by_cases hlt : i < l.length
  · refine .inr ⟨by show i < (tx l).cps.size; omega, Pv (i + 1), fun σ' H' p' => ⟨l.length - (i + 1), by omega, rfl, hlt, p'⟩, fun x H' y => ?_⟩
    obtain ⟨e, c, hc, rfl⟩ := y
    subst e
    exact hs i c σ _ (tx_at hc) p
  · have e : i = l.length := by omega
    subst e
    exact .inl ⟨by show (tx l).cps.size ≤ _; omega, hd σ H p⟩
end
theorem at_0 {α : Type} {c : α} {r : List α} : atI (c :: r) 0 = some c := atI_nat (j := 0) rfl
theorem at_get {α : Type} {l : List α} {m : Nat} (h : m < l.length) : atI l (m : Int) = some l[m] := atI_nat (List.getElem?_eq_getElem h)
/-! literals -/
theorem lit_empty : ("" : Str) = tx [] := by decide +kernel
theorem lit_az : ("abcdefghijklmnopqrstuvwxyz" : Str) = tx [97, 98, 99, 100, 101, 102, 103, 104, 105, 106, 107, 108, 109, 110, 111, 112, 113, 114, 115, 116, 117, 118, 119, 120, 121, 122] := by decide +kernel
theorem lit_abc : ("abc" : Str) = tx [97, 98, 99] := by decide +kernel
theorem lit_abz : ("abz" : Str) = tx [97, 98, 122] := by decide +kernel
theorem low_az : Low [97, 98, 99, 100, 101, 102, 103, 104, 105, 106, 107, 108, 109, 110, 111, 112, 113, 114, 115, 116, 117, 118, 119, 120, 121, 122] := by unfold Low; decide +kernel
end
section
/-- one step of a reading (e: none past a statement's end) -/
local macro_rules
  | `(tactic| walk_at "e") => `(tactic| first
    | with_reducible refine s_ifs ?_
    | with_reducible refine s_test ?_
    | with_reducible refine s_truth ?_
    | with_reducible refine s_op ?_
    | with_reducible refine s_un ?_
    | with_reducible refine s_asg ?_
    | with_reducible refine s_ret ?_
    | with_reducible refine s_next ?_
    | with_reducible refine s_drop ?_
    | with_reducible refine s_c ?_
    | ((with_reducible refine s_var (v := ?v) ?e ?q); case e => exact rfl)
    | with_reducible refine s_name ?_
    | with_reducible refine s_exq ?_
    | with_reducible refine s_cons ?_
    | with_reducible refine s_nil ?_
    | with_reducible refine s_lst ?_
    | with_reducible refine s_tup ?_
    | with_reducible refine s_cb ?_
    | with_reducible refine s_call ?_
    | with_reducible refine s_and ?_
    | with_reducible refine s_or ?_
    | with_reducible refine s_not ?_
    | with_reducible refine s_andV ?_
    | with_reducible refine s_orV ?_
    | with_reducible refine s_notV ?_
    | with_reducible refine s_ife ?_
    | with_reducible refine s_chain ?_
    | with_reducible refine s_addI ?_
    | with_reducible refine s_sub ?_
    | with_reducible refine s_neg ?_
    | with_reducible refine s_eqI ?_
    | with_reducible refine s_eqX ?_
    | with_reducible refine s_eqT ?_
    | with_reducible refine s_eqB ?_
    | with_reducible refine s_eqNI ?_
    | with_reducible refine s_eqIN ?_
    | with_reducible refine s_eqNN ?_
    | with_reducible refine s_neI ?_
    | with_reducible refine s_neX ?_
    | with_reducible refine s_neT ?_
    | with_reducible refine s_neB ?_
    | with_reducible refine s_lt ?_
    | with_reducible refine s_le ?_
    | with_reducible refine s_gt ?_
    | with_reducible refine s_ge ?_
    | with_reducible refine s_isN ?_
    | with_reducible refine s_isS ?_
    | with_reducible refine s_truB ?_
    | with_reducible refine s_truI ?_
    | with_reducible refine s_truN ?_
    | with_reducible refine s_abs ?_
    | with_reducible refine s_min2 ?_
    | with_reducible refine s_max2 ?_
    | with_reducible refine s_intI ?_
    | with_reducible refine s_intB ?_
    | with_reducible refine s_ifT ?_
    | with_reducible refine s_ifF ?_
    | with_reducible refine s_ifnT ?_
    | with_reducible refine s_ifnF ?_
    | with_reducible refine s_gSub ?_
    | with_reducible refine s_gTup ?_
    | with_reducible refine s_augS ?_
    | ((with_reducible refine s_aug (x := ?v) ?e ?q); case e => exact rfl)
    | with_reducible refine s_yes ?_
    | with_reducible refine s_par ?_
    | with_reducible refine s_two ?_
    | with_reducible refine s_m1 ?_
    | with_reducible refine s_isstr ?_
    | with_reducible refine s_rev0 ?_
    | with_reducible refine s_gCons ?_
    | with_reducible refine s_gNil ?_
    | with_reducible refine s_ipI ?_
    | with_reducible refine s_ipA ?_
    | with_reducible refine s_sl ?_
    | with_reducible refine s_noPart ?_
    | with_reducible refine s_part ?_
    | with_reducible refine s_parte ?_
    | with_reducible refine s_for ?_
    | with_reducible refine s_lc ?_
    | with_reducible refine s_iL ?_
    | with_reducible refine s_iS ?_
    | with_reducible refine s_iT ?_
    | with_reducible refine s_itS ?_
    | with_reducible refine s_iR1 ?_
    | with_reducible refine s_iR2 ?_
    | with_reducible refine s_rg1 ?_
    | with_reducible refine s_rg2 ?_
    | with_reducible refine s_rg1e ?_
    | with_reducible refine s_rg2e ?_
    | with_reducible refine s_lrg ?_
    | with_reducible refine s_bm ?_
    | with_reducible refine s_bm0 ?_
    | with_reducible refine s_retN ?_)
  | `(tactic| walk_at "s") => `(tactic| first
    | with_reducible refine s_seq ?_
    | walk_at "e")

section
variable {K : PySem.W.Frag} {σ : L2.St} {H H0 : Hp} {Q : VK} {E : XK} {D : Addr} {b : Addr} {ys acc : List V} {m : Int} {ta : TA} {v v' : V} {n k : Nat} {En : Ends}
/-- a draw within a comprehension -/
theorem s_takeD (B : Bag K H0 b ys) (hD : (upd H0 b (.lst ys)) D = none) (h : 0 < m) (hl : m.natAbs.log2 < 9000)
    (q : ∀ (r : Int) (zs : List V), 0 ≤ r → r < m → Bag K H0 b zs → (upd H0 b (.lst zs)) D = none → Q (.int r) (upd (upd H0 b (.lst zs)) D (.lst acc))) :
    Fr (sp_take K) [.ref b, .int m] (upd (upd H0 b (.lst ys)) D (.lst acc)) Q E :=
  s_but hD ⟨_, _, rfl, b, H0, ys, m, rfl, rfl, rfl, B, h, hl, fun r zs h0 h1 B' hD' => q r zs h0 h1 B' hD'⟩
end
/-! ### words, rows -/
/-- what a maker of texts promises: the bag, a bound, a text between two lengths -/
def spText (K : PySem.W.Frag) (lo : Int) (hi : Int → Int) : Sp := sp2 fun x y H Q _ => ∃ (b : Addr) (H0 : Hp) (ys : List V) (m : Int), x = .ref b ∧ y = .int m ∧ H = upd H0 b (.lst ys) ∧ Bag K H0 b ys ∧ 1 ≤ m ∧ m ≤ 1000000 ∧
  ∀ (H' : Hp) (zs : List V) (l : List Nat), Same H0 H' → Bag K H' b zs → Low l → lo ≤ l.length → (l.length : Int) ≤ hi m → Q (.str (tx l)) (upd H' b (.lst zs))
abbrev sp_word (K : PySem.W.Frag) : Sp := spText K 1 fun m => m
abbrev sp_row (K : PySem.W.Frag) : Sp := spText K 2 fun m => max 2 m
section
variable {K : PySem.W.Frag} {H0 : Hp} {Q : VK} {E : XK} {b : Addr} {ys : List V} {m lo : Int} {hi : Int → Int}
theorem s_text (B : Bag K H0 b ys) (h : 1 ≤ m) (hl : m ≤ 1000000) (q : ∀ (H' : Hp) (zs : List V) (l : List Nat), Same H0 H' → Bag K H' b zs → Low l → lo ≤ l.length → (l.length : Int) ≤ hi m → Q (.str (tx l)) (upd H' b (.lst zs))) : Fr (spText K lo hi) [.ref b, .int m] (upd H0 b (.lst ys)) Q E :=
  s_all ⟨_, _, rfl, b, H0, ys, m, rfl, rfl, rfl, B, h, hl, q⟩
end
def t_word (K : PySem.W.Frag) : TS :=
  (tSeq (tAsg (tTup (tCons (gCall (sp_take K) E1 (tCons (tVar 0) (tCons (tC (.int 24)) tNil))) (tCons (tOp (rPlus K) (tC (.int 1)) (gCall (sp_take K) E1 (tCons (tVar 0) (tCons (tC (.int 3)) tNil)))) tNil))) (gTup K 2 (gCons (gName 2) (gCons (gName 3) gNil))))
  (tSeq (tAsg (tSl (rCut K) (tC (.str "abcdefghijklmnopqrstuvwxyz")) (tPart (tVar 2)) (tPart (tOp (rPlus K) (tVar 2) (tVar 3)))) (gName 4))
  (tSeq (tPar 5 6 (tCons (gCall (sp_take K) E1 (tCons (tVar 0) (tCons (tC (.int 4)) tNil))) (tCons (tOp (rPlus K) (tC (.int 1)) (gCall (sp_take K) E1 (tCons (tVar 0) (tCons (tVar 1) tNil)))) tNil)))
  (tSeq (tAsg (tOp (rIx K) (tLst (tCons (tVar 6) (tCons (tOp (rPlus K) (tC (.int 1)) (gCall (sp_take K) E1 (tCons (tVar 0) (tCons (tC (.int 4)) tNil)))) tNil))) (tCB rInt (tCons (tOp rMore (tVar 5) (tC (.int 1))) tNil))) (gName 7))
  (tSeq (tAsg (tM1 (rJoin K) (tC (.str "")) (tLc (iRng1 (tCons (tVar 7) tNil)) (gName 9) tYes (tOp (rIx K) (tVar 4) (gCall (sp_take K) E1 (tCons (tVar 0) (tCons (tVar 3) tNil)))) [9])) (gName 8))
  (tSeq (tAsg (tSl (rCut K) (tOp rTimes (tVar 8) (tOp (rPlus K) (tOp rDiv (tVar 6) (tVar 7)) (tC (.int 1)))) tNoPart (tPart (tVar 6))) (gName 8))
  (tRet (tOp (rIx K) (tLst (tCons (tVar 8) (tCons (tVar 8) (tCons (tVar 8) (tCons (tRev K (tVar 8)) tNil))))) (tVar 5)))))))))

theorem pu_word {K : PySem.W.Frag} (vs : List V) (H : Hp) (Q : VK) (E : XK) (h : sp_word K vs H Q E) : t_word K { nx := fun _ H' => Q .non H', rt := Q } (start ["_law_bag_here", "_law_most", "_law_start", "_law_few", "_law_letters", "_law_way", "_law_size", "_law_many", "_law_word_here", "_law_k"] vs) H := by
  obtain ⟨_, _, rfl, b, H0, ys, m, rfl, rfl, rfl, B, m1, m2, hQ⟩ := h
  unfold t_word
  rw [lit_az, lit_empty]
  repeat' walk_at "s"
  refine s_take B (by decide) (lg (by decide) (by decide)) ?_
  intro st ys a1 a2 B
  repeat' walk_at "s"
  refine s_take B (by decide) (lg (by decide) (by decide)) ?_
  intro r ys b1 b2 B
  repeat' walk_at "s"
  refine newB B (sz_of rfl) fun p H1 e1 hp B => ?_
  refine s_gTup (SqT.of (B.see _ _ hp)) rfl ?_
  repeat' walk_at "s"
  refine s_midX (by decide) (by omega) (by omega) ?_
  obtain ⟨ls, hls, lw, ll⟩ : ∃ ls : List Nat, (([97, 98, 99, 100, 101, 102, 103, 104, 105, 106, 107, 108, 109, 110, 111, 112, 113, 114, 115, 116, 117, 118, 119, 120, 121, 122] : List Nat).drop st.toNat).take ((st + (1 + r)).toNat - st.toNat) = ls ∧ Low ls ∧ (ls.length : Int) = 1 + r := by
    refine ⟨_, rfl, (low_az.drop _).take _, ?_⟩
    rw [List.length_take, List.length_drop]
    show ((min _ (26 - st.toNat) : Nat) : Int) = _
    omega
  rw [hls]
  clear hls
  repeat' walk_at "s"
  refine s_take B (by decide) (lg (by decide) (by decide)) ?_
  intro way ys c1 c2 B
  repeat' walk_at "s"
  refine s_take B (by omega) (lg (by omega) (by omega)) ?_
  intro sz ys d1 d2 B
  repeat' walk_at "s"
  refine s_take B (by decide) (lg (by decide) (by decide)) ?_
  intro r4 ys f1 f2 B
  repeat' walk_at "s"
  refine newB B (sz_of rfl) fun p2 H2 e2 hp2 B => ?_
  repeat' walk_at "s"
  refine s_pickP (fun x => ∃ s : Int, x = .int s ∧ 1 ≤ s ∧ s ≤ 1000004) (B.see _ _ hp2) (by split <;> omega) (by show (_ : Int) < 2; split <;> omega) (fun x hx => ?_) fun x hx => ?_
  · rcases List.mem_cons.mp hx with rfl | hx
    · exact ⟨_, rfl, by omega, by omega⟩
    · rcases List.mem_singleton.mp hx with rfl
      exact ⟨_, rfl, by omega, by omega⟩
  obtain ⟨many, rfl, g1, g2⟩ := hx
  repeat' walk_at "s"
  refine s_rn1 (by omega) (by omega) ?_
  intro D hD
  refine lcR hD (fun i acc Hi => ∃ (H3 : Hp) (ys : List V) (cs : List Nat), Hi = upd H3 b (.lst ys) ∧ Same H2 H3 ∧ Bag K H3 b ys ∧ acc = cs.map (fun c => V.str (tx [c])) ∧ Low cs ∧ cs.length = i) ⟨H2, ys, [], rfl, Same.refl _, B, rfl, Low.nil, rfl⟩ (fun i acc Hi hi hn hl z => ?_) fun acc Hi hn hl z => ?_
  · obtain ⟨H3, ys, cs, rfl, e3, B, rfl, lc, hc⟩ := z
    repeat' walk_at "s"
    refine ⟨rfl, ?_⟩
    repeat' walk_at "s"
    refine s_takeD B hn (by omega) (lg (by omega) (by omega)) ?_
    intro r5 ys i1 i2 B hn
    refine s_pickX (by omega) i1 (by omega) fun q hq _ => ?_
    refine lc_put hn hl (by rw [sizeLine_eq]; omega) ⟨H3, ys, cs ++ [ls[q]], rfl, e3, B, by rw [List.map_append]; rfl, lc.app fun c hc => ?_, by rw [List.length_append, hc]; rfl⟩
    rcases List.mem_singleton.mp hc with rfl
    exact lw _ (List.getElem_mem hq)
  · obtain ⟨H3, ys, cs, rfl, e3, B, rfl, lc, hc⟩ := z
    refine doneB B hn fun H4 e4 h4 B => ?_
    refine s_join (ls := cs.map fun c => [c]) (by rw [List.map_map]; exact SqL.of (B.see _ _ h4)) ?_ ?_
    · rw [List.map_map]
      have e : ((List.length : List Nat → Nat) ∘ fun c => [c]) = fun _ => 1 := rfl
      rw [e, List.map_const', List.sum_replicate_nat]
      omega
    have ef : (cs.map fun c => [c]).flatten = cs := by
      clear hc lc h4 hl hn
      induction cs with
      | nil => rfl
      | cons c cs ih => rw [List.map_cons, List.flatten_cons, ih]; rfl
    rw [ef]
    repeat' walk_at "s"
    refine s_div ⟨by omega, (lg (by omega) (by omega))⟩ ?_
    repeat' walk_at "s"
    have hmul := Int.mul_ediv_add_emod (1 + sz) many
    have hmod := Int.emod_lt_of_pos (1 + sz) (show 0 < many by omega)
    have hmod0 := Int.emod_nonneg (1 + sz) (show many ≠ 0 by omega)
    generalize hdv : (1 + sz) / many = dv at hmul ⊢
    have dv0 : 0 ≤ dv := by
      rw [← hdv]
      exact Int.ediv_nonneg (by omega) (by omega)
    have hcm : (cs.length : Int) = many := by omega
    have hlen : ((cs.length * (dv + 1).toNat : Nat) : Int) = many * dv + many := by
      rw [Int.natCast_mul, Int.toNat_of_nonneg (by omega), hcm, Int.mul_add, Int.mul_one]
    refine s_mulX (by omega) (by omega) ?_ ?_
    · have h1 : 1 * dv ≤ many * dv := Int.mul_le_mul_of_nonneg_right g1 dv0
      omega
    repeat' walk_at "s"
    refine s_toX (by rw [rep_len, Nat.mul_comm]; omega) (by omega) ?_
    obtain ⟨w, hw, ww, wl⟩ : ∃ w : List Nat, (List.replicate (dv + 1).toNat cs).flatten.take (1 + sz).toNat = w ∧ Low w ∧ (w.length : Int) = 1 + sz := by
      refine ⟨_, rfl, (lc.rep _).take _, ?_⟩
      rw [List.length_take, rep_len, Nat.mul_comm]
      omega
    rw [hw]
    repeat' walk_at "s"
    refine .inl ⟨_, rfl, by rw [tx_len, sizeLine_eq]; omega, ?_⟩
    rw [tx_rev]
    repeat' walk_at "s"
    refine newB B (sz_of rfl) fun p5 H5 e5 hp5 B => ?_
    repeat' walk_at "s"
    refine s_pickP (fun x => ∃ l : List Nat, x = .str (tx l) ∧ Low l ∧ (l.length : Int) = 1 + sz) (B.see _ _ hp5) c1 c2 (fun x hx => ?_) fun x hx => ?_
    · simp only [List.mem_cons, List.not_mem_nil, or_false] at hx
      rcases hx with rfl | rfl | rfl | rfl
      · exact ⟨_, rfl, ww, wl⟩
      · exact ⟨_, rfl, ww, wl⟩
      · exact ⟨_, rfl, ww, wl⟩
      · exact ⟨_, rfl, ww.rev, by rw [List.length_reverse]; exact wl⟩
    obtain ⟨l, rfl, hl1, hl2⟩ := hx
    exact hQ _ _ _ ((((e1.trans e2).trans e3).trans e4).trans e5) B hl1 (by omega) (by show (l.length : Int) ≤ m; omega)
end
section
/-- one step of a reading (e: none past a statement's end) -/
local macro_rules
  | `(tactic| walk_at "e") => `(tactic| first
    | with_reducible refine s_ifs ?_
    | with_reducible refine s_test ?_
    | with_reducible refine s_truth ?_
    | with_reducible refine s_op ?_
    | with_reducible refine s_un ?_
    | with_reducible refine s_asg ?_
    | with_reducible refine s_ret ?_
    | with_reducible refine s_next ?_
    | with_reducible refine s_drop ?_
    | with_reducible refine s_c ?_
    | ((with_reducible refine s_var (v := ?v) ?e ?q); case e => exact rfl)
    | with_reducible refine s_name ?_
    | with_reducible refine s_exq ?_
    | with_reducible refine s_cons ?_
    | with_reducible refine s_nil ?_
    | with_reducible refine s_lst ?_
    | with_reducible refine s_tup ?_
    | with_reducible refine s_cb ?_
    | with_reducible refine s_call ?_
    | with_reducible refine s_and ?_
    | with_reducible refine s_or ?_
    | with_reducible refine s_not ?_
    | with_reducible refine s_andV ?_
    | with_reducible refine s_orV ?_
    | with_reducible refine s_notV ?_
    | with_reducible refine s_ife ?_
    | with_reducible refine s_chain ?_
    | with_reducible refine s_addI ?_
    | with_reducible refine s_sub ?_
    | with_reducible refine s_neg ?_
    | with_reducible refine s_eqI ?_
    | with_reducible refine s_eqX ?_
    | with_reducible refine s_eqT ?_
    | with_reducible refine s_eqB ?_
    | with_reducible refine s_eqNI ?_
    | with_reducible refine s_eqIN ?_
    | with_reducible refine s_eqNN ?_
    | with_reducible refine s_neI ?_
    | with_reducible refine s_neX ?_
    | with_reducible refine s_neT ?_
    | with_reducible refine s_neB ?_
    | with_reducible refine s_lt ?_
    | with_reducible refine s_le ?_
    | with_reducible refine s_gt ?_
    | with_reducible refine s_ge ?_
    | with_reducible refine s_isN ?_
    | with_reducible refine s_isS ?_
    | with_reducible refine s_truB ?_
    | with_reducible refine s_truI ?_
    | with_reducible refine s_truN ?_
    | with_reducible refine s_abs ?_
    | with_reducible refine s_min2 ?_
    | with_reducible refine s_max2 ?_
    | with_reducible refine s_intI ?_
    | with_reducible refine s_intB ?_
    | with_reducible refine s_ifT ?_
    | with_reducible refine s_ifF ?_
    | with_reducible refine s_ifnT ?_
    | with_reducible refine s_ifnF ?_
    | with_reducible refine s_gSub ?_
    | with_reducible refine s_gTup ?_
    | with_reducible refine s_augS ?_
    | ((with_reducible refine s_aug (x := ?v) ?e ?q); case e => exact rfl)
    | with_reducible refine s_yes ?_
    | with_reducible refine s_par ?_
    | with_reducible refine s_two ?_
    | with_reducible refine s_m1 ?_
    | with_reducible refine s_isstr ?_
    | with_reducible refine s_rev0 ?_
    | with_reducible refine s_gCons ?_
    | with_reducible refine s_gNil ?_
    | with_reducible refine s_ipI ?_
    | with_reducible refine s_ipA ?_
    | with_reducible refine s_sl ?_
    | with_reducible refine s_noPart ?_
    | with_reducible refine s_part ?_
    | with_reducible refine s_parte ?_
    | with_reducible refine s_for ?_
    | with_reducible refine s_lc ?_
    | with_reducible refine s_iL ?_
    | with_reducible refine s_iS ?_
    | with_reducible refine s_iT ?_
    | with_reducible refine s_itS ?_
    | with_reducible refine s_iR1 ?_
    | with_reducible refine s_iR2 ?_
    | with_reducible refine s_rg1 ?_
    | with_reducible refine s_rg2 ?_
    | with_reducible refine s_rg1e ?_
    | with_reducible refine s_rg2e ?_
    | with_reducible refine s_lrg ?_
    | with_reducible refine s_bm ?_
    | with_reducible refine s_bm0 ?_
    | with_reducible refine s_retN ?_)
  | `(tactic| walk_at "s") => `(tactic| first
    | with_reducible refine s_seq ?_
    | walk_at "e")
theorem low_abc : Low [97, 98, 99] := by unfold Low; decide +kernel
/-- the letters of z that differ from c, two of three at least -/
theorem other_len (c : Nat) : 2 ≤ (([97, 98, 99] : List Nat).filter fun d => !decide (d = c)).length := by
  by_cases h1 : 97 = c
  · subst h1; decide
  · by_cases h2 : 98 = c
    · subst h2; decide
    · by_cases h3 : 99 = c
      · subst h3; decide
      · simp [List.filter, h1, h2, h3]
def t_row (K : PySem.W.Frag) : TS :=
  (tSeq (tAsg (gCall (sp_word K) E1 (tCons (tVar 0) (tCons (tVar 1) tNil))) (gName 2))
  (tSeq (tIfS (tTest (tOp rLess (tCB (rLen K) (tCons (tVar 2) tNil)) (tC (.int 2)))) (tAsg (tOp (rPlus K) (tVar 2) (tVar 2)) (gName 2)) tNext)
  (tSeq (tPar 3 4 (tCons (gCall (sp_take K) E1 (tCons (tVar 0) (tCons (tC (.int 3)) tNil))) (tCons (gCall (sp_take K) E1 (tCons (tVar 0) (tCons (tC (.int 2)) tNil))) tNil)))
  (tSeq (tIfS (tTest (tOp (rSame K) (tVar 3) (tC (.int 1)))) (tRet (tOp (rPlus K) (tSl (rCut K) (tVar 2) tNoPart (tPart (tUn (rU fun i => .int (-i)) (tC (.int 1))))) (tOp (rIx K) (tLc (iStr (tC (.str "abc"))) (gName 5) (tTest (tOp (rDiff K) (tVar 5) (tOp (rIx K) (tVar 2) (tC (.int 0))))) (tVar 5) [5]) (tVar 4)))) tNext)
  (tRet (tOp (rIx K) (tLst (tCons (tVar 2) (tCons (tVar 2) (tCons (tOp (rPlus K) (tSl (rCut K) (tVar 2) tNoPart (tPart (tUn (rU fun i => .int (-i)) (tC (.int 1))))) (tOp (rIx K) (tVar 2) (tC (.int 0)))) tNil)))) (tVar 3)))))))

theorem pu_row {K : PySem.W.Frag} (vs : List V) (H : Hp) (Q : VK) (E : XK) (h : sp_row K vs H Q E) : t_row K { nx := fun _ H' => Q .non H', rt := Q } (start ["_law_bag_here", "_law_most", "_law_text", "_law_way", "_law_turn", "_law_letter"] vs) H := by
  obtain ⟨_, _, rfl, b, H0, ys, m, rfl, rfl, rfl, B, m1, m2, hQ⟩ := h
  unfold t_row
  rw [lit_abc]
  repeat' walk_at "s"
  refine s_text B m1 m2 ?_
  intro H1 ys l e1 B lw l1 l2
  replace l2 : (l.length : Int) ≤ m := l2
  repeat' walk_at "e"
  with_reducible refine s_seqR (fun σ H => ∃ l : List Nat, Low l ∧ 2 ≤ (l.length : Int) ∧ (l.length : Int) ≤ max 2 m ∧ σ = [some (.ref b), some (.int m), some (.str (tx l)), none, none, none] ∧ H = upd H1 b (.lst ys)) (fun σ H z => ?_) fun N hN => ?_
  · clear lw l1 l2 l
    obtain ⟨l, lw, l1, l2, rfl, rfl⟩ := z
    obtain ⟨c, r, rfl⟩ : ∃ c r, l = c :: r := by
      cases l with
      | nil => exact absurd l1 (by decide)
      | cons c r => exact ⟨c, r, rfl⟩
    repeat' walk_at "s"
    refine s_take B (by decide) (lg (by decide) (by decide)) ?_
    intro way ys c1 c2 B
    repeat' walk_at "s"
    refine s_take B (by decide) (lg (by decide) (by decide)) ?_
    intro tn ys d1 d2 B
    repeat' walk_at "s"
    have hc : Low [c] := fun d hd => by
      rcases List.mem_singleton.mp hd with rfl
      exact lw _ List.mem_cons_self
    refine s_if (fun h => ?_) fun h => ?_
    · repeat' walk_at "s"
      refine s_lastX (by omega) ?_
      repeat' walk_at "s"
      intro D hD
      refine lcX hD (fun i acc Hi => Hi = upd H1 b (.lst ys) ∧ acc = ((([97, 98, 99] : List Nat).take i).filter fun d => !decide (d = c)).map fun d => V.str (tx [d])) ⟨rfl, rfl⟩ (fun i d acc Hi hi hn hl z => ?_) fun acc Hi hn hl z => ?_
      · obtain ⟨rfl, rfl⟩ := z
        repeat' walk_at "s"
        refine ⟨rfl, ?_⟩
        repeat' walk_at "s"
        refine s_ixX (m := c) (by omega) at_0 ?_
        repeat' walk_at "s"
        have et : ([97, 98, 99] : List Nat).take (i + 1) = ([97, 98, 99] : List Nat).take i ++ [d] := by rw [List.take_add_one, hi]; rfl
        have hi3 : i < 3 := (List.getElem?_eq_some_iff.mp hi).1
        refine s_ifn (fun h => ?_) fun h => ?_
        · have h : ¬ d = c := fun e => h (by rw [e])
          repeat' walk_at "s"
          refine lc_put hn hl (by rw [sizeLine_eq]; omega) ⟨rfl, ?_⟩
          rw [et, List.filter_append, List.map_append]
          congr 1
          simp [List.filter, h]
        · have h : d = c := by
            have e : [d] = [c] := h
            exact List.head_eq_of_cons_eq e
          refine lc_no hn hl ⟨rfl, ?_⟩
          rw [et, List.filter_append]
          simp [List.filter, h]
      · obtain ⟨rfl, rfl⟩ := z
        refine doneB B hn fun H4 e4 h4 B => ?_
        repeat' walk_at "s"
        have ho := other_len c
        refine s_pickP (fun x => ∃ d, x = .str (tx [d]) ∧ Low [d]) (B.see _ _ h4) d1 (by rw [List.length_map]; have : (([97, 98, 99] : List Nat).take ([97, 98, 99] : List Nat).length) = [97, 98, 99] := rfl; rw [this]; omega) (fun x hx => ?_) fun x hx => ?_
        · obtain ⟨d, hd, rfl⟩ := List.mem_map.mp hx
          refine ⟨d, rfl, fun q hq => ?_⟩
          rcases List.mem_singleton.mp hq with rfl
          exact low_abc _ (List.mem_of_mem_take (List.mem_filter.mp hd).1)
        obtain ⟨d, rfl, ld⟩ := hx
        have e : ((c :: r).dropLast ++ [d]).length = (c :: r).length := by
          rw [List.length_append, List.length_dropLast]
          show (c :: r).length - 1 + 1 = _
          omega
        refine s_addX (by rw [← List.length_append, e]; omega) ?_
        exact hQ _ _ _ (e1.trans e4) B (lw.last.app ld) (by rw [e]; exact l1) (by rw [e]; exact l2)
    · repeat' walk_at "s"
      refine s_lastX (by omega) ?_
      repeat' walk_at "s"
      refine s_ixX (m := c) (by omega) at_0 ?_
      have e : ((c :: r).dropLast ++ [c]).length = (c :: r).length := by
        rw [List.length_append, List.length_dropLast]
        show (c :: r).length - 1 + 1 = _
        omega
      refine s_addX (by rw [← List.length_append, e]; omega) ?_
      repeat' walk_at "s"
      refine newB B (sz_of rfl) fun p5 H5 e5 hp5 B => ?_
      repeat' walk_at "s"
      refine s_pickP (fun x => ∃ k : List Nat, x = .str (tx k) ∧ Low k ∧ k.length = (c :: r).length) (B.see _ _ hp5) c1 c2 (fun x hx => ?_) fun x hx => ?_
      · simp only [List.mem_cons, List.not_mem_nil, or_false] at hx
        rcases hx with rfl | rfl | rfl
        · exact ⟨_, rfl, lw, rfl⟩
        · exact ⟨_, rfl, lw, rfl⟩
        · exact ⟨_, rfl, lw.last.app hc, e⟩
      obtain ⟨k, rfl, hk1, hk2⟩ := hx
      exact hQ _ _ _ (e1.trans e5) B hk1 (by rw [hk2]; exact l1) (by rw [hk2]; exact l2)
  · repeat' walk_at "s"
    refine s_lenX (by omega) ?_
    repeat' walk_at "s"
    refine s_if (fun h => ?_) fun h => ?_
    · repeat' walk_at "s"
      refine s_addX (by omega) ?_
      repeat' walk_at "s"
      exact hN _ _ ⟨_, lw.app lw, by rw [List.length_append]; omega, by rw [List.length_append]; omega, rfl, rfl⟩
    · repeat' walk_at "s"
      exact hN _ _ ⟨l, lw, by omega, by omega, rfl, rfl⟩
end
section
/-! ### list(range(i, j, k)) -/
def stV (i k : Int) (n : Nat) : List V := (List.range n).map fun m => V.int (i + (m : Nat) * k)
def tLstR3 (ta : TA) : TE := fun σ H Q => ta σ H fun vs H1 => ∃ (i j k : Int) (n : Nat), vs = [.int i, .int j, .int k] ∧ RgC i j k n ∧ NewO (n ≤ 16777216) (.lst (stV i k n)) H1 Q
theorem vals_st {i k : Int} {n : Nat} {acc : Array Value} (h : ItemsOf (fun m v => ∃ t, v = .int (i + m * k) t) acc n) : Vals (stV i k n) acc.toList := by
  have e : acc.toList.length = n := by rw [Array.length_toList]; exact h.1
  unfold stV
  rw [← e]
  refine vals_of_get acc.toList _ fun j u hj => ?_
  obtain ⟨t, rfl⟩ := h.2 j u (by rw [← hj, Array.getElem?_toList])
  exact ⟨t, rfl⟩
theorem pe_list3 {X : Cx} {a b c : Expr} {ta : TA} {p p2 pos q : Pos} (hc : X.calm = true) (hg : Gl X "list") (hm : X.mg "list" = none) (hg2 : Gl X "range") (hm2 : X.mg "range" = none) (ha : PA X [a, b, c] ta)
    (hs : starEach [a, b, c] X.env = (false, eval a X.env) :: starEach [b, c] X.env := by rfl) (hpl : (backTo q (starEach [b, c] X.env)).any (·.1) = false := by rfl)
    (na : starEach [.Call (.Name "range" p2) [a, b, c] [] q] X.env = (false, eval (.Call (.Name "range" p2) [a, b, c] [] q) X.env) :: starEach [] X.env := by rfl) :
    PE X (.Call (.Name "list" p) [.Call (.Name "range" p2) [a, b, c] [] q] [] pos) (tLstR3 ta) := by
  refine ⟨fun pins s σ H Q I h => ?_⟩
  refine Call_ (ld_blt I hg hm boot_list (PyProof.Rows.callWith_type1 (args_cons (Call_ (ld_blt I hg2 hm2 boot_range (PyProof.Rows.callWith_type1 (thn (ha.run q pins s σ H _ I h) fun us s1 ⟨vs, H1, I1, r1, q1⟩ => ?_) hs hpl))) na) na))
  obtain ⟨i, j, k, n, e, ⟨c0, c1, c2, c3⟩, hz, qq⟩ := q1
  subst e
  cases r1 with
  | cons r rr =>
    cases rr with
    | cons r' rr =>
      cases rr with
      | cons r'' rr =>
        cases rr
        obtain ⟨t, rfl⟩ := r
        obtain ⟨t', rfl⟩ := r'
        obtain ⟨t'', rfl⟩ := r''
        refine call_range_3 c0 (args_nil ?_) (.inl (PyProof.noPylong_small c1))
        have I2 : Inv X pins σ H1 { s1 with heap := s1.heap.push { cls := .type "range", data := .fields #[.int i t, .int j t', .int k t''] } } := I1.kept (t' := s1.toks) fun b o e => Heap.get?_push_of_some _ e
        refine call_list_range (n := n) (I2.ok.hd hc) (IsRange.new ..) c2 c3 (by omega) fun h' tk acc c' hk e' hi => ?_
        refine ⟨.ref _, upd H1 _ (.lst (stV i k n)), I2.laid hk (Nat.le_refl _) (show ObjOk X.prog X.w _ _ _ (.lst (stV i k n)) from ⟨?_, acc.toList, c', vals_st hi, ?_⟩), rfl, qq _ (I2.hok.fresh (Nat.le_refl _))⟩
        · unfold stV
          rw [List.length_map, List.length_range, sizeLine_eq]
          omega
        · rw [Array.toArray_toList]; exact e'
theorem rgC_up {i j k : Int} (hi : 0 ≤ i) (hij : i ≤ j) (hj : j ≤ 1000000) (hk : 1 ≤ k) (hk2 : k ≤ 1000000) : ∃ n : Nat, RgC i j k n ∧ n ≤ 1000000 ∧ ∀ m : Nat, m < n ↔ i + m * k < j := by
  have key : ∀ m : Nat, i < j → ((m : Int) ≤ (j - i - 1) / k ↔ i + m * k < j) := fun m h => by
    rw [Int.le_ediv_iff_mul_le (by omega)]
    omega
  have d0 : i < j → 0 ≤ (j - i - 1) / k := fun h => Int.ediv_nonneg (by omega) (by omega)
  have d1 : i < j → (j - i - 1) / k ≤ j - i - 1 := fun h => Int.ediv_le_self _ (by omega)
  have hr : Builtin.Range.rangeSize i j k = if i < j then (j - i - 1) / k + 1 else 0 := by
    unfold Builtin.Range.rangeSize
    rw [if_pos (by omega)]
  refine ⟨(if i < j then (j - i - 1) / k + 1 else 0 : Int).toNat, ⟨by omega, by omega, ?_, ?_⟩, ?_, fun m => ?_⟩
  · unfold Builtin.Range.small
    rw [hr]
    have d2 : i < j → i + ((j - i - 1) / k + 1) * k < 2 ^ 62 := fun h => by
      have := Int.ediv_mul_le (j - i - 1) (show k ≠ 0 by omega)
      rw [Int.add_mul, Int.one_mul]
      omega
    have d3 : i < j → 0 ≤ ((j - i - 1) / k + 1) * k := fun h => Int.mul_nonneg (by have := d0 h; omega) (by omega)
    simp only [Builtin.Range.rangeFitsLong, Bool.and_eq_true, Bool.or_eq_true, decide_eq_true_eq, beq_iff_eq, show k > 0 by omega, if_true]
    split
    · rename_i h
      have := d0 h
      have := d1 h
      have := d2 h
      have := d3 h
      omega
    · omega
  · rw [hr]
    split
    · rename_i h
      have := d0 h
      omega
    · rfl
  · split
    · rename_i h
      have := d1 h
      omega
    · omega
  · split
    · rename_i h
      have := d0 h
      have := key m h
      omega
    · rename_i h
      have : (0 : Int) ≤ m * k := Int.mul_nonneg (by omega) (by omega)
      omega
theorem s_lr3 {ta : TA} {σ : L2.St} {H : Hp} {Q : VK} (q : ta σ H fun vs H1 => ∃ (i j k : Int) (n : Nat), vs = [.int i, .int j, .int k] ∧ RgC i j k n ∧ NewO (n ≤ 16777216) (.lst (stV i k n)) H1 Q) : tLstR3 ta σ H Q := q
theorem s_tyL {K : PySem.W.Frag} {H : Hp} {a : Addr} {xs : List V} {R : Prop} (h : SqL K H a xs) (q : R) : tyV K "list" (.ref a) H ∧ R := by
  exact ⟨.inl ⟨rfl, xs, h⟩, q⟩
theorem s_revL {H : Hp} {Q : VK} {a : Addr} {xs : List V} (h : H a = some (.lst xs)) (q : Q .non (upd H a (.lst xs.reverse))) : rReverse (.ref a) [] H Q := ⟨a, xs, rfl, rfl, h, q⟩
/-- one step of a reading (e: none past a statement's end) -/
local macro_rules
  | `(tactic| walk_at "e") => `(tactic| first
    | with_reducible refine s_ifs ?_
    | with_reducible refine s_test ?_
    | with_reducible refine s_truth ?_
    | with_reducible refine s_op ?_
    | with_reducible refine s_un ?_
    | with_reducible refine s_asg ?_
    | with_reducible refine s_ret ?_
    | with_reducible refine s_next ?_
    | with_reducible refine s_drop ?_
    | with_reducible refine s_c ?_
    | ((with_reducible refine s_var (v := ?v) ?e ?q); case e => exact rfl)
    | with_reducible refine s_name ?_
    | with_reducible refine s_exq ?_
    | with_reducible refine s_cons ?_
    | with_reducible refine s_nil ?_
    | with_reducible refine s_lst ?_
    | with_reducible refine s_tup ?_
    | with_reducible refine s_cb ?_
    | with_reducible refine s_call ?_
    | with_reducible refine s_and ?_
    | with_reducible refine s_or ?_
    | with_reducible refine s_not ?_
    | with_reducible refine s_andV ?_
    | with_reducible refine s_orV ?_
    | with_reducible refine s_notV ?_
    | with_reducible refine s_ife ?_
    | with_reducible refine s_chain ?_
    | with_reducible refine s_addI ?_
    | with_reducible refine s_sub ?_
    | with_reducible refine s_neg ?_
    | with_reducible refine s_eqI ?_
    | with_reducible refine s_eqX ?_
    | with_reducible refine s_eqT ?_
    | with_reducible refine s_eqB ?_
    | with_reducible refine s_eqNI ?_
    | with_reducible refine s_eqIN ?_
    | with_reducible refine s_eqNN ?_
    | with_reducible refine s_neI ?_
    | with_reducible refine s_neX ?_
    | with_reducible refine s_neT ?_
    | with_reducible refine s_neB ?_
    | with_reducible refine s_lt ?_
    | with_reducible refine s_le ?_
    | with_reducible refine s_gt ?_
    | with_reducible refine s_ge ?_
    | with_reducible refine s_isN ?_
    | with_reducible refine s_isS ?_
    | with_reducible refine s_truB ?_
    | with_reducible refine s_truI ?_
    | with_reducible refine s_truN ?_
    | with_reducible refine s_abs ?_
    | with_reducible refine s_min2 ?_
    | with_reducible refine s_max2 ?_
    | with_reducible refine s_intI ?_
    | with_reducible refine s_intB ?_
    | with_reducible refine s_ifT ?_
    | with_reducible refine s_ifF ?_
    | with_reducible refine s_ifnT ?_
    | with_reducible refine s_ifnF ?_
    | with_reducible refine s_gSub ?_
    | with_reducible refine s_gTup ?_
    | with_reducible refine s_augS ?_
    | ((with_reducible refine s_aug (x := ?v) ?e ?q); case e => exact rfl)
    | with_reducible refine s_yes ?_
    | with_reducible refine s_par ?_
    | with_reducible refine s_two ?_
    | with_reducible refine s_m1 ?_
    | with_reducible refine s_isstr ?_
    | with_reducible refine s_rev0 ?_
    | with_reducible refine s_gCons ?_
    | with_reducible refine s_gNil ?_
    | with_reducible refine s_ipI ?_
    | with_reducible refine s_ipA ?_
    | with_reducible refine s_sl ?_
    | with_reducible refine s_noPart ?_
    | with_reducible refine s_part ?_
    | with_reducible refine s_parte ?_
    | with_reducible refine s_for ?_
    | with_reducible refine s_lc ?_
    | with_reducible refine s_iL ?_
    | with_reducible refine s_iS ?_
    | with_reducible refine s_iT ?_
    | with_reducible refine s_itS ?_
    | with_reducible refine s_iR1 ?_
    | with_reducible refine s_iR2 ?_
    | with_reducible refine s_rg1 ?_
    | with_reducible refine s_rg2 ?_
    | with_reducible refine s_rg1e ?_
    | with_reducible refine s_rg2e ?_
    | with_reducible refine s_lrg ?_
    | with_reducible refine s_lr3 ?_
    | with_reducible refine s_bm ?_
    | with_reducible refine s_bm0 ?_
    | with_reducible refine s_retN ?_)
  | `(tactic| walk_at "s") => `(tactic| first
    | with_reducible refine s_seq ?_
    | walk_at "e")

/-! any row -/
def sp_any_row (K : PySem.W.Frag) : Sp := sp2 fun x y H Q _ => ∃ (b : Addr) (H0 : Hp) (ys : List V) (m : Int), x = .ref b ∧ y = .int m ∧ H = upd H0 b (.lst ys) ∧ Bag K H0 b ys ∧ 2 ≤ m ∧ m ≤ 1000000 ∧
  ∀ (H' : Hp) (zs : List V) (l : List Nat), Same H0 H' → Bag K H' b zs → Low l → 2 ≤ l.length → (l.length : Int) ≤ m → Q (.str (tx l)) (upd H' b (.lst zs))
section
variable {K : PySem.W.Frag} {H0 : Hp} {Q : VK} {E : XK} {b : Addr} {ys : List V} {m : Int}
theorem s_any (B : Bag K H0 b ys) (h : 2 ≤ m) (hl : m ≤ 1000000) (q : ∀ (H' : Hp) (zs : List V) (l : List Nat), Same H0 H' → Bag K H' b zs → Low l → 2 ≤ l.length → (l.length : Int) ≤ m → Q (.str (tx l)) (upd H' b (.lst zs))) : Fr (sp_any_row K) [.ref b, .int m] (upd H0 b (.lst ys)) Q E :=
  s_all ⟨_, _, rfl, b, H0, ys, m, rfl, rfl, rfl, B, h, hl, q⟩
end
theorem flat_one (cs : List Nat) : (cs.map fun c => [c]).flatten = cs := by
  induction cs with
  | nil => rfl
  | cons c cs ih => rw [List.map_cons, List.flatten_cons, ih]; rfl
theorem sum_one (cs : List Nat) : ((cs.map fun c => [c]).map List.length).sum = cs.length := by
  rw [List.map_map]
  have e : ((List.length : List Nat → Nat) ∘ fun c => [c]) = fun _ => 1 := rfl
  rw [e, List.map_const', List.sum_replicate_nat, Nat.mul_one]
def t_any_row (K : PySem.W.Frag) : TS :=
  (tSeq (tIfS (tTest (tOp rMore (gCall (sp_take K) E1 (tCons (tVar 0) (tCons (tC (.int 3)) tNil))) (tC (.int 0)))) (tRet (gCall (sp_row K) E1 (tCons (tVar 0) (tCons (tVar 1) tNil)))) tNext)
  (tSeq (tAsg (tOp (rPlus K) (tC (.int 2)) (gCall (sp_take K) E1 (tCons (tVar 0) (tCons (tOp rMinus (tVar 1) (tC (.int 1))) tNil)))) (gName 2))
  (tRet (tM1 (rJoin K) (tC (.str "")) (tLc (iRng1 (tCons (tVar 2) tNil)) (gName 3) tYes (tOp (rIx K) (tC (.str "abcdefghijklmnopqrstuvwxyz")) (gCall (sp_take K) E1 (tCons (tVar 0) (tCons (tC (.int 26)) tNil)))) [3])))))

theorem pu_any_row {K : PySem.W.Frag} (vs : List V) (H : Hp) (Q : VK) (E : XK) (h : sp_any_row K vs H Q E) : t_any_row K { nx := fun _ H' => Q .non H', rt := Q } (start ["_law_bag_here", "_law_most", "_law_size", "_law_k"] vs) H := by
  obtain ⟨_, _, rfl, b, H0, ys, m, rfl, rfl, rfl, B, m1, m2, hQ⟩ := h
  unfold t_any_row
  rw [lit_az, lit_empty]
  repeat' walk_at "s"
  refine s_take B (by decide) (lg (by decide) (by decide)) ?_
  intro r ys a1 a2 B
  repeat' walk_at "s"
  refine s_if (fun h => ?_) fun h => ?_
  · repeat' walk_at "s"
    refine s_text B (by omega) m2 ?_
    intro H1 ys l e1 B lw l1 l2
    replace l2 : (l.length : Int) ≤ max 2 m := l2
    exact hQ _ _ _ e1 B lw (by omega) (by omega)
  · repeat' walk_at "s"
    refine s_take B (by omega) (lg (by omega) (by omega)) ?_
    intro sz ys b1 b2 B
    repeat' walk_at "s"
    refine s_rn1 (by omega) (by omega) ?_
    intro D hD
    refine lcR hD (fun i acc Hi => ∃ (ys : List V) (cs : List Nat), Hi = upd H0 b (.lst ys) ∧ Bag K H0 b ys ∧ acc = cs.map (fun c => V.str (tx [c])) ∧ Low cs ∧ cs.length = i) ⟨ys, [], rfl, B, rfl, Low.nil, rfl⟩ (fun i acc Hi hi hn hl z => ?_) fun acc Hi hn hl z => ?_
    · obtain ⟨ys, cs, rfl, B, rfl, lc, hc⟩ := z
      repeat' walk_at "s"
      refine ⟨rfl, ?_⟩
      repeat' walk_at "s"
      refine s_takeD B hn (by omega) (lg (by omega) (by omega)) ?_
      intro r5 ys i1 i2 B hn
      refine s_pickX (by decide) i1 i2 fun q hq _ => ?_
      refine lc_put hn hl (by rw [sizeLine_eq]; omega) ⟨ys, cs ++ [_], rfl, B, by rw [List.map_append]; rfl, lc.app fun c hc => ?_, by rw [List.length_append, hc]; rfl⟩
      rcases List.mem_singleton.mp hc with rfl
      exact low_az _ (List.getElem_mem hq)
    · obtain ⟨ys, cs, rfl, B, rfl, lc, hc⟩ := z
      refine doneB B hn fun H4 e4 h4 B => ?_
      refine s_join (ls := cs.map fun c => [c]) (by rw [List.map_map]; exact SqL.of (B.see _ _ h4)) (by rw [sum_one]; omega) ?_
      rw [flat_one]
      exact hQ _ _ _ e4 B lc (by omega) (by omega)
end
section
/-! ### data: equal, well shown -/
theorem len_rgI (i j : Int) : (rgI i j).length = (j - i).toNat := by
  unfold rgI
  rw [List.length_map, List.length_range]
theorem mem_rgI {i j m : Int} (h : m ∈ rgI i j) : i ≤ m ∧ m < j := by
  obtain ⟨k, hk, rfl⟩ := List.mem_map.mp h
  have := List.mem_range.mp hk
  omega
theorem nice_ints {ns : List Int} {n : Nat} (h : ∀ m ∈ ns, m.natAbs < 10 ^ 100) (hn : ns.length ≤ n) (hz : n ≤ 10000) : Nice (dI ns) := by
  refine Bd.nice (bd_list (c := 101) (k := 0) (n := n) (fun d hd => ?_) (by rw [List.length_map]; exact hn)) (by omega) (by omega)
  obtain ⟨m, hm, rfl⟩ := List.mem_map.mp hd
  exact bd_int (k := 99) (h m hm) (by omega)
theorem nice_int {m : Int} (h : m.natAbs < 10 ^ 100) : Nice (.int m) := Bd.nice (bd_int (k := 99) h (by omega)) (by omega) (by omega)
theorem nice_non : Nice .none := bd_none.nice (by omega) (by omega)
theorem nice_bl (c : Bool) : Nice (.bool c) := (bd_bool c).nice (by omega) (by omega)
theorem eqvAll_int : ∀ a b : List Int, PyData.eqvAll (a.map .int) (b.map .int) = decide (a = b)
  | [], [] => rfl
  | [], _ :: _ => rfl
  | _ :: _, [] => rfl
  | x :: xs, y :: ys => by
    show (x == y && PyData.eqvAll (xs.map .int) (ys.map .int)) = _
    rw [eqvAll_int xs ys]
    by_cases h : x = y
    · subst h
      simp
    · simp [h]
theorem eqv_dI (a b : List Int) : PyData.eqv (dI a) (dI b) = decide (a = b) := eqvAll_int a b
theorem shaped_dI (a : List Int) : SeqAt.shaped (dI a) = true := by
  have h : PyData.canLayAll0 (a.map .int) = true ∧ PyData.depthAll (a.map .int) ≤ 0 := by
    induction a with
    | nil => exact ⟨rfl, Nat.le_refl _⟩
    | cons x xs ih => exact ⟨ih.1, Nat.max_le.mpr ⟨Nat.le_refl _, ih.2⟩⟩
  unfold SeqAt.shaped
  rw [Bool.and_eq_true]
  refine ⟨h.1, decide_eq_true ?_⟩
  show PyData.depthAll (a.map .int) + 1 ≤ 64
  have := h.2
  omega
section
variable {K : PySem.W.Frag} {H H0 : Hp} {Q : VK} {p q b : Addr} {o o' u : HO} {xs ys : List Int}
/-- lists of ints compared -/
theorem s_eqLI (h1 : SqL K H p (xs.map V.int)) (h2 : SqL K H q (ys.map V.int)) (r : Q (.bl (decide (xs = ys))) H) : rSame K (.ref p) (.ref q) H Q :=
  s_eqD (d := dI xs) (e := dI ys) (dp_ints h1) (dp_ints h2) (shaped_dI _) (shaped_dI _) (by rw [eqv_dI]; exact r)
theorem s_neLI (h1 : SqL K H p (xs.map V.int)) (h2 : SqL K H q (ys.map V.int)) (r : Q (.bl (!decide (xs = ys))) H) : rDiff K (.ref p) (.ref q) H Q :=
  s_neD (d := dI xs) (e := dI ys) (dp_ints h1) (dp_ints h2) (shaped_dI _) (shaped_dI _) (by rw [eqv_dI]; exact r)
theorem upd_in (ne : p ≠ b) : upd (upd (upd H p o) b u) p o' = upd (upd H p o') b u := by
  rw [upd_comm (H := upd H p o) (Ne.symm ne), upd_upd]
end
end
section
/-- one step of a reading (e: none past a statement's end) -/
local macro_rules
  | `(tactic| walk_at "e") => `(tactic| first
    | with_reducible refine s_ifs ?_
    | with_reducible refine s_test ?_
    | with_reducible refine s_truth ?_
    | with_reducible refine s_op ?_
    | with_reducible refine s_un ?_
    | with_reducible refine s_asg ?_
    | with_reducible refine s_ret ?_
    | with_reducible refine s_next ?_
    | with_reducible refine s_drop ?_
    | with_reducible refine s_c ?_
    | ((with_reducible refine s_var (v := ?v) ?e ?q); case e => exact rfl)
    | with_reducible refine s_name ?_
    | with_reducible refine s_exq ?_
    | with_reducible refine s_cons ?_
    | with_reducible refine s_nil ?_
    | with_reducible refine s_lst ?_
    | with_reducible refine s_tup ?_
    | with_reducible refine s_cb ?_
    | with_reducible refine s_call ?_
    | with_reducible refine s_and ?_
    | with_reducible refine s_or ?_
    | with_reducible refine s_not ?_
    | with_reducible refine s_andV ?_
    | with_reducible refine s_orV ?_
    | with_reducible refine s_notV ?_
    | with_reducible refine s_ife ?_
    | with_reducible refine s_chain ?_
    | with_reducible refine s_addI ?_
    | with_reducible refine s_sub ?_
    | with_reducible refine s_neg ?_
    | with_reducible refine s_eqI ?_
    | with_reducible refine s_eqX ?_
    | with_reducible refine s_eqT ?_
    | with_reducible refine s_eqB ?_
    | with_reducible refine s_eqNI ?_
    | with_reducible refine s_eqIN ?_
    | with_reducible refine s_eqNN ?_
    | with_reducible refine s_neI ?_
    | with_reducible refine s_neX ?_
    | with_reducible refine s_neT ?_
    | with_reducible refine s_neB ?_
    | with_reducible refine s_lt ?_
    | with_reducible refine s_le ?_
    | with_reducible refine s_gt ?_
    | with_reducible refine s_ge ?_
    | with_reducible refine s_isN ?_
    | with_reducible refine s_isS ?_
    | with_reducible refine s_truB ?_
    | with_reducible refine s_truI ?_
    | with_reducible refine s_truN ?_
    | with_reducible refine s_abs ?_
    | with_reducible refine s_min2 ?_
    | with_reducible refine s_max2 ?_
    | with_reducible refine s_intI ?_
    | with_reducible refine s_intB ?_
    | with_reducible refine s_ifT ?_
    | with_reducible refine s_ifF ?_
    | with_reducible refine s_ifnT ?_
    | with_reducible refine s_ifnF ?_
    | with_reducible refine s_gSub ?_
    | with_reducible refine s_gTup ?_
    | with_reducible refine s_augS ?_
    | ((with_reducible refine s_aug (x := ?v) ?e ?q); case e => exact rfl)
    | with_reducible refine s_yes ?_
    | with_reducible refine s_par ?_
    | with_reducible refine s_two ?_
    | with_reducible refine s_m1 ?_
    | with_reducible refine s_isstr ?_
    | with_reducible refine s_rev0 ?_
    | with_reducible refine s_gCons ?_
    | with_reducible refine s_gNil ?_
    | with_reducible refine s_ipI ?_
    | with_reducible refine s_ipA ?_
    | with_reducible refine s_sl ?_
    | with_reducible refine s_noPart ?_
    | with_reducible refine s_part ?_
    | with_reducible refine s_parte ?_
    | with_reducible refine s_for ?_
    | with_reducible refine s_lc ?_
    | with_reducible refine s_iL ?_
    | with_reducible refine s_iS ?_
    | with_reducible refine s_iT ?_
    | with_reducible refine s_itS ?_
    | with_reducible refine s_iR1 ?_
    | with_reducible refine s_iR2 ?_
    | with_reducible refine s_rg1 ?_
    | with_reducible refine s_rg2 ?_
    | with_reducible refine s_rg1e ?_
    | with_reducible refine s_rg2e ?_
    | with_reducible refine s_lrg ?_
    | with_reducible refine s_lr3 ?_
    | with_reducible refine s_bm ?_
    | with_reducible refine s_bm0 ?_
    | with_reducible refine s_retN ?_)
  | `(tactic| walk_at "s") => `(tactic| first
    | with_reducible refine s_seq ?_
    | walk_at "e")

theorem s_isi {K : PySem.W.Frag} {H : Hp} {Q : VK} {x : V} {T1 T2 : String} {r : Bool} (t : TyX K H x (.type T1)) (h : kitB T1 T2 = some r) (q : Q (.bl r) H) : rIsi K [x, .ty T2] H Q := ⟨x, .ty T2, .type T1, .type T2, r, rfl, .ty _, t, kit_ty h, q⟩
theorem isi_str {K : PySem.W.Frag} {H : Hp} {Q : VK} {z : Str} (q : Q (.bl true) H) : rIsi K [.str z, .ty "str"] H Q := s_isi (.base (.str _)) (by decide +kernel) q
theorem isi_int {K : PySem.W.Frag} {H : Hp} {Q : VK} {i : Int} (q : Q (.bl true) H) : rIsi K [.int i, .ty "int"] H Q := s_isi (.base (.int _)) (by decide +kernel) q
theorem at_int {α : Type} {l : List α} {k : Int} (h0 : 0 ≤ k) (h : k.toNat < l.length) : atI l k = some l[k.toNat] := by
  obtain ⟨m, rfl⟩ : ∃ m : Nat, k = m := ⟨k.toNat, by omega⟩
  exact at_get h
/-! ### rows made by calls -/
/-- the row that a call of the place k makes -/
def mk (l : List Nat) (k : Nat) : List Nat := l.take k ++ l ++ l.drop (k + 1)
theorem mk_len {l : List Nat} {k : Nat} (h : k < l.length) : (mk l k).length = 2 * l.length - 1 := by
  unfold mk
  rw [List.length_append, List.length_append, List.length_take, List.length_drop]
  omega
theorem mk_low {l : List Nat} {k : Nat} (h : Low l) : Low (mk l k) := ((h.take _).app h).app (h.drop _)
theorem mk_cut {l : List Nat} {k : Nat} (h : k < l.length) : l.take k ++ l.take k ++ [l[k]] ++ l.drop (k + 1) ++ l.drop (k + 1) = mk l k := by
  unfold mk
  have e : l.take k ++ [l[k]] ++ l.drop (k + 1) = l := by
    rw [List.append_assoc, List.singleton_append, List.getElem_cons_drop, List.take_append_drop]
  conv => rhs; rw [show l.take k ++ l = l.take k ++ (l.take k ++ [l[k]] ++ l.drop (k + 1)) by rw [e]]
  simp only [List.append_assoc]
/-- the row, a place: what made | the law's own slices make of them -/
def spMk (K : PySem.W.Frag) : Sp := sp2 fun x y H Q _ => ∃ (l : List Nat) (k : Int), x = .str (tx l) ∧ y = .int k ∧ 0 ≤ k ∧ k < l.length ∧ l.length ≤ 5000000 ∧ Q (.str (tx (mk l k.toNat))) H
abbrev sp_made (K : PySem.W.Frag) : Sp := spMk K
abbrev sp_called (K : PySem.W.Frag) : Sp := spMk K
def sp_call (K : PySem.W.Frag) : Sp := sp2 fun x y H Q _ => ∃ (l : List Nat) (k : Int), x = .str (tx l) ∧ y = .int k ∧ 0 ≤ k ∧ k < l.length ∧ 2 * l.length ≤ 1001 ∧ Q (.str (tx (mk l k.toNat))) H
section
variable {K : PySem.W.Frag} {H : Hp} {Q : VK} {E : XK} {l : List Nat} {k : Int}
theorem s_mk (h0 : 0 ≤ k) (h1 : k < l.length) (h2 : l.length ≤ 5000000) (q : Q (.str (tx (mk l k.toNat))) H) : Fr (spMk K) [.str (tx l), .int k] H Q E := s_all ⟨_, _, rfl, l, k, rfl, rfl, h0, h1, h2, q⟩
theorem s_callN (h0 : 0 ≤ k) (h1 : k < l.length) (h2 : 2 * l.length ≤ 1001) (q : Q (.str (tx (mk l k.toNat))) H) : Fr (sp_call K) [.str (tx l), .int k] H Q E := s_all ⟨_, _, rfl, l, k, rfl, rfl, h0, h1, h2, q⟩
end
def t_made (K : PySem.W.Frag) : TS :=
  (tRet (tOp (rPlus K) (tOp (rPlus K) (tSl (rCut K) (tVar 0) tNoPart (tPart (tVar 1))) (tVar 0)) (tSl (rCut K) (tVar 0) (tPart (tOp (rPlus K) (tVar 1) (tC (.int 1)))) tNoPart)))

theorem pu_made {K : PySem.W.Frag} (vs : List V) (H : Hp) (Q : VK) (E : XK) (h : sp_made K vs H Q E) : t_made K { nx := fun _ H' => Q .non H', rt := Q } (start ["row", "place"] vs) H := by
  obtain ⟨_, _, rfl, l, k, rfl, rfl, h0, h1, h2, hQ⟩ := h
  unfold t_made
  repeat' walk_at "s"
  refine s_toX (by omega) h0 ?_
  repeat' walk_at "s"
  refine s_addX (by rw [List.length_take]; omega) ?_
  repeat' walk_at "s"
  refine s_fromX (by omega) (by omega) ?_
  refine s_addX (by rw [List.length_append, List.length_take, List.length_drop]; omega) ?_
  rw [show (k + 1).toNat = k.toNat + 1 by omega]
  exact hQ
def t_called (K : PySem.W.Frag) : TS :=
  (tSeq (tPar 2 3 (tCons (tSl (rCut K) (tVar 0) tNoPart (tPart (tVar 1))) (tCons (tSl (rCut K) (tVar 0) (tPart (tOp (rPlus K) (tVar 1) (tC (.int 1)))) tNoPart) tNil)))
  (tRet (tOp (rPlus K) (tOp (rPlus K) (tOp (rPlus K) (tOp (rPlus K) (tVar 2) (tVar 2)) (tOp (rIx K) (tVar 0) (tVar 1))) (tVar 3)) (tVar 3))))

theorem pu_called {K : PySem.W.Frag} (vs : List V) (H : Hp) (Q : VK) (E : XK) (h : sp_called K vs H Q E) : t_called K { nx := fun _ H' => Q .non H', rt := Q } (start ["_law_row_here", "_law_place", "_law_ahead", "_law_behind"] vs) H := by
  obtain ⟨_, _, rfl, l, k, rfl, rfl, h0, h1, h2, hQ⟩ := h
  unfold t_called
  repeat' walk_at "s"
  refine s_toX (by omega) h0 ?_
  repeat' walk_at "s"
  refine s_fromX (by omega) (by omega) ?_
  repeat' walk_at "s"
  refine s_addX (by rw [List.length_take]; omega) ?_
  repeat' walk_at "s"
  have hk : k.toNat < l.length := by omega
  refine s_ixX (m := l[k.toNat]) (by omega) (at_int h0 hk) ?_
  refine s_addX (by rw [List.length_append, List.length_take]; show _ + 1 ≤ _; omega) ?_
  repeat' walk_at "s"
  refine s_addX (by rw [List.length_append, List.length_append, List.length_take, List.length_drop]; show _ + 1 + _ ≤ _; omega) ?_
  repeat' walk_at "s"
  refine s_addX (by rw [List.length_append, List.length_append, List.length_append, List.length_take, List.length_drop]; show _ + 1 + _ + _ ≤ _; omega) ?_
  rw [show (k + 1).toNat = k.toNat + 1 by omega, mk_cut hk]
  exact hQ
def t_call (K : PySem.W.Frag) : TS :=
  (tSeq (tIfS (tNot (tTest (tChain rLessE rLess (tC (.int 0)) (tVar 1) (tCB (rLen K) (tCons (tVar 0) tNil))))) tNever tNext)
  (tSeq (tIfS (tTest (tOp rMore (tOp rMinus (tOp rTimes (tC (.int 2)) (tCB (rLen K) (tCons (tVar 0) tNil))) (tC (.int 1))) (tC (.int 1000)))) tNever tNext)
  (tRet (gCall (sp_made K) E1 (tCons (tVar 0) (tCons (tVar 1) tNil))))))

theorem pu_call {K : PySem.W.Frag} (vs : List V) (H : Hp) (Q : VK) (E : XK) (h : sp_call K vs H Q E) : t_call K { nx := fun _ H' => Q .non H', rt := Q } (start ["row", "place"] vs) H := by
  obtain ⟨_, _, rfl, l, k, rfl, rfl, h0, h1, h2, hQ⟩ := h
  unfold t_call
  repeat' walk_at "s"
  refine s_if (fun _ => ?_) fun z => absurd h0 z
  repeat' walk_at "s"
  refine s_lenX (by omega) ?_
  repeat' walk_at "s"
  refine s_ifn (fun z => absurd h1 z) fun _ => ?_
  repeat' walk_at "s"
  refine s_lenX (by omega) ?_
  repeat' walk_at "s"
  refine s_mulI (mulW (by omega) (by omega)) ?_
  repeat' walk_at "s"
  refine s_if (fun z => by omega) fun _ => ?_
  repeat' walk_at "s"
  exact s_mk h0 h1 (by omega) hQ
end
section
/-- one step of a reading (e: none past a statement's end) -/
local macro_rules
  | `(tactic| walk_at "e") => `(tactic| first
    | with_reducible refine s_ifs ?_
    | with_reducible refine s_test ?_
    | with_reducible refine s_truth ?_
    | with_reducible refine s_op ?_
    | with_reducible refine s_un ?_
    | with_reducible refine s_asg ?_
    | with_reducible refine s_ret ?_
    | with_reducible refine s_next ?_
    | with_reducible refine s_drop ?_
    | with_reducible refine s_c ?_
    | ((with_reducible refine s_var (v := ?v) ?e ?q); case e => exact rfl)
    | with_reducible refine s_name ?_
    | with_reducible refine s_exq ?_
    | with_reducible refine s_cons ?_
    | with_reducible refine s_nil ?_
    | with_reducible refine s_lst ?_
    | with_reducible refine s_tup ?_
    | with_reducible refine s_cb ?_
    | with_reducible refine s_call ?_
    | with_reducible refine s_and ?_
    | with_reducible refine s_or ?_
    | with_reducible refine s_not ?_
    | with_reducible refine s_andV ?_
    | with_reducible refine s_orV ?_
    | with_reducible refine s_notV ?_
    | with_reducible refine s_ife ?_
    | with_reducible refine s_chain ?_
    | with_reducible refine s_addI ?_
    | with_reducible refine s_sub ?_
    | with_reducible refine s_neg ?_
    | with_reducible refine s_eqI ?_
    | with_reducible refine s_eqX ?_
    | with_reducible refine s_eqT ?_
    | with_reducible refine s_eqB ?_
    | with_reducible refine s_eqNI ?_
    | with_reducible refine s_eqIN ?_
    | with_reducible refine s_eqNN ?_
    | with_reducible refine s_neI ?_
    | with_reducible refine s_neX ?_
    | with_reducible refine s_neT ?_
    | with_reducible refine s_neB ?_
    | with_reducible refine s_lt ?_
    | with_reducible refine s_le ?_
    | with_reducible refine s_gt ?_
    | with_reducible refine s_ge ?_
    | with_reducible refine s_isN ?_
    | with_reducible refine s_isS ?_
    | with_reducible refine s_truB ?_
    | with_reducible refine s_truI ?_
    | with_reducible refine s_truN ?_
    | with_reducible refine s_abs ?_
    | with_reducible refine s_min2 ?_
    | with_reducible refine s_max2 ?_
    | with_reducible refine s_intI ?_
    | with_reducible refine s_intB ?_
    | with_reducible refine s_ifT ?_
    | with_reducible refine s_ifF ?_
    | with_reducible refine s_ifnT ?_
    | with_reducible refine s_ifnF ?_
    | with_reducible refine s_gSub ?_
    | with_reducible refine s_gTup ?_
    | with_reducible refine s_augS ?_
    | ((with_reducible refine s_aug (x := ?v) ?e ?q); case e => exact rfl)
    | with_reducible refine s_yes ?_
    | with_reducible refine s_par ?_
    | with_reducible refine s_two ?_
    | with_reducible refine s_m1 ?_
    | with_reducible refine s_isstr ?_
    | with_reducible refine s_rev0 ?_
    | with_reducible refine s_gCons ?_
    | with_reducible refine s_gNil ?_
    | with_reducible refine s_ipI ?_
    | with_reducible refine s_ipA ?_
    | with_reducible refine s_sl ?_
    | with_reducible refine s_noPart ?_
    | with_reducible refine s_part ?_
    | with_reducible refine s_parte ?_
    | with_reducible refine s_for ?_
    | with_reducible refine s_lc ?_
    | with_reducible refine s_iL ?_
    | with_reducible refine s_iS ?_
    | with_reducible refine s_iT ?_
    | with_reducible refine s_itS ?_
    | with_reducible refine s_iR1 ?_
    | with_reducible refine s_iR2 ?_
    | with_reducible refine s_rg1 ?_
    | with_reducible refine s_rg2 ?_
    | with_reducible refine s_rg1e ?_
    | with_reducible refine s_rg2e ?_
    | with_reducible refine s_lrg ?_
    | with_reducible refine s_lr3 ?_
    | with_reducible refine s_bm ?_
    | with_reducible refine s_bm0 ?_
    | with_reducible refine s_retN ?_)
  | `(tactic| walk_at "s") => `(tactic| first
    | with_reducible refine s_seq ?_
    | walk_at "e")

/-! ### walks with numbers -/
section
variable {K : PySem.W.Frag} {a : Addr} {xs : List V} {g : TG} {tb : TS} {En : Ends} {σ : L2.St} {H : Hp} {ts : TA}
theorem s_iE {R : It → Hp → Prop} (q : ts σ H fun vs H1 => ∃ a xs, vs = [.ref a] ∧ SqL K H1 a xs ∧ R (Ite K a) H1) : iEnum K ts σ H R := q
theorem s_itE {R : Addr → Prop} (h : SqL K H a xs) (q : R a) : ∃ p ys, [V.ref a] = [.ref p] ∧ SqL K H p ys ∧ R p := ⟨a, xs, rfl, h, q⟩
theorem forE (Pv : Nat → L2.St → Hp → Prop) (h0 : Pv 0 σ H) (hl : ∀ i σ H, i ≤ xs.length → Pv i σ H → SqL K H a xs)
    (hs : ∀ i x T σ H, xs[i]? = some x → i < xs.length → H T = none → Pv i σ H → g (.ref T) σ (upd H T (.tup [.int (i : Nat), x])) fun σ2 H2 => tb { En with nx := Pv (i + 1), ct := Pv (i + 1), bk := En.nx } σ2 H2) (hd : ∀ σ H, Pv xs.length σ H → En.nx σ H) :
    ∃ W : Nat → Nat → L2.St → Hp → Prop, (∃ m, W 0 m σ H) ∧ ∀ i m σ H, W i m σ H →
      ((Ite K a).stop i H ∧ En.nx σ H) ∨ ((Ite K a).go i H ∧ ∃ N : L2.St → Hp → Prop, (∀ σ' H', N σ' H' → ∃ m', m' < m ∧ W (i + 1) m' σ' H') ∧ ∀ x H', (Ite K a).yld i H x H' → g x σ H' fun σ2 H2 => tb { En with nx := N, ct := N, bk := En.nx } σ2 H2) := by
  refine ⟨fun i m σ H => m = xs.length - i ∧ i ≤ xs.length ∧ Pv i σ H, ⟨xs.length, by simp, Nat.zero_le _, h0⟩, ?_⟩
  rintro i m σ H ⟨rfl, hi, p⟩
  have q := hl i σ H hi p
  by_cases hlt : i < xs.length
  · refine .inr ⟨⟨xs, xs[i], q, List.getElem?_eq_getElem hlt⟩, Pv (i + 1), fun σ' H' p' => ⟨xs.length - (i + 1), by omega, rfl, hlt, p'⟩, fun x H' y => ?_⟩
    obtain ⟨T, z, rfl, hT, rfl, hz⟩ := y
    exact hs i z T σ H (hz xs q) hlt hT p
  · have e : i = xs.length := by omega
    subst e
    exact .inl ⟨⟨xs, q, Nat.le_refl _⟩, hd σ H p⟩
end
/-! ### a list that grows beside the bag: it stands outermost -/
section
variable {K : PySem.W.Frag} {H1 H : Hp} {Q : VK} {p b : Addr} {acc ys : List V} {o : HO} {y : V} {C : Prop}
theorem newD (B : Bag K H1 b ys) (hp : (upd H1 b (.lst ys)) p = none) (hC : C) (q : ∀ r H2, Same H1 H2 → H2 r = some o → Bag K H2 b ys → (upd H2 b (.lst ys)) p = none → Q (.ref r) (upd (upd H2 b (.lst ys)) p (.lst acc))) :
    NewO C o (upd (upd H1 b (.lst ys)) p (.lst acc)) Q := by
  refine ⟨hC, fun r hr => ?_⟩
  have ne : r ≠ p := fun e => by
    rw [e, upd_same] at hr
    cases hr
  rw [upd_ne ne] at hr
  have nb : r ≠ b := fun e => by
    rw [e, upd_same] at hr
    cases hr
  rw [upd_ne nb] at hr
  have hpb : p ≠ b := fun e => by
    rw [e, upd_same] at hp
    cases hp
  rw [upd_comm (H := upd H1 b (.lst ys)) (Ne.symm ne), upd_comm (H := H1) (Ne.symm nb)]
  refine q r (upd H1 r o) (same_new hr) upd_same (B.same (same_new hr) (by rw [upd_ne (Ne.symm nb)]; exact B.off)) ?_
  rw [upd_ne hpb] at hp ⊢
  rw [upd_ne (Ne.symm ne)]
  exact hp
theorem toB (o : HO) (B : Bag K H1 b ys) (hp : (upd H1 b (.lst ys)) p = none) : ∃ H', Same H1 H' ∧ H' p = some o ∧ Bag K H' b ys ∧ upd (upd H1 b (.lst ys)) p o = upd H' b (.lst ys) := by
  have ne : p ≠ b := fun e => by
    rw [e, upd_same] at hp
    cases hp
  rw [upd_ne ne] at hp
  exact ⟨upd H1 p o, same_new hp, upd_same, B.same (same_new hp) (by rw [upd_ne (Ne.symm ne)]; exact B.off), upd_comm (Ne.symm ne)⟩
theorem Bag.seeD (B : Bag K H1 b ys) (hp : (upd H1 b (.lst ys)) p = none) : Same H1 (upd (upd H1 b (.lst ys)) p o) := B.see.trans (same_new hp)
end
/-! ### stories -/
/-- calls of a row whose last place is l -/
def Sto (l : Int) (ns : List Int) : Prop := ∀ i (h : i < ns.length), 0 ≤ ns[i] ∧ ns[i] ≤ l * 2 ^ i
theorem sto_nil (l : Int) : Sto l [] := fun i h => absurd h (by simp)
theorem sto_cons {l n : Int} {ns : List Int} : Sto l (n :: ns) ↔ (0 ≤ n ∧ n ≤ l) ∧ Sto (2 * l) ns := by
  constructor
  · intro h
    refine ⟨?_, fun i hi => ?_⟩
    · have z := h 0 (by simp)
      rw [Int.pow_zero, Int.mul_one] at z
      exact z
    · have z := h (i + 1) (by simpa using hi)
      rw [Int.pow_succ, Int.mul_comm ((2 : Int) ^ i) 2, ← Int.mul_assoc, Int.mul_comm l 2] at z
      exact z
  · rintro ⟨h0, h⟩ i hi
    cases i with
    | zero =>
      rw [Int.pow_zero, Int.mul_one]
      exact h0
    | succ i =>
      have z := h i (by simpa using hi)
      rw [Int.pow_succ, Int.mul_comm ((2 : Int) ^ i) 2, ← Int.mul_assoc, Int.mul_comm l 2]
      exact z
theorem sto_snoc {l n : Int} {ns : List Int} (h : Sto l ns) (h0 : 0 ≤ n) (h1 : n ≤ l * 2 ^ ns.length) : Sto l (ns ++ [n]) := fun i hi => by
  by_cases c : i < ns.length
  · rw [List.getElem_append_left c]
    exact h i c
  · rw [List.length_append, List.length_singleton] at hi
    have e : i = ns.length := by omega
    subst e
    rw [List.getElem_append_right (Nat.le_refl _)]
    simpa using ⟨h0, h1⟩
theorem pow_le {i j : Nat} (h : i ≤ j) : (2 : Int) ^ i ≤ 2 ^ j := by
  have := Nat.pow_le_pow_right (show 0 < 2 by decide) h
  exact_mod_cast this
theorem pow_pos (i : Nat) : (1 : Int) ≤ 2 ^ i := by
  have := Nat.one_le_two_pow (n := i)
  exact_mod_cast this
/-- a doubled last place stays below a great number -/
theorem dbl_lt {l : Int} {i : Nat} (h0 : 0 ≤ l) (h : l ≤ 10 ^ 100) (hi : i ≤ 100) : 0 ≤ l * 2 ^ i ∧ l * 2 ^ i ≤ 10 ^ 131 := by
  refine ⟨Int.mul_nonneg h0 (by have := pow_pos i; omega), Int.le_trans (Int.mul_le_mul h (pow_le hi) (by have := pow_pos i; omega) (by decide)) (by decide +kernel)⟩
/-- the law's doubling -/
def sp_zdoubled (K : PySem.W.Frag) : Sp := sp2 fun x y H Q _ => ∃ (l k : Int), x = .int l ∧ y = .int k ∧ 0 ≤ l ∧ l ≤ 10 ^ 100 ∧ 0 ≤ k ∧ k ≤ 100 ∧ Q (.int (l * 2 ^ k.toNat)) H
/-- a story drawn -/
def sp_story (K : PySem.W.Frag) : Sp := sp3 fun x y z H Q _ => ∃ (b : Addr) (H0 : Hp) (ys : List V) (l k : Int), x = .ref b ∧ y = .int l ∧ z = .int k ∧ H = upd H0 b (.lst ys) ∧ Bag K H0 b ys ∧ 0 ≤ l ∧ l ≤ 10 ^ 100 ∧ 0 ≤ k ∧ k ≤ 100 ∧
  ∀ (H' : Hp) (zs : List V) (p : Addr) (ns : List Int), Same H0 H' → Bag K H' b zs → H' p = some (.lst (ns.map V.int)) → H0 p = none → Sto l ns → (ns.length : Int) = k → Q (.ref p) (upd H' b (.lst zs))
def t_zdoubled (K : PySem.W.Frag) : TS :=
  (tSeq (tFor (iRng1 (tCons (tVar 1) tNil)) (gName 2)
  (tAsg (tOp rTimes (tC (.int 2)) (tVar 0)) (gName 0)))
  (tRet (tVar 0)))
theorem pu_zdoubled {K : PySem.W.Frag} (vs : List V) (H : Hp) (Q : VK) (E : XK) (h : sp_zdoubled K vs H Q E) : t_zdoubled K { nx := fun _ H' => Q .non H', rt := Q } (start ["_law_last", "_law_calls", "_law_k"] vs) H := by
  obtain ⟨_, _, rfl, l, k, rfl, rfl, l0, l1, k0, k1, hQ⟩ := h
  unfold t_zdoubled
  repeat' walk_at "s"
  refine s_rn1 (by omega) (by omega) ?_
  refine for_range (fun i σ H' => H' = H ∧ ∃ x2, σ = [some (.int (l * 2 ^ i)), some (.int k), x2]) ⟨rfl, none, by rw [Int.pow_zero, Int.mul_one]; rfl⟩ (fun i σ H' hi z => ?_) fun σ H' z => ?_
  · obtain ⟨rfl, x2, rfl⟩ := z
    have hb := dbl_lt l0 l1 (i := i) (by omega)
    repeat' walk_at "s"
    refine s_mulI (mulW (by omega) (by omega)) ?_
    repeat' walk_at "s"
    have e : 2 * (l * 2 ^ i) = l * 2 ^ (i + 1) := by rw [Int.pow_succ, Int.mul_comm 2 (l * 2 ^ i), Int.mul_assoc]
    rw [e]
    exact ⟨rfl, _, rfl⟩
  · obtain ⟨rfl, x2, rfl⟩ := z
    repeat' walk_at "s"
    exact hQ
def t_story (K : PySem.W.Frag) : TS :=
  (tSeq (tAsg (tLst tNil) (gName 3))
  (tSeq (tFor (iRng1 (tCons (tVar 2) tNil)) (gName 4)
  (tSeq (tAsg (tIf (tTest (tOp (rDiff K) (tVar 3) (tLst tNil))) (tOp rTimes (tC (.int 2)) (tOp (rIx K) (tVar 3) (tUn (rU fun i => .int (-i)) (tC (.int 1))))) (tC (.int 0))) (gName 5))
  (tSeq (tAsg (tLst (tCons (tC (.int 0)) (tCons (tVar 1) (tCons (tOp rDiv (tVar 1) (tC (.int 2))) (tCons (tVar 5) (tCons (gCall (sp_take K) E1 (tCons (tVar 0) (tCons (tOp (rPlus K) (tVar 1) (tC (.int 1))) tNil))) (tCons (gCall (sp_take K) E1 (tCons (tVar 0) (tCons (tOp (rPlus K) (tVar 1) (tC (.int 1))) tNil))) tNil))))))) (gName 6))
  (tSeq (tDrop (tBM K "list" rAppend (tVar 3) (tCons (tOp (rIx K) (tVar 6) (gCall (sp_take K) E1 (tCons (tVar 0) (tCons (tC (.int 6)) tNil)))) tNil)))
  (tAsg (tOp rTimes (tC (.int 2)) (tVar 1)) (gName 1))))))
  (tRet (tVar 3))))
theorem pu_story {K : PySem.W.Frag} (vs : List V) (H : Hp) (Q : VK) (E : XK) (h : sp_story K vs H Q E) : t_story K { nx := fun _ H' => Q .non H', rt := Q } (start ["_law_bag_here", "_law_last", "_law_calls", "_law_found", "_law_k", "_law_again", "_law_some"] vs) H := by
  obtain ⟨_, _, _, rfl, b, H0, ys, l, k, rfl, rfl, rfl, rfl, B, l0, l1, k0, k1, hQ⟩ := h
  unfold t_story
  repeat' walk_at "s"
  refine ⟨sz_of rfl, fun p hp => ?_⟩
  repeat' walk_at "s"
  refine s_rn1 (by omega) (by omega) ?_
  have p0 : H0 p = none := by
    by_cases e : p = b
    · rw [e]; exact B.off
    · rw [upd_ne e] at hp; exact hp
  refine for_range (fun i σ H' => ∃ (H1 : Hp) (ys : List V) (ns : List Int) (x4 x5 x6 : Option V), Same H0 H1 ∧ Bag K H1 b ys ∧ (upd H1 b (.lst ys)) p = none ∧ Sto l ns ∧ ns.length = i ∧ H' = upd (upd H1 b (.lst ys)) p (.lst (ns.map V.int)) ∧ σ = [some (.ref b), some (.int (l * 2 ^ i)), some (.int k), some (.ref p), x4, x5, x6])
    ⟨H0, ys, [], _, _, _, Same.refl _, B, hp, sto_nil l, rfl, rfl, by rw [Int.pow_zero, Int.mul_one]; rfl⟩ (fun i σ H' hi z => ?_) fun σ H' z => ?_
  · clear B hp ys
    obtain ⟨H1, ys, ns, x4, x5, x6, e1, B, hp, hst, hl, rfl, rfl⟩ := z
    have hb := dbl_lt l0 l1 (i := i) (by omega)
    generalize hL : l * 2 ^ i = L at hb
    repeat' walk_at "e"
    with_reducible refine s_seqR (fun σ H => ∃ (H1 : Hp) (x5 : Int), Same H0 H1 ∧ Bag K H1 b ys ∧ (upd H1 b (.lst ys)) p = none ∧ H = upd (upd H1 b (.lst ys)) p (.lst (ns.map V.int)) ∧ 0 ≤ x5 ∧ x5 ≤ L ∧ σ = [some (.ref b), some (.int L), some (.int k), some (.ref p), some (.int (0 + (i : Nat))), some (.int x5), x6]) (fun σ H z => ?_) fun N hN => ?_
    · clear e1 B hp H1
      obtain ⟨H1, x5, e1, B, hp, rfl, h50, h51, rfl⟩ := z
      repeat' walk_at "s"
      refine s_div ⟨by decide, by decide⟩ ?_
      repeat' walk_at "s"
      refine s_takeD B hp (by omega) (lg (by omega) (by omega)) ?_
      intro r1 ys a1 a2 B hp
      repeat' walk_at "s"
      refine s_takeD B hp (by omega) (lg (by omega) (by omega)) ?_
      intro r2 ys b1 b2 B hp
      repeat' walk_at "s"
      refine newD B hp (sz_of rfl) fun q H2 e2 hq B hp => ?_
      repeat' walk_at "s"
      refine s_tyL (SqL.of upd_same) ?_
      repeat' walk_at "s"
      refine s_takeD B hp (by decide) (lg (by decide) (by decide)) ?_
      intro r3 ys c1 c2 B hp
      repeat' walk_at "s"
      refine s_pickP (fun x => ∃ s : Int, x = .int s ∧ 0 ≤ s ∧ s ≤ L) (B.seeD hp _ _ hq) c1 c2 (fun x hx => ?_) fun x hx => ?_
      · simp only [List.mem_cons, List.not_mem_nil, or_false] at hx
        rcases hx with rfl | rfl | rfl | rfl | rfl | rfl
        all_goals exact ⟨_, rfl, by omega, by omega⟩
      obtain ⟨s, rfl, s0, s1⟩ := hx
      repeat' walk_at "s"
      refine s_app upd_same (by rw [List.length_map, sizeLine_eq]; omega) ?_
      rw [upd_upd]
      repeat' walk_at "s"
      refine s_mulI (mulW (by omega) (by omega)) ?_
      repeat' walk_at "s"
      have e : 2 * L = l * 2 ^ (i + 1) := by rw [Int.pow_succ, ← Int.mul_assoc, hL, Int.mul_comm L 2]
      rw [e]
      exact ⟨H2, ys, ns ++ [s], _, _, _, e1.trans e2, B, hp, sto_snoc hst s0 (by rw [hl, hL]; exact s1), by rw [List.length_append, hl]; rfl, by rw [List.map_append]; rfl, rfl⟩
    · repeat' walk_at "s"
      refine newD B hp (sz_of rfl) fun q H2 e2 hq B hp => ?_
      refine s_neLI (xs := ns) (ys := []) (SqL.of upd_same) (SqL.of (B.seeD hp _ _ hq)) ?_
      repeat' walk_at "s"
      refine s_ifn (fun c => ?_) fun c => ?_
      · obtain ⟨ms, m, rfl⟩ : ∃ ms m, ns = ms ++ [m] := ⟨ns.dropLast, ns.getLast c, (List.dropLast_concat_getLast c).symm⟩
        rw [List.length_append, List.length_singleton] at hl
        have hm := hst ms.length (by rw [List.length_append, List.length_singleton]; omega)
        rw [List.getElem_append_right (Nat.le_refl _)] at hm
        simp only [Nat.sub_self, List.getElem_cons_zero] at hm
        have hL2 : L = 2 * (l * 2 ^ ms.length) := by
          rw [← hL, ← hl, Int.pow_succ, ← Int.mul_assoc, Int.mul_comm 2]
        repeat' walk_at "s"
        refine s_ixL (v := .int m) (SqL.of upd_same) (by rw [List.map_append]; exact atI_last _ _) ?_
        repeat' walk_at "s"
        refine s_mulI (mulW (by omega) (by omega)) ?_
        repeat' walk_at "s"
        exact hN _ _ ⟨H2, _, e1.trans e2, B, hp, rfl, by omega, by omega, rfl⟩
      · repeat' walk_at "s"
        exact hN _ _ ⟨H2, _, e1.trans e2, B, hp, rfl, by omega, by omega, rfl⟩
  · obtain ⟨H1, ys, ns, x4, x5, x6, e1, B, hp, hst, hl, rfl, rfl⟩ := z
    obtain ⟨H2, e2, h2, B, eq⟩ := toB (.lst (ns.map V.int)) B hp
    rw [eq]
    repeat' walk_at "s"
    exact hQ _ _ _ _ (e1.trans e2) B h2 p0 hst (by omega)
end
section
/-- one step of a reading (e: none past a statement's end) -/
local macro_rules
  | `(tactic| walk_at "e") => `(tactic| first
    | with_reducible refine s_ifs ?_
    | with_reducible refine s_test ?_
    | with_reducible refine s_truth ?_
    | with_reducible refine s_op ?_
    | with_reducible refine s_un ?_
    | with_reducible refine s_asg ?_
    | with_reducible refine s_ret ?_
    | with_reducible refine s_next ?_
    | with_reducible refine s_drop ?_
    | with_reducible refine s_c ?_
    | ((with_reducible refine s_var (v := ?v) ?e ?q); case e => exact rfl)
    | with_reducible refine s_name ?_
    | with_reducible refine s_exq ?_
    | with_reducible refine s_cons ?_
    | with_reducible refine s_nil ?_
    | with_reducible refine s_lst ?_
    | with_reducible refine s_tup ?_
    | with_reducible refine s_cb ?_
    | with_reducible refine s_call ?_
    | with_reducible refine s_and ?_
    | with_reducible refine s_or ?_
    | with_reducible refine s_not ?_
    | with_reducible refine s_andV ?_
    | with_reducible refine s_orV ?_
    | with_reducible refine s_notV ?_
    | with_reducible refine s_ife ?_
    | with_reducible refine s_chain ?_
    | with_reducible refine s_addI ?_
    | with_reducible refine s_sub ?_
    | with_reducible refine s_neg ?_
    | with_reducible refine s_eqI ?_
    | with_reducible refine s_eqX ?_
    | with_reducible refine s_eqT ?_
    | with_reducible refine s_eqB ?_
    | with_reducible refine s_eqNI ?_
    | with_reducible refine s_eqIN ?_
    | with_reducible refine s_eqNN ?_
    | with_reducible refine s_neI ?_
    | with_reducible refine s_neX ?_
    | with_reducible refine s_neT ?_
    | with_reducible refine s_neB ?_
    | with_reducible refine s_lt ?_
    | with_reducible refine s_le ?_
    | with_reducible refine s_gt ?_
    | with_reducible refine s_ge ?_
    | with_reducible refine s_isN ?_
    | with_reducible refine s_isS ?_
    | with_reducible refine s_truB ?_
    | with_reducible refine s_truI ?_
    | with_reducible refine s_truN ?_
    | with_reducible refine s_abs ?_
    | with_reducible refine s_min2 ?_
    | with_reducible refine s_max2 ?_
    | with_reducible refine s_intI ?_
    | with_reducible refine s_intB ?_
    | with_reducible refine s_ifT ?_
    | with_reducible refine s_ifF ?_
    | with_reducible refine s_ifnT ?_
    | with_reducible refine s_ifnF ?_
    | with_reducible refine s_gSub ?_
    | with_reducible refine s_gTup ?_
    | with_reducible refine s_augS ?_
    | ((with_reducible refine s_aug (x := ?v) ?e ?q); case e => exact rfl)
    | with_reducible refine s_yes ?_
    | with_reducible refine s_par ?_
    | with_reducible refine s_two ?_
    | with_reducible refine s_m1 ?_
    | with_reducible refine s_isstr ?_
    | with_reducible refine s_rev0 ?_
    | with_reducible refine s_gCons ?_
    | with_reducible refine s_gNil ?_
    | with_reducible refine s_ipI ?_
    | with_reducible refine s_ipA ?_
    | with_reducible refine s_sl ?_
    | with_reducible refine s_noPart ?_
    | with_reducible refine s_part ?_
    | with_reducible refine s_parte ?_
    | with_reducible refine s_for ?_
    | with_reducible refine s_lc ?_
    | with_reducible refine s_iL ?_
    | with_reducible refine s_iE ?_
    | with_reducible refine s_iS ?_
    | with_reducible refine s_iT ?_
    | with_reducible refine s_itS ?_
    | with_reducible refine s_iR1 ?_
    | with_reducible refine s_iR2 ?_
    | with_reducible refine s_iR3 ?_
    | with_reducible refine s_rg1 ?_
    | with_reducible refine s_rg2 ?_
    | with_reducible refine s_rg1e ?_
    | with_reducible refine s_rg2e ?_
    | with_reducible refine s_lrg ?_
    | with_reducible refine s_lr3 ?_
    | with_reducible refine s_bm ?_
    | with_reducible refine s_bm0 ?_
    | with_reducible refine s_retN ?_)
  | `(tactic| walk_at "s") => `(tactic| first
    | with_reducible refine s_seq ?_
    | walk_at "e")

/-! ### calls one after another -/
def fol (l : List Nat) (ns : List Int) : List Nat := ns.foldl (fun r n => mk r n.toNat) l
theorem fol_app (l : List Nat) (a c : List Int) : fol l (a ++ c) = fol (fol l a) c := List.foldl_append
theorem sto_take {l : Int} {ns : List Int} (h : Sto l ns) (i : Nat) : Sto l (ns.take i) := fun j hj => by
  rw [List.getElem_take]
  exact h j (by rw [List.length_take] at hj; omega)
theorem sto_drop {l : Int} {ns : List Int} (h : Sto l ns) (i : Nat) : Sto (l * 2 ^ i) (ns.drop i) := fun j hj => by
  rw [List.getElem_drop]
  have z := h (i + j) (by rw [List.length_drop] at hj; omega)
  rw [Int.pow_add, ← Int.mul_assoc] at z
  exact z
theorem fol_len : ∀ {ns : List Int} {l : List Nat}, 1 ≤ l.length → Sto ((l.length : Int) - 1) ns → ((fol l ns).length : Int) = ((l.length : Int) - 1) * 2 ^ ns.length + 1
  | [], l, _, _ => by
    show (l.length : Int) = ((l.length : Int) - 1) * 2 ^ 0 + 1
    rw [Int.pow_zero]
    omega
  | n :: r, l, h, s => by
    obtain ⟨⟨h0, h1⟩, s⟩ := sto_cons.mp s
    have hm := mk_len (l := l) (k := n.toNat) (by omega)
    have e : ((mk l n.toNat).length : Int) - 1 = 2 * ((l.length : Int) - 1) := by omega
    have z := fol_len (ns := r) (l := mk l n.toNat) (by omega) (by rw [e]; exact s)
    show ((fol (mk l n.toNat) r).length : Int) = _
    rw [z, e, List.length_cons, Int.pow_succ, Int.mul_comm 2, Int.mul_assoc, Int.mul_comm 2]
theorem fol_low : ∀ {ns : List Int} {l : List Nat}, Low l → Low (fol l ns)
  | [], _, h => h
  | n :: r, l, h => fol_low (ns := r) (mk_low h)
theorem nice_strs {ls : List (List Nat)} {n : Nat} (h : ∀ l ∈ ls, Low l ∧ l.length ≤ 1000) (hn : ls.length ≤ n) (hz : n ≤ 1000) : Nice (.list (ls.map fun l => .str (tx l))) := by
  refine Bd.nice (bd_list (c := 10002) (k := 0) (n := n) (fun d hd => ?_) (by rw [List.length_map]; exact hn)) (by omega) (by omega)
  obtain ⟨l, hl, rfl⟩ := List.mem_map.mp hd
  obtain ⟨h1, h2⟩ := h l hl
  exact (bd_str (n := 1000) (by rw [tx_len]; exact h2) fun c hc => by have := h1 c hc; omega).mono (by omega) (Nat.le_refl _)
theorem dp_txs {K : PySem.W.Frag} {H : Hp} {a : Addr} {ls : List (List Nat)} (h : SqL K H a (ls.map fun l => V.str (tx l))) : Dp K H (.ref a) (.list (ls.map fun l => .str (tx l))) := .lst h (dpAll_map _ _ (fun l => .str (tx l)) ls)
/-! lists cut, copied, changed -/
section
variable {K : PySem.W.Frag} {H H0 : Hp} {Q : VK} {E : XK} {a b p : Addr} {xs ys : List V} {lo hi : Option Int} {o : HO} {C : Prop}
theorem cutV_to {xs : List V} {k : Int} (h : 0 ≤ k) : cutV xs none (some k) = xs.take k.toNat := by
  obtain ⟨m, rfl⟩ : ∃ m : Nat, k = m := ⟨k.toNat, by omega⟩
  unfold cutV
  rw [HT.sIx_nat, HT.sIx_none, List.drop_zero, Nat.sub_zero, Int.toNat_natCast]
  by_cases h : m ≤ xs.length
  · rw [Nat.min_eq_left h]
  · rw [Nat.min_eq_right (by omega), List.take_of_length_le (Nat.le_refl _), List.take_of_length_le (by omega)]
theorem cutV_from {xs : List V} {k : Int} (h : 0 ≤ k) : cutV xs (some k) none = xs.drop k.toNat := by
  obtain ⟨m, rfl⟩ : ∃ m : Nat, k = m := ⟨k.toNat, by omega⟩
  unfold cutV
  rw [HT.sIx_nat, HT.sIx_none, Int.toNat_natCast]
  by_cases h : m ≤ xs.length
  · rw [Nat.min_eq_left h, List.take_of_length_le (by rw [List.length_drop]; omega)]
  · rw [Nat.min_eq_right (by omega), List.drop_of_length_le (Nat.le_refl _), List.drop_of_length_le (by omega)]
    simp
theorem s_cutN (h : SqL K H a xs) (q : NewO True (.lst (cutV xs lo hi)) H Q) : rCut K (.ref a) lo hi H Q := s_cutL h q.2
theorem s_listN (h : SqL K H a xs) (q : NewO True (.lst xs) H Q) : rListOf K [.ref a] H Q := .inl ⟨a, xs, rfl, .inl h, q.2⟩
theorem s_listX {l : List Nat} (h : l.length ≤ 16777216) (q : NewO True (.lst (l.map fun c => V.str (tx [c]))) H Q) : rListOf K [.str (tx l)] H Q := .inr ⟨tx l, rfl, by rw [tx_len, sizeLine_eq]; exact h, q.2⟩
/-- as newB, with the place's freshness -/
theorem newF (B : Bag K H0 b ys) (hC : C) (q : ∀ p H', H0 p = none → Same H0 H' → H' p = some o → Bag K H' b ys → Q (.ref p) (upd H' b (.lst ys))) : NewO C o (upd H0 b (.lst ys)) Q :=
  ⟨hC, bag_new B fun p hp _ B' => q p _ hp (same_new hp) upd_same B'⟩
/-- a list changed that the bag may look at -/
theorem bag_chg {xs' : List V} (B : Bag K H b ys) (h : H p = some (.lst xs)) (hx : ∀ ns : List Int, xs = ns.map V.int → ns.length ≤ 1000 → (∀ m ∈ ns, 0 ≤ m) → ∃ ms : List Int, xs' = ms.map V.int ∧ (∀ m ∈ ms, 0 ≤ m) ∧ ms.length ≤ 1000) : Bag K (upd H p (.lst xs')) b ys := by
  obtain ⟨off, c, a0, a1, a2, ns, rfl, hS, hn, hl, r⟩ := B
  have nb : b ≠ p := fun e => by
    rw [e, h] at off
    cases off
  have hoff : upd H p (.lst xs') b = none := by rw [upd_ne nb]; exact off
  by_cases e : c = p
  · subst e
    rcases hS with (z | ⟨o, z⟩) | z
    · rw [h] at z
      cases z
      obtain ⟨ms, rfl, h1, h2⟩ := hx ns rfl hl hn
      exact ⟨hoff, c, a0, a1, a2, ms, rfl, SqL.of upd_same, h1, h2, r⟩
    · rw [h] at z
      cases z
    · exact ⟨hoff, c, a0, a1, a2, ns, rfl, .inr z, hn, hl, r⟩
  · refine ⟨hoff, c, a0, a1, a2, ns, rfl, ?_, hn, hl, r⟩
    rcases hS with (z | ⟨o, z⟩) | z
    · exact .inl (.inl (by rw [upd_ne e]; exact z))
    · exact .inl (.inr ⟨o, by rw [upd_ne e]; exact z⟩)
    · exact .inr z
theorem upd_out {u : HO} (B : Bag K H b ys) (h : H p = some o) : upd (upd H b (.lst ys)) p u = upd (upd H p u) b (.lst ys) := upd_comm fun e => by
  have z := B.off
  rw [e, h] at z
  cases z
end
def sp_follow (K : PySem.W.Frag) : Sp := sp2 fun x y H Q _ => ∃ (l : List Nat) (p : Addr) (ns : List Int), x = .str (tx l) ∧ y = .ref p ∧ SqL K H p (ns.map V.int) ∧ 2 ≤ l.length ∧ Sto ((l.length : Int) - 1) ns ∧ ((l.length : Int) - 1) * 2 ^ ns.length + 1 ≤ 1000 ∧
  ∀ H', Same H H' → Q (.str (tx (fol l ns))) H'
theorem s_fol {K : PySem.W.Frag} {H : Hp} {Q : VK} {E : XK} {l : List Nat} {p : Addr} {ns : List Int} (hp : SqL K H p (ns.map V.int)) (h2 : 2 ≤ l.length) (hs : Sto ((l.length : Int) - 1) ns) (hb : ((l.length : Int) - 1) * 2 ^ ns.length + 1 ≤ 1000) (q : ∀ H', Same H H' → Q (.str (tx (fol l ns))) H') :
    sp_follow K [.str (tx l), .ref p] H Q E := ⟨_, _, rfl, l, p, ns, rfl, rfl, hp, h2, hs, hb, q⟩
def t_follow (K : PySem.W.Frag) : TS :=
  (tSeq (tAsg (tOp rMinus (tCB (rLen K) (tCons (tVar 0) tNil)) (tC (.int 1))) (gName 2))
  (tSeq (tFor (iEnum K (tCons (tVar 1) tNil)) (gTup K 2 (gCons (gName 3) (gCons (gName 4) gNil)))
  (tSeq (tIfS (tNot (tTest (tChain rLessE rLessE (tC (.int 0)) (tVar 4) (tVar 2)))) tNever tNext)
  (tAsg (tOp rTimes (tC (.int 2)) (tVar 2)) (gName 2))))
  (tSeq (tIfS (tTest (tOp rMore (tOp (rPlus K) (tVar 2) (tC (.int 1))) (tC (.int 1000)))) tNever tNext)
  (tSeq (tFor (iList K (tVar 1)) (gName 4)
  (tAsg (gCall (sp_made K) E1 (tCons (tVar 0) (tCons (tVar 4) tNil))) (gName 0)))
  (tRet (tVar 0))))))
theorem pu_follow {K : PySem.W.Frag} (vs : List V) (H : Hp) (Q : VK) (E : XK) (h : sp_follow K vs H Q E) : t_follow K { nx := fun _ H' => Q .non H', rt := Q } (start ["row", "calls", "last", "at", "place"] vs) H := by
  obtain ⟨_, _, rfl, l, p, ns, rfl, rfl, hp, l0, hst, hb, hQ⟩ := h
  have hb1 : ∀ i, i ≤ ns.length → ((l.length : Int) - 1) * 2 ^ i ≤ 999 ∧ 1 ≤ ((l.length : Int) - 1) * 2 ^ i := fun i hi => by
    have h1 : ((l.length : Int) - 1) * 2 ^ i ≤ ((l.length : Int) - 1) * 2 ^ ns.length := Int.mul_le_mul_of_nonneg_left (pow_le hi) (by omega)
    have h2 : ((l.length : Int) - 1) * 1 ≤ ((l.length : Int) - 1) * 2 ^ i := Int.mul_le_mul_of_nonneg_left (pow_pos i) (by omega)
    omega
  have hb0 := hb1 0 (Nat.zero_le _)
  rw [Int.pow_zero, Int.mul_one] at hb0
  unfold t_follow
  repeat' walk_at "s"
  refine s_lenX (by omega) ?_
  repeat' walk_at "s"
  refine s_itE hp ?_
  refine forE (xs := ns.map V.int) (fun i σ H' => Same H H' ∧ ∃ x3 x4, σ = [some (.str (tx l)), some (.ref p), some (.int (((l.length : Int) - 1) * 2 ^ i)), x3, x4]) ⟨Same.refl _, none, none, by rw [Int.pow_zero, Int.mul_one]; rfl⟩ (fun i σ H' _ z => z.1.seq hp) (fun i x T σ H' hx hi hT z => ?_) fun σ H' z => ?_
  · obtain ⟨e, x3, x4, rfl⟩ := z
    rw [List.length_map] at hi
    obtain ⟨n, rfl, hn⟩ := int_at hx
    have hn2 : n = ns[i] := by
      rw [List.getElem?_eq_getElem hi] at hn
      exact (Option.some.inj hn).symm
    have hs := hst i hi
    rw [← hn2] at hs
    have hbi := hb1 i (by omega)
    refine s_gTup (SqT.of upd_same) rfl ?_
    repeat' walk_at "s"
    refine s_if (fun _ => ?_) fun z => absurd hs.1 z
    repeat' walk_at "s"
    refine s_ifn (fun z => absurd hs.2 z) fun _ => ?_
    repeat' walk_at "s"
    refine s_mulI (mulW (by omega) (by omega)) ?_
    repeat' walk_at "s"
    have e2 : 2 * (((l.length : Int) - 1) * 2 ^ i) = ((l.length : Int) - 1) * 2 ^ (i + 1) := by rw [Int.pow_succ, Int.mul_comm 2 (((l.length : Int) - 1) * 2 ^ i), Int.mul_assoc]
    rw [e2]
    exact ⟨e.trans (same_new hT), _, _, rfl⟩
  · obtain ⟨e, x3, x4, rfl⟩ := z
    rw [List.length_map]
    have hbn := hb1 ns.length (Nat.le_refl _)
    repeat' walk_at "s"
    refine s_if (fun z => by omega) fun _ => ?_
    repeat' walk_at "s"
    have hp' := e.seq hp
    refine s_itL hp' ?_
    refine for_list (xs := ns.map V.int) (fun i σ H2 => H2 = H' ∧ ∃ x2 x4, σ = [some (.str (tx (fol l (ns.take i)))), some (.ref p), x2, x3, x4]) ⟨rfl, _, _, rfl⟩ (fun i σ H2 _ z => by rw [z.1]; exact hp') (fun i x σ H2 hx z => ?_) fun σ H2 z => ?_
    · obtain ⟨rfl, x2, x4, rfl⟩ := z
      obtain ⟨n, rfl, hn⟩ := int_at hx
      have hi : i < ns.length := (List.getElem?_eq_some_iff.mp hn).1
      have hn2 : n = ns[i] := ((List.getElem?_eq_some_iff.mp hn).2).symm
      have hs := hst i hi
      rw [← hn2] at hs
      have hl := fol_len (l := l) (by omega) (sto_take hst i)
      have hbi := hb1 i (by omega)
      rw [List.length_take, Nat.min_eq_left (by omega)] at hl
      repeat' walk_at "s"
      refine s_mk hs.1 (by omega) (by omega) ?_
      repeat' walk_at "s"
      have e3 : fol l (ns.take (i + 1)) = mk (fol l (ns.take i)) n.toNat := by
        rw [List.take_add_one, hn, fol_app]
        rfl
      rw [e3]
      exact ⟨rfl, _, _, rfl⟩
    · obtain ⟨rfl, x2, x4, rfl⟩ := z
      rw [List.length_map, List.take_of_length_le (Nat.le_refl _)]
      repeat' walk_at "s"
      exact hQ _ e
end
section
/-- one step of a reading (e: none past a statement's end) -/
local macro_rules
  | `(tactic| walk_at "e") => `(tactic| first
    | with_reducible refine s_ifs ?_
    | with_reducible refine s_test ?_
    | with_reducible refine s_truth ?_
    | with_reducible refine s_op ?_
    | with_reducible refine s_un ?_
    | with_reducible refine s_asg ?_
    | with_reducible refine s_ret ?_
    | with_reducible refine s_next ?_
    | with_reducible refine s_drop ?_
    | with_reducible refine s_c ?_
    | ((with_reducible refine s_var (v := ?v) ?e ?q); case e => exact rfl)
    | with_reducible refine s_name ?_
    | with_reducible refine s_exq ?_
    | with_reducible refine s_cons ?_
    | with_reducible refine s_nil ?_
    | with_reducible refine s_lst ?_
    | with_reducible refine s_tup ?_
    | with_reducible refine s_cb ?_
    | with_reducible refine s_call ?_
    | with_reducible refine s_and ?_
    | with_reducible refine s_or ?_
    | with_reducible refine s_not ?_
    | with_reducible refine s_andV ?_
    | with_reducible refine s_orV ?_
    | with_reducible refine s_notV ?_
    | with_reducible refine s_ife ?_
    | with_reducible refine s_chain ?_
    | with_reducible refine s_addI ?_
    | with_reducible refine s_sub ?_
    | with_reducible refine s_neg ?_
    | with_reducible refine s_eqI ?_
    | with_reducible refine s_eqX ?_
    | with_reducible refine s_eqT ?_
    | with_reducible refine s_eqB ?_
    | with_reducible refine s_eqNI ?_
    | with_reducible refine s_eqIN ?_
    | with_reducible refine s_eqNN ?_
    | with_reducible refine s_neI ?_
    | with_reducible refine s_neX ?_
    | with_reducible refine s_neT ?_
    | with_reducible refine s_neB ?_
    | with_reducible refine s_lt ?_
    | with_reducible refine s_le ?_
    | with_reducible refine s_gt ?_
    | with_reducible refine s_ge ?_
    | with_reducible refine s_isN ?_
    | with_reducible refine s_isS ?_
    | with_reducible refine s_truB ?_
    | with_reducible refine s_truI ?_
    | with_reducible refine s_truN ?_
    | with_reducible refine s_abs ?_
    | with_reducible refine s_min2 ?_
    | with_reducible refine s_max2 ?_
    | with_reducible refine s_intI ?_
    | with_reducible refine s_intB ?_
    | with_reducible refine s_ifT ?_
    | with_reducible refine s_ifF ?_
    | with_reducible refine s_ifnT ?_
    | with_reducible refine s_ifnF ?_
    | with_reducible refine s_gSub ?_
    | with_reducible refine s_gTup ?_
    | with_reducible refine s_augS ?_
    | ((with_reducible refine s_aug (x := ?v) ?e ?q); case e => exact rfl)
    | with_reducible refine s_yes ?_
    | with_reducible refine s_par ?_
    | with_reducible refine s_two ?_
    | with_reducible refine s_m1 ?_
    | with_reducible refine s_isstr ?_
    | with_reducible refine s_rev0 ?_
    | with_reducible refine s_gCons ?_
    | with_reducible refine s_gNil ?_
    | with_reducible refine s_ipI ?_
    | with_reducible refine s_ipA ?_
    | with_reducible refine s_sl ?_
    | with_reducible refine s_noPart ?_
    | with_reducible refine s_part ?_
    | with_reducible refine s_parte ?_
    | with_reducible refine s_for ?_
    | with_reducible refine s_lc ?_
    | with_reducible refine s_iL ?_
    | with_reducible refine s_iE ?_
    | with_reducible refine s_iS ?_
    | with_reducible refine s_iT ?_
    | with_reducible refine s_itS ?_
    | with_reducible refine s_iR1 ?_
    | with_reducible refine s_iR2 ?_
    | with_reducible refine s_iR3 ?_
    | with_reducible refine s_rg1 ?_
    | with_reducible refine s_rg2 ?_
    | with_reducible refine s_rg1e ?_
    | with_reducible refine s_rg2e ?_
    | with_reducible refine s_lrg ?_
    | with_reducible refine s_lr3 ?_
    | with_reducible refine s_bm ?_
    | with_reducible refine s_bm0 ?_
    | with_reducible refine s_retN ?_)
  | `(tactic| walk_at "s") => `(tactic| first
    | with_reducible refine s_seq ?_
    | walk_at "e")

/-! ### heaps that only grow -/
section
variable {K : PySem.W.Frag} {H H0 Hi : Hp} {Q : VK} {E : XK} {a b p D : Addr} {xs ys acc : List V} {o : HO} {C : Prop} {ns ms : List Int} {ts : TA} {σ : L2.St}
theorem newS (hC : C) (q : ∀ p H', H p = none → Same H H' → H' p = some o → Q (.ref p) H') : NewO C o H Q := ⟨hC, fun p hp => q p _ hp (same_new hp) upd_same⟩
theorem doneS (hD : Hi D = none) (q : ∀ H', Same Hi H' → H' D = some o → Q (.ref D) H') : DoneC Q D (upd Hi D o) := q _ (same_new hD) upd_same
theorem s_sorted (h : SqL K H a (ns.map V.int)) (hp : ns.Perm ms) (hs : ms.Pairwise (· ≤ ·)) (q : NewO True (.lst (ms.map V.int)) H Q) : rSortedI K [.ref a] H Q := by
  refine ⟨a, ns, rfl, h, fun ns' p p1 p2 fr => ?_⟩
  have e : ns' = ms := List.Perm.eq_of_pairwise (fun x y _ _ h1 h2 => Int.le_antisymm h1 h2) p2 hs (p1.trans hp)
  rw [e]
  exact q.2 p fr
theorem s_addN {zs : List V} (h1 : H a = some (.lst xs)) (h2 : H b = some (.lst zs)) (h : xs.length + zs.length ≤ 16777216) (q : NewO True (.lst (xs ++ zs)) H Q) : rPlus K (.ref a) (.ref b) H Q := s_addL h1 h2 (small_sz h) q.2
theorem s_mulN {i : Int} (h : H a = some (.lst xs)) (h1 : -(2 ^ 63) ≤ i) (h2 : i < 2 ^ 63) (h3 : xs.length * i.toNat ≤ 16777216) (q : NewO True (.lst (List.replicate i.toNat xs).flatten) H Q) : rTimes (.ref a) (.int i) H Q := s_mulL h h1 h2 (small_sz h3) q.2
/-- a callee that sees neither the list at D nor the bag -/
theorem s_hid2 {sp : Sp} {vs : List V} (B : Bag K H0 b ys) (hD : (upd H0 b (.lst ys)) D = none) (q : sp vs H0 (fun v H' => H' b = none → (upd H' b (.lst ys)) D = none → Q v (upd (upd H' b (.lst ys)) D (.lst acc))) fun c d H' => H' b = none → (upd H' b (.lst ys)) D = none → E c d (upd (upd H' b (.lst ys)) D (.lst acc))) :
    Fr sp vs (upd (upd H0 b (.lst ys)) D (.lst acc)) Q E := by
  have ne : D ≠ b := fun e => by
    rw [e, upd_same] at hD
    cases hD
  refine ⟨[(D, acc), (b, ys)], H0, rfl, fun m hm => ?_, ?_⟩
  · rcases List.mem_cons.mp hm with rfl | hm
    · rw [upd_ne ne] at hD
      exact hD
    · rcases List.mem_singleton.mp hm with rfl
      exact B.off
  · have key : ∀ (H' : Hp), Off [(D, acc), (b, ys)] H' ↔ (H' b = none ∧ (upd H' b (.lst ys)) D = none) := fun H' => by
      rw [upd_ne ne]
      exact ⟨fun o => ⟨o (b, ys) (by simp), o (D, acc) (by simp)⟩, fun o m hm => by
        rcases List.mem_cons.mp hm with rfl | hm
        · exact o.2
        · rcases List.mem_singleton.mp hm with rfl
          exact o.1⟩
    have e1 : (fun v H' => Off [(D, acc), (b, ys)] H' → Q v (lay [(D, acc), (b, ys)] H')) = fun v H' => H' b = none → (upd H' b (.lst ys)) D = none → Q v (upd (upd H' b (.lst ys)) D (.lst acc)) := by
      funext v H'
      exact propext ⟨fun z n1 n2 => z ((key H').mpr ⟨n1, n2⟩), fun z o => z ((key H').mp o).1 ((key H').mp o).2⟩
    have e2 : (fun c d H' => Off [(D, acc), (b, ys)] H' → E c d (lay [(D, acc), (b, ys)] H')) = fun c d H' => H' b = none → (upd H' b (.lst ys)) D = none → E c d (upd (upd H' b (.lst ys)) D (.lst acc)) := by
      funext c d H'
      exact propext ⟨fun z n1 n2 => z ((key H').mpr ⟨n1, n2⟩), fun z o => z ((key H').mp o).1 ((key H').mp o).2⟩
    rw [e1, e2]
    exact q
theorem s_iR3 {R : It → Hp → Prop} (q : ts σ H fun vs H1 => ∃ (i j c : Int) (n : Nat), vs = [.int i, .int j, .int c] ∧ RgC i j c n ∧ R (Itc i c n) H1) : iRng3 ts σ H R := q
/-- range(i, j, -1) -/
theorem s_rnD {R : Int → Int → Nat → Prop} {i j : Int} (h : -(2 ^ 62) ≤ i ∧ i < 2 ^ 62 ∧ -(2 ^ 62) ≤ j ∧ j < 2 ^ 62) (q : R i (-1) (i - j).toNat) : ∃ (i' j' c : Int) (n : Nat), [V.int i, V.int j, V.int (-1)] = [.int i', .int j', .int c] ∧ RgC i' j' c n ∧ R i' c n :=
  ⟨i, j, -1, _, rfl, RgC.neg h.1 h.2.1 h.2.2.1 h.2.2.2, q⟩
end
/-! ### places shown -/
/-- the place that is shown -/
def shownI (l c p : Int) : Int := if p < c then p else if p ≤ c + l then p - c else p - l
/-- the places that show a place -/
def showL (l c p : Int) : List Int := if p < c then [p, p + c] else if p = c then [2 * c] else [p + c, p + l]
def sp_shown (K : PySem.W.Frag) : Sp := sp3 fun x y z H Q _ => ∃ l c p : Int, x = .int l ∧ y = .int c ∧ z = .int p ∧ Q (.int (shownI l c p)) H
def sp_showing (K : PySem.W.Frag) : Sp := sp3 fun x y z H Q _ => ∃ l c p : Int, x = .int l ∧ y = .int c ∧ z = .int p ∧ c.natAbs < 10 ^ 200 ∧ ∀ q, H q = none → Q (.ref q) (upd H q (.lst ((showL l c p).map V.int)))
theorem s_shown {K : PySem.W.Frag} {H : Hp} {Q : VK} {E : XK} {l c p : Int} (q : Q (.int (shownI l c p)) H) : Fr (sp_shown K) [.int l, .int c, .int p] H Q E := s_all ⟨_, _, _, rfl, l, c, p, rfl, rfl, rfl, q⟩
theorem s_showing {K : PySem.W.Frag} {H : Hp} {Q : VK} {E : XK} {l c p : Int} (hc : c.natAbs < 10 ^ 200) (q : NewO True (.lst ((showL l c p).map V.int)) H Q) : Fr (sp_showing K) [.int l, .int c, .int p] H Q E := s_all ⟨_, _, _, rfl, l, c, p, rfl, rfl, rfl, hc, q.2⟩
theorem shown_le {l c p : Int} (h0 : 0 ≤ c) (h1 : c ≤ l) (h2 : 0 ≤ p) (h3 : p ≤ 2 * l) : 0 ≤ shownI l c p ∧ shownI l c p ≤ l := by
  unfold shownI
  split
  · omega
  · split <;> omega
theorem mem_showL {l c p m : Int} (h0 : 0 ≤ c) (h1 : c ≤ l) (h2 : 0 ≤ p) (h3 : p ≤ l) : m ∈ showL l c p ↔ 0 ≤ m ∧ m ≤ 2 * l ∧ shownI l c m = p := by
  unfold showL shownI
  by_cases a : p < c
  · rw [if_pos a]
    simp only [List.mem_cons, List.not_mem_nil, or_false]
    split <;> (try split) <;> omega
  · rw [if_neg a]
    by_cases b : p = c
    · rw [if_pos b]
      simp only [List.mem_cons, List.not_mem_nil, or_false]
      split <;> (try split) <;> omega
    · rw [if_neg b]
      simp only [List.mem_cons, List.not_mem_nil, or_false]
      split <;> (try split) <;> omega
theorem nodup_showL {l c p : Int} (h0 : 0 ≤ c) (h1 : c ≤ l) (h2 : 0 ≤ p) (h3 : p ≤ l) : (showL l c p).Nodup := by
  unfold showL
  by_cases a : p < c
  · rw [if_pos a]
    simp
    omega
  · rw [if_neg a]
    by_cases b : p = c
    · rw [if_pos b]
      simp
    · rw [if_neg b]
      simp
      omega
theorem len_showL (l c p : Int) : (showL l c p).length ≤ 2 := by
  unfold showL
  split
  · exact Nat.le_refl _
  · split
    · exact Nat.le_succ 1
    · exact Nat.le_refl _
/-- a letter of the made row is the letter of the place that it shows -/
theorem mk_at {l : List Nat} {k i : Nat} (hk : k < l.length) (hi : i < 2 * l.length - 1) : (mk l k)[i]? = l[(shownI ((l.length : Int) - 1) k i).toNat]? := by
  unfold mk shownI
  have e1 : (l.take k ++ l).length = k + l.length := by rw [List.length_append, List.length_take]; omega
  by_cases a : (i : Int) < k
  · rw [if_pos a, List.getElem?_append_left (by omega), List.getElem?_append_left (by rw [List.length_take]; omega), List.getElem?_take, if_pos (by omega), Int.toNat_natCast]
  · rw [if_neg a]
    by_cases c : (i : Int) ≤ k + ((l.length : Int) - 1)
    · rw [if_pos c, List.getElem?_append_left (by omega), List.getElem?_append_right (by rw [List.length_take]; omega), List.length_take, Nat.min_eq_left (by omega)]
      congr 1
      omega
    · rw [if_neg c, List.getElem?_append_right (by omega), e1, List.getElem?_drop]
      congr 1
      omega
def t_shown (K : PySem.W.Frag) : TS :=
  (tSeq (tIfS (tTest (tOp rLess (tVar 2) (tVar 1))) (tRet (tVar 2)) tNext)
  (tSeq (tIfS (tTest (tOp rLessE (tVar 2) (tOp (rPlus K) (tVar 1) (tVar 0)))) (tRet (tOp rMinus (tVar 2) (tVar 1))) tNext)
  (tRet (tOp rMinus (tVar 2) (tVar 0)))))
theorem pu_shown {K : PySem.W.Frag} (vs : List V) (H : Hp) (Q : VK) (E : XK) (h : sp_shown K vs H Q E) : t_shown K { nx := fun _ H' => Q .non H', rt := Q } (start ["last", "called", "place"] vs) H := by
  obtain ⟨_, _, _, rfl, l, c, p, rfl, rfl, rfl, hQ⟩ := h
  unfold t_shown
  unfold shownI at hQ
  repeat' walk_at "s"
  refine s_if (fun h1 => ?_) fun h1 => ?_
  · repeat' walk_at "s"
    rw [if_pos h1] at hQ
    exact hQ
  · rw [if_neg h1] at hQ
    repeat' walk_at "s"
    refine s_if (fun h2 => ?_) fun h2 => ?_
    · rw [if_pos h2] at hQ
      repeat' walk_at "s"
      exact hQ
    · rw [if_neg h2] at hQ
      repeat' walk_at "s"
      exact hQ
def t_showing (K : PySem.W.Frag) : TS :=
  (tSeq (tIfS (tTest (tOp rLess (tVar 2) (tVar 1))) (tRet (tLst (tCons (tVar 2) (tCons (tOp (rPlus K) (tVar 2) (tVar 1)) tNil)))) tNext)
  (tSeq (tIfS (tTest (tOp (rSame K) (tVar 2) (tVar 1))) (tRet (tLst (tCons (tOp rTimes (tC (.int 2)) (tVar 1)) tNil))) tNext)
  (tRet (tLst (tCons (tOp (rPlus K) (tVar 2) (tVar 1)) (tCons (tOp (rPlus K) (tVar 2) (tVar 0)) tNil))))))
theorem pu_showing {K : PySem.W.Frag} (vs : List V) (H : Hp) (Q : VK) (E : XK) (h : sp_showing K vs H Q E) : t_showing K { nx := fun _ H' => Q .non H', rt := Q } (start ["last", "called", "place"] vs) H := by
  obtain ⟨_, _, _, rfl, l, c, p, rfl, rfl, rfl, hc, hQ⟩ := h
  unfold t_showing
  unfold showL at hQ
  repeat' walk_at "s"
  refine s_if (fun h1 => ?_) fun h1 => ?_
  · repeat' walk_at "s"
    rw [if_pos h1] at hQ
    exact ⟨sz_of rfl, hQ⟩
  · rw [if_neg h1] at hQ
    repeat' walk_at "s"
    refine s_if (fun h2 => ?_) fun h2 => ?_
    · rw [if_pos h2] at hQ
      repeat' walk_at "s"
      refine s_mulI (mulW (by decide) hc) ?_
      repeat' walk_at "s"
      exact ⟨sz_of rfl, hQ⟩
    · rw [if_neg h2] at hQ
      repeat' walk_at "s"
      exact ⟨sz_of rfl, hQ⟩
end
section
theorem mul_bd {x y a b : Int} (h1 : 0 ≤ x) (h2 : x ≤ a) (h3 : 0 ≤ y) (h4 : y ≤ b) : 0 ≤ x * y ∧ x * y ≤ a * b := ⟨Int.mul_nonneg h1 h3, Int.mul_le_mul h2 h4 h3 (Int.le_trans h1 h2)⟩
theorem same_put {H0 H1 : Hp} {p : Addr} {o : HO} (e : Same H0 H1) (h : H0 p = none) : Same H0 (upd H1 p o) := fun x z hx => by
  have ne : x ≠ p := fun q => by
    rw [q, h] at hx
    cases hx
  rw [upd_ne ne]
  exact e x z hx
theorem lit_a1 : ("a" : Str) = tx [97] := by decide +kernel
theorem lit_b1 : ("b" : Str) = tx [98] := by decide +kernel
theorem low_1 {c : Nat} (h0 : 97 ≤ c) (h : c ≤ 122) : Low [c] := fun x hx => by
  rcases List.mem_singleton.mp hx with rfl
  exact ⟨h0, h⟩
def TxOk (x : V) : Prop := ∃ w : List Nat, x = .str (tx w) ∧ Low w ∧ 1 ≤ w.length ∧ w.length ≤ 1000
theorem s_listT {K : PySem.W.Frag} {H : Hp} {Q : VK} {a : Addr} {xs : List V} (h : SqT K H a xs) (q : NewO True (.lst xs) H Q) : rListOf K [.ref a] H Q := .inl ⟨a, xs, rfl, .inr h, q.2⟩
theorem same_none {H0 H1 : Hp} {p : Addr} (e : Same H0 H1) (h : H1 p = none) : H0 p = none := by
  cases q : H0 p with
  | none => rfl
  | some z =>
    rw [e _ _ q] at h
    cases h
theorem s_orT {K : PySem.W.Frag} {ta tb : TE} {σ : L2.St} {H : Hp} {Q : VK} (q : ta σ H fun x H1 => ∃ k, TruV K x H1 k ∧ if k = true then Q x H1 else tb σ H1 Q) : tOrT K ta tb σ H Q := q
theorem s_orC {K : PySem.W.Frag} {σ : L2.St} {H : Hp} {Q : VK} {l : List Nat} {v : V} (P : V → Prop) (hz : l.length ≤ 16777216) (h1 : l.length ≠ 0 → P (.str (tx l))) (h2 : P v) (q : ∀ x, P x → Q x H) : ∃ k, TruV K (.str (tx l)) H k ∧ if k = true then Q (.str (tx l)) H else tC v σ H Q := by
  refine ⟨(((tx l).length : Int) != 0), ⟨by rw [tx_len, sizeLine_eq]; exact hz, rfl⟩, ?_⟩
  refine ite2 (fun h => q _ (h1 fun e => ?_)) fun _ => q _ h2
  rw [tx_len, e] at h
  cases h
theorem tupleText_le : ∀ ts : List Str, (tupleText ts).length ≤ 3 + piled ts := fun ts => by
  unfold tupleText
  rw [Str.length_append, Str.length_append]
  have e1 : ((("(" : String) : Str)).length = 1 := by decide +kernel
  have e3 : (((if ts.length == 1 then ",)" else ")" : String) : Str)).length ≤ 2 := by split <;> decide +kernel
  rw [e1]
  by_cases h : ts = []
  · subst h
    show 1 + (Str.join ", " []).length + _ ≤ _
    have e2 : (Str.join ", " []).length = 0 := by decide +kernel
    rw [e2, piled_nil]
    omega
  · have := join_length_add ts h
    omega
theorem bd_tuple {c k n : Nat} {ds : List PyData} (h : ∀ d ∈ ds, Bd c k d) (hn : ds.length ≤ n) : Bd (3 + n * (c + 2)) (k + 1) (.tuple ds) := by
  obtain ⟨q1, q2, q3, q4⟩ := bd_all h
  refine ⟨?_, q1, q2, ?_⟩
  · show (tupleText (PyData.shownAll ds)).length ≤ _
    refine Nat.le_trans (tupleText_le _) ?_
    have l := piled_le _ q4
    rw [shownAll_map, List.length_map] at l
    rw [shownAll_map]
    have := Nat.mul_le_mul_right (c + 2) hn
    omega
  · show PyData.depthAll ds + 1 ≤ k + 1
    omega
theorem bd_tx {l : List Nat} {n : Nat} (h : Low l) (hz : l.length ≤ n) : Bd (10 * n + 2) 0 (.str (tx l)) := bd_str (by rw [tx_len]; exact hz) fun c hc => by have := h c hc; omega
theorem no_ints {x : Str} {xs : List V} {R : List Int → Prop} : ∀ ns : List Int, V.str x :: xs = ns.map V.int → R ns := fun ns e => by
  cases ns with
  | nil => cases e
  | cons n ns => cases e
section
variable {K : PySem.W.Frag} {H1 Hi : Hp} {a D : Addr} {xs acc : List V} {g : TG} {tt : TT} {te : TE} {vs : List Nat} {σ : L2.St} {Qd : Hp → Prop} {i n : Nat} {y : V} {lo : Int}
theorem lcT (hD : H1 D = none) (Pv : Nat → List V → Hp → Prop) (h0 : Pv 0 [] H1) (hl : ∀ i acc Hi, Pv i acc Hi → SqT K Hi a xs)
    (hs : ∀ i x acc Hi, xs[i]? = some x → i < xs.length → Hi D = none → acc.length ≤ i → Pv i acc Hi → g x (wipe σ vs) (upd Hi D (.lst acc)) fun σ2 H2 => wipe σ2 vs = wipe σ vs ∧ tt σ2 H2 fun b H3 =>
      if b = true then te σ2 H3 fun y H4 => ∃ acc, H4 D = some (.lst acc) ∧ acc.length < sizeLine ∧ PvD Pv D (i + 1) (upd H4 D (.lst (acc ++ [y]))) else PvD Pv D (i + 1) H3)
    (hd : ∀ acc Hi, Hi D = none → acc.length ≤ xs.length → Pv xs.length acc Hi → Qd (upd Hi D (.lst acc))) :
    ∃ W : Nat → Nat → Hp → Prop, (∃ m, W 0 m (upd H1 D (.lst []))) ∧ ∀ i m H, W i m H →
      ((Itt K a).stop i H ∧ Qd H) ∨ ((Itt K a).go i H ∧ ∃ Nx : Hp → Prop, (∀ H', Nx H' → ∃ m', m' < m ∧ W (i + 1) m' H') ∧ ∀ x H', (Itt K a).yld i H x H' → g x (wipe σ vs) H' fun σ2 H2 => wipe σ2 vs = wipe σ vs ∧ tt σ2 H2 fun b H3 =>
        if b = true then te σ2 H3 fun y H4 => ∃ acc, H4 D = some (.lst acc) ∧ acc.length < sizeLine ∧ Nx (upd H4 D (.lst (acc ++ [y]))) else Nx H3) := by
  refine lc_tup (xs := xs) (PvD Pv D) ⟨[], H1, rfl, hD, Nat.le_refl _, h0⟩ (fun i H _ p => ?_) (fun i x H e p => ?_) fun H p => ?_
  · obtain ⟨acc, Hi, rfl, h1, _, h2⟩ := p
    exact same_tup (same_new h1) (hl i acc Hi h2)
  · obtain ⟨acc, Hi, rfl, h1, h2, h3⟩ := p
    exact hs i x acc Hi e (List.getElem?_eq_some_iff.mp e).1 h1 h2 h3
  · obtain ⟨acc, Hi, rfl, h1, h2, h3⟩ := p
    exact hd acc Hi h1 h2 h3
end
/-- a new thing while a comprehension's list is hidden -/
theorem newH {H : Hp} {Q : VK} {D : Addr} {acc : List V} {o : HO} {C : Prop} (hD : H D = none) (hC : C) (q : ∀ r H2, Same H H2 → H2 r = some o → H2 D = none → Q (.ref r) (upd H2 D (.lst acc))) : NewO C o (upd H D (.lst acc)) Q := by
  refine ⟨hC, fun r hr => ?_⟩
  have ne : r ≠ D := fun e => by
    rw [e, upd_same] at hr
    cases hr
  rw [upd_ne ne] at hr
  rw [upd_comm (Ne.symm ne)]
  exact q r _ (same_new hr) upd_same (by rw [upd_ne (Ne.symm ne)]; exact hD)
theorem uD {n : Nat} (h : n + 65 < cLine) : n + 1 < cLine := by omega
section
variable {K : PySem.W.Frag} {H : Hp} {Q : VK} {a : Addr}
theorem s_sum {ns : List Int} (h : SqL K H a (ns.map V.int)) (q : Q (.int ns.sum) H) : rSum K [.ref a] H Q := ⟨a, ns, rfl, h, q⟩
theorem s_repr {v : V} {d : PyData} (h : Dp K H v d) (n : Nice d) (q : Q (.str d.shown) H) : rRepr K [v] H Q := ⟨v, d, rfl, h, n.sh, n.sw, n.sz, q⟩
end
end
section
/-- one step of a reading (e: none past a statement's end) -/
local macro_rules
  | `(tactic| walk_at "e") => `(tactic| first
    | with_reducible refine s_ifs ?_
    | with_reducible refine s_test ?_
    | with_reducible refine s_truth ?_
    | with_reducible refine s_op ?_
    | with_reducible refine s_un ?_
    | with_reducible refine s_asg ?_
    | with_reducible refine s_ret ?_
    | with_reducible refine s_next ?_
    | with_reducible refine s_drop ?_
    | with_reducible refine s_c ?_
    | ((with_reducible refine s_var (v := ?v) ?e ?q); case e => exact rfl)
    | with_reducible refine s_name ?_
    | with_reducible refine s_exq ?_
    | with_reducible refine s_cons ?_
    | with_reducible refine s_nil ?_
    | with_reducible refine s_lst ?_
    | with_reducible refine s_tup ?_
    | with_reducible refine s_cb ?_
    | with_reducible refine s_call ?_
    | with_reducible refine s_and ?_
    | with_reducible refine s_or ?_
    | with_reducible refine s_not ?_
    | with_reducible refine s_andV ?_
    | with_reducible refine s_orV ?_
    | with_reducible refine s_notV ?_
    | with_reducible refine s_ife ?_
    | with_reducible refine s_chain ?_
    | with_reducible refine s_addI ?_
    | with_reducible refine s_sub ?_
    | with_reducible refine s_neg ?_
    | with_reducible refine s_eqI ?_
    | with_reducible refine s_eqX ?_
    | with_reducible refine s_eqT ?_
    | with_reducible refine s_eqB ?_
    | with_reducible refine s_eqNI ?_
    | with_reducible refine s_eqIN ?_
    | with_reducible refine s_eqNN ?_
    | with_reducible refine s_neI ?_
    | with_reducible refine s_neX ?_
    | with_reducible refine s_neT ?_
    | with_reducible refine s_neB ?_
    | with_reducible refine s_lt ?_
    | with_reducible refine s_le ?_
    | with_reducible refine s_gt ?_
    | with_reducible refine s_ge ?_
    | with_reducible refine s_isN ?_
    | with_reducible refine s_isS ?_
    | with_reducible refine s_truB ?_
    | with_reducible refine s_truI ?_
    | with_reducible refine s_truN ?_
    | with_reducible refine s_abs ?_
    | with_reducible refine s_min2 ?_
    | with_reducible refine s_max2 ?_
    | with_reducible refine s_intI ?_
    | with_reducible refine s_intB ?_
    | with_reducible refine s_ifT ?_
    | with_reducible refine s_ifF ?_
    | with_reducible refine s_ifnT ?_
    | with_reducible refine s_ifnF ?_
    | with_reducible refine s_gSub ?_
    | with_reducible refine s_gTup ?_
    | with_reducible refine s_augS ?_
    | ((with_reducible refine s_aug (x := ?v) ?e ?q); case e => exact rfl)
    | with_reducible refine s_yes ?_
    | with_reducible refine s_par ?_
    | with_reducible refine s_two ?_
    | with_reducible refine s_m1 ?_
    | with_reducible refine s_isstr ?_
    | with_reducible refine s_rev0 ?_
    | with_reducible refine s_gCons ?_
    | with_reducible refine s_gNil ?_
    | with_reducible refine s_ipI ?_
    | with_reducible refine s_ipA ?_
    | with_reducible refine s_sl ?_
    | with_reducible refine s_noPart ?_
    | with_reducible refine s_part ?_
    | with_reducible refine s_parte ?_
    | with_reducible refine s_for ?_
    | with_reducible refine s_lc ?_
    | with_reducible refine s_iL ?_
    | with_reducible refine s_iE ?_
    | with_reducible refine s_iS ?_
    | with_reducible refine s_iT ?_
    | with_reducible refine s_itS ?_
    | with_reducible refine s_iR1 ?_
    | with_reducible refine s_iR2 ?_
    | with_reducible refine s_iR3 ?_
    | with_reducible refine s_rg1 ?_
    | with_reducible refine s_rg2 ?_
    | with_reducible refine s_rg1e ?_
    | with_reducible refine s_rg2e ?_
    | with_reducible refine s_lrg ?_
    | with_reducible refine s_lr3 ?_
    | with_reducible refine s_bm ?_
    | with_reducible refine s_bm0 ?_
    | with_reducible refine s_retN ?_)
  | `(tactic| walk_at "s") => `(tactic| first
    | with_reducible refine s_seq ?_
    | walk_at "e")

def azL : List Nat := ([97, 98, 99, 100, 101, 102, 103, 104, 105, 106, 107, 108, 109, 110, 111, 112, 113, 114, 115, 116, 117, 118, 119, 120, 121, 122] : List Nat)
def rowsL (f : Nat) : Nat → List (List Nat)
  | 0 => [[]]
  | n + 1 => (rowsL f n).flatMap fun t => (azL.take f).map fun c => t ++ [c]
def apartB (t : List Nat) : Bool := !decide (t.head? = t.getLast?)
abbrev sm : List (Nat × Nat) := [(2, 8), (2, 7), (2, 6), (2, 5), (3, 5), (3, 4), (3, 3), (3, 2), (4, 4), (4, 3), (4, 2), (4, 1)]
def prodI (ns : List Int) : Int := ns.foldl (· * ·) 1
abbrev txs (ts : List (List Nat)) : List V := ts.map fun t => V.str (tx t)
/-- the last place from which c calls lead to the last place m -/
def flN : Nat → Nat → Option Nat
  | m, 0 => some m
  | m, c + 1 => if m % 2 = 1 then none else flN (m / 2) c
def pl (l c : Nat) : List Int := (List.range c).map fun i => ((l * 2 ^ i : Nat) : Int) + 1
def rvG (f m c : Nat) : Int := match flN m c with
  | none => 0
  | some l => ((f : Int) - 1) * (f : Int) ^ l * prodI (pl l c)
theorem fl_some {m c l : Nat} (h : flN m c = some l) : l * 2 ^ c = m := by
  induction c generalizing m with
  | zero => rw [Nat.pow_zero, Nat.mul_one]; exact (Option.some.inj h).symm
  | succ c ih =>
    unfold flN at h
    split at h
    · cases h
    · have := ih h
      rw [Nat.pow_succ, ← Nat.mul_assoc, this]
      omega
theorem pl_succ (l c : Nat) : pl l (c + 1) = pl l c ++ [((l * 2 ^ c : Nat) : Int) + 1] := by
  unfold pl
  rw [List.range_succ, List.map_append]
  rfl
theorem pl_len (l c : Nat) : (pl l c).length = c := by
  unfold pl
  rw [List.length_map, List.length_range]
theorem pw_bd {f m : Nat} (hf : f ≤ 26) (hm : m ≤ 60) : 0 ≤ (f : Int) ^ m ∧ (f : Int) ^ m ≤ 26 ^ 60 := by
  have e : (f : Int) ^ m = ((f ^ m : Nat) : Int) := (Int.natCast_pow f m).symm
  have h : f ^ m ≤ 26 ^ 60 := Nat.le_trans (Nat.pow_le_pow_left hf m) (Nat.pow_le_pow_right (by decide) hm)
  rw [e]
  omega
theorem foldl_snoc (ns : List Int) (k a : Int) : (ns ++ [k]).foldl (· * ·) a = ns.foldl (· * ·) a * k := by rw [List.foldl_append]; rfl
theorem prod_take {ns : List Int} {i : Nat} {k : Int} (h : ns[i]? = some k) : prodI (ns.take (i + 1)) = prodI (ns.take i) * k := by
  unfold prodI
  rw [List.take_add_one, h]
  exact foldl_snoc _ _ _
theorem prod_rep (f : Int) (m : Nat) : prodI (List.replicate m f) = f ^ m := by
  induction m with
  | zero => exact (Int.pow_zero f).symm
  | succ m ih =>
    rw [List.replicate_succ', Int.pow_succ, ← ih]
    exact foldl_snoc _ _ _
theorem sevI (m : Nat) : (m : Int) + 1 - 1 = m := by omega
section
variable {K : PySem.W.Frag} {H : Hp} {Q : VK} {σ : L2.St} {i j : Int} {te : TE}
theorem s_ipM (h : CMul i j) (q : Q (.int (i * j)) H) : ipMul (.int i) (.int j) H Q := ⟨i, j, rfl, rfl, h, q⟩
end

theorem pl_prod (l c : Nat) : prodI (pl l (c + 1)) = prodI (pl l c) * (((l * 2 ^ c : Nat) : Int) + 1) := by
  rw [pl_succ]
  exact foldl_snoc _ _ _
theorem pl_ok {l c n : Nat} (h : l * 2 ^ c ≤ n) : ∀ k ∈ pl l c, 0 ≤ k ∧ k ≤ (n : Int) + 1 := fun k hk => by
  obtain ⟨i, hi, rfl⟩ := List.mem_map.mp hk
  have hi := List.mem_range.mp hi
  have hp : l * 2 ^ i ≤ l * 2 ^ c := Nat.mul_le_mul_left l (Nat.pow_le_pow_right (by decide) (Nat.le_of_lt hi))
  omega
theorem pl_bd {l c n : Nat} (h : l * 2 ^ c ≤ n) (hn : n ≤ 60) : 0 ≤ prodI (pl l c) ∧ prodI (pl l c) ≤ (61 ^ c : Nat) := by
  induction c with
  | zero => exact ⟨show (0 : Int) ≤ 1 by decide, show (1 : Int) ≤ ((61 ^ 0 : Nat) : Int) by decide⟩
  | succ c ih =>
    have hp : l * 2 ^ c ≤ l * 2 ^ (c + 1) := Nat.mul_le_mul_left l (Nat.pow_le_pow_right (by decide) (Nat.le_succ c))
    obtain ⟨h1, h2⟩ := ih (by omega)
    have := mul_bd h1 h2 (show (0 : Int) ≤ ((l * 2 ^ c : Nat) : Int) + 1 by omega) (show ((l * 2 ^ c : Nat) : Int) + 1 ≤ 61 by omega)
    rw [pl_prod]
    refine ⟨this.1, ?_⟩
    rw [Nat.pow_succ]
    push_cast
    exact_mod_cast this.2
theorem rv_bd {f m c : Nat} (h1 : 1 ≤ f) (hf : f ≤ 26) (hm : m ≤ 60) (m1 : 1 ≤ m) : 0 ≤ rvG f m c ∧ rvG f m c ≤ 25 * 26 ^ 60 * 61 ^ 6 := by
  unfold rvG
  cases e : flN m c with
  | none => exact ⟨Int.le_refl 0, by show (0 : Int) ≤ _; decide⟩
  | some l =>
    have hl := fl_some e
    have l1 : 1 ≤ l := by
      cases l with
      | zero => rw [Nat.zero_mul] at hl; omega
      | succ l => exact Nat.succ_le_succ (Nat.zero_le _)
    have hc : c ≤ 6 := by
      by_cases q : c ≤ 6
      · exact q
      · have h7 : 2 ^ 7 ≤ 2 ^ c := Nat.pow_le_pow_right (by decide) (by omega)
        have := Nat.le_mul_of_pos_left (2 ^ c) l1
        omega
    have hl2 : l ≤ 60 := by
      have := Nat.le_mul_of_pos_right l (Nat.pow_pos (n := c) (show 0 < 2 by decide))
      omega
    have q := pw_bd (m := l) hf hl2
    have h2 := mul_bd (x := (f : Int) - 1) (y := (f : Int) ^ l) (a := 25) (b := 26 ^ 60) (by omega) (by omega) q.1 q.2
    obtain ⟨p1, p2⟩ := pl_bd (l := l) (c := c) (n := m) (by omega) hm
    have h6 : 61 ^ c ≤ 61 ^ 6 := Nat.pow_le_pow_right (by decide) hc
    exact mul_bd h2.1 h2.2 p1 (Int.le_trans p2 (by exact_mod_cast h6))
def flV (m c : Nat) : V := match flN m c with
  | none => .non
  | some l => .int l
def sp_first_last (K : PySem.W.Frag) : Sp := sp2 fun x y H Q _ => ∃ m c : Nat, x = .int ((m : Int) + 1) ∧ y = .int c ∧ m ≤ 1000 ∧ c ≤ 1000 ∧ Q (flV m c) H
def sp_product (K : PySem.W.Frag) : Sp := sp1 fun x H Q _ => ∃ (p : Addr) (ns : List Int), x = .ref p ∧ SqL K H p (ns.map V.int) ∧ ns.length ≤ 70 ∧ (∀ k ∈ ns, 0 ≤ k ∧ k ≤ 61) ∧ Q (.int (prodI ns)) H
def sp_apart_many (K : PySem.W.Frag) : Sp := sp2 fun x y H Q _ => ∃ f m : Nat, x = .int f ∧ y = .int ((m : Int) + 1) ∧ 2 ≤ f ∧ f ≤ 26 ∧ m ≤ 60 ∧ ∀ H', Same H H' → Q (.int ((f : Int) ^ m * ((f : Int) - 1))) H'
def sp_places_many (K : PySem.W.Frag) : Sp := sp2 fun x y H Q _ => ∃ l c : Nat, x = .int l ∧ y = .int c ∧ l * 2 ^ c ≤ 1000 ∧ c ≤ 1000 ∧ ∀ p H', Same H H' → H' p = some (.lst ((pl l c).map V.int)) → Q (.ref p) H'
def sp_rows_many (K : PySem.W.Frag) : Sp := sp3 fun x y z H Q _ => ∃ f m c : Nat, x = .int f ∧ y = .int ((m : Int) + 1) ∧ z = .int c ∧ 2 ≤ f ∧ f ≤ 26 ∧ m ≤ 60 ∧ c ≤ 70 ∧ ∀ H', Same H H' → Q (.int (rvG f m c)) H'
def sp_zproduct (K : PySem.W.Frag) : Sp := sp3 fun x y z H Q _ => ∃ f m c : Nat, x = .int f ∧ y = .int ((m : Int) + 1) ∧ z = .int c ∧ 2 ≤ f ∧ f ≤ 26 ∧ 1 ≤ m ∧ m ≤ 60 ∧ c ≤ 70 ∧ Q (.int (rvG f m c)) H
def t_first_last (K : PySem.W.Frag) : TS :=
  (tSeq (tAsg (tOp rMinus (tVar 0) (tC (.int 1))) (gName 2))
  (tSeq (tFor (iRng1 (tCons (tVar 1) tNil)) (gName 3)
  (tSeq (tIfS (tTest (tOp (rSame K) (tOp rMod (tVar 2) (tC (.int 2))) (tC (.int 1)))) (tRet (tC .non)) tNext)
  (tAsg (tOp rDiv (tVar 2) (tC (.int 2))) (gName 2))))
  (tRet (tVar 2))))
theorem pu_first_last {K : PySem.W.Frag} (vs : List V) (H : Hp) (Q : VK) (E : XK) (h : sp_first_last K vs H Q E) : t_first_last K { nx := fun _ H' => Q .non H', rt := Q } (start ["length", "calls", "last", "k"] vs) H := by
  obtain ⟨_, _, rfl, m, c, rfl, rfl, hm, hc, hQ⟩ := h
  unfold t_first_last
  repeat' walk_at "s"
  rw [sevI]
  refine s_rn1 (by omega) (by omega) ?_
  refine for_range (fun i σ H1 => H1 = H ∧ ∃ l : Nat, flN m c = flN l (c - i) ∧ l ≤ m ∧ ∃ x3 : Option V, σ = [some (.int ((m : Int) + 1)), some (.int c), some (.int (l : Int)), x3]) ⟨rfl, m, rfl, Nat.le_refl _, _, rfl⟩ (fun i σ H1 hi z => ?_) fun σ H1 z => ?_
  · obtain ⟨rfl, l, hl, lm, x3, rfl⟩ := z
    have e1 : c - i = (c - i - 1) + 1 := by omega
    have e2 : c - (i + 1) = c - i - 1 := by omega
    rw [e1] at hl
    repeat' walk_at "s"
    refine s_mod (by decide) ?_
    repeat' walk_at "s"
    refine s_if (fun d => ?_) fun d => ?_
    · repeat' walk_at "s"
      have hl : flN m c = none := by
        rw [hl]
        unfold flN
        rw [if_pos (by omega)]
      unfold flV at hQ
      rw [hl] at hQ
      exact hQ
    · repeat' walk_at "s"
      refine s_div ⟨by decide, by decide⟩ ?_
      repeat' walk_at "s"
      refine ⟨rfl, l / 2, ?_, by omega, _, rfl⟩
      rw [hl, e2]
      show (if l % 2 = 1 then none else flN (l / 2) (c - i - 1)) = _
      rw [if_neg (by omega)]
  · obtain ⟨rfl, l, hl, lm, x3, rfl⟩ := z
    have hl : flN m c = some l := by
      rw [hl, show c - ((c : Int)).toNat = 0 by omega]
      rfl
    repeat' walk_at "s"
    unfold flV at hQ
    rw [hl] at hQ
    exact hQ
def t_product (K : PySem.W.Frag) : TS :=
  (tSeq (tAsg (tC (.int 1)) (gName 1))
  (tSeq (tFor (iList K (tVar 0)) (gName 2)
  (tAug 1 (tVar 2) ipMul))
  (tRet (tVar 1))))
theorem pu_product {K : PySem.W.Frag} (vs : List V) (H : Hp) (Q : VK) (E : XK) (h : sp_product K vs H Q E) : t_product K { nx := fun _ H' => Q .non H', rt := Q } (start ["numbers", "found", "number"] vs) H := by
  obtain ⟨_, rfl, p, ns, rfl, hp, hn, hb, hQ⟩ := h
  unfold t_product
  repeat' walk_at "s"
  refine s_itL hp ?_
  refine for_list (xs := ns.map V.int) (fun i σ H1 => H1 = H ∧ 0 ≤ prodI (ns.take i) ∧ prodI (ns.take i) ≤ (61 ^ i : Nat) ∧ ∃ x2 : Option V, σ = [some (.ref p), some (.int (prodI (ns.take i))), x2]) ⟨rfl, by rw [List.take_zero]; decide, by rw [List.take_zero]; decide, _, rfl⟩ (fun i σ H1 _ z => by rw [z.1]; exact hp) (fun i x σ H1 hx z => ?_) fun σ H1 z => ?_
  · obtain ⟨rfl, a0, a1, x2, rfl⟩ := z
    rw [List.getElem?_map] at hx
    obtain ⟨k, hk, rfl⟩ := Option.map_eq_some_iff.mp hx
    have hi := (List.getElem?_eq_some_iff.mp hk).1
    obtain ⟨k0, k1⟩ := hb k (List.mem_of_getElem? hk)
    have h61 : 61 ^ i ≤ 61 ^ 70 := Nat.pow_le_pow_right (by decide) (by omega)
    have h10 : (61 : Nat) ^ 70 < 10 ^ 199 := by decide +kernel
    repeat' walk_at "s"
    refine s_ipM (.inr ⟨by omega, by omega⟩) ?_
    have mb := mul_bd a0 a1 k0 k1
    rw [← prod_take hk] at mb ⊢
    exact ⟨rfl, mb.1, by rw [Nat.pow_succ]; push_cast; exact_mod_cast mb.2, _, rfl⟩
  · obtain ⟨rfl, a0, a1, x2, rfl⟩ := z
    rw [List.length_map, List.take_of_length_le (Nat.le_refl _)]
    repeat' walk_at "s"
    exact hQ
def t_apart_many (K : PySem.W.Frag) : TS :=
  (tRet (tOp rTimes (gCall (sp_product K) E1 (tCons (tOp rTimes (tLst (tCons (tVar 0) tNil)) (tOp rMinus (tVar 1) (tC (.int 1)))) tNil)) (tOp rMinus (tVar 0) (tC (.int 1)))))
theorem pu_apart_many {K : PySem.W.Frag} (vs : List V) (H : Hp) (Q : VK) (E : XK) (h : sp_apart_many K vs H Q E) : t_apart_many K { nx := fun _ H' => Q .non H', rt := Q } (start ["letters", "length"] vs) H := by
  obtain ⟨_, _, rfl, f, m, rfl, rfl, f2, f26, hm, hQ⟩ := h
  unfold t_apart_many
  repeat' walk_at "s"
  refine newS (sz_of rfl) fun p1 H1 _ e1 h1 => ?_
  repeat' walk_at "s"
  rw [sevI]
  refine s_mulN h1 (by omega) (by omega) (by rw [List.length_singleton]; omega) (newS trivial fun p2 H2 _ e2 h2 => ?_)
  have er : (List.replicate ((m : Int)).toNat [V.int (f : Int)]).flatten = (List.replicate m (f : Int)).map V.int := by
    rw [show ((m : Int)).toNat = m by omega, List.map_replicate]
    clear h2 hQ hm
    induction m with
    | zero => rfl
    | succ m ih => rw [List.replicate_succ, List.flatten_cons, ih, List.replicate_succ]; rfl
  rw [er] at h2
  repeat' walk_at "s"
  refine s_all ⟨_, rfl, p2, List.replicate m (f : Int), rfl, SqL.of h2, by rw [List.length_replicate]; omega, fun k hk => by rw [List.eq_of_mem_replicate hk]; omega, ?_⟩
  rw [prod_rep]
  have q := pw_bd f26 hm
  have h10 : (26 : Int) ^ 60 < 10 ^ 199 := by decide +kernel
  repeat' walk_at "s"
  refine s_mulI (mulW (by omega) (by omega)) ?_
  exact hQ _ (e1.trans e2)
def t_places_many (K : PySem.W.Frag) : TS :=
  (tSeq (tAsg (tLst tNil) (gName 2))
  (tSeq (tFor (iRng1 (tCons (tVar 1) tNil)) (gName 3)
  (tSeq (tDrop (tBM K "list" rAppend (tVar 2) (tCons (tOp (rPlus K) (tVar 0) (tC (.int 1))) tNil)))
  (tAsg (tOp rTimes (tC (.int 2)) (tVar 0)) (gName 0))))
  (tRet (tVar 2))))
theorem pu_places_many {K : PySem.W.Frag} (vs : List V) (H : Hp) (Q : VK) (E : XK) (h : sp_places_many K vs H Q E) : t_places_many K { nx := fun _ H' => Q .non H', rt := Q } (start ["last", "calls", "found", "k"] vs) H := by
  obtain ⟨_, _, rfl, l, c, rfl, rfl, hm, hc, hQ⟩ := h
  unfold t_places_many
  repeat' walk_at "s"
  refine newS (sz_of rfl) fun p1 H1 f1 e1 h1 => ?_
  repeat' walk_at "s"
  refine s_rn1 (by omega) (by omega) ?_
  refine for_range (fun i σ H2 => ∃ x3 : Option V, Same H H2 ∧ H2 p1 = some (.lst ((pl l i).map V.int)) ∧ σ = [some (.int ((l * 2 ^ i : Nat) : Int)), some (.int c), some (.ref p1), x3]) ⟨_, e1, h1, by rw [Nat.pow_zero, Nat.mul_one]; rfl⟩ (fun i σ H2 hi z => ?_) fun σ H2 z => ?_
  · obtain ⟨x3, e2, h2, rfl⟩ := z
    have hp : l * 2 ^ i ≤ l * 2 ^ c := Nat.mul_le_mul_left l (Nat.pow_le_pow_right (by decide) (by omega))
    repeat' walk_at "s"
    refine s_tyL (SqL.of h2) ?_
    repeat' walk_at "s"
    refine s_app h2 (by rw [List.length_map, pl_len, sizeLine_eq]; omega) ?_
    repeat' walk_at "s"
    refine s_mulI (mulW (by omega) (by omega)) ?_
    repeat' walk_at "s"
    rw [show 2 * ((l * 2 ^ i : Nat) : Int) = ((l * 2 ^ (i + 1) : Nat) : Int) by rw [Nat.pow_succ, ← Nat.mul_assoc]; omega]
    exact ⟨_, same_put e2 f1, by rw [upd_same, pl_succ, List.map_append]; rfl, rfl⟩
  · obtain ⟨x3, e2, h2, rfl⟩ := z
    repeat' walk_at "s"
    exact hQ p1 _ e2 h2
def t_rows_many (K : PySem.W.Frag) : TS :=
  (tSeq (tAsg (gCall (sp_first_last K) E1 (tCons (tVar 1) (tCons (tVar 2) tNil))) (gName 3))
  (tSeq (tIfS (tTest (tOp rIsNone (tVar 3) (tC .non))) (tRet (tC (.int 0))) tNext)
  (tRet (tOp rTimes (gCall (sp_apart_many K) E1 (tCons (tVar 0) (tCons (tOp (rPlus K) (tVar 3) (tC (.int 1))) tNil))) (gCall (sp_product K) E1 (tCons (gCall (sp_places_many K) E1 (tCons (tVar 3) (tCons (tVar 2) tNil))) tNil))))))
theorem pu_rows_many {K : PySem.W.Frag} (vs : List V) (H : Hp) (Q : VK) (E : XK) (h : sp_rows_many K vs H Q E) : t_rows_many K { nx := fun _ H' => Q .non H', rt := Q } (start ["letters", "length", "calls", "last"] vs) H := by
  obtain ⟨_, _, _, rfl, f, m, c, rfl, rfl, rfl, f2, f26, hm, hc, hQ⟩ := h
  unfold t_rows_many
  repeat' walk_at "s"
  refine s_all ⟨_, _, rfl, m, c, rfl, rfl, by omega, by omega, ?_⟩
  have h10 : (26 : Int) ^ 60 < 10 ^ 90 := by decide +kernel
  have h61 : (61 : Nat) ^ 70 < 10 ^ 199 := by decide +kernel
  repeat' walk_at "s"
  unfold flV
  unfold rvG at hQ
  cases e : flN m c with
  | none =>
    rw [e] at hQ
    repeat' walk_at "s"
    refine iteT ?_
    repeat' walk_at "s"
    exact hQ H (Same.refl _)
  | some l =>
    rw [e] at hQ
    have hl := fl_some e
    have hl2 : l ≤ 60 := by
      have := Nat.le_mul_of_pos_right l (Nat.pow_pos (n := c) (show 0 < 2 by decide))
      omega
    repeat' walk_at "s"
    refine iteF ?_
    repeat' walk_at "s"
    refine s_all ⟨_, _, rfl, f, l, rfl, rfl, f2, f26, by omega, fun H1 e1 => ?_⟩
    repeat' walk_at "s"
    refine s_all ⟨_, _, rfl, l, c, rfl, rfl, by omega, by omega, fun p H2 e2 h2 => ?_⟩
    repeat' walk_at "s"
    refine s_all ⟨_, rfl, p, _, rfl, SqL.of h2, by rw [pl_len]; exact hc, fun k hk => by have := pl_ok (n := m) (by omega) k hk; omega, ?_⟩
    have q := pw_bd (m := l) f26 (by omega)
    have q2 := mul_bd q.1 q.2 (show (0 : Int) ≤ (f : Int) - 1 by omega) (show (f : Int) - 1 ≤ 25 by omega)
    obtain ⟨p1, p2⟩ := pl_bd (l := l) (c := c) (n := m) (by omega) hm
    have hcc : 61 ^ c ≤ 61 ^ 70 := Nat.pow_le_pow_right (by decide) hc
    refine s_mulI (mulW (by omega) (by omega)) ?_
    have := hQ _ (e1.trans e2)
    rw [Int.mul_comm ((f : Int) ^ l)]
    exact this
end
section
/-- one step of a reading (e: none past a statement's end) -/
local macro_rules
  | `(tactic| walk_at "e") => `(tactic| first
    | with_reducible refine s_ifs ?_
    | with_reducible refine s_test ?_
    | with_reducible refine s_truth ?_
    | with_reducible refine s_op ?_
    | with_reducible refine s_un ?_
    | with_reducible refine s_asg ?_
    | with_reducible refine s_ret ?_
    | with_reducible refine s_next ?_
    | with_reducible refine s_drop ?_
    | with_reducible refine s_c ?_
    | ((with_reducible refine s_var (v := ?v) ?e ?q); case e => exact rfl)
    | with_reducible refine s_name ?_
    | with_reducible refine s_exq ?_
    | with_reducible refine s_cons ?_
    | with_reducible refine s_nil ?_
    | with_reducible refine s_lst ?_
    | with_reducible refine s_tup ?_
    | with_reducible refine s_cb ?_
    | with_reducible refine s_call ?_
    | with_reducible refine s_and ?_
    | with_reducible refine s_or ?_
    | with_reducible refine s_not ?_
    | with_reducible refine s_andV ?_
    | with_reducible refine s_orV ?_
    | with_reducible refine s_notV ?_
    | with_reducible refine s_ife ?_
    | with_reducible refine s_chain ?_
    | with_reducible refine s_addI ?_
    | with_reducible refine s_sub ?_
    | with_reducible refine s_neg ?_
    | with_reducible refine s_eqI ?_
    | with_reducible refine s_eqX ?_
    | with_reducible refine s_eqT ?_
    | with_reducible refine s_eqB ?_
    | with_reducible refine s_eqNI ?_
    | with_reducible refine s_eqIN ?_
    | with_reducible refine s_eqNN ?_
    | with_reducible refine s_neI ?_
    | with_reducible refine s_neX ?_
    | with_reducible refine s_neT ?_
    | with_reducible refine s_neB ?_
    | with_reducible refine s_lt ?_
    | with_reducible refine s_le ?_
    | with_reducible refine s_gt ?_
    | with_reducible refine s_ge ?_
    | with_reducible refine s_isN ?_
    | with_reducible refine s_isS ?_
    | with_reducible refine s_truB ?_
    | with_reducible refine s_truI ?_
    | with_reducible refine s_truN ?_
    | with_reducible refine s_abs ?_
    | with_reducible refine s_min2 ?_
    | with_reducible refine s_max2 ?_
    | with_reducible refine s_intI ?_
    | with_reducible refine s_intB ?_
    | with_reducible refine s_ifT ?_
    | with_reducible refine s_ifF ?_
    | with_reducible refine s_ifnT ?_
    | with_reducible refine s_ifnF ?_
    | with_reducible refine s_gSub ?_
    | with_reducible refine s_gTup ?_
    | with_reducible refine s_augS ?_
    | ((with_reducible refine s_aug (x := ?v) ?e ?q); case e => exact rfl)
    | with_reducible refine s_yes ?_
    | with_reducible refine s_par ?_
    | with_reducible refine s_two ?_
    | with_reducible refine s_m1 ?_
    | with_reducible refine s_isstr ?_
    | with_reducible refine s_rev0 ?_
    | with_reducible refine s_gCons ?_
    | with_reducible refine s_gNil ?_
    | with_reducible refine s_ipI ?_
    | with_reducible refine s_ipA ?_
    | with_reducible refine s_sl ?_
    | with_reducible refine s_noPart ?_
    | with_reducible refine s_part ?_
    | with_reducible refine s_parte ?_
    | with_reducible refine s_for ?_
    | with_reducible refine s_lc ?_
    | with_reducible refine s_iL ?_
    | with_reducible refine s_iE ?_
    | with_reducible refine s_iS ?_
    | with_reducible refine s_iT ?_
    | with_reducible refine s_itS ?_
    | with_reducible refine s_iR1 ?_
    | with_reducible refine s_iR2 ?_
    | with_reducible refine s_iR3 ?_
    | with_reducible refine s_rg1 ?_
    | with_reducible refine s_rg2 ?_
    | with_reducible refine s_rg1e ?_
    | with_reducible refine s_rg2e ?_
    | with_reducible refine s_lrg ?_
    | with_reducible refine s_lr3 ?_
    | with_reducible refine s_bm ?_
    | with_reducible refine s_bm0 ?_
    | with_reducible refine s_retN ?_)
  | `(tactic| walk_at "s") => `(tactic| first
    | with_reducible refine s_seq ?_
    | walk_at "e")
def allT : List Nat → Nat → List (List Nat)
  | t, 0 => [t]
  | t, c + 1 => (allT t c).flatMap fun u => (List.range u.length).map fun k => mk u k
def stT (f m c : Nat) : List (List Nat) := match flN m c with
  | none => []
  | some l => ((rowsL f (l + 1)).filter apartB).flatMap fun t => allT t c
def putT (ks : List (List Nat)) (t : List Nat) : List (List Nat) := if t ∈ ks then ks else ks ++ [t]
def cntT (f m c : Nat) : Nat := ((stT f m c).foldl putT []).length
def smallC : Bool := sm.all fun p => (List.range 5).all fun c => decide ((cntT p.1 p.2 (c + 1) : Int) = rvG p.1 p.2 (c + 1))
theorem smallc : smallC = true := by decide +kernel
def small0 : Bool := sm.all fun p => decide (((((rowsL p.1 (p.2 + 1)).filter apartB).length : Nat) : Int) = rvG p.1 p.2 0)
theorem small0_ : small0 = true := by decide +kernel
theorem rows_nd {f : Nat} : ∀ n, (rowsL f n).Nodup := fun n => by
  have hz : (azL.take f).Nodup := (show azL.Nodup by decide).sublist (List.take_sublist _ _)
  induction n with
  | zero => show [[]].Nodup; decide
  | succ n ih =>
    refine List.pairwise_flatMap.mpr ⟨fun t _ => ?_, ?_⟩
    · refine List.pairwise_map.mpr (hz.imp fun h e => h ?_)
      have := List.append_cancel_left e
      exact (List.cons.inj this).1
    · refine ih.imp fun {t u} h x hx y hy e => h ?_
      obtain ⟨c, _, rfl⟩ := List.mem_map.mp hx
      obtain ⟨d, _, rfl⟩ := List.mem_map.mp hy
      exact List.append_inj_left' e rfl
theorem put_nd : ∀ (ts ks : List (List Nat)), (ks ++ ts).Nodup → ts.foldl putT ks = ks ++ ts
  | [], ks, _ => (List.append_nil ks).symm
  | t :: ts, ks, h => by
    have hn : t ∉ ks := fun hm => (List.nodup_append.mp h).2.2 t hm t List.mem_cons_self rfl
    rw [List.foldl_cons]
    have e : putT ks t = ks ++ [t] := if_neg hn
    rw [e, put_nd ts (ks ++ [t]) (by rw [List.append_assoc]; exact h), List.append_assoc]
    rfl
def sp_zrows (K : PySem.W.Frag) : Sp := sp2 fun x y H Q _ => ∃ f n : Nat, x = .int f ∧ y = .int n ∧ f ≤ 4 ∧ n ≤ 9 ∧ ∀ p H', Same H H' → H' p = some (.lst (txs (rowsL f n))) → Q (.ref p) H'
def sp_zapart (K : PySem.W.Frag) : Sp := sp1 fun x H Q _ => ∃ (p : Addr) (ts : List (List Nat)), x = .ref p ∧ SqL K H p (txs ts) ∧ (∀ t ∈ ts, 1 ≤ t.length ∧ t.length ≤ 1000) ∧ ts.length ≤ 1000000 ∧ ∀ p H', H p = none → Same H H' → H' p = some (.lst (txs (ts.filter apartB))) → Q (.ref p) H'
def sp_zsize (K : PySem.W.Frag) : Sp := sp1 fun x H Q _ => ∃ (b : Addr) (H0 : Hp) (ys : List V), x = .ref b ∧ H = upd H0 b (.lst ys) ∧ Bag K H0 b ys ∧
  ∀ (H' : Hp) (zs : List V) (p : Addr) (f m : Nat), Same H0 H' → Bag K H' b zs → H' p = some (.tup [.int f, .int ((m : Int) + 1)]) → (f, m) ∈ sm → Q (.ref p) (upd H' b (.lst zs))

def sp_zgreat (K : PySem.W.Frag) : Sp := sp1 fun x H Q _ => ∃ (b : Addr) (H0 : Hp) (ys : List V), x = .ref b ∧ H = upd H0 b (.lst ys) ∧ Bag K H0 b ys ∧
  ∀ (H' : Hp) (zs : List V) (p : Addr) (f m c : Nat), Same H0 H' → Bag K H' b zs → H' p = some (.tup [.int f, .int ((m : Int) + 1), .int c]) → 2 ≤ f → f ≤ 26 → 1 ≤ m → m ≤ 59 → c ≤ 64 → Q (.ref p) (upd H' b (.lst zs))
theorem fm_len {f : Nat} (hf : f ≤ 4) (ts : List (List Nat)) : (ts.flatMap fun t => (azL.take f).map fun c => t ++ [c]).length ≤ ts.length * 4 := by
  induction ts with
  | nil => exact Nat.zero_le _
  | cons t ts ih =>
    rw [List.flatMap_cons, List.length_append, List.length_cons, List.length_map, List.length_take]
    omega
theorem at_last {l : List Nat} {d : Nat} (h : l.getLast? = some d) : atI l (-1) = some d := by
  have hl : 1 ≤ l.length := by
    cases l with
    | nil => cases h
    | cons c r => exact Nat.succ_le_succ (Nat.zero_le _)
  unfold atI ixN
  rw [if_neg (by decide), if_pos (by omega), show ((-1 : Int) + (l.length : Int)).toNat = l.length - 1 by omega]
  show l[l.length - 1]? = some d
  rw [← List.getLast?_eq_getElem?, h]
theorem len_rows {f n : Nat} (hf : f ≤ 4) : (rowsL f n).length ≤ 4 ^ n ∧ ∀ t ∈ rowsL f n, t.length = n := by
  induction n with
  | zero => exact ⟨Nat.le_refl 1, fun t h => by rw [List.mem_singleton.mp h]; rfl⟩
  | succ n ih =>
    have hz : ∀ t : List Nat, ((azL.take f).map fun c => t ++ [c]).length ≤ 4 := fun t => by
      rw [List.length_map, List.length_take]
      omega
    refine ⟨?_, fun t h => ?_⟩
    · show ((rowsL f n).flatMap fun t => (azL.take f).map fun c => t ++ [c]).length ≤ _
      have key : ∀ ts : List (List Nat), (ts.flatMap fun t => (azL.take f).map fun c => t ++ [c]).length ≤ ts.length * 4 := fun ts => by
        induction ts with
        | nil => exact Nat.zero_le _
        | cons t ts ih =>
          rw [List.flatMap_cons, List.length_append, List.length_cons]
          have := hz t
          omega
      have := key (rowsL f n)
      have h1 := ih.1
      rw [Nat.pow_succ]
      omega
    · obtain ⟨u, hu, hc⟩ := List.mem_flatMap.mp h
      obtain ⟨c, _, rfl⟩ := List.mem_map.mp hc
      rw [List.length_append, ih.2 u hu]
      rfl

theorem c6 {m c l : Nat} (h : flN m c = some l) (m1 : 1 ≤ m) (hm : m ≤ 60) : c ≤ 6 ∧ l ≤ 60 ∧ 1 ≤ l := by
  have hl := fl_some h
  have l1 : 1 ≤ l := by
    cases l with
    | zero => rw [Nat.zero_mul] at hl; omega
    | succ l => exact Nat.succ_le_succ (Nat.zero_le _)
  refine ⟨?_, ?_, l1⟩
  · by_cases q : c ≤ 6
    · exact q
    · have h7 : 2 ^ 7 ≤ 2 ^ c := Nat.pow_le_pow_right (by decide) (by omega)
      have := Nat.le_mul_of_pos_left (2 ^ c) l1
      omega
  · have := Nat.le_mul_of_pos_right l (Nat.pow_pos (n := c) (show 0 < 2 by decide))
    omega
def t_zrows (K : PySem.W.Frag) : TS :=
  (tSeq (tAsg (tLst (tCons (tC (.str "")) tNil)) (gName 2))
  (tSeq (tFor (iRng1 (tCons (tVar 1) tNil)) (gName 3)
  (tSeq (tAsg (tLst tNil) (gName 4))
  (tSeq (tFor (iList K (tVar 2)) (gName 5)
  (tDrop (tBM K "list" rExtend (tVar 4) (tCons (tLc (iStr (tSl (rCut K) (tC (.str "abcdefghijklmnopqrstuvwxyz")) tNoPart (tPart (tVar 0)))) (gName 6) tYes (tOp (rPlus K) (tVar 5) (tVar 6)) [6]) tNil))))
  (tAsg (tVar 4) (gName 2)))))
  (tRet (tVar 2))))
theorem pu_zrows {K : PySem.W.Frag} (vs : List V) (H : Hp) (Q : VK) (E : XK) (h : sp_zrows K vs H Q E) : t_zrows K { nx := fun _ H' => Q .non H', rt := Q } (start ["_law_few", "_law_size_here", "_law_found", "_law_k", "_law_longer", "_law_text", "_law_letter"] vs) H := by
  obtain ⟨_, _, rfl, f, n, rfl, rfl, hf, hn, hQ⟩ := h
  unfold t_zrows
  rw [lit_az, lit_empty]
  repeat' walk_at "s"
  refine newS (sz_of rfl) fun p0 H0 f0 e0 h0 => ?_
  repeat' walk_at "s"
  refine s_rn1 (by omega) (by omega) ?_
  refine for_range (fun i σ H1 => ∃ (p : Addr) (x3 x4 x5 x6 : Option V), Same H H1 ∧ H1 p = some (.lst (txs (rowsL f i))) ∧ σ = [some (.int f), some (.int n), some (.ref p), x3, x4, x5, x6]) ⟨p0, _, _, _, _, e0, h0, rfl⟩ (fun i σ H1 hi z => ?_) fun σ H1 z => ?_
  · clear h0 e0 f0
    obtain ⟨p, x3, x4, x5, x6, e1, hp, rfl⟩ := z
    have hlen := (len_rows (n := i) hf).1
    have hlt := (len_rows (n := i) hf).2
    have h4 : 4 ^ i ≤ 4 ^ 9 := Nat.pow_le_pow_right (by decide) (by omega)
    have h49 : (4 : Nat) ^ 9 = 262144 := rfl
    repeat' walk_at "s"
    refine newS (sz_of rfl) fun L H2 fL e2 hL => ?_
    repeat' walk_at "s"
    have pL : p ≠ L := fun e => by
      rw [e, fL] at hp
      cases hp
    refine s_itL (SqL.of (e2 _ _ hp)) ?_
    refine for_list (xs := txs (rowsL f i)) (fun j σ Hc => ∃ (x5 x6 : Option V), Same H1 Hc ∧ Hc L = some (.lst (txs (((rowsL f i).take j).flatMap fun t => (azL.take f).map fun c => t ++ [c]))) ∧ σ = [some (.int f), some (.int n), some (.ref p), some (.int (0 + (i : Int))), some (.ref L), x5, x6])
      ⟨_, _, e2, hL, rfl⟩ (fun j σ Hc _ z => ?_) (fun j x σ Hc hx z => ?_) fun σ Hc z => ?_
    · obtain ⟨x5, x6, ec, hLc, rfl⟩ := z
      exact SqL.of (ec _ _ hp)
    · obtain ⟨x5, x6, ec, hLc, rfl⟩ := z
      rw [List.getElem?_map] at hx
      obtain ⟨t, ht, rfl⟩ := Option.map_eq_some_iff.mp hx
      have tl := hlt t (List.mem_of_getElem? ht)
      have hj := (List.getElem?_eq_some_iff.mp ht).1
      repeat' walk_at "s"
      refine s_tyL (SqL.of hLc) ?_
      repeat' walk_at "s"
      refine s_toX (by decide) (by omega) ?_
      have ef : ([97, 98, 99, 100, 101, 102, 103, 104, 105, 106, 107, 108, 109, 110, 111, 112, 113, 114, 115, 116, 117, 118, 119, 120, 121, 122] : List Nat).take ((f : Int)).toNat = azL.take f := by
        rw [show ((f : Int)).toNat = f by omega]
        rfl
      rw [ef]
      repeat' walk_at "s"
      intro D hD
      refine lcX hD (fun jj ac Hi => Hi = Hc ∧ ac = txs (((azL.take f).take jj).map fun c => t ++ [c])) ⟨rfl, rfl⟩ (fun jj c ac Hi hjj hnD hl z => ?_) fun ac Hi hnD hl z => ?_
      · obtain ⟨rfl, rfl⟩ := z
        have hjj : (azL.take f)[jj]? = some c := hjj
        repeat' walk_at "s"
        refine ⟨rfl, ?_⟩
        repeat' walk_at "s"
        refine s_addX (by rw [List.length_singleton]; omega) ?_
        have h26 := (List.getElem?_eq_some_iff.mp hjj).1
        rw [List.length_take] at h26
        refine lc_put hnD hl (by rw [sizeLine_eq]; omega) ⟨rfl, ?_⟩
        rw [List.take_add_one (i := jj), hjj]
        unfold txs
        rw [List.map_append, List.map_append]
        rfl
      · obtain ⟨rfl, rfl⟩ := z
        refine doneS hnD fun H9 e9 h9 => ?_
        have hL9 := e9 _ _ hLc
        have et : (((azL.take f).take ((azL.take f)).length).map fun c => t ++ [c]) = (azL.take f).map fun c => t ++ [c] := by rw [List.take_of_length_le (Nat.le_refl _)]
        refine ⟨L, D, _, _, rfl, rfl, hL9, h9, ?_, ?_⟩
        · have h1 := fm_len hf ((rowsL f i).take j)
          have h2 : ((azL.take f).map fun c => t ++ [c]).length ≤ 4 := by rw [List.length_map, List.length_take]; omega
          rw [et]
          unfold txs
          rw [List.length_map, List.length_map, sizeLine_eq]
          rw [List.length_take] at h1
          omega
        · refine ⟨_, _, same_put (ec.trans e9) fL, ?_, rfl⟩
          rw [upd_same, List.take_add_one, ht, et]
          unfold txs
          rw [List.flatMap_append, List.map_append]
          show _ = some (HO.lst (_ ++ List.map _ (List.flatMap _ [t])))
          rw [List.flatMap_cons, List.flatMap_nil, List.append_nil]
    · obtain ⟨x5, x6, ec, hLc, rfl⟩ := z
      repeat' walk_at "s"
      rw [List.length_map, List.take_of_length_le (Nat.le_refl _)] at hLc
      exact ⟨L, _, _, _, _, e1.trans ec, hLc, rfl⟩
  · obtain ⟨p, x3, x4, x5, x6, e1, hp, rfl⟩ := z
    repeat' walk_at "s"
    exact hQ p _ e1 hp
def t_zapart (K : PySem.W.Frag) : TS :=
  (tRet (tLc (iList K (tVar 0)) (gName 1) (tTest (tOp (rDiff K) (tOp (rIx K) (tVar 1) (tC (.int 0))) (tOp (rIx K) (tVar 1) (tUn (rU fun i => .int (-i)) (tC (.int 1)))))) (tVar 1) [1]))
theorem pu_zapart {K : PySem.W.Frag} (vs : List V) (H : Hp) (Q : VK) (E : XK) (h : sp_zapart K vs H Q E) : t_zapart K { nx := fun _ H' => Q .non H', rt := Q } (start ["_law_some", "_law_text"] vs) H := by
  obtain ⟨_, rfl, p, ts, rfl, hp, hb, hn, hQ⟩ := h
  unfold t_zapart
  repeat' walk_at "s"
  refine s_itL hp ?_
  intro D hD
  refine lcL (xs := txs ts) hD (fun i acc Hi => Hi = H ∧ acc = txs ((ts.take i).filter apartB)) ⟨rfl, rfl⟩ (fun i acc Hi z => by rw [z.1]; exact hp) (fun i x acc Hi e hi hn hl z => ?_) fun acc Hi hn hl z => ?_
  · obtain ⟨rfl, rfl⟩ := z
    rw [List.getElem?_map] at e
    obtain ⟨t, ht, rfl⟩ := Option.map_eq_some_iff.mp e
    obtain ⟨l1, l2⟩ := hb t (List.mem_of_getElem? ht)
    obtain ⟨c, r, rfl⟩ : ∃ c r, t = c :: r := by
      cases t with
      | nil => exact absurd l1 (by decide)
      | cons c r => exact ⟨c, r, rfl⟩
    obtain ⟨d, hd⟩ : ∃ d, (c :: r).getLast? = some d := ⟨_, List.getLast?_eq_some_getLast (by simp)⟩
    repeat' walk_at "s"
    refine ⟨rfl, ?_⟩
    repeat' walk_at "s"
    refine s_ixX (m := c) (by omega) at_0 ?_
    repeat' walk_at "s"
    refine s_ixX (m := d) (by omega) (at_last hd) ?_
    repeat' walk_at "s"
    have hi3 : i < ts.length := (List.getElem?_eq_some_iff.mp ht).1
    have ab : apartB (c :: r) = !decide ([c] = [d]) := by
      unfold apartB
      rw [hd]
      show (!decide (some c = some d)) = _
      by_cases q : c = d
      · subst q
        simp
      · simp [q]
    refine s_ifn (fun h => ?_) fun h => ?_
    · repeat' walk_at "s"
      refine lc_put hn hl (by rw [sizeLine_eq]; omega) ⟨rfl, ?_⟩
      rw [List.take_add_one, ht, List.filter_append]
      unfold txs
      rw [List.map_append]
      congr 1
      show _ = List.map _ (List.filter apartB [c :: r])
      rw [List.filter_cons, ab, decide_eq_false h]
      rfl
    · refine lc_no hn hl ⟨rfl, ?_⟩
      rw [List.take_add_one, ht, List.filter_append]
      show _ = txs (_ ++ List.filter apartB [c :: r])
      rw [List.filter_cons, ab, decide_eq_true h]
      show _ = txs (_ ++ [])
      rw [List.append_nil]
  · obtain ⟨rfl, rfl⟩ := z
    refine doneS hn fun H1 e1 h1 => ?_
    unfold txs at h1
    rw [List.length_map, List.take_of_length_le (Nat.le_refl _)] at h1
    exact hQ D H1 hD e1 h1
def t_zsize (K : PySem.W.Frag) : TS :=
  (tSeq (tAsg (tOp (rIx K) (tLst (tCons (tC (.int 2)) (tCons (tC (.int 2)) (tCons (tC (.int 3)) (tCons (tC (.int 4)) tNil))))) (gCall (sp_take K) E1 (tCons (tVar 0) (tCons (tC (.int 4)) tNil)))) (gName 1))
  (tRet (tTup (tCons (tVar 1) (tCons (tOp rMinus (tOp (rIx K) (tLst (tCons (tC (.int 0)) (tCons (tC (.int 0)) (tCons (tC (.int 9)) (tCons (tC (.int 6)) (tCons (tC (.int 5)) tNil)))))) (tVar 1)) (tOp (rIx K) (tLst (tCons (tC (.int 0)) (tCons (tC (.int 0)) (tCons (tC (.int 1)) (tCons (tC (.int 2)) (tCons (tC (.int 3)) tNil)))))) (gCall (sp_take K) E1 (tCons (tVar 0) (tCons (tC (.int 5)) tNil))))) tNil)))))
theorem pu_zsize {K : PySem.W.Frag} (vs : List V) (H : Hp) (Q : VK) (E : XK) (h : sp_zsize K vs H Q E) : t_zsize K { nx := fun _ H' => Q .non H', rt := Q } (start ["_law_bag_here", "_law_few"] vs) H := by
  obtain ⟨_, rfl, b, H0, ys, rfl, rfl, B, hQ⟩ := h
  unfold t_zsize
  repeat' walk_at "s"
  refine newB B (sz_of rfl) fun p1 H1 e1 hp1 B => ?_
  repeat' walk_at "s"
  refine s_take B (by decide) (lg (by decide) (by decide)) ?_
  intro r1 ys a1 a2 B
  refine s_pickP (fun x => x = .int 2 ∨ x = .int 3 ∨ x = .int 4) (B.see _ _ hp1) a1 a2 (fun x hx => ?_) fun x hx => ?_
  · simp only [List.mem_cons, List.not_mem_nil, or_false] at hx
    rcases hx with rfl | rfl | rfl | rfl
    all_goals simp
  obtain ⟨f, v, hf, rfl, ha⟩ : ∃ f v : Nat, ((f = 2 ∧ v = 9) ∨ (f = 3 ∧ v = 6) ∨ (f = 4 ∧ v = 5)) ∧ x = .int (f : Int) ∧ atI [V.int 0, .int 0, .int 9, .int 6, .int 5] (f : Int) = some (.int (v : Int)) := by
    rcases hx with rfl | rfl | rfl
    · exact ⟨2, 9, by simp, rfl, rfl⟩
    · exact ⟨3, 6, by simp, rfl, rfl⟩
    · exact ⟨4, 5, by simp, rfl, rfl⟩
  repeat' walk_at "s"
  refine newB B (sz_of rfl) fun p2 H2 e2 hp2 B => ?_
  repeat' walk_at "s"
  refine s_ixL (SqL.of (B.see _ _ hp2)) ha ?_
  repeat' walk_at "s"
  refine newB B (sz_of rfl) fun p3 H3 e3 hp3 B => ?_
  repeat' walk_at "s"
  refine s_take B (by decide) (lg (by decide) (by decide)) ?_
  intro r2 ys b1 b2 B
  refine s_pickP (fun x => ∃ s : Nat, x = .int (s : Int) ∧ s ≤ 3) (B.see _ _ hp3) b1 b2 (fun x hx => ?_) fun x hx => ?_
  · simp only [List.mem_cons, List.not_mem_nil, or_false] at hx
    rcases hx with rfl | rfl | rfl | rfl | rfl
    · exact ⟨0, rfl, by omega⟩
    · exact ⟨0, rfl, by omega⟩
    · exact ⟨1, rfl, by omega⟩
    · exact ⟨2, rfl, by omega⟩
    · exact ⟨3, rfl, by omega⟩
  obtain ⟨s, rfl, s3⟩ := hx
  repeat' walk_at "s"
  refine newB B (sz_of rfl) fun p4 H4 e4 hp4 B => ?_
  refine hQ H4 ys p4 f (v - s - 1) (((e1.trans e2).trans e3).trans e4) B ?_ ?_
  · rw [hp4, show (((v - s - 1 : Nat) : Int)) + 1 = (v : Int) - (s : Int) by omega]
  · have : s = 0 ∨ s = 1 ∨ s = 2 ∨ s = 3 := by omega
    rcases hf with ⟨rfl, rfl⟩ | ⟨rfl, rfl⟩ | ⟨rfl, rfl⟩
    all_goals
      rcases this with rfl | rfl | rfl | rfl
      all_goals decide
def t_zgreat (K : PySem.W.Frag) : TS :=
  (tSeq (tPar 1 2 (tCons (tOp (rPlus K) (tC (.int 2)) (gCall (sp_take K) E1 (tCons (tVar 0) (tCons (tC (.int 25)) tNil)))) (tCons (gCall (sp_take K) E1 (tCons (tVar 0) (tCons (tC (.int 6)) tNil))) tNil)))
  (tSeq (tAsg (tOp (rPlus K) (tC (.int 1)) (gCall (sp_take K) E1 (tCons (tVar 0) (tCons (tOp (rIx K) (tLst (tCons (tC (.int 59)) (tCons (tC (.int 29)) (tCons (tC (.int 14)) (tCons (tC (.int 7)) (tCons (tC (.int 3)) (tCons (tC (.int 1)) tNil))))))) (tVar 2)) tNil)))) (gName 3))
  (tSeq (tFor (iRng1 (tCons (tVar 2) tNil)) (gName 4)
  (tAsg (tOp rTimes (tC (.int 2)) (tVar 3)) (gName 3)))
  (tSeq (tIfS (tTest (tOp (rSame K) (gCall (sp_take K) E1 (tCons (tVar 0) (tCons (tC (.int 4)) tNil))) (tC (.int 0)))) (tAsg (gCall (sp_take K) E1 (tCons (tVar 0) (tCons (tC (.int 65)) tNil))) (gName 2)) tNext)
  (tRet (tTup (tCons (tVar 1) (tCons (tOp (rPlus K) (tVar 3) (tC (.int 1))) (tCons (tVar 2) tNil)))))))))
theorem pu_zgreat {K : PySem.W.Frag} (vs : List V) (H : Hp) (Q : VK) (E : XK) (h : sp_zgreat K vs H Q E) : t_zgreat K { nx := fun _ H' => Q .non H', rt := Q } (start ["_law_bag_here", "_law_few", "_law_times", "_law_last", "_law_k"] vs) H := by
  obtain ⟨_, rfl, b, H0, ys, rfl, rfl, B, hQ⟩ := h
  unfold t_zgreat
  repeat' walk_at "s"
  refine s_take B (by decide) (lg (by decide) (by decide)) ?_
  intro r1 ys a1 a2 B
  repeat' walk_at "s"
  refine s_take B (by decide) (lg (by decide) (by decide)) ?_
  intro r2 ys b1 b2 B
  repeat' walk_at "s"
  refine newB B (sz_of rfl) fun p1 H1 e1 hp1 B => ?_
  obtain ⟨s, hs, s1, s2⟩ : ∃ s : Nat, atI [V.int 59, .int 29, .int 14, .int 7, .int 3, .int 1] r2 = some (.int (s : Int)) ∧ 1 ≤ s ∧ s * 2 ^ r2.toNat ≤ 59 := by
    have : r2 = 0 ∨ r2 = 1 ∨ r2 = 2 ∨ r2 = 3 ∨ r2 = 4 ∨ r2 = 5 := by omega
    rcases this with rfl | rfl | rfl | rfl | rfl | rfl
    · exact ⟨59, rfl, by decide, by decide⟩
    · exact ⟨29, rfl, by decide, by decide⟩
    · exact ⟨14, rfl, by decide, by decide⟩
    · exact ⟨7, rfl, by decide, by decide⟩
    · exact ⟨3, rfl, by decide, by decide⟩
    · exact ⟨1, rfl, by decide, by decide⟩
  repeat' walk_at "s"
  refine s_ixL (SqL.of (B.see _ _ hp1)) hs ?_
  repeat' walk_at "s"
  have h32 : s ≤ 59 := Nat.le_trans (Nat.le_mul_of_pos_right s (Nat.pow_pos (by decide))) s2
  refine s_take B (by omega) (lg (by omega) (by omega)) ?_
  intro r3 ys c1 c2 B
  repeat' walk_at "e"
  obtain ⟨w, hw, w1, w2⟩ : ∃ w : Nat, 1 + r3 = (w : Int) ∧ 1 ≤ w ∧ w * 2 ^ r2.toNat ≤ 59 := ⟨(1 + r3).toNat, by omega, by omega, Nat.le_trans (Nat.mul_le_mul_right _ (by omega)) s2⟩
  rw [hw]
  repeat' walk_at "s"
  refine s_rn1 (j := r2) (by omega) (by omega) ?_
  refine for_range (fun i σ H => H = upd H1 b (.lst ys) ∧ ∃ x4 : Option V, σ = [some (.ref b), some (.int (2 + r1)), some (.int r2), some (.int ((w * 2 ^ i : Nat) : Int)), x4]) ⟨rfl, _, by rw [Nat.pow_zero, Nat.mul_one]; rfl⟩ (fun i σ H hi z => ?_) fun σ H z => ?_
  · obtain ⟨rfl, x4, rfl⟩ := z
    have hp : 2 ^ i ≤ 2 ^ r2.toNat := Nat.pow_le_pow_right (by decide) (by omega)
    have hw2 : w * 2 ^ i ≤ 59 := Nat.le_trans (Nat.mul_le_mul_left w hp) w2
    repeat' walk_at "s"
    refine s_mulI (mulW (by omega) (by omega)) ?_
    repeat' walk_at "s"
    rw [show 2 * ((w * 2 ^ i : Nat) : Int) = ((w * 2 ^ (i + 1) : Nat) : Int) by rw [Nat.pow_succ, ← Nat.mul_assoc]; omega]
    exact ⟨rfl, _, rfl⟩
  · obtain ⟨rfl, x4, rfl⟩ := z
    generalize hM : w * 2 ^ r2.toNat = M at w2
    have fin : ∀ (t : Int) (ys : List V) (D : Ends), 0 ≤ t → t ≤ 64 → Bag K H1 b ys → D.rt = Q → tRet (tTup (tCons (tVar 1) (tCons (tOp (rPlus K) (tVar 3) (tC (.int 1))) (tCons (tVar 2) tNil)))) D [some (.ref b), some (.int (2 + r1)), some (.int t), some (.int (M : Int)), x4] (upd H1 b (.lst ys)) := fun t ys D t0 t1 B hD => by
      repeat' walk_at "s"
      refine newB B (sz_of rfl) fun p2 H2 e2 hp2 B => ?_
      rw [hD]
      refine hQ H2 ys p2 (2 + r1).toNat M t.toNat (e1.trans e2) B ?_ (by omega) (by omega) (by rw [← hM]; exact Nat.mul_pos w1 (Nat.pow_pos (by decide))) (by omega) (by omega)
      rw [hp2, show (((2 + r1).toNat : Nat) : Int) = 2 + r1 by omega, show ((t.toNat : Nat) : Int) = t by omega]
    repeat' walk_at "s"
    refine s_take B (by decide) (lg (by decide) (by decide)) ?_
    intro r4 ys d1 d2 B
    repeat' walk_at "s"
    refine s_if (fun d => ?_) fun d => ?_
    · repeat' walk_at "s"
      refine s_take B (by decide) (lg (by decide) (by decide)) ?_
      intro r5 ys g1 g2 B
      exact fin r5 ys _ g1 (by omega) B rfl
    · exact fin r2 ys _ b1 (by omega) B rfl
def t_zproduct (K : PySem.W.Frag) : TS :=
  (tSeq (tAsg (tOp rMinus (tVar 1) (tC (.int 1))) (gName 3))
  (tSeq (tFor (iRng1 (tCons (tVar 2) tNil)) (gName 4)
  (tSeq (tIfS (tTest (tOp (rSame K) (tOp rMod (tVar 3) (tC (.int 2))) (tC (.int 1)))) (tRet (tC (.int 0))) tNext)
  (tAsg (tOp rDiv (tVar 3) (tC (.int 2))) (gName 3))))
  (tSeq (tAsg (tOp rMinus (tVar 0) (tC (.int 1))) (gName 5))
  (tSeq (tFor (iRng1 (tCons (tVar 3) tNil)) (gName 4)
  (tAsg (tOp rTimes (tVar 5) (tVar 0)) (gName 5)))
  (tSeq (tFor (iRng1 (tCons (tVar 2) tNil)) (gName 4)
  (tSeq (tAsg (tOp rTimes (tVar 5) (tOp (rPlus K) (tVar 3) (tC (.int 1)))) (gName 5))
  (tAsg (tOp rTimes (tC (.int 2)) (tVar 3)) (gName 3))))
  (tRet (tVar 5)))))))
theorem pu_zproduct {K : PySem.W.Frag} (vs : List V) (H : Hp) (Q : VK) (E : XK) (h : sp_zproduct K vs H Q E) : t_zproduct K { nx := fun _ H' => Q .non H', rt := Q } (start ["_law_few", "_law_length", "_law_times", "_law_last", "_law_k", "_law_found"] vs) H := by
  obtain ⟨_, _, _, rfl, f, m, c, rfl, rfl, rfl, f2, f26, m1, hm, hc, hQ⟩ := h
  unfold t_zproduct
  have h10 : (26 : Int) ^ 60 < 10 ^ 90 := by decide +kernel
  refine s_seq ?_
  repeat' walk_at "e"
  rw [sevI]
  with_reducible refine s_seqR (fun σ H1 => H1 = H ∧ ∃ l : Nat, flN m c = some l ∧ ∃ x4 x5 : Option V, σ = [some (.int f), some (.int ((m : Int) + 1)), some (.int c), some (.int l), x4, x5]) (fun σ H1 z => ?_) fun N hN => ?_
  rotate_left
  · repeat' walk_at "s"
    refine s_rn1 (by omega) (by omega) ?_
    refine for_range (fun i σ H1 => H1 = H ∧ ∃ l : Nat, flN m c = flN l (c - i) ∧ l ≤ m ∧ ∃ x3 : Option V, σ = [some (.int f), some (.int ((m : Int) + 1)), some (.int c), some (.int (l : Int)), x3, none]) ⟨rfl, m, rfl, Nat.le_refl _, _, rfl⟩ (fun i σ H1 hi z => ?_) fun σ H1 z => ?_
    · obtain ⟨rfl, l, hl, lm, x3, rfl⟩ := z
      have e1 : c - i = (c - i - 1) + 1 := by omega
      have e2 : c - (i + 1) = c - i - 1 := by omega
      rw [e1] at hl
      repeat' walk_at "s"
      refine s_mod (by decide) ?_
      repeat' walk_at "s"
      refine s_if (fun d => ?_) fun d => ?_
      · repeat' walk_at "s"
        have hl : flN m c = none := by
          rw [hl]
          unfold flN
          rw [if_pos (by omega)]
        unfold rvG at hQ
        rw [hl] at hQ
        exact hQ
      · repeat' walk_at "s"
        refine s_div ⟨by decide, by decide⟩ ?_
        repeat' walk_at "s"
        refine ⟨rfl, l / 2, ?_, by omega, _, rfl⟩
        rw [hl, e2]
        show (if l % 2 = 1 then none else flN (l / 2) (c - i - 1)) = _
        rw [if_neg (by omega)]
    · obtain ⟨rfl, l, hl, lm, x3, rfl⟩ := z
      have hl : flN m c = some l := by
        rw [hl, show c - ((c : Int)).toNat = 0 by omega]
        rfl
      exact hN _ _ ⟨rfl, l, hl, _, _, rfl⟩
  · obtain ⟨rfl, l, hl, x4, x5, rfl⟩ := z
    unfold rvG at hQ
    rw [hl] at hQ
    replace hQ : Q (.int (((f : Int) - 1) * (f : Int) ^ l * prodI (pl l c))) H1 := hQ
    obtain ⟨hc6, hl6, l1⟩ := c6 hl m1 hm
    have hlm := fl_some hl
    repeat' walk_at "s"
    have fb : ∀ i : Nat, i ≤ 60 → 0 ≤ ((f : Int) - 1) * (f : Int) ^ i ∧ ((f : Int) - 1) * (f : Int) ^ i ≤ 25 * 26 ^ 60 := fun i hi => by
      have q := pw_bd (m := i) f26 hi
      exact mul_bd (by omega) (by omega) q.1 q.2
    refine s_rn1 (by omega) (by omega) ?_
    refine for_range (fun i σ H2 => H2 = H1 ∧ ∃ x4 : Option V, σ = [some (.int f), some (.int ((m : Int) + 1)), some (.int c), some (.int l), x4, some (.int (((f : Int) - 1) * (f : Int) ^ i))]) ⟨rfl, _, by rw [Int.pow_zero, Int.mul_one]; rfl⟩ (fun i σ H2 hi z => ?_) fun σ H2 z => ?_
    · obtain ⟨rfl, x4, rfl⟩ := z
      have q := fb i (by omega)
      repeat' walk_at "s"
      refine s_mulI (mulW (by omega) (by omega)) ?_
      repeat' walk_at "s"
      exact ⟨rfl, _, by rw [Int.pow_succ, ← Int.mul_assoc]; rfl⟩
    · obtain ⟨rfl, x4, rfl⟩ := z
      have q := fb l (by omega)
      rw [show ((l : Int)).toNat = l by omega]
      generalize ((f : Int) - 1) * (f : Int) ^ l = a at q hQ
      repeat' walk_at "s"
      refine s_rn1 (by omega) (by omega) ?_
      refine for_range (fun i σ H1 => H1 = H2 ∧ ∃ x4 : Option V, σ = [some (.int f), some (.int ((m : Int) + 1)), some (.int c), some (.int ((l * 2 ^ i : Nat) : Int)), x4, some (.int (a * prodI (pl l i)))]) ⟨rfl, _, by rw [Nat.pow_zero, Nat.mul_one]; show _ = [_, _, _, _, _, some (V.int (a * 1))]; rw [Int.mul_one]⟩ (fun i σ H1 hi z => ?_) fun σ H1 z => ?_
      · obtain ⟨rfl, x4, rfl⟩ := z
        have hp : l * 2 ^ i ≤ l * 2 ^ c := Nat.mul_le_mul_left l (Nat.pow_le_pow_right (by decide) (by omega))
        obtain ⟨p1, p2⟩ := pl_bd (l := l) (c := i) (n := m) (by omega) hm
        have h6 : 61 ^ i ≤ 61 ^ 6 := Nat.pow_le_pow_right (by decide) (by omega)
        have q3 := mul_bd q.1 q.2 p1 (Int.le_trans p2 (show ((61 ^ i : Nat) : Int) ≤ 61 ^ 6 by exact_mod_cast h6))
        repeat' walk_at "s"
        refine s_mulI (mulW (by omega) (by omega)) ?_
        repeat' walk_at "s"
        refine s_mulI (mulW (by omega) (by omega)) ?_
        repeat' walk_at "s"
        rw [show 2 * ((l * 2 ^ i : Nat) : Int) = ((l * 2 ^ (i + 1) : Nat) : Int) by rw [Nat.pow_succ, ← Nat.mul_assoc]; omega, Int.mul_assoc, ← pl_prod]
        exact ⟨rfl, _, rfl⟩
      · obtain ⟨rfl, x4, rfl⟩ := z
        repeat' walk_at "s"
        exact hQ
end
section
/-- one step of a reading (e: none past a statement's end) -/
local macro_rules
  | `(tactic| walk_at "e") => `(tactic| first
    | with_reducible refine s_ifs ?_
    | with_reducible refine s_test ?_
    | with_reducible refine s_truth ?_
    | with_reducible refine s_op ?_
    | with_reducible refine s_un ?_
    | with_reducible refine s_asg ?_
    | with_reducible refine s_ret ?_
    | with_reducible refine s_next ?_
    | with_reducible refine s_drop ?_
    | with_reducible refine s_c ?_
    | ((with_reducible refine s_var (v := ?v) ?e ?q); case e => exact rfl)
    | with_reducible refine s_name ?_
    | with_reducible refine s_exq ?_
    | with_reducible refine s_cons ?_
    | with_reducible refine s_nil ?_
    | with_reducible refine s_lst ?_
    | with_reducible refine s_tup ?_
    | with_reducible refine s_cb ?_
    | with_reducible refine s_call ?_
    | with_reducible refine s_and ?_
    | with_reducible refine s_or ?_
    | with_reducible refine s_not ?_
    | with_reducible refine s_andV ?_
    | with_reducible refine s_orV ?_
    | with_reducible refine s_notV ?_
    | with_reducible refine s_ife ?_
    | with_reducible refine s_chain ?_
    | with_reducible refine s_addI ?_
    | with_reducible refine s_sub ?_
    | with_reducible refine s_neg ?_
    | with_reducible refine s_eqI ?_
    | with_reducible refine s_eqX ?_
    | with_reducible refine s_eqT ?_
    | with_reducible refine s_eqB ?_
    | with_reducible refine s_eqNI ?_
    | with_reducible refine s_eqIN ?_
    | with_reducible refine s_eqNN ?_
    | with_reducible refine s_neI ?_
    | with_reducible refine s_neX ?_
    | with_reducible refine s_neT ?_
    | with_reducible refine s_neB ?_
    | with_reducible refine s_lt ?_
    | with_reducible refine s_le ?_
    | with_reducible refine s_gt ?_
    | with_reducible refine s_ge ?_
    | with_reducible refine s_isN ?_
    | with_reducible refine s_isS ?_
    | with_reducible refine s_truB ?_
    | with_reducible refine s_truI ?_
    | with_reducible refine s_truN ?_
    | with_reducible refine s_abs ?_
    | with_reducible refine s_min2 ?_
    | with_reducible refine s_max2 ?_
    | with_reducible refine s_intI ?_
    | with_reducible refine s_intB ?_
    | with_reducible refine s_ifT ?_
    | with_reducible refine s_ifF ?_
    | with_reducible refine s_ifnT ?_
    | with_reducible refine s_ifnF ?_
    | with_reducible refine s_gSub ?_
    | with_reducible refine s_gTup ?_
    | with_reducible refine s_augS ?_
    | ((with_reducible refine s_aug (x := ?v) ?e ?q); case e => exact rfl)
    | with_reducible refine s_yes ?_
    | with_reducible refine s_par ?_
    | with_reducible refine s_two ?_
    | with_reducible refine s_m1 ?_
    | with_reducible refine s_isstr ?_
    | with_reducible refine s_rev0 ?_
    | with_reducible refine s_gCons ?_
    | with_reducible refine s_gNil ?_
    | with_reducible refine s_ipI ?_
    | with_reducible refine s_ipA ?_
    | with_reducible refine s_sl ?_
    | with_reducible refine s_noPart ?_
    | with_reducible refine s_part ?_
    | with_reducible refine s_parte ?_
    | with_reducible refine s_for ?_
    | with_reducible refine s_lc ?_
    | with_reducible refine s_iL ?_
    | with_reducible refine s_iE ?_
    | with_reducible refine s_iS ?_
    | with_reducible refine s_iT ?_
    | with_reducible refine s_itS ?_
    | with_reducible refine s_iR1 ?_
    | with_reducible refine s_iR2 ?_
    | with_reducible refine s_iR3 ?_
    | with_reducible refine s_rg1 ?_
    | with_reducible refine s_rg2 ?_
    | with_reducible refine s_rg1e ?_
    | with_reducible refine s_rg2e ?_
    | with_reducible refine s_lrg ?_
    | with_reducible refine s_lr3 ?_
    | with_reducible refine s_bm ?_
    | with_reducible refine s_bm0 ?_
    | with_reducible refine s_retN ?_)
  | `(tactic| walk_at "s") => `(tactic| first
    | with_reducible refine s_seq ?_
    | walk_at "e")

/-- pairs of a list of places (n of them) and a text -/
def Bx (n : Nat) (H : Hp) (rs : List V) (Ts : List (List Nat)) : Prop := rs.length = Ts.length ∧ ∀ (i : Nat) (u : List Nat), Ts[i]? = some u → ∃ (t p : Addr) (s : List Int), rs[i]? = some (.ref t) ∧ H t = some (.tup [.ref p, .str (tx u)]) ∧ H p = some (.lst (s.map V.int)) ∧ s.length = n
theorem Bx.same {n : Nat} {H H' : Hp} {rs : List V} {Ts : List (List Nat)} (h : Bx n H rs Ts) (e : Same H H') : Bx n H' rs Ts := ⟨h.1, fun i u hu => by
  obtain ⟨t, p, s, h1, h2, h3, h4⟩ := h.2 i u hu
  exact ⟨t, p, s, h1, e _ _ h2, e _ _ h3, h4⟩⟩
theorem at_app {α β : Type} {R : α → β → Prop} {rs rs' : List α} {ts ts' : List β} (h1 : rs.length = ts.length) (h : ∀ (i : Nat) (u : β), ts[i]? = some u → ∃ r, rs[i]? = some r ∧ R r u) (h' : ∀ (i : Nat) (u : β), ts'[i]? = some u → ∃ r, rs'[i]? = some r ∧ R r u) (i : Nat) (u : β) (hu : (ts ++ ts')[i]? = some u) : ∃ r, (rs ++ rs')[i]? = some r ∧ R r u := by
  by_cases q : i < ts.length
  · rw [List.getElem?_append_left q] at hu
    rw [List.getElem?_append_left (by omega)]
    exact h i u hu
  · rw [List.getElem?_append_right (by omega)] at hu
    rw [List.getElem?_append_right (by omega), h1]
    exact h' _ u hu
theorem Bx.app {n : Nat} {H : Hp} {rs rs' : List V} {Ts Ts' : List (List Nat)} (h : Bx n H rs Ts) (h' : Bx n H rs' Ts') : Bx n H (rs ++ rs') (Ts ++ Ts') := ⟨by rw [List.length_append, List.length_append, h.1, h'.1], fun i u hu => by
  obtain ⟨r, hr, t, p, s, rfl, h2⟩ := at_app (R := fun r u => ∃ (t p : Addr) (s : List Int), r = V.ref t ∧ H t = some (.tup [.ref p, .str (tx u)]) ∧ H p = some (.lst (s.map V.int)) ∧ s.length = n) h.1 (fun i u hu => by
    obtain ⟨t, p, s, a, b⟩ := h.2 i u hu
    exact ⟨_, a, t, p, s, rfl, b⟩) (fun i u hu => by
    obtain ⟨t, p, s, a, b⟩ := h'.2 i u hu
    exact ⟨_, a, t, p, s, rfl, b⟩) i u hu
  exact ⟨t, p, s, hr, h2⟩⟩
theorem Bx.one {n : Nat} {H : Hp} {t p : Addr} {u : List Nat} {s : List Int} (h2 : H t = some (.tup [.ref p, .str (tx u)])) (h3 : H p = some (.lst (s.map V.int))) (h4 : s.length = n) : Bx n H [.ref t] [u] := ⟨rfl, fun i v hv => by
  cases i with
  | zero => cases hv; exact ⟨t, p, s, rfl, h2, h3, h4⟩
  | succ i => cases hv⟩
theorem Bx.nil {n : Nat} {H : Hp} : Bx n H [] [] := ⟨rfl, fun i s hs => nomatch hs⟩
/-- a list at L grows that is none of the pairs' lists -/
theorem Bx.keep {n : Nat} {H : Hp} {L : Addr} {acc : List V} {o : HO} {rs : List V} {Ts : List (List Nat)} (hn : n ≠ 0) (hL : H L = some (.lst acc)) (h0 : ∀ x : Int, acc[0]? = some (.int x) → False) (h : Bx n H rs Ts) : Bx n (upd H L o) rs Ts := ⟨h.1, fun i u hu => by
  obtain ⟨t, p, s, h1, h2, h3, h4⟩ := h.2 i u hu
  have tL : t ≠ L := fun e => by
    rw [e, hL] at h2
    cases h2
  have pL : p ≠ L := fun e => by
    rw [e, hL] at h3
    have h5 : acc = s.map V.int := HO.lst.inj (Option.some.inj h3)
    cases s with
    | nil => exact hn h4.symm
    | cons x s => exact h0 x (by rw [h5]; rfl)
  exact ⟨t, p, s, h1, by rw [upd_ne tL]; exact h2, by rw [upd_ne pL]; exact h3, h4⟩⟩
/-- pairs of any thing and a text -/
def By (H : Hp) (rs : List V) (Ts : List (List Nat)) : Prop := rs.length = Ts.length ∧ ∀ (i : Nat) (u : List Nat), Ts[i]? = some u → ∃ t p : Addr, rs[i]? = some (.ref t) ∧ H t = some (.tup [.ref p, .str (tx u)])
theorem By.same {H H' : Hp} {rs : List V} {Ts : List (List Nat)} (h : By H rs Ts) (e : Same H H') : By H' rs Ts := ⟨h.1, fun i u hu => by
  obtain ⟨t, p, h1, h2⟩ := h.2 i u hu
  exact ⟨t, p, h1, e _ _ h2⟩⟩
theorem By.app {H : Hp} {rs rs' : List V} {Ts Ts' : List (List Nat)} (h : By H rs Ts) (h' : By H rs' Ts') : By H (rs ++ rs') (Ts ++ Ts') := ⟨by rw [List.length_append, List.length_append, h.1, h'.1], fun i u hu => by
  obtain ⟨r, hr, t, p, rfl, h2⟩ := at_app (R := fun r u => ∃ t p : Addr, r = V.ref t ∧ H t = some (.tup [.ref p, .str (tx u)])) h.1 (fun i u hu => by
    obtain ⟨t, p, a, b⟩ := h.2 i u hu
    exact ⟨_, a, t, p, rfl, b⟩) (fun i u hu => by
    obtain ⟨t, p, a, b⟩ := h'.2 i u hu
    exact ⟨_, a, t, p, rfl, b⟩) i u hu
  exact ⟨t, p, hr, h2⟩⟩
theorem By.one {H : Hp} {t p : Addr} {u : List Nat} (h2 : H t = some (.tup [.ref p, .str (tx u)])) : By H [.ref t] [u] := ⟨rfl, fun i v hv => by
  cases i with
  | zero => cases hv; exact ⟨t, p, rfl, h2⟩
  | succ i => cases hv⟩
theorem By.nil {H : Hp} : By H [] [] := ⟨rfl, fun i s hs => nomatch hs⟩
theorem allT_ok {t : List Nat} {l : Nat} (h : t.length = l + 1) : ∀ c, (∀ u ∈ allT t c, u.length = l * 2 ^ c + 1) ∧ (l * 2 ^ c ≤ 8 → (allT t c).length ≤ 9 ^ c) := fun c => by
  induction c with
  | zero =>
    refine ⟨fun u hu => ?_, fun _ => Nat.le_refl 1⟩
    rw [List.mem_singleton.mp hu, h, Nat.pow_zero, Nat.mul_one]
  | succ c ih =>
    refine ⟨fun u hu => ?_, fun hl => ?_⟩
    · obtain ⟨v, hv, hu⟩ := List.mem_flatMap.mp hu
      obtain ⟨k, hk, rfl⟩ := List.mem_map.mp hu
      have hk := List.mem_range.mp hk
      have := ih.1 v hv
      rw [mk_len hk, this, Nat.pow_succ, ← Nat.mul_assoc]
      omega
    · have hp : l * 2 ^ c ≤ l * 2 ^ (c + 1) := Nat.mul_le_mul_left l (Nat.pow_le_pow_right (by decide) (Nat.le_succ c))
      have key : ∀ ts : List (List Nat), (∀ u ∈ ts, u.length ≤ 9) → (ts.flatMap fun u => (List.range u.length).map fun k => mk u k).length ≤ ts.length * 9 := fun ts h => by
        induction ts with
        | nil => exact Nat.zero_le _
        | cons u ts ih =>
          rw [List.flatMap_cons, List.length_append, List.length_cons, List.length_map, List.length_range]
          have := h u List.mem_cons_self
          have := ih fun v hv => h v (List.mem_cons_of_mem _ hv)
          omega
      have h1 := key (allT t c) fun u hu => by have := ih.1 u hu; omega
      have h2 := ih.2 (by omega)
      show ((allT t c).flatMap fun u => (List.range u.length).map fun k => mk u k).length ≤ _
      rw [Nat.pow_succ]
      omega
def sp_zall (K : PySem.W.Frag) : Sp := sp2 fun x y H Q _ => ∃ (t : List Nat) (l c : Nat), x = .str (tx t) ∧ y = .int c ∧ t.length = l + 1 ∧ l * 2 ^ c ≤ 8 ∧ c ≤ 5 ∧ ∀ a rs H', Same H H' → H' a = some (.lst rs) → Bx c H' rs (allT t c) → Q (.ref a) H'
def sp_zstarts (K : PySem.W.Frag) : Sp := sp3 fun x y z H Q _ => ∃ f m c : Nat, x = .int f ∧ y = .int ((m : Int) + 1) ∧ z = .int c ∧ 2 ≤ f ∧ f ≤ 4 ∧ 1 ≤ m ∧ m ≤ 8 ∧ c ≤ 5 ∧ ∀ a rs H', Same H H' → H' a = some (.lst rs) → By H' rs (stT f m c) → Q (.ref a) H'
def t_zall (K : PySem.W.Frag) : TS :=
  (tSeq (tAsg (tLst (tCons (tTup (tCons (tLst tNil) (tCons (tVar 0) tNil))) tNil)) (gName 2))
  (tSeq (tFor (iRng1 (tCons (tVar 1) tNil)) (gName 3)
  (tSeq (tAsg (tLst tNil) (gName 4))
  (tSeq (tFor (iList K (tVar 2)) (gTup K 2 (gCons (gName 5) (gCons (gName 6) gNil)))
  (tDrop (tBM K "list" rExtend (tVar 4) (tCons (tLc (iRng1 (tCons (tCB (rLen K) (tCons (tVar 6) tNil)) tNil)) (gName 7) tYes (tTup (tCons (tOp (rPlus K) (tVar 5) (tLst (tCons (tVar 7) tNil))) (tCons (gCall (sp_called K) E1 (tCons (tVar 6) (tCons (tVar 7) tNil))) tNil))) [7]) tNil))))
  (tAsg (tVar 4) (gName 2)))))
  (tRet (tVar 2))))
theorem pu_zall {K : PySem.W.Frag} (vs : List V) (H : Hp) (Q : VK) (E : XK) (h : sp_zall K vs H Q E) : t_zall K { nx := fun _ H' => Q .non H', rt := Q } (start ["_law_row", "_law_times", "_law_found", "_law_k", "_law_longer", "_law_story", "_law_text", "_law_place"] vs) H := by
  obtain ⟨_, _, rfl, t, l, c, rfl, rfl, tl, hl, hc, hQ⟩ := h
  unfold t_zall
  have l9 : l * 2 ^ c ≤ 8 := hl
  have hll : l ≤ 8 := Nat.le_trans (Nat.le_mul_of_pos_right l (Nat.pow_pos (by decide))) hl
  repeat' walk_at "s"
  refine newS (sz_of rfl) fun p1 H1 f1 e1 hp1 => ?_
  repeat' walk_at "s"
  refine newS (sz_of rfl) fun t1 H2 _ e2 ht1 => ?_
  repeat' walk_at "s"
  refine newS (sz_of rfl) fun a0 H3 _ e3 ha0 => ?_
  repeat' walk_at "s"
  refine s_rn1 (by omega) (by omega) ?_
  refine for_range (fun i σ H' => ∃ (a : Addr) (rs : List V) (x3 x4 x5 x6 x7 : Option V), Same H H' ∧ H' a = some (.lst rs) ∧ Bx i H' rs (allT t i) ∧ σ = [some (.str (tx t)), some (.int c), some (.ref a), x3, x4, x5, x6, x7])
    ⟨a0, [.ref t1], _, _, _, _, _, (e1.trans e2).trans e3, ha0, Bx.one (s := []) (e3 _ _ ht1) ((e2.trans e3) _ _ hp1) rfl, rfl⟩ (fun i σ H' hi z => ?_) fun σ H' z => ?_
  · clear ha0 e3 ht1 e2 hp1 f1 e1
    obtain ⟨a, rs, x3, x4, x5, x6, x7, e0, ha, hB, rfl⟩ := z
    have hp : l * 2 ^ i ≤ l * 2 ^ c := Nat.mul_le_mul_left l (Nat.pow_le_pow_right (by decide) (by omega))
    obtain ⟨hu, hn⟩ := allT_ok tl i
    have hn := hn (by omega)
    have h95 : 9 ^ i ≤ 9 ^ 5 := Nat.pow_le_pow_right (by decide) (by omega)
    have h59 : (9 : Nat) ^ 5 = 59049 := rfl
    repeat' walk_at "s"
    refine newS (sz_of rfl) fun L H4 fL e4 hL => ?_
    repeat' walk_at "s"
    have aL : a ≠ L := fun e => by
      rw [e, fL] at ha
      cases ha
    refine s_itL (SqL.of (e4 _ _ ha)) ?_
    refine for_list (xs := rs) (fun j σ Hc => ∃ (acc : List V) (x5 x6 x7 : Option V), Same H' Hc ∧ Hc L = some (.lst acc) ∧ Bx (i + 1) Hc acc (((allT t i).take j).flatMap fun u => (List.range u.length).map fun k => mk u k) ∧ acc.length ≤ j * 9 ∧ σ = [some (.str (tx t)), some (.int c), some (.ref a), some (.int (0 + (i : Int))), some (.ref L), x5, x6, x7])
      ⟨[], _, _, _, e4, hL, Bx.nil, by decide, rfl⟩ (fun j σ Hc _ z => ?_) (fun j x σ Hc hx z => ?_) fun σ Hc z => ?_
    · obtain ⟨acc, x5, x6, x7, ec, hLc, hBc, hal, rfl⟩ := z
      exact SqL.of (ec _ _ ha)
    · obtain ⟨acc, x5, x6, x7, ec, hLc, hBc, hal, rfl⟩ := z
      have hj : j < (allT t i).length := by
        rw [← hB.1]
        exact (List.getElem?_eq_some_iff.mp hx).1
      have hs : (allT t i)[j]? = some (allT t i)[j] := List.getElem?_eq_getElem hj
      have hg := hu _ (List.getElem_mem hj)
      generalize (allT t i)[j] = g at hs hg
      obtain ⟨t', p, s, k1, k2, k3, k4⟩ := hB.2 j g hs
      rw [hx] at k1
      cases k1
      refine s_gTup (SqT.of (ec _ _ k2)) rfl ?_
      repeat' walk_at "s"
      refine s_tyL (SqL.of hLc) ?_
      repeat' walk_at "s"
      refine s_lenX (by omega) ?_
      repeat' walk_at "s"
      refine s_rn1 (by omega) (by omega) ?_
      intro D hD
      refine lcR hD (fun jj ac Hi => Same Hc Hi ∧ Bx (i + 1) Hi ac ((List.range jj).map fun k => mk g k)) ⟨Same.refl _, Bx.nil⟩ (fun jj ac Hi hjj hnD hl z => ?_) fun ac Hi hnD hl z => ?_
      · obtain ⟨e9, hac⟩ := z
        repeat' walk_at "s"
        refine ⟨rfl, ?_⟩
        repeat' walk_at "s"
        refine newH hnD (sz_of rfl) fun q1 H9 e10 hq1 hnD => ?_
        have hp9 := (ec.trans (e9.trans e10)) _ _ k3
        refine s_addN (same_new hnD _ _ hp9) (same_new hnD _ _ hq1) (by rw [List.length_map, k4]; show i + 1 ≤ _; omega) (newH hnD trivial fun q2 H10 e11 hq2 hnD => ?_)
        repeat' walk_at "s"
        refine s_mk (by omega) (by omega) (by omega) ?_
        repeat' walk_at "s"
        refine newH hnD (sz_of rfl) fun q3 H11 e12 hq3 hnD => ?_
        refine lc_put hnD hl (by rw [sizeLine_eq]; omega) ⟨((e9.trans e10).trans e11).trans e12, ?_⟩
        rw [show ((0 : Int) + (jj : Int)).toNat = jj by omega] at hq3
        rw [List.range_succ, List.map_append]
        refine (hac.same ((e10.trans e11).trans e12)).app (Bx.one (p := q2) (s := s ++ [(0 : Int) + (jj : Int)]) hq3 ?_ (by rw [List.length_append, k4]; rfl))
        rw [e12 _ _ hq2, List.map_append]
        rfl
      · obtain ⟨e9, hac⟩ := z
        refine doneS hnD fun H9 e10 h9 => ?_
        have hL9 := (e9.trans e10) _ _ hLc
        have e99 := e9.trans e10
        rw [show ((g.length : Int)).toNat = g.length by omega] at hl hac
        have hacl := hac.1
        rw [List.length_map, List.length_range] at hacl
        refine ⟨L, D, acc, ac, rfl, rfl, hL9, h9, by rw [sizeLine_eq]; omega, ?_⟩
        refine ⟨_, _, _, _, same_put (ec.trans e99) fL, upd_same, ?_, by rw [List.length_append]; omega, rfl⟩
        rw [List.take_add_one, hs, List.flatMap_append]
        show Bx (i + 1) _ _ (_ ++ List.flatMap _ [g])
        rw [List.flatMap_cons, List.flatMap_nil, List.append_nil]
        refine Bx.keep (Nat.succ_ne_zero i) hL9 (fun x h => ?_) ((hBc.same e99).app (hac.same e10))
        have h7 : 0 < (((allT t i).take j).flatMap fun u => (List.range u.length).map fun k => mk u k).length := by
          rw [← hBc.1]
          exact (List.getElem?_eq_some_iff.mp h).1
        obtain ⟨t2, _, _, q1, _⟩ := hBc.2 0 _ (List.getElem?_eq_getElem h7)
        rw [h] at q1
        cases q1
    · obtain ⟨acc, x5, x6, x7, ec, hLc, hBc, hal, rfl⟩ := z
      repeat' walk_at "s"
      rw [hB.1, List.take_of_length_le (Nat.le_refl _)] at hBc
      exact ⟨L, acc, _, _, _, _, _, e0.trans ec, hLc, hBc, rfl⟩
  · obtain ⟨a, rs, x3, x4, x5, x6, x7, e0, ha, hB, rfl⟩ := z
    repeat' walk_at "s"
    exact hQ a rs _ e0 ha hB
end
section
/-- one step of a reading (e: none past a statement's end) -/
local macro_rules
  | `(tactic| walk_at "e") => `(tactic| first
    | with_reducible refine s_ifs ?_
    | with_reducible refine s_test ?_
    | with_reducible refine s_truth ?_
    | with_reducible refine s_op ?_
    | with_reducible refine s_un ?_
    | with_reducible refine s_asg ?_
    | with_reducible refine s_ret ?_
    | with_reducible refine s_next ?_
    | with_reducible refine s_drop ?_
    | with_reducible refine s_c ?_
    | ((with_reducible refine s_var (v := ?v) ?e ?q); case e => exact rfl)
    | with_reducible refine s_name ?_
    | with_reducible refine s_exq ?_
    | with_reducible refine s_cons ?_
    | with_reducible refine s_nil ?_
    | with_reducible refine s_lst ?_
    | with_reducible refine s_tup ?_
    | with_reducible refine s_cb ?_
    | with_reducible refine s_call ?_
    | with_reducible refine s_and ?_
    | with_reducible refine s_or ?_
    | with_reducible refine s_not ?_
    | with_reducible refine s_andV ?_
    | with_reducible refine s_orV ?_
    | with_reducible refine s_notV ?_
    | with_reducible refine s_ife ?_
    | with_reducible refine s_chain ?_
    | with_reducible refine s_addI ?_
    | with_reducible refine s_sub ?_
    | with_reducible refine s_neg ?_
    | with_reducible refine s_eqI ?_
    | with_reducible refine s_eqX ?_
    | with_reducible refine s_eqT ?_
    | with_reducible refine s_eqB ?_
    | with_reducible refine s_eqNI ?_
    | with_reducible refine s_eqIN ?_
    | with_reducible refine s_eqNN ?_
    | with_reducible refine s_neI ?_
    | with_reducible refine s_neX ?_
    | with_reducible refine s_neT ?_
    | with_reducible refine s_neB ?_
    | with_reducible refine s_lt ?_
    | with_reducible refine s_le ?_
    | with_reducible refine s_gt ?_
    | with_reducible refine s_ge ?_
    | with_reducible refine s_isN ?_
    | with_reducible refine s_isS ?_
    | with_reducible refine s_truB ?_
    | with_reducible refine s_truI ?_
    | with_reducible refine s_truN ?_
    | with_reducible refine s_abs ?_
    | with_reducible refine s_min2 ?_
    | with_reducible refine s_max2 ?_
    | with_reducible refine s_intI ?_
    | with_reducible refine s_intB ?_
    | with_reducible refine s_ifT ?_
    | with_reducible refine s_ifF ?_
    | with_reducible refine s_ifnT ?_
    | with_reducible refine s_ifnF ?_
    | with_reducible refine s_gSub ?_
    | with_reducible refine s_gTup ?_
    | with_reducible refine s_augS ?_
    | ((with_reducible refine s_aug (x := ?v) ?e ?q); case e => exact rfl)
    | with_reducible refine s_yes ?_
    | with_reducible refine s_par ?_
    | with_reducible refine s_two ?_
    | with_reducible refine s_m1 ?_
    | with_reducible refine s_isstr ?_
    | with_reducible refine s_rev0 ?_
    | with_reducible refine s_gCons ?_
    | with_reducible refine s_gNil ?_
    | with_reducible refine s_ipI ?_
    | with_reducible refine s_ipA ?_
    | with_reducible refine s_sl ?_
    | with_reducible refine s_noPart ?_
    | with_reducible refine s_part ?_
    | with_reducible refine s_parte ?_
    | with_reducible refine s_for ?_
    | with_reducible refine s_lc ?_
    | with_reducible refine s_iL ?_
    | with_reducible refine s_iE ?_
    | with_reducible refine s_iS ?_
    | with_reducible refine s_iT ?_
    | with_reducible refine s_itS ?_
    | with_reducible refine s_iR1 ?_
    | with_reducible refine s_iR2 ?_
    | with_reducible refine s_iR3 ?_
    | with_reducible refine s_rg1 ?_
    | with_reducible refine s_rg2 ?_
    | with_reducible refine s_rg1e ?_
    | with_reducible refine s_rg2e ?_
    | with_reducible refine s_lrg ?_
    | with_reducible refine s_lr3 ?_
    | with_reducible refine s_bm ?_
    | with_reducible refine s_bm0 ?_
    | with_reducible refine s_retN ?_)
  | `(tactic| walk_at "s") => `(tactic| first
    | with_reducible refine s_seq ?_
    | walk_at "e")

/-- len of a dict -/
def rLenD : List V → Hp → VK → Prop := fun xs H Q => ∃ (a : Addr) (kvs : List (Key × V)), xs = [.ref a] ∧ H a = some (.dK kvs) ∧ Q (.int kvs.length) H
theorem o_lenD {X : Cx} : CallR X (.builtin "len") rLenD := by
  intro pins s σ H vs us Q I r h
  obtain ⟨a, kvs, rfl, ha, q⟩ := h
  rw [Vals.ref1 r]
  exact d_len I (.inl ha) fun t s' I' => ⟨.int kvs.length, H, I', ⟨t, rfl⟩, q⟩
def kvT (ks : List (List Nat)) : List (Key × V) := ks.map fun t => ((Sum.inr (tx t) : Key), V.bl true)
theorem put_kvT (ks : List (List Nat)) (t : List Nat) : putK (kvT ks) (Sum.inr (tx t) : Key) (.bl true) = kvT (putT ks t) := by
  have ke : ∀ u : List Nat, ((Sum.inr (tx u) : Key) = Sum.inr (tx t)) ↔ u = t := fun u => ⟨fun h => tx_inj.mp (Sum.inr.inj h), fun h => by rw [h]⟩
  unfold putK putT
  by_cases h : t ∈ ks
  · have ha : ((kvT ks).any fun kv => decide (kv.1 = (Sum.inr (tx t) : Key))) = true := List.any_eq_true.mpr ⟨(Sum.inr (tx t), .bl true), List.mem_map.mpr ⟨t, h, rfl⟩, decide_eq_true rfl⟩
    rw [if_pos ha, if_pos h]
    unfold kvT
    rw [List.map_map]
    refine List.map_congr_left fun u _ => ?_
    show (if (Sum.inr (tx u) : Key) = Sum.inr (tx t) then ((Sum.inr (tx u) : Key), V.bl true) else (Sum.inr (tx u), V.bl true)) = _
    split <;> rfl
  · have ha : ¬ ((kvT ks).any fun kv => decide (kv.1 = (Sum.inr (tx t) : Key))) = true := fun q => by
      obtain ⟨kv, hkv, q⟩ := List.any_eq_true.mp q
      obtain ⟨u, hu, rfl⟩ := List.mem_map.mp hkv
      exact h ((ke u).mp (of_decide_eq_true q) ▸ hu)
    rw [if_neg ha, if_neg h]
    unfold kvT
    rw [List.map_append]
    rfl
theorem put_le (ts : List (List Nat)) : ∀ ks : List (List Nat), (ts.foldl putT ks).length ≤ ks.length + ts.length := by
  induction ts with
  | nil => exact fun ks => Nat.le_refl _
  | cons t ts ih =>
    intro ks
    rw [List.foldl_cons, List.length_cons]
    have := ih (putT ks t)
    have h1 : (putT ks t).length ≤ ks.length + 1 := by
      unfold putT
      split
      · omega
      · rw [List.length_append, List.length_singleton]
        exact Nat.le_refl _
    omega
theorem szb {l c : Nat} (h : l * 2 ^ c ≤ 8) (l1 : 1 ≤ l) : 4 ^ (l + 1) * 9 ^ c ≤ 262144 := by
  have h2 := Nat.le_mul_of_pos_left (2 ^ c) l1
  have c3 : c = 0 ∨ c = 1 ∨ c = 2 ∨ c = 3 := by
    by_cases q : c ≤ 3
    · omega
    · have : 2 ^ 4 ≤ 2 ^ c := Nat.pow_le_pow_right (by decide) (by omega)
      omega
  rcases c3 with rfl | rfl | rfl | rfl
  · have : 4 ^ (l + 1) ≤ 4 ^ 9 := Nat.pow_le_pow_right (by decide) (by omega)
    omega
  · have : 4 ^ (l + 1) ≤ 4 ^ 5 := Nat.pow_le_pow_right (by decide) (by omega)
    omega
  · have : 4 ^ (l + 1) ≤ 4 ^ 3 := Nat.pow_le_pow_right (by decide) (by omega)
    omega
  · have : 4 ^ (l + 1) ≤ 4 ^ 2 := Nat.pow_le_pow_right (by decide) (by omega)
    omega
theorem cnt_at {f m c : Nat} (h : (f, m) ∈ sm) (hc : c ≤ 5) : (cntT f m c : Int) = rvG f m c := by
  cases c with
  | succ c => exact of_decide_eq_true (List.all_eq_true.mp (List.all_eq_true.mp smallc _ h) c (List.mem_range.mpr (by omega)))
  | zero =>
    have h0 := of_decide_eq_true (List.all_eq_true.mp small0_ _ h)
    have e : stT f m 0 = (rowsL f (m + 1)).filter apartB := by
      show ((rowsL f (m + 1)).filter apartB).flatMap (fun t => [t]) = _
      rw [List.flatMap_singleton']
    unfold cntT
    rw [e, put_nd _ [] (by rw [List.nil_append]; exact (rows_nd _).sublist List.filter_sublist), List.nil_append]
    exact h0
theorem By.keep {H : Hp} {L : Addr} {acc : List V} {o : HO} {rs : List V} {Ts : List (List Nat)} (hL : H L = some (.lst acc)) (h : By H rs Ts) : By (upd H L o) rs Ts := ⟨h.1, fun i u hu => by
  obtain ⟨t, p, h1, h2⟩ := h.2 i u hu
  have tL : t ≠ L := fun e => by
    rw [e, hL] at h2
    cases h2
  exact ⟨t, p, h1, by rw [upd_ne tL]; exact h2⟩⟩
def t_zstarts (K : PySem.W.Frag) : TS :=
  (tSeq (tAsg (tOp rMinus (tVar 1) (tC (.int 1))) (gName 3))
  (tSeq (tFor (iRng1 (tCons (tVar 2) tNil)) (gName 4)
  (tSeq (tIfS (tTest (tOp (rSame K) (tOp rMod (tVar 3) (tC (.int 2))) (tC (.int 1)))) (tRet (tLst tNil)) tNext)
  (tAsg (tOp rDiv (tVar 3) (tC (.int 2))) (gName 3))))
  (tSeq (tAsg (tLst tNil) (gName 5))
  (tSeq (tFor (iList K (gCall (sp_zapart K) E1 (tCons (gCall (sp_zrows K) E1 (tCons (tVar 0) (tCons (tOp (rPlus K) (tVar 3) (tC (.int 1))) tNil))) tNil))) (gName 6)
  (tDrop (tBM K "list" rExtend (tVar 5) (tCons (tLc (iList K (gCall (sp_zall K) E1 (tCons (tVar 6) (tCons (tVar 2) tNil)))) (gTup K 2 (gCons (gName 7) (gCons (gName 8) gNil))) tYes (tTup (tCons (tTup (tCons (tVar 6) (tCons (tVar 7) tNil))) (tCons (tVar 8) tNil))) [7, 8]) tNil))))
  (tRet (tVar 5))))))
theorem pu_zstarts {K : PySem.W.Frag} (vs : List V) (H : Hp) (Q : VK) (E : XK) (h : sp_zstarts K vs H Q E) : t_zstarts K { nx := fun _ H' => Q .non H', rt := Q } (start ["_law_few", "_law_length", "_law_times", "_law_last", "_law_k", "_law_found", "_law_start", "_law_story", "_law_text"] vs) H := by
  obtain ⟨_, _, _, rfl, f, m, c, rfl, rfl, rfl, f2, f4, m1, m8, hc, hQ⟩ := h
  unfold t_zstarts
  refine s_seq ?_
  repeat' walk_at "e"
  rw [sevI]
  with_reducible refine s_seqR (fun σ H1 => H1 = H ∧ ∃ l : Nat, flN m c = some l ∧ ∃ x4 : Option V, σ = [some (.int f), some (.int ((m : Int) + 1)), some (.int c), some (.int l), x4, none, none, none, none]) (fun σ H1 z => ?_) fun N hN => ?_
  rotate_left
  · repeat' walk_at "s"
    refine s_rn1 (by omega) (by omega) ?_
    refine for_range (fun i σ H1 => H1 = H ∧ ∃ l : Nat, flN m c = flN l (c - i) ∧ l ≤ m ∧ ∃ x3 : Option V, σ = [some (.int f), some (.int ((m : Int) + 1)), some (.int c), some (.int (l : Int)), x3, none, none, none, none]) ⟨rfl, m, rfl, Nat.le_refl _, _, rfl⟩ (fun i σ H1 hi z => ?_) fun σ H1 z => ?_
    · obtain ⟨rfl, l, hl, lm, x3, rfl⟩ := z
      have e1 : c - i = (c - i - 1) + 1 := by omega
      have e2 : c - (i + 1) = c - i - 1 := by omega
      rw [e1] at hl
      repeat' walk_at "s"
      refine s_mod (by decide) ?_
      repeat' walk_at "s"
      refine s_if (fun d => ?_) fun d => ?_
      · repeat' walk_at "s"
        refine newS (sz_of rfl) fun p H2 _ e2 h2 => ?_
        have hl : flN m c = none := by
          rw [hl]
          unfold flN
          rw [if_pos (by omega)]
        exact hQ p [] H2 e2 h2 (by unfold stT; rw [hl]; exact By.nil)
      · repeat' walk_at "s"
        refine s_div ⟨by decide, by decide⟩ ?_
        repeat' walk_at "s"
        refine ⟨rfl, l / 2, ?_, by omega, _, rfl⟩
        rw [hl, e2]
        show (if l % 2 = 1 then none else flN (l / 2) (c - i - 1)) = _
        rw [if_neg (by omega)]
    · obtain ⟨rfl, l, hl, lm, x3, rfl⟩ := z
      have hl : flN m c = some l := by
        rw [hl, show c - ((c : Int)).toNat = 0 by omega]
        rfl
      exact hN _ _ ⟨rfl, l, hl, _, rfl⟩
  · obtain ⟨rfl, l, hl, x4, rfl⟩ := z
    obtain ⟨hc6, hl6, l1⟩ := c6 hl m1 (by omega)
    have hlm := fl_some hl
    have hst : stT f m c = ((rowsL f (l + 1)).filter apartB).flatMap fun t => allT t c := by
      unfold stT
      rw [hl]
    rw [hst] at hQ
    have hl8 : l ≤ 8 := Nat.le_trans (Nat.le_mul_of_pos_right l (Nat.pow_pos (n := c) (show 0 < 2 by decide))) (by omega)
    have hlen := len_rows (f := f) (n := l + 1) f4
    have hszb := szb (l := l) (c := c) (by omega) l1
    have h9 : 0 < 9 ^ c := Nat.pow_pos (by decide)
    have hpow : 4 ^ (l + 1) ≤ 262144 := Nat.le_trans (Nat.le_mul_of_pos_right _ h9) hszb
    repeat' walk_at "s"
    refine newS (sz_of rfl) fun L H2 fL e2 hL => ?_
    repeat' walk_at "s"
    refine s_all ⟨_, _, rfl, f, l + 1, rfl, rfl, f4, by omega, fun p H3 e3 hp => ?_⟩
    repeat' walk_at "s"
    refine s_all ⟨_, rfl, p, rowsL f (l + 1), rfl, SqL.of hp, fun t ht => by have := hlen.2 t ht; omega, by omega, fun p' H4 fp' e4 hp' => ?_⟩
    have hts : ∀ t ∈ (rowsL f (l + 1)).filter apartB, t.length = l + 1 := fun t ht => hlen.2 t (List.mem_filter.mp ht).1
    have hlf : ((rowsL f (l + 1)).filter apartB).length ≤ 4 ^ (l + 1) := Nat.le_trans (List.length_filter_le _ _) hlen.1
    generalize (rowsL f (l + 1)).filter apartB = ts at hp' hts hlf hQ
    have hL4 := (e3.trans e4) _ _ hL
    have pL : p' ≠ L := fun e => by
      rw [e, e3 _ _ hL] at fp'
      cases fp'
    have htot : ts.length * 9 ^ c ≤ 262144 := Nat.le_trans (Nat.mul_le_mul_right _ hlf) hszb
    repeat' walk_at "s"
    refine s_itL (SqL.of hp') ?_
    refine for_list (xs := txs ts) (fun j σ Hc => ∃ (acc : List V) (x6 x7 x8 : Option V), Same H1 Hc ∧ Hc L = some (.lst acc) ∧ Hc p' = some (.lst (txs ts)) ∧ By Hc acc ((ts.take j).flatMap fun t => allT t c) ∧ acc.length ≤ j * 9 ^ c ∧ σ = [some (.int f), some (.int ((m : Int) + 1)), some (.int c), some (.int l), x4, some (.ref L), x6, x7, x8])
      ⟨[], _, _, _, (e2.trans e3).trans e4, hL4, hp', By.nil, Nat.zero_le _, rfl⟩ (fun j σ Hc _ z => ?_) (fun j x σ Hc hx z => ?_) fun σ Hc z => ?_
    · obtain ⟨acc, x6, x7, x8, ec, hLc, hpc, hBc, hal, rfl⟩ := z
      exact SqL.of hpc
    · obtain ⟨acc, x6, x7, x8, ec, hLc, hpc, hBc, hal, rfl⟩ := z
      rw [List.getElem?_map] at hx
      obtain ⟨t, ht, rfl⟩ := Option.map_eq_some_iff.mp hx
      have tl := hts t (List.mem_of_getElem? ht)
      have hj := (List.getElem?_eq_some_iff.mp ht).1
      have hj9 : (j + 1) * 9 ^ c ≤ ts.length * 9 ^ c := Nat.mul_le_mul_right _ hj
      rw [Nat.succ_mul] at hj9
      have hA := (allT_ok tl c).2 (by omega)
      repeat' walk_at "s"
      refine s_tyL (SqL.of hLc) ?_
      repeat' walk_at "s"
      refine s_all ⟨_, _, rfl, t, l, c, rfl, rfl, tl, by omega, hc, fun a rs H5 e5 ha hB => ?_⟩
      have hrl := hB.1
      repeat' walk_at "s"
      refine s_itL (SqL.of ha) ?_
      intro D hD
      refine lcL (xs := rs) hD (fun jj ac Hi => Same H5 Hi ∧ By Hi ac ((allT t c).take jj)) ⟨Same.refl _, By.nil⟩ (fun jj ac Hi z => SqL.of (z.1 _ _ ha)) (fun jj x ac Hi e hi hnD hl z => ?_) fun ac Hi hnD hl z => ?_
      · obtain ⟨e9, hac⟩ := z
        have hjj : jj < (allT t c).length := by rw [← hrl]; exact hi
        obtain ⟨t', p2, s, k1, k2, k3, k4⟩ := hB.2 jj _ (List.getElem?_eq_getElem hjj)
        rw [e] at k1
        cases k1
        refine s_gTup (SqT.of (same_new hnD _ _ (e9 _ _ k2))) rfl ?_
        repeat' walk_at "s"
        refine ⟨rfl, ?_⟩
        repeat' walk_at "s"
        refine newH hnD (sz_of rfl) fun q1 H9 e10 hq1 hnD => ?_
        repeat' walk_at "s"
        refine newH hnD (sz_of rfl) fun q2 H10 e11 hq2 hnD => ?_
        refine lc_put hnD hl (by rw [sizeLine_eq]; omega) ⟨(e9.trans e10).trans e11, ?_⟩
        rw [List.take_add_one, List.getElem?_eq_getElem hjj]
        exact (hac.same (e10.trans e11)).app (By.one hq2)
      · obtain ⟨e9, hac⟩ := z
        refine doneS hnD fun H9 e10 h9 => ?_
        have e99 := (e5.trans e9).trans e10
        have hL9 := e99 _ _ hLc
        rw [hrl, List.take_of_length_le (Nat.le_refl _)] at hac
        have hacl := hac.1
        refine ⟨L, D, acc, ac, rfl, rfl, hL9, h9, by rw [sizeLine_eq]; omega, ?_⟩
        refine ⟨_, _, _, _, same_put (ec.trans e99) fL, upd_same, by rw [upd_ne pL]; exact e99 _ _ hpc, ?_, by rw [List.length_append, Nat.succ_mul]; omega, rfl⟩
        rw [List.take_add_one, ht, List.flatMap_append]
        show By _ _ (_ ++ List.flatMap _ [t])
        rw [List.flatMap_cons, List.flatMap_nil, List.append_nil]
        exact By.keep hL9 ((hBc.same e99).app (hac.same e10))
    · obtain ⟨acc, x6, x7, x8, ec, hLc, hpc, hBc, hal, rfl⟩ := z
      repeat' walk_at "s"
      unfold txs at hBc
      rw [List.length_map, List.take_of_length_le (Nat.le_refl _)] at hBc
      exact hQ L acc _ ec hLc hBc
end
section
/-- one step of a reading (e: none past a statement's end) -/
local macro_rules
  | `(tactic| walk_at "e") => `(tactic| first
    | with_reducible refine s_ifs ?_
    | with_reducible refine s_test ?_
    | with_reducible refine s_truth ?_
    | with_reducible refine s_op ?_
    | with_reducible refine s_un ?_
    | with_reducible refine s_asg ?_
    | with_reducible refine s_ret ?_
    | with_reducible refine s_next ?_
    | with_reducible refine s_drop ?_
    | with_reducible refine s_c ?_
    | ((with_reducible refine s_var (v := ?v) ?e ?q); case e => exact rfl)
    | with_reducible refine s_name ?_
    | with_reducible refine s_exq ?_
    | with_reducible refine s_cons ?_
    | with_reducible refine s_nil ?_
    | with_reducible refine s_lst ?_
    | with_reducible refine s_tup ?_
    | with_reducible refine s_cb ?_
    | with_reducible refine s_call ?_
    | with_reducible refine s_and ?_
    | with_reducible refine s_or ?_
    | with_reducible refine s_not ?_
    | with_reducible refine s_andV ?_
    | with_reducible refine s_orV ?_
    | with_reducible refine s_notV ?_
    | with_reducible refine s_ife ?_
    | with_reducible refine s_chain ?_
    | with_reducible refine s_addI ?_
    | with_reducible refine s_sub ?_
    | with_reducible refine s_neg ?_
    | with_reducible refine s_eqI ?_
    | with_reducible refine s_eqX ?_
    | with_reducible refine s_eqT ?_
    | with_reducible refine s_eqB ?_
    | with_reducible refine s_eqNI ?_
    | with_reducible refine s_eqIN ?_
    | with_reducible refine s_eqNN ?_
    | with_reducible refine s_neI ?_
    | with_reducible refine s_neX ?_
    | with_reducible refine s_neT ?_
    | with_reducible refine s_neB ?_
    | with_reducible refine s_lt ?_
    | with_reducible refine s_le ?_
    | with_reducible refine s_gt ?_
    | with_reducible refine s_ge ?_
    | with_reducible refine s_isN ?_
    | with_reducible refine s_isS ?_
    | with_reducible refine s_truB ?_
    | with_reducible refine s_truI ?_
    | with_reducible refine s_truN ?_
    | with_reducible refine s_abs ?_
    | with_reducible refine s_min2 ?_
    | with_reducible refine s_max2 ?_
    | with_reducible refine s_intI ?_
    | with_reducible refine s_intB ?_
    | with_reducible refine s_ifT ?_
    | with_reducible refine s_ifF ?_
    | with_reducible refine s_ifnT ?_
    | with_reducible refine s_ifnF ?_
    | with_reducible refine s_gSub ?_
    | with_reducible refine s_gTup ?_
    | with_reducible refine s_augS ?_
    | ((with_reducible refine s_aug (x := ?v) ?e ?q); case e => exact rfl)
    | with_reducible refine s_yes ?_
    | with_reducible refine s_par ?_
    | with_reducible refine s_two ?_
    | with_reducible refine s_m1 ?_
    | with_reducible refine s_isstr ?_
    | with_reducible refine s_rev0 ?_
    | with_reducible refine s_gCons ?_
    | with_reducible refine s_gNil ?_
    | with_reducible refine s_ipI ?_
    | with_reducible refine s_ipA ?_
    | with_reducible refine s_sl ?_
    | with_reducible refine s_noPart ?_
    | with_reducible refine s_part ?_
    | with_reducible refine s_parte ?_
    | with_reducible refine s_for ?_
    | with_reducible refine s_lc ?_
    | with_reducible refine s_iL ?_
    | with_reducible refine s_iE ?_
    | with_reducible refine s_iS ?_
    | with_reducible refine s_iT ?_
    | with_reducible refine s_itS ?_
    | with_reducible refine s_iR1 ?_
    | with_reducible refine s_iR2 ?_
    | with_reducible refine s_iR3 ?_
    | with_reducible refine s_rg1 ?_
    | with_reducible refine s_rg2 ?_
    | with_reducible refine s_rg1e ?_
    | with_reducible refine s_rg2e ?_
    | with_reducible refine s_lrg ?_
    | with_reducible refine s_lr3 ?_
    | with_reducible refine s_bm ?_
    | with_reducible refine s_bm0 ?_
    | with_reducible refine s_retN ?_)
  | `(tactic| walk_at "s") => `(tactic| first
    | with_reducible refine s_seq ?_
    | walk_at "e")
theorem sm_bd {f m : Nat} (h : (f, m) ∈ sm) : 2 ≤ f ∧ f ≤ 4 ∧ 1 ≤ m ∧ m ≤ 8 := by
  simp only [List.mem_cons, List.not_mem_nil, or_false, Prod.mk.injEq] at h
  omega
theorem s_dputX {σ : L2.St} {H : Hp} {D : Ends} {td ty tv : TE} (q : tv σ H fun v H1 => td σ H1 fun x H2 => ty σ H2 fun y H3 => ∃ a H4, x = .ref a ∧ DPut H3 a y v H4 ∧ D.nx σ H4) : sDPut td ty tv D σ H := q
def lenC : Bool := sm.all fun p => (List.range 6).all fun c => decide ((stT p.1 p.2 c).length ≤ 262144)
theorem lenc : lenC = true := by decide +kernel
theorem st_len {f m c : Nat} (h : (f, m) ∈ sm) (hc : c ≤ 5) : (stT f m c).length ≤ 262144 := of_decide_eq_true (List.all_eq_true.mp (List.all_eq_true.mp lenc _ h) c (List.mem_range.mpr (by omega)))
def t_law (K : PySem.W.Frag) : TS :=
  (tSeq (tAsg (gCall (sp_bag K) E1 (tCons (tVar 0) tNil)) (gName 1))
  (tSeq (tFor (iRng1 (tCons (tC (.int 2)) tNil)) (gName 2)
  (tSeq (tAsg (gCall (sp_zsize K) E1 (tCons (tVar 1) tNil)) (gTup K 2 (gCons (gName 3) (gCons (gName 4) gNil))))
  (tFor (iRng1 (tCons (tC (.int 6)) tNil)) (gName 5)
  (tSeq (tAsg tDNewK (gName 6))
  (tSeq (tFor (iList K (gCall (sp_zstarts K) E1 (tCons (tVar 3) (tCons (tVar 4) (tCons (tVar 5) tNil))))) (gTup K 2 (gCons (gName 7) (gCons (gName 8) gNil)))
  (sDPut (tVar 6) (tVar 8) (tC (.bl true))))
  (tIfS (tNot (gTruth K (gCall (sp_alike K) E1 (tCons (gCall (sp_rows_many K) E1 (tCons (tVar 3) (tCons (tVar 4) (tCons (tVar 5) tNil)))) (tCons (tCB rLenD (tCons (tVar 6) tNil)) tNil))))) (tRet (tC (.bl false))) tNext))))))
  (tSeq (tFor (iRng1 (tCons (tC (.int 6)) tNil)) (gName 2)
  (tSeq (tAsg (gCall (sp_zgreat K) E1 (tCons (tVar 1) tNil)) (gTup K 3 (gCons (gName 3) (gCons (gName 4) (gCons (gName 5) gNil)))))
  (tIfS (tNot (gTruth K (gCall (sp_alike K) E1 (tCons (gCall (sp_rows_many K) E1 (tCons (tVar 3) (tCons (tVar 4) (tCons (tVar 5) tNil)))) (tCons (gCall (sp_zproduct K) E1 (tCons (tVar 3) (tCons (tVar 4) (tCons (tVar 5) tNil)))) tNil))))) (tRet (tC (.bl false))) tNext)))
  (tRet (tAndV (tOp (rSame K) (gCall (sp_rows_many K) E1 (tCons (tC (.int 2)) (tCons (tC (.int 2)) (tCons (tC (.int 0)) tNil)))) (tC (.int 2))) (tOp (rSame K) (gCall (sp_rows_many K) E1 (tCons (tC (.int 2)) (tCons (tC (.int 2)) (tCons (tC (.int 1)) tNil)))) (tC (.int 0))))))))
theorem pu_law {K : PySem.W.Frag} (vs : List V) (H : Hp) (Q : VK) (E : XK) (h : sp_law K vs H Q E) : t_law K { nx := fun _ H' => Q .non H', rt := Q } (start ["_law_script", "_law_bag_here", "_law_k", "_law_few", "_law_length", "_law_times", "_law_found", "_law_start", "_law_text"] vs) H := by
  obtain ⟨_, rfl, a, ns, rfl, _, hS, hQ⟩ := h
  unfold t_law
  have h10 : (25 : Int) * 26 ^ 60 * 61 ^ 6 < 10 ^ 99 := by decide +kernel
  repeat' walk_at "s"
  refine s_bag hS ?_
  intro H0 b ys e0 B
  repeat' walk_at "e"
  refine s_seq ?_
  repeat' walk_at "e"
  refine s_rn1 (j := 2) (by decide) (by decide) ?_
  refine for_range (fun i σ H => ∃ H0 ys, ∃ x2 x3 x4 x5 x6 x7 x8 : Option V, σ = [some (.ref a), some (.ref b), x2, x3, x4, x5, x6, x7, x8] ∧ H = upd H0 b (.lst ys) ∧ Bag K H0 b ys) ⟨_, _, _, _, _, _, _, _, _, rfl, rfl, B⟩ (fun i σ H hi z => ?_) fun σ H z => ?_
  · clear B e0 hS H0 ys
    obtain ⟨H0, ys, x2, x3, x4, x5, x6, x7, x8, rfl, rfl, B⟩ := z
    repeat' walk_at "s"
    refine s_all ⟨_, rfl, b, H0, ys, rfl, rfl, B, fun H1 ys p1 f m e1 B hp1 hfm => ?_⟩
    have sb := sm_bd hfm
    repeat' walk_at "s"
    refine s_gTup (SqT.of (B.see _ _ hp1)) rfl ?_
    repeat' walk_at "s"
    refine s_rn1 (j := 6) (by decide) (by decide) ?_
    clear hp1 e1
    refine for_range (fun j σ H => ∃ H0, ∃ x5 x6 x7 x8 : Option V, σ = [some (.ref a), some (.ref b), some (.int (0 + (i : Int))), some (.int (f : Int)), some (.int ((m : Int) + 1)), x5, x6, x7, x8] ∧ H = upd H0 b (.lst ys) ∧ Bag K H0 b ys) ⟨_, _, _, _, _, rfl, rfl, B⟩ (fun j σ H hj z => ?_) fun σ H z => ?_
    · clear B x5 x6 x7 x8 H1
      obtain ⟨H1, x5, x6, x7, x8, rfl, rfl, B⟩ := z
      repeat' walk_at "s"
      intro d hd
      have db : d ≠ b := fun e => by
        rw [e, upd_same] at hd
        cases hd
      have hd1 : H1 d = none := by
        rw [upd_ne db] at hd
        exact hd
      have nb1 : upd H1 d (.dK []) b = none := by
        rw [upd_ne (Ne.symm db)]
        exact B.off
      rw [upd_comm (Ne.symm db)]
      have Bd' := B.same (same_new hd1) nb1
      repeat' walk_at "s"
      refine s_hid Bd' ⟨_, _, _, rfl, f, m, j, rfl, rfl, by rw [Int.zero_add], by omega, by omega, by omega, by omega, by omega, fun ar rs H3 e3 har hBy nb => ?_⟩
      have hd3 := e3 _ _ (upd_same (H := H1) (a := d) (o := .dK []))
      have e13 : Same H1 H3 := (same_new hd1).trans e3
      have hrs := hBy.1
      have hcnt := cnt_at (c := j) hfm (by omega)
      have hput : ((stT f m j).foldl putT []).length = cntT f m j := rfl
      have rdv : ar ≠ d := fun e => by
        rw [e, hd3] at har
        cases har
      have rbv : ar ≠ b := fun e => by
        rw [e, nb] at har
        cases har
      have hbig : (stT f m j).length ≤ 262144 := st_len hfm (by omega)
      generalize stT f m j = T at hBy hrs hput hbig
      repeat' walk_at "s"
      refine s_itL (SqL.of ((B.same e13 nb).see _ _ har)) ?_
      refine for_list (xs := rs) (fun q σ H => ∃ (Hc : Hp) (x7 x8 : Option V), Same H1 Hc ∧ Hc b = none ∧ H = upd Hc b (.lst ys) ∧ Hc d = some (.dK (kvT ((T.take q).foldl putT []))) ∧ Hc ar = some (.lst rs) ∧ By Hc rs T ∧ σ = [some (.ref a), some (.ref b), some (.int (0 + (i : Int))), some (.int (f : Int)), some (.int ((m : Int) + 1)), some (.int (0 + (j : Int))), some (.ref d), x7, x8])
        ⟨H3, _, _, e13, nb, rfl, hd3, har, hBy, rfl⟩ (fun q σ H _ z => ?_) (fun q x σ H hx z => ?_) fun σ H z => ?_
      · obtain ⟨Hc, x7, x8, ec, nbc, rfl, hdc, hac, hBc, rfl⟩ := z
        exact SqL.of (by rw [upd_ne rbv]; exact hac)
      · obtain ⟨Hc, x7, x8, ec, nbc, rfl, hdc, hac, hBc, rfl⟩ := z
        have hq : q < T.length := by
          rw [← hBc.1]
          exact (List.getElem?_eq_some_iff.mp hx).1
        have hs : T[q]? = some T[q] := List.getElem?_eq_getElem hq
        generalize T[q] = u at hs
        obtain ⟨t', p, k1, k2⟩ := hBc.2 q u hs
        rw [hx] at k1
        cases k1
        have tb : t' ≠ b := fun e => by
          rw [e, nbc] at k2
          cases k2
        refine s_gTup (SqT.of (by rw [upd_ne tb]; exact k2)) rfl ?_
        repeat' walk_at "s"
        refine s_dputX ?_
        repeat' walk_at "s"
        have hle := put_le (T.take q) []
        rw [List.length_nil, List.length_take] at hle
        refine ⟨d, _, rfl, DPut.k (k := (Sum.inr (tx u) : Key)) (by rw [upd_ne db]; exact hdc) (by unfold kvT; rw [List.length_map, sizeLine_eq]; omega), ?_⟩
        rw [upd_comm (Ne.symm db), put_kvT]
        refine ⟨_, _, _, same_put ec hd1, by rw [upd_ne (Ne.symm db)]; exact nbc, rfl, ?_, by rw [upd_ne rdv]; exact hac, ⟨hBc.1, fun i u hu => ?_⟩, rfl⟩
        · rw [upd_same, List.take_add_one, hs, List.foldl_append]
          rfl
        · obtain ⟨t2, p2, a1, a2⟩ := hBc.2 i u hu
          refine ⟨t2, p2, a1, ?_⟩
          rw [upd_ne fun e => by
            rw [e, hdc] at a2
            cases a2]
          exact a2
      · obtain ⟨Hc, x7, x8, ec, nbc, rfl, hdc, hac, hBc, rfl⟩ := z
        rw [hrs, List.take_of_length_le (Nat.le_refl _)] at hdc
        have B := B.same ec nbc
        repeat' walk_at "s"
        refine s_hid B ⟨_, _, _, rfl, f, m, j, rfl, rfl, by rw [Int.zero_add], by omega, by omega, by omega, by omega, fun H7 e7 nb => ?_⟩
        replace B := B.same e7 nb
        have q0 := rv_bd (f := f) (m := m) (c := j) (by omega) (by omega) (by omega) (by omega)
        repeat' walk_at "s"
        refine ⟨d, _, rfl, B.see _ _ (e7 _ _ hdc), ?_⟩
        rw [show (kvT (T.foldl putT [])).length = cntT f m j by unfold kvT; rw [List.length_map, hput], hcnt]
        repeat' walk_at "s"
        refine s_alike (d := .int (rvG f m j)) (.int _) (.int _) (nice_int (by omega)) ?_
        repeat' walk_at "s"
        exact ⟨_, _, _, _, _, rfl, rfl, B⟩
    · obtain ⟨H1, x5, x6, x7, x8, rfl, rfl, B⟩ := z
      exact ⟨_, _, _, _, _, _, _, _, _, rfl, rfl, B⟩
  obtain ⟨H0, ys, x2, x3, x4, x5, x6, x7, x8, rfl, rfl, B⟩ := z
  refine s_seq ?_
  repeat' walk_at "e"
  refine s_rn1 (j := 6) (by decide) (by decide) ?_
  refine for_range (fun i σ H => ∃ H0 ys, ∃ x2 x3 x4 x5 x6 x7 x8 : Option V, σ = [some (.ref a), some (.ref b), x2, x3, x4, x5, x6, x7, x8] ∧ H = upd H0 b (.lst ys) ∧ Bag K H0 b ys) ⟨_, _, _, _, _, _, _, _, _, rfl, rfl, B⟩ (fun i σ H hi z => ?_) fun σ H z => ?_
  · clear B
    obtain ⟨H0, ys, x2, x3, x4, x5, x6, x7, x8, rfl, rfl, B⟩ := z
    repeat' walk_at "s"
    refine s_all ⟨_, rfl, b, H0, ys, rfl, rfl, B, fun H1 ys p1 f m c e1 B hp1 f2 f26 m1 hm hc => ?_⟩
    repeat' walk_at "s"
    refine s_gTup (SqT.of (B.see _ _ hp1)) rfl ?_
    repeat' walk_at "s"
    refine s_hid B ⟨_, _, _, rfl, f, m, c, rfl, rfl, rfl, by omega, by omega, by omega, by omega, fun H7 e7 nb => ?_⟩
    replace B := B.same e7 nb
    repeat' walk_at "s"
    refine s_hid B ⟨_, _, _, rfl, f, m, c, rfl, rfl, rfl, by omega, by omega, by omega, by omega, by omega, fun nb => ?_⟩
    have q0 := rv_bd (f := f) (m := m) (c := c) (by omega) (by omega) (by omega) (by omega)
    repeat' walk_at "s"
    refine s_alike (d := .int (rvG f m c)) (.int _) (.int _) (nice_int (by omega)) ?_
    repeat' walk_at "s"
    exact ⟨_, _, _, _, _, _, _, _, _, rfl, rfl, B⟩
  · clear B
    obtain ⟨H0, ys, x2, x3, x4, x5, x6, x7, x8, rfl, rfl, B⟩ := z
    repeat' walk_at "s"
    refine s_hid B ⟨_, _, _, rfl, 2, 1, 0, rfl, rfl, rfl, by decide, by decide, by decide, by decide, fun H1 e1 nb => ?_⟩
    replace B := B.same e1 nb
    rw [show rvG 2 1 0 = 2 by decide]
    repeat' walk_at "s"
    refine iteT ?_
    repeat' walk_at "s"
    refine s_hid B ⟨_, _, _, rfl, 2, 1, 1, rfl, rfl, rfl, by decide, by decide, by decide, by decide, fun H2 e2 nb => ?_⟩
    rw [show rvG 2 1 1 = 0 by decide]
    repeat' walk_at "s"
    exact hQ _
end
section
abbrev top (i : Nat) : Stmt := PySem.Challenge.pw_ownlog_k61_rows_counted_by_all.main.body.getD i (.Pass ⟨0, 0, 0, 0⟩)
abbrev FnP (K : PySem.W.Frag) (x : Str) (st : Stmt) (f : Addr) (fd : FuncData) : Prop := FunD K x x (defArgs st) (defBody st) (defScope st) [] [] f fd
section
variable {P : Program} {w : World} {K : PySem.W.Frag} {mg : Str → Option Value} {base : Heap} {k : Nat} {f : Addr} {fd : FuncData}
abbrev st_bag : Stmt := top 8
theorem sc_bag : FnScope ["_law_script", "_law_cell"] ["_law_script"] (defScope st_bag) := ⟨rfl, rfl, rfl, by decide +kernel, rfl, by decide +kernel, by decide +kernel⟩
theorem ok_bag (F : FnP K "_law_bag" st_bag f fd) (B : Blt mg) : Gf P w K mg base (k + 1) f fd ["_law_script"] (sp_bag K) :=
  okG F sc_bag ln1 fun cdv A outer s H vs Q E hG hr h => by
    have hU := hr.units
    have hU0 := hr.units0
    have hU1 := u65 hr
    have hUR := u100 hr
    exact ⟨t_bag K, PSs.nox ((pss_one (ps_ret (pe_lst (pa_cons pe_int (pa_cons pe_int (pa_cons pe_int (pa_cons (pe_lc (own := [("_law_cell", 1)]) (g := (gName 1)) (tt := tYes) (by rfl) sc_bag.nd (pi_list (pe_slice o_sl (pv 0) po_none (po_some pe_int))) (blkOk_by (own := [("_law_cell", 1)]) (N := ["_law_script", "_law_cell"]) (sc := defScope st_bag) (by decide +kernel)) (fun _ _ _ _ _ => (pg_name (i := 1) sc_bag.nd rfl (Or.inl rfl))) (fun _ _ _ _ _ => pts_nil) (fun _ _ _ _ _ => (pe_callB o_abs (by rfl) (B "abs" (by decide)) (by decide +kernel) (pa_cons (pv 1) pa_nil)))) pa_nil)))))))), pu_bag vs H Q E h⟩
abbrev st_take : Stmt := top 9
theorem sc_take : FnScope ["_law_bag_here", "_law_many", "_law_cell", "_law_value", "_law_first", "_law_second"] ["_law_bag_here", "_law_many"] (defScope st_take) := ⟨rfl, rfl, rfl, by decide +kernel, rfl, by decide +kernel, by decide +kernel⟩
theorem ok_take (F : FnP K "_law_take" st_take f fd) (B : Blt mg) : Gf P w K mg base (k + 1) f fd ["_law_bag_here", "_law_many"] (sp_take K) :=
  okG F sc_take ln2 fun cdv A outer s H vs Q E hG hr h => by
    have hU := hr.units
    have hU0 := hr.units0
    have hU1 := u65 hr
    have hUR := u100 hr
    exact ⟨t_take K, PSs.nox ((pss_cons (ps_if (pt_cmpR (o_eq hU) (pe_ix o_ix (pv 0) pe_int (fun _ _ => rfl)) pe_int (nomark _)) (pss_cons (ps_set (i := 2) sc_take.nd rfl (Or.inl rfl) pe_int)
  (pss_cons (ps_if (pt_cmpR o_lt (pe_ix o_ix (pv 0) pe_int (fun _ _ => rfl)) (pe_callB o_len (by rfl) (B "len" (by decide)) (by decide +kernel) (pa_cons (pe_ix o_ix (pv 0) pe_int (fun _ _ => rfl)) pa_nil)) (nomark _)) (pss_one (ps_set (i := 2) sc_take.nd rfl (Or.inl rfl) (pe_ix o_ix (pe_ix o_ix (pv 0) pe_int (fun _ _ => rfl)) (pe_ix o_ix (pv 0) pe_int (fun _ _ => rfl)) (fun _ _ => rfl)))) pss_nil)
  (pss_cons (ps_augS (pv 0) pe_int get_list pe_int ip_plus set_list)
  (pss_cons (ps_if (pt_cmpR o_ge (pv 2) pe_int (nomark _)) (pss_one (ps_asg (pv 2) (pg_sub (pv 0) pe_int set_list))) pss_nil)
  (pss_one (ps_asg (pe_op o_mod (pe_op o_plus (pe_op o_plus (pe_op o_times (pe_ix o_ix (pv 0) pe_int (fun _ _ => rfl)) pe_int) (pe_op o_mod (pv 2) pe_int)) (pe_op o_times pe_int (pe_ix o_ix (pv 0) pe_int (fun _ _ => rfl)))) pe_int) (pg_sub (pv 0) pe_int set_list))))))) pss_nil)
  (pss_cons (ps_if (pt_cmpR o_gt (pe_ix o_ix (pv 0) pe_int (fun _ _ => rfl)) pe_int (nomark _)) (pss_cons (ps_set (i := 3) sc_take.nd rfl (Or.inl rfl) (pe_op o_mod (pe_ix o_ix (pv 0) pe_int (fun _ _ => rfl)) (pv 1)))
  (pss_cons (ps_asg (pe_op o_div (pe_ix o_ix (pv 0) pe_int (fun _ _ => rfl)) (pv 1)) (pg_sub (pv 0) pe_int set_list))
  (pss_one (ps_ret (pv 3))))) pss_nil)
  (pss_cons (ps_set (i := 4) sc_take.nd rfl (Or.inl rfl) (pe_op o_mod (pe_op o_times (pe_op o_plus (pe_ix o_ix (pv 0) pe_int (fun _ _ => rfl)) pe_int) pe_int) pe_int))
  (pss_cons (ps_set (i := 5) sc_take.nd rfl (Or.inl rfl) (pe_op o_mod (pe_op o_times (pe_op o_mod (pe_op o_times (pv 4) (pv 4)) pe_int) pe_int) pe_int))
  (pss_cons (ps_if (pt_cmpR o_gt (pv 1) pe_int (nomark _)) (pss_one (ps_ret (pe_op o_mod (pe_op o_plus (pe_op o_times (pv 5) pe_int) (pv 4)) (pv 1)))) pss_nil)
  (pss_one (ps_ret (pe_op o_mod (pe_op o_div (pv 5) pe_int) (pv 1)))))))))), pu_take vs H Q E h⟩
abbrev st_zsize : Stmt := top 16
theorem sc_zsize : FnScope ["_law_bag_here", "_law_few"] ["_law_bag_here"] (defScope st_zsize) := ⟨rfl, rfl, rfl, by decide +kernel, rfl, by decide +kernel, by decide +kernel⟩
theorem ok_zsize (F : FnP K "_law_size" st_zsize f fd) (B : Blt mg) (c_take : Cal P w K mg base k "_law_take" 2 (sp_take K)) : Gf P w K mg base (k + 1) f fd ["_law_bag_here"] (sp_zsize K) :=
  okG F sc_zsize ln1 fun cdv A outer s H vs Q E hG hr h => by
    have hU := hr.units
    have hU0 := hr.units0
    have hU1 := u65 hr
    have hUR := u100 hr
    exact ⟨t_zsize K, PSs.nox ((pss_cons (ps_set (i := 1) sc_zsize.nd rfl (Or.inl rfl) (pe_ix o_ix (pe_lst (pa_cons pe_int (pa_cons pe_int (pa_cons pe_int (pa_cons pe_int pa_nil))))) (g_call c_take hG hr (by rfl) passN (pa_cons (pv 0) (pa_cons pe_int pa_nil))) (fun _ _ => rfl)))
  (pss_one (ps_ret (pe_tup (pa_cons (pv 1) (pa_cons (pe_op o_minus (pe_ix o_ix (pe_lst (pa_cons pe_int (pa_cons pe_int (pa_cons pe_int (pa_cons pe_int (pa_cons pe_int pa_nil)))))) (pv 1) (fun _ _ => rfl)) (pe_ix o_ix (pe_lst (pa_cons pe_int (pa_cons pe_int (pa_cons pe_int (pa_cons pe_int (pa_cons pe_int pa_nil)))))) (g_call c_take hG hr (by rfl) passN (pa_cons (pv 0) (pa_cons pe_int pa_nil))) (fun _ _ => rfl))) pa_nil))))))), pu_zsize vs H Q E h⟩
abbrev st_zgreat : Stmt := top 18
theorem sc_zgreat : FnScope ["_law_bag_here", "_law_few", "_law_times", "_law_last", "_law_k"] ["_law_bag_here"] (defScope st_zgreat) := ⟨rfl, rfl, rfl, by decide +kernel, rfl, by decide +kernel, by decide +kernel⟩
theorem ok_zgreat (F : FnP K "_law_great" st_zgreat f fd) (B : Blt mg) (c_take : Cal P w K mg base k "_law_take" 2 (sp_take K)) : Gf P w K mg base (k + 1) f fd ["_law_bag_here"] (sp_zgreat K) :=
  okG F sc_zgreat ln1 fun cdv A outer s H vs Q E hG hr h => by
    have hU := hr.units
    have hU0 := hr.units0
    have hU1 := u65 hr
    have hUR := u100 hr
    exact ⟨t_zgreat K, PSs.nox ((pss_cons (ps_par (i := 1) (j := 2) (by rfl) sc_zgreat.nd rfl rfl (by decide) rfl rfl (pa_cons (pe_op o_plus pe_int (g_call c_take hG hr (by rfl) passN (pa_cons (pv 0) (pa_cons pe_int pa_nil)))) (pa_cons (g_call c_take hG hr (by rfl) passN (pa_cons (pv 0) (pa_cons pe_int pa_nil))) pa_nil)) (by rfl))
  (pss_cons (ps_set (i := 3) sc_zgreat.nd rfl (Or.inl rfl) (pe_op o_plus pe_int (g_call c_take hG hr (by rfl) passN (pa_cons (pv 0) (pa_cons (pe_ix o_ix (pe_lst (pa_cons pe_int (pa_cons pe_int (pa_cons pe_int (pa_cons pe_int (pa_cons pe_int (pa_cons pe_int pa_nil))))))) (pv 2) (fun _ _ => rfl)) pa_nil)))))
  (pss_cons (ps_for PassesOwn.never rfl (pi_range1 (by rfl) (B "range" (by decide)) (pa_cons (pv 2) pa_nil)) (pg_name (i := 4) sc_zgreat.nd rfl (Or.inl rfl))
  (pss_one (ps_set (i := 3) sc_zgreat.nd rfl (Or.inl rfl) (pe_op o_times pe_int (pv 3)))))
  (pss_cons (ps_if (pt_cmpR (o_eq hU) (g_call c_take hG hr (by rfl) passN (pa_cons (pv 0) (pa_cons pe_int pa_nil))) pe_int (nomark _)) (pss_one (ps_set (i := 2) sc_zgreat.nd rfl (Or.inl rfl) (g_call c_take hG hr (by rfl) passN (pa_cons (pv 0) (pa_cons pe_int pa_nil))))) pss_nil)
  (pss_one (ps_ret (pe_tup (pa_cons (pv 1) (pa_cons (pe_op o_plus (pv 3) pe_int) (pa_cons (pv 2) pa_nil))))))))))), pu_zgreat vs H Q E h⟩
abbrev st_zapart : Stmt := top 14
theorem sc_zapart : FnScope ["_law_some", "_law_text"] ["_law_some"] (defScope st_zapart) := ⟨rfl, rfl, rfl, by decide +kernel, rfl, by decide +kernel, by decide +kernel⟩
theorem ok_zapart (F : FnP K "_law_apart" st_zapart f fd) (B : Blt mg) : Gf P w K mg base (k + 1) f fd ["_law_some"] (sp_zapart K) :=
  okG F sc_zapart ln1 fun cdv A outer s H vs Q E hG hr h => by
    have hU := hr.units
    have hU0 := hr.units0
    have hU1 := u65 hr
    have hUR := u100 hr
    exact ⟨t_zapart K, PSs.nox ((pss_one (ps_ret (pe_lc (own := [("_law_text", 1)]) (g := (gName 1)) (tt := (tTest (tOp (rDiff K) (tOp (rIx K) (tVar 1) (tC (.int 0))) (tOp (rIx K) (tVar 1) (tUn (rU fun i => .int (-i)) (tC (.int 1))))))) (by rfl) sc_zapart.nd (pi_list (pv 0)) (blkOk_by (own := [("_law_text", 1)]) (N := ["_law_some", "_law_text"]) (sc := defScope st_zapart) (by decide +kernel)) (fun _ _ _ _ _ => (pg_name (i := 1) sc_zapart.nd rfl (Or.inl rfl))) (fun _ _ _ _ _ => (pts_one (pt_cmpR (o_ne hU) (pe_ix o_ix (pv 1) pe_int (fun _ _ => rfl)) (pe_ix o_ix (pv 1) (pe_un un_neg pe_int) (fun _ _ => rfl)) (nomark _)))) (fun _ _ _ _ _ => (pv 1)))))), pu_zapart vs H Q E h⟩
abbrev st_zrows : Stmt := top 13
theorem sc_zrows : FnScope ["_law_few", "_law_size_here", "_law_found", "_law_k", "_law_longer", "_law_text", "_law_letter"] ["_law_few", "_law_size_here"] (defScope st_zrows) := ⟨rfl, rfl, rfl, by decide +kernel, rfl, by decide +kernel, by decide +kernel⟩
theorem ok_zrows (F : FnP K "_law_rows" st_zrows f fd) (B : Blt mg) : Gf P w K mg base (k + 1) f fd ["_law_few", "_law_size_here"] (sp_zrows K) :=
  okG F sc_zrows ln2 fun cdv A outer s H vs Q E hG hr h => by
    have hU := hr.units
    have hU0 := hr.units0
    have hU1 := u65 hr
    have hUR := u100 hr
    exact ⟨t_zrows K, PSs.nox ((pss_cons (ps_set (i := 2) sc_zrows.nd rfl (Or.inl rfl) (pe_lst (pa_cons pe_str pa_nil)))
  (pss_cons (ps_for PassesOwn.never rfl (pi_range1 (by rfl) (B "range" (by decide)) (pa_cons (pv 1) pa_nil)) (pg_name (i := 3) sc_zrows.nd rfl (Or.inl rfl))
  (pss_cons (ps_set (i := 4) sc_zrows.nd rfl (Or.inl rfl) (pe_lst pa_nil))
  (pss_cons (ps_for PassesOwn.never rfl (pi_list (pv 2)) (pg_name (i := 5) sc_zrows.nd rfl (Or.inr rfl))
  (pss_one (ps_expr (pe_bm PySem.F.plainAttrs_list PySem.F.slot_list_extend PySem.F.type_list_extend mt_extend (pv 4) (pa_cons (pe_lc (own := [("_law_letter", 6)]) (g := (gName 6)) (tt := tYes) (by rfl) sc_zrows.nd (pi_str (pe_slice o_sl pe_str po_none (po_some (pv 0)))) (blkOk_by (own := [("_law_letter", 6)]) (N := ["_law_few", "_law_size_here", "_law_found", "_law_k", "_law_longer", "_law_text", "_law_letter"]) (sc := defScope st_zrows) (by decide +kernel)) (fun _ _ _ _ _ => (pg_name (i := 6) sc_zrows.nd rfl (Or.inl rfl))) (fun _ _ _ _ _ => pts_nil) (fun _ _ _ _ _ => (pe_op o_plus (pv 5) (pv 6)))) pa_nil)))))
  (pss_one (ps_set (i := 2) sc_zrows.nd rfl (Or.inl rfl) (pv 4))))))
  (pss_one (ps_ret (pv 2)))))), pu_zrows vs H Q E h⟩
abbrev st_called : Stmt := top 11
theorem sc_called : FnScope ["_law_row", "_law_place", "_law_ahead", "_law_behind"] ["_law_row", "_law_place"] (defScope st_called) := ⟨rfl, rfl, rfl, by decide +kernel, rfl, by decide +kernel, by decide +kernel⟩
theorem ok_called (F : FnP K "_law_called" st_called f fd) (B : Blt mg) : Gf P w K mg base (k + 1) f fd ["_law_row", "_law_place"] (sp_called K) :=
  okG F sc_called ln2 fun cdv A outer s H vs Q E hG hr h => by
    have hU := hr.units
    have hU0 := hr.units0
    have hU1 := u65 hr
    have hUR := u100 hr
    exact ⟨t_called K, PSs.nox ((pss_cons (ps_par (i := 2) (j := 3) (by rfl) sc_called.nd rfl rfl (by decide) rfl rfl (pa_cons (pe_slice o_sl (pv 0) po_none (po_some (pv 1))) (pa_cons (pe_slice o_sl (pv 0) (po_some (pe_op o_plus (pv 1) pe_int)) po_none) pa_nil)) (by rfl))
  (pss_one (ps_ret (pe_op o_plus (pe_op o_plus (pe_op o_plus (pe_op o_plus (pv 2) (pv 2)) (pe_ix o_ix (pv 0) (pv 1) (fun _ _ => rfl))) (pv 3)) (pv 3)))))), pu_called vs H Q E h⟩
abbrev st_zall : Stmt := top 12
theorem sc_zall : FnScope ["_law_row", "_law_times", "_law_found", "_law_k", "_law_longer", "_law_story", "_law_text", "_law_place"] ["_law_row", "_law_times"] (defScope st_zall) := ⟨rfl, rfl, rfl, by decide +kernel, rfl, by decide +kernel, by decide +kernel⟩
theorem ok_zall (F : FnP K "_law_all" st_zall f fd) (B : Blt mg) (c_called : Cal P w K mg base k "_law_called" 2 (sp_called K)) : Gf P w K mg base (k + 1) f fd ["_law_row", "_law_times"] (sp_zall K) :=
  okG F sc_zall ln2 fun cdv A outer s H vs Q E hG hr h => by
    have hU := hr.units
    have hU0 := hr.units0
    have hU1 := u65 hr
    have hUR := u100 hr
    exact ⟨t_zall K, PSs.nox ((pss_cons (ps_set (i := 2) sc_zall.nd rfl (Or.inl rfl) (pe_lst (pa_cons (pe_tup (pa_cons (pe_lst pa_nil) (pa_cons (pv 0) pa_nil))) pa_nil)))
  (pss_cons (ps_for PassesOwn.never rfl (pi_range1 (by rfl) (B "range" (by decide)) (pa_cons (pv 1) pa_nil)) (pg_name (i := 3) sc_zall.nd rfl (Or.inl rfl))
  (pss_cons (ps_set (i := 4) sc_zall.nd rfl (Or.inl rfl) (pe_lst pa_nil))
  (pss_cons (ps_for PassesOwn.never rfl (pi_list (pv 2)) (pg_tup (by rfl) (pgs_cons (pg_name (i := 5) sc_zall.nd rfl (Or.inr rfl)) (pgs_cons (pg_name (i := 6) sc_zall.nd rfl (Or.inr rfl)) pgs_nil)))
  (pss_one (ps_expr (pe_bm PySem.F.plainAttrs_list PySem.F.slot_list_extend PySem.F.type_list_extend mt_extend (pv 4) (pa_cons (pe_lc (own := [("_law_place", 7)]) (g := (gName 7)) (tt := tYes) (by rfl) sc_zall.nd (pi_range1 (by rfl) (B "range" (by decide)) (pa_cons (pe_callB o_len (by rfl) (B "len" (by decide)) (by decide +kernel) (pa_cons (pv 6) pa_nil)) pa_nil)) (blkOk_by (own := [("_law_place", 7)]) (N := ["_law_row", "_law_times", "_law_found", "_law_k", "_law_longer", "_law_story", "_law_text", "_law_place"]) (sc := defScope st_zall) (by decide +kernel)) (fun _ _ _ _ _ => (pg_name (i := 7) sc_zall.nd rfl (Or.inl rfl))) (fun _ _ _ _ _ => pts_nil) (fun _ _ _ _ _ => (pe_tup (pa_cons (pe_op o_plus (pv 5) (pe_lst (pa_cons (pv 7) pa_nil))) (pa_cons (g_call c_called hG hr (by rfl) passN (pa_cons (pv 6) (pa_cons (pv 7) pa_nil))) pa_nil))))) pa_nil)))))
  (pss_one (ps_set (i := 2) sc_zall.nd rfl (Or.inl rfl) (pv 4))))))
  (pss_one (ps_ret (pv 2)))))), pu_zall vs H Q E h⟩
abbrev st_zstarts : Stmt := top 15
theorem sc_zstarts : FnScope ["_law_few", "_law_length", "_law_times", "_law_last", "_law_k", "_law_found", "_law_start", "_law_story", "_law_text"] ["_law_few", "_law_length", "_law_times"] (defScope st_zstarts) := ⟨rfl, rfl, rfl, by decide +kernel, rfl, by decide +kernel, by decide +kernel⟩
theorem ok_zstarts (F : FnP K "_law_starts" st_zstarts f fd) (B : Blt mg) (c_zapart : Cal P w K mg base k "_law_apart" 1 (sp_zapart K)) (c_zrows : Cal P w K mg base k "_law_rows" 2 (sp_zrows K)) (c_zall : Cal P w K mg base k "_law_all" 2 (sp_zall K)) : Gf P w K mg base (k + 1) f fd ["_law_few", "_law_length", "_law_times"] (sp_zstarts K) :=
  okG F sc_zstarts ln3 fun cdv A outer s H vs Q E hG hr h => by
    have hU := hr.units
    have hU0 := hr.units0
    have hU1 := u65 hr
    have hUR := u100 hr
    exact ⟨t_zstarts K, PSs.nox ((pss_cons (ps_set (i := 3) sc_zstarts.nd rfl (Or.inl rfl) (pe_op o_minus (pv 1) pe_int))
  (pss_cons (ps_for PassesOwn.never rfl (pi_range1 (by rfl) (B "range" (by decide)) (pa_cons (pv 2) pa_nil)) (pg_name (i := 4) sc_zstarts.nd rfl (Or.inl rfl))
  (pss_cons (ps_if (pt_cmpR (o_eq hU) (pe_op o_mod (pv 3) pe_int) pe_int (nomark _)) (pss_one (ps_ret (pe_lst pa_nil))) pss_nil)
  (pss_one (ps_set (i := 3) sc_zstarts.nd rfl (Or.inl rfl) (pe_op o_div (pv 3) pe_int)))))
  (pss_cons (ps_set (i := 5) sc_zstarts.nd rfl (Or.inl rfl) (pe_lst pa_nil))
  (pss_cons (ps_for PassesOwn.never rfl (pi_list (g_call c_zapart hG hr (by rfl) passN (pa_cons (g_call c_zrows hG hr (by rfl) passN (pa_cons (pv 0) (pa_cons (pe_op o_plus (pv 3) pe_int) pa_nil))) pa_nil))) (pg_name (i := 6) sc_zstarts.nd rfl (Or.inr rfl))
  (pss_one (ps_expr (pe_bm PySem.F.plainAttrs_list PySem.F.slot_list_extend PySem.F.type_list_extend mt_extend (pv 5) (pa_cons (pe_lc (own := [("_law_story", 7), ("_law_text", 8)]) (g := (gTup K 2 (gCons (gName 7) (gCons (gName 8) gNil)))) (tt := tYes) (by rfl) sc_zstarts.nd (pi_list (g_call c_zall hG hr (by rfl) passN (pa_cons (pv 6) (pa_cons (pv 2) pa_nil)))) (blkOk_by (own := [("_law_story", 7), ("_law_text", 8)]) (N := ["_law_few", "_law_length", "_law_times", "_law_last", "_law_k", "_law_found", "_law_start", "_law_story", "_law_text"]) (sc := defScope st_zstarts) (by decide +kernel)) (fun _ _ _ _ _ => (pg_tup (by rfl) (pgs_cons (pg_name (i := 7) sc_zstarts.nd rfl (Or.inl rfl)) (pgs_cons (pg_name (i := 8) sc_zstarts.nd rfl (Or.inl rfl)) pgs_nil)))) (fun _ _ _ _ _ => pts_nil) (fun _ _ _ _ _ => (pe_tup (pa_cons (pe_tup (pa_cons (pv 6) (pa_cons (pv 7) pa_nil))) (pa_cons (pv 8) pa_nil))))) pa_nil)))))
  (pss_one (ps_ret (pv 5)))))))), pu_zstarts vs H Q E h⟩
abbrev st_alike : Stmt := top 10
theorem sc_alike : FnScope ["_law_found", "_law_due"] ["_law_found", "_law_due"] (defScope st_alike) := ⟨rfl, rfl, rfl, by decide +kernel, rfl, by decide +kernel, by decide +kernel⟩
theorem ok_alike (F : FnP K "_law_alike" st_alike f fd) (B : Blt mg) : Gf P w K mg base (k + 1) f fd ["_law_found", "_law_due"] (sp_alike K) :=
  okG F sc_alike ln2 fun cdv A outer s H vs Q E hG hr h => by
    have hU := hr.units
    have hU0 := hr.units0
    have hU1 := u65 hr
    have hUR := u100 hr
    exact ⟨t_alike K, PSs.nox ((pss_one (ps_ret (pe_and (pe_cmpR (o_eq hU) (pv 0) (pv 1) (nomark _)) (pe_one (pe_cmpR (o_eq hU) (pe_callB (call_reprD hG hUR) (by rfl) (B "repr" (by decide)) (by decide +kernel) (pa_cons (pv 0) pa_nil)) (pe_callB (call_reprD hG hUR) (by rfl) (B "repr" (by decide)) (by decide +kernel) (pa_cons (pv 1) pa_nil)) (nomark _))))))), pu_alike vs H Q E h⟩
abbrev st_first_last : Stmt := top 3
theorem sc_first_last : FnScope ["length", "calls", "last", "k"] ["length", "calls"] (defScope st_first_last) := ⟨rfl, rfl, rfl, by decide +kernel, rfl, by decide +kernel, by decide +kernel⟩
theorem ok_first_last (F : FnP K "first_last" st_first_last f fd) (B : Blt mg) : Gf P w K mg base (k + 1) f fd ["length", "calls"] (sp_first_last K) :=
  okG F sc_first_last ln2 fun cdv A outer s H vs Q E hG hr h => by
    have hU := hr.units
    have hU0 := hr.units0
    have hU1 := u65 hr
    have hUR := u100 hr
    exact ⟨t_first_last K, PSs.nox ((pss_cons (ps_set (i := 2) sc_first_last.nd rfl (Or.inl rfl) (pe_op o_minus (pv 0) pe_int))
  (pss_cons (ps_for PassesOwn.never rfl (pi_range1 (by rfl) (B "range" (by decide)) (pa_cons (pv 1) pa_nil)) (pg_name (i := 3) sc_first_last.nd rfl (Or.inl rfl))
  (pss_cons (ps_if (pt_cmpR (o_eq hU) (pe_op o_mod (pv 2) pe_int) pe_int (nomark _)) (pss_one (ps_ret pe_non)) pss_nil)
  (pss_one (ps_set (i := 2) sc_first_last.nd rfl (Or.inl rfl) (pe_op o_div (pv 2) pe_int)))))
  (pss_one (ps_ret (pv 2)))))), pu_first_last vs H Q E h⟩
abbrev st_product : Stmt := top 1
theorem sc_product : FnScope ["numbers", "found", "number"] ["numbers"] (defScope st_product) := ⟨rfl, rfl, rfl, by decide +kernel, rfl, by decide +kernel, by decide +kernel⟩
theorem ok_product (F : FnP K "product" st_product f fd) (B : Blt mg) : Gf P w K mg base (k + 1) f fd ["numbers"] (sp_product K) :=
  okG F sc_product ln1 fun cdv A outer s H vs Q E hG hr h => by
    have hU := hr.units
    have hU0 := hr.units0
    have hU1 := u65 hr
    have hUR := u100 hr
    exact ⟨t_product K, PSs.nox ((pss_cons (ps_set (i := 1) sc_product.nd rfl (Or.inl rfl) pe_int)
  (pss_cons (ps_for PassesOwn.never rfl (pi_list (pv 0)) (pg_name (i := 2) sc_product.nd rfl (Or.inl rfl))
  (pss_one (ps_aug (i := 1) sc_product.nd rfl (Or.inl rfl) (pv 2) ip_times)))
  (pss_one (ps_ret (pv 1)))))), pu_product vs H Q E h⟩
abbrev st_apart_many : Stmt := top 5
theorem sc_apart_many : FnScope ["letters", "length"] ["letters", "length"] (defScope st_apart_many) := ⟨rfl, rfl, rfl, by decide +kernel, rfl, by decide +kernel, by decide +kernel⟩
theorem ok_apart_many (F : FnP K "apart_many" st_apart_many f fd) (B : Blt mg) (c_product : Cal P w K mg base k "product" 1 (sp_product K)) : Gf P w K mg base (k + 1) f fd ["letters", "length"] (sp_apart_many K) :=
  okG F sc_apart_many ln2 fun cdv A outer s H vs Q E hG hr h => by
    have hU := hr.units
    have hU0 := hr.units0
    have hU1 := u65 hr
    have hUR := u100 hr
    exact ⟨t_apart_many K, PSs.nox ((pss_one (ps_ret (pe_op o_times (g_call c_product hG hr (by rfl) passN (pa_cons (pe_op o_times (pe_lst (pa_cons (pv 0) pa_nil)) (pe_op o_minus (pv 1) pe_int)) pa_nil)) (pe_op o_minus (pv 0) pe_int))))), pu_apart_many vs H Q E h⟩
abbrev st_places_many : Stmt := top 4
theorem sc_places_many : FnScope ["last", "calls", "found", "k"] ["last", "calls"] (defScope st_places_many) := ⟨rfl, rfl, rfl, by decide +kernel, rfl, by decide +kernel, by decide +kernel⟩
theorem ok_places_many (F : FnP K "places_many" st_places_many f fd) (B : Blt mg) : Gf P w K mg base (k + 1) f fd ["last", "calls"] (sp_places_many K) :=
  okG F sc_places_many ln2 fun cdv A outer s H vs Q E hG hr h => by
    have hU := hr.units
    have hU0 := hr.units0
    have hU1 := u65 hr
    have hUR := u100 hr
    exact ⟨t_places_many K, PSs.nox ((pss_cons (ps_set (i := 2) sc_places_many.nd rfl (Or.inl rfl) (pe_lst pa_nil))
  (pss_cons (ps_for PassesOwn.never rfl (pi_range1 (by rfl) (B "range" (by decide)) (pa_cons (pv 1) pa_nil)) (pg_name (i := 3) sc_places_many.nd rfl (Or.inl rfl))
  (pss_cons (ps_expr (pe_bm PySem.F.plainAttrs_list PySem.F.slot_list_append PySem.F.type_list_append mt_append (pv 2) (pa_cons (pe_op o_plus (pv 0) pe_int) pa_nil)))
  (pss_one (ps_set (i := 0) sc_places_many.nd rfl (Or.inl rfl) (pe_op o_times pe_int (pv 0))))))
  (pss_one (ps_ret (pv 2)))))), pu_places_many vs H Q E h⟩
abbrev st_rows_many : Stmt := top 6
theorem sc_rows_many : FnScope ["letters", "length", "calls", "last"] ["letters", "length", "calls"] (defScope st_rows_many) := ⟨rfl, rfl, rfl, by decide +kernel, rfl, by decide +kernel, by decide +kernel⟩
theorem ok_rows_many (F : FnP K "rows_many" st_rows_many f fd) (B : Blt mg) (c_apart_many : Cal P w K mg base k "apart_many" 2 (sp_apart_many K)) (c_product : Cal P w K mg base k "product" 1 (sp_product K)) (c_places_many : Cal P w K mg base k "places_many" 2 (sp_places_many K)) (c_first_last : Cal P w K mg base k "first_last" 2 (sp_first_last K)) : Gf P w K mg base (k + 1) f fd ["letters", "length", "calls"] (sp_rows_many K) :=
  okG F sc_rows_many ln3 fun cdv A outer s H vs Q E hG hr h => by
    have hU := hr.units
    have hU0 := hr.units0
    have hU1 := u65 hr
    have hUR := u100 hr
    exact ⟨t_rows_many K, PSs.nox ((pss_cons (ps_set (i := 3) sc_rows_many.nd rfl (Or.inl rfl) (g_call c_first_last hG hr (by rfl) passN (pa_cons (pv 1) (pa_cons (pv 2) pa_nil))))
  (pss_cons (ps_if (pt_cmpR o_is (pv 3) pe_non (nomark _)) (pss_one (ps_ret pe_int)) pss_nil)
  (pss_one (ps_ret (pe_op o_times (g_call c_apart_many hG hr (by rfl) passN (pa_cons (pv 0) (pa_cons (pe_op o_plus (pv 3) pe_int) pa_nil))) (g_call c_product hG hr (by rfl) passN (pa_cons (g_call c_places_many hG hr (by rfl) passN (pa_cons (pv 3) (pa_cons (pv 2) pa_nil))) pa_nil)))))))), pu_rows_many vs H Q E h⟩
abbrev st_zproduct : Stmt := top 17
theorem sc_zproduct : FnScope ["_law_few", "_law_length", "_law_times", "_law_last", "_law_k", "_law_found"] ["_law_few", "_law_length", "_law_times"] (defScope st_zproduct) := ⟨rfl, rfl, rfl, by decide +kernel, rfl, by decide +kernel, by decide +kernel⟩
theorem ok_zproduct (F : FnP K "_law_product" st_zproduct f fd) (B : Blt mg) : Gf P w K mg base (k + 1) f fd ["_law_few", "_law_length", "_law_times"] (sp_zproduct K) :=
  okG F sc_zproduct ln3 fun cdv A outer s H vs Q E hG hr h => by
    have hU := hr.units
    have hU0 := hr.units0
    have hU1 := u65 hr
    have hUR := u100 hr
    exact ⟨t_zproduct K, PSs.nox ((pss_cons (ps_set (i := 3) sc_zproduct.nd rfl (Or.inl rfl) (pe_op o_minus (pv 1) pe_int))
  (pss_cons (ps_for PassesOwn.never rfl (pi_range1 (by rfl) (B "range" (by decide)) (pa_cons (pv 2) pa_nil)) (pg_name (i := 4) sc_zproduct.nd rfl (Or.inl rfl))
  (pss_cons (ps_if (pt_cmpR (o_eq hU) (pe_op o_mod (pv 3) pe_int) pe_int (nomark _)) (pss_one (ps_ret pe_int)) pss_nil)
  (pss_one (ps_set (i := 3) sc_zproduct.nd rfl (Or.inl rfl) (pe_op o_div (pv 3) pe_int)))))
  (pss_cons (ps_set (i := 5) sc_zproduct.nd rfl (Or.inl rfl) (pe_op o_minus (pv 0) pe_int))
  (pss_cons (ps_for PassesOwn.never rfl (pi_range1 (by rfl) (B "range" (by decide)) (pa_cons (pv 3) pa_nil)) (pg_name (i := 4) sc_zproduct.nd rfl (Or.inl rfl))
  (pss_one (ps_set (i := 5) sc_zproduct.nd rfl (Or.inl rfl) (pe_op o_times (pv 5) (pv 0)))))
  (pss_cons (ps_for PassesOwn.never rfl (pi_range1 (by rfl) (B "range" (by decide)) (pa_cons (pv 2) pa_nil)) (pg_name (i := 4) sc_zproduct.nd rfl (Or.inl rfl))
  (pss_cons (ps_set (i := 5) sc_zproduct.nd rfl (Or.inl rfl) (pe_op o_times (pv 5) (pe_op o_plus (pv 3) pe_int)))
  (pss_one (ps_set (i := 3) sc_zproduct.nd rfl (Or.inl rfl) (pe_op o_times pe_int (pv 3))))))
  (pss_one (ps_ret (pv 5))))))))), pu_zproduct vs H Q E h⟩
abbrev st_law : Stmt := top 19
theorem sc_law : FnScope ["_law_script", "_law_bag_here", "_law_k", "_law_few", "_law_length", "_law_times", "_law_found", "_law_start", "_law_text"] ["_law_script"] (defScope st_law) := ⟨rfl, rfl, rfl, by decide +kernel, rfl, by decide +kernel, by decide +kernel⟩
theorem ok_law (F : FnP K "law" st_law f fd) (B : Blt mg) (c_rows_many : Cal P w K mg base k "rows_many" 3 (sp_rows_many K)) (c_alike : Cal P w K mg base k "_law_alike" 2 (sp_alike K)) (c_zproduct : Cal P w K mg base k "_law_product" 3 (sp_zproduct K)) (c_zgreat : Cal P w K mg base k "_law_great" 1 (sp_zgreat K)) (c_zstarts : Cal P w K mg base k "_law_starts" 3 (sp_zstarts K)) (c_zsize : Cal P w K mg base k "_law_size" 1 (sp_zsize K)) (c_bag : Cal P w K mg base k "_law_bag" 1 (sp_bag K)) : Gf P w K mg base (k + 1) f fd ["_law_script"] (sp_law K) :=
  okG F sc_law ln1 fun cdv A outer s H vs Q E hG hr h => by
    have hU := hr.units
    have hU0 := hr.units0
    have hU1 := u65 hr
    have hUR := u100 hr
    exact ⟨t_law K, PSs.nox ((pss_cons (ps_set (i := 1) sc_law.nd rfl (Or.inl rfl) (g_call c_bag hG hr (by rfl) passN (pa_cons (pv 0) pa_nil)))
  (pss_cons (ps_for PassesOwn.never rfl (pi_range1 (by rfl) (B "range" (by decide)) (pa_cons pe_int pa_nil)) (pg_name (i := 2) sc_law.nd rfl (Or.inl rfl))
  (pss_cons (ps_asg (g_call c_zsize hG hr (by rfl) passN (pa_cons (pv 1) pa_nil)) (pg_tup (by rfl) (pgs_cons (pg_name (i := 3) sc_law.nd rfl (Or.inl rfl)) (pgs_cons (pg_name (i := 4) sc_law.nd rfl (Or.inl rfl)) pgs_nil))))
  (pss_one (ps_for PassesOwn.never rfl (pi_range1 (by rfl) (B "range" (by decide)) (pa_cons pe_int pa_nil)) (pg_name (i := 5) sc_law.nd rfl (Or.inl rfl))
  (pss_cons (ps_set (i := 6) sc_law.nd rfl (Or.inl rfl) pe_dnewK)
  (pss_cons (ps_for PassesOwn.never rfl (pi_list (g_call c_zstarts hG hr (by rfl) passN (pa_cons (pv 3) (pa_cons (pv 4) (pa_cons (pv 5) pa_nil))))) (pg_tup (by rfl) (pgs_cons (pg_name (i := 7) sc_law.nd rfl (Or.inl rfl)) (pgs_cons (pg_name (i := 8) sc_law.nd rfl (Or.inl rfl)) pgs_nil)))
  (pss_one (ps_dput (uD hU1) (pv 6) (pv 8) pe_bl rfl)))
  (pss_one (ps_if (pt_not (g_truth (g_call c_alike hG hr (by rfl) passN (pa_cons (g_call c_rows_many hG hr (by rfl) passN (pa_cons (pv 3) (pa_cons (pv 4) (pa_cons (pv 5) pa_nil)))) (pa_cons (pe_callB o_lenD (by rfl) (B "len" (by decide)) (by decide +kernel) (pa_cons (pv 6) pa_nil)) pa_nil))))) (pss_one (ps_ret pe_bl)) pss_nil))))))))
  (pss_cons (ps_for PassesOwn.never rfl (pi_range1 (by rfl) (B "range" (by decide)) (pa_cons pe_int pa_nil)) (pg_name (i := 2) sc_law.nd rfl (Or.inl rfl))
  (pss_cons (ps_asg (g_call c_zgreat hG hr (by rfl) passN (pa_cons (pv 1) pa_nil)) (pg_tup (by rfl) (pgs_cons (pg_name (i := 3) sc_law.nd rfl (Or.inl rfl)) (pgs_cons (pg_name (i := 4) sc_law.nd rfl (Or.inl rfl)) (pgs_cons (pg_name (i := 5) sc_law.nd rfl (Or.inl rfl)) pgs_nil)))))
  (pss_one (ps_if (pt_not (g_truth (g_call c_alike hG hr (by rfl) passN (pa_cons (g_call c_rows_many hG hr (by rfl) passN (pa_cons (pv 3) (pa_cons (pv 4) (pa_cons (pv 5) pa_nil)))) (pa_cons (g_call c_zproduct hG hr (by rfl) passN (pa_cons (pv 3) (pa_cons (pv 4) (pa_cons (pv 5) pa_nil)))) pa_nil))))) (pss_one (ps_ret pe_bl)) pss_nil))))
  (pss_one (ps_ret (pe_and (pe_cmpR (o_eq hU) (g_call c_rows_many hG hr (by rfl) passN (pa_cons pe_int (pa_cons pe_int (pa_cons pe_int pa_nil)))) pe_int (nomark _)) (pe_one (pe_cmpR (o_eq hU) (g_call c_rows_many hG hr (by rfl) passN (pa_cons pe_int (pa_cons pe_int (pa_cons pe_int pa_nil)))) pe_int (nomark _)))))))))), pu_law vs H Q E h⟩
end
def d_bag : He.DefD := ⟨("_law_bag", none), "_law_bag", "_law_bag", defArgs st_bag, defBody st_bag, defScope st_bag, [], []⟩
def d_take : He.DefD := ⟨("_law_take", none), "_law_take", "_law_take", defArgs st_take, defBody st_take, defScope st_take, [], []⟩
def d_zsize : He.DefD := ⟨("_law_size", none), "_law_size", "_law_size", defArgs st_zsize, defBody st_zsize, defScope st_zsize, [], []⟩
def d_zgreat : He.DefD := ⟨("_law_great", none), "_law_great", "_law_great", defArgs st_zgreat, defBody st_zgreat, defScope st_zgreat, [], []⟩
def d_zapart : He.DefD := ⟨("_law_apart", none), "_law_apart", "_law_apart", defArgs st_zapart, defBody st_zapart, defScope st_zapart, [], []⟩
def d_zrows : He.DefD := ⟨("_law_rows", none), "_law_rows", "_law_rows", defArgs st_zrows, defBody st_zrows, defScope st_zrows, [], []⟩
def d_called : He.DefD := ⟨("_law_called", none), "_law_called", "_law_called", defArgs st_called, defBody st_called, defScope st_called, [], []⟩
def d_zall : He.DefD := ⟨("_law_all", none), "_law_all", "_law_all", defArgs st_zall, defBody st_zall, defScope st_zall, [], []⟩
def d_zstarts : He.DefD := ⟨("_law_starts", none), "_law_starts", "_law_starts", defArgs st_zstarts, defBody st_zstarts, defScope st_zstarts, [], []⟩
def d_alike : He.DefD := ⟨("_law_alike", none), "_law_alike", "_law_alike", defArgs st_alike, defBody st_alike, defScope st_alike, [], []⟩
def d_first_last : He.DefD := ⟨("first_last", none), "first_last", "first_last", defArgs st_first_last, defBody st_first_last, defScope st_first_last, [], []⟩
def d_product : He.DefD := ⟨("product", none), "product", "product", defArgs st_product, defBody st_product, defScope st_product, [], []⟩
def d_apart_many : He.DefD := ⟨("apart_many", none), "apart_many", "apart_many", defArgs st_apart_many, defBody st_apart_many, defScope st_apart_many, [], []⟩
def d_places_many : He.DefD := ⟨("places_many", none), "places_many", "places_many", defArgs st_places_many, defBody st_places_many, defScope st_places_many, [], []⟩
def d_rows_many : He.DefD := ⟨("rows_many", none), "rows_many", "rows_many", defArgs st_rows_many, defBody st_rows_many, defScope st_rows_many, [], []⟩
def d_zproduct : He.DefD := ⟨("_law_product", none), "_law_product", "_law_product", defArgs st_zproduct, defBody st_zproduct, defScope st_zproduct, [], []⟩
def d_law : He.DefD := ⟨("law", none), "law", "law", defArgs st_law, defBody st_law, defScope st_law, [], []⟩
def fn : List He.DefD := [d_bag, d_take, d_zsize, d_zgreat, d_zapart, d_zrows, d_called, d_zall, d_zstarts, d_alike, d_first_last, d_product, d_apart_many, d_places_many, d_rows_many, d_zproduct, d_law]
def fa : List He.Fa := [.glo "_law_bag", .glo "_law_take", .glo "_law_size", .glo "_law_great", .glo "_law_apart", .glo "_law_rows", .glo "_law_called", .glo "_law_all", .glo "_law_starts", .glo "_law_alike", .glo "first_last", .glo "product", .glo "apart_many", .glo "places_many", .glo "rows_many", .glo "_law_product", .glo "law"] ++ bltNames.map He.Fa.free
abbrev R : PySem.W.OpenRow := PySem.W.OpenLaw.row PySem.Challenge.rw_ownlog_k61_rows_counted_by_all
abbrev hk : PySem.W.Hook := He.hookD 5 fa fn
def ob (s : PySem.W.SharedT) : He.AlD := He.obsDG 5 fa fn (HandSHeadRun.getT s)
theorem ob_eq (s : PySem.W.SharedT) : ob s = hk.obs s.abs := He.obsDG_eq (HandSHeadRun.getT_eq s)
abbrev lo : List PySem.Str := (["product", "first_last", "places_many", "apart_many", "rows_many", "_law_bag", "_law_take", "_law_alike", "_law_called", "_law_all", "_law_rows", "_law_apart", "_law_starts", "_law_size", "_law_product", "_law_great"] : List PySem.Str)
theorem run (w : World) : HandSHeadRun.RunEq R (PySem.W.view R.prog [19]) hk ob 20000 (lo) w := by
  intro os
  kernel_rfl
theorem facts {P : Program} {w : World} {K : PySem.W.Frag} {h : Heap} {mg : Str → Option Value} {f : Addr} (X : K.In h) (G : h.Ns mainGlobals mg) (hfa : mg ("law" : Str) = some (.ref f)) (c : He.SaysD fa fn K) :
    ∃ fd : FuncData, (∀ (s : Shared) (v : Value), BindsTo s fd ⟨[v], []⟩ [("_law_script", v)]) ∧ ∀ base : Heap, K.In base → base.Ns mainGlobals mg → Gf P w K mg base 4 f fd ["_law_script"] (sp_law K) := by
  have B : Blt mg := blt_of X G fun i f h => c.fact (i + 17) (by exact h)
  obtain ⟨fd_bag, F_bag⟩ := c.def_ 0 (d := d_bag) rfl
  have m_bag := He.glo_ok X G (c.fact 0 (f := .glo "_law_bag") rfl)
  obtain ⟨fd_take, F_take⟩ := c.def_ 1 (d := d_take) rfl
  have m_take := He.glo_ok X G (c.fact 1 (f := .glo "_law_take") rfl)
  obtain ⟨fd_zsize, F_zsize⟩ := c.def_ 2 (d := d_zsize) rfl
  have m_zsize := He.glo_ok X G (c.fact 2 (f := .glo "_law_size") rfl)
  obtain ⟨fd_zgreat, F_zgreat⟩ := c.def_ 3 (d := d_zgreat) rfl
  have m_zgreat := He.glo_ok X G (c.fact 3 (f := .glo "_law_great") rfl)
  obtain ⟨fd_zapart, F_zapart⟩ := c.def_ 4 (d := d_zapart) rfl
  have m_zapart := He.glo_ok X G (c.fact 4 (f := .glo "_law_apart") rfl)
  obtain ⟨fd_zrows, F_zrows⟩ := c.def_ 5 (d := d_zrows) rfl
  have m_zrows := He.glo_ok X G (c.fact 5 (f := .glo "_law_rows") rfl)
  obtain ⟨fd_called, F_called⟩ := c.def_ 6 (d := d_called) rfl
  have m_called := He.glo_ok X G (c.fact 6 (f := .glo "_law_called") rfl)
  obtain ⟨fd_zall, F_zall⟩ := c.def_ 7 (d := d_zall) rfl
  have m_zall := He.glo_ok X G (c.fact 7 (f := .glo "_law_all") rfl)
  obtain ⟨fd_zstarts, F_zstarts⟩ := c.def_ 8 (d := d_zstarts) rfl
  have m_zstarts := He.glo_ok X G (c.fact 8 (f := .glo "_law_starts") rfl)
  obtain ⟨fd_alike, F_alike⟩ := c.def_ 9 (d := d_alike) rfl
  have m_alike := He.glo_ok X G (c.fact 9 (f := .glo "_law_alike") rfl)
  obtain ⟨fd_first_last, F_first_last⟩ := c.def_ 10 (d := d_first_last) rfl
  have m_first_last := He.glo_ok X G (c.fact 10 (f := .glo "first_last") rfl)
  obtain ⟨fd_product, F_product⟩ := c.def_ 11 (d := d_product) rfl
  have m_product := He.glo_ok X G (c.fact 11 (f := .glo "product") rfl)
  obtain ⟨fd_apart_many, F_apart_many⟩ := c.def_ 12 (d := d_apart_many) rfl
  have m_apart_many := He.glo_ok X G (c.fact 12 (f := .glo "apart_many") rfl)
  obtain ⟨fd_places_many, F_places_many⟩ := c.def_ 13 (d := d_places_many) rfl
  have m_places_many := He.glo_ok X G (c.fact 13 (f := .glo "places_many") rfl)
  obtain ⟨fd_rows_many, F_rows_many⟩ := c.def_ 14 (d := d_rows_many) rfl
  have m_rows_many := He.glo_ok X G (c.fact 14 (f := .glo "rows_many") rfl)
  obtain ⟨fd_zproduct, F_zproduct⟩ := c.def_ 15 (d := d_zproduct) rfl
  have m_zproduct := He.glo_ok X G (c.fact 15 (f := .glo "_law_product") rfl)
  obtain ⟨fd_law, F_law⟩ := c.def_ 16 (d := d_law) rfl
  have e := hfa.symm.trans (He.glo_ok X G (c.fact 16 (f := .glo "law") rfl))
  cases e
  refine ⟨fd_law, fun s v => FunD.bindsA (ps := ["_law_script"]) F_law (fun _ _ _ _ _ _ us hl => match us, hl with | [_], _ => rfl) s [v] rfl, fun base _ _ => ?_⟩
  have c_bag : Cal P w K mg base 1 "_law_bag" 1 (sp_bag K) := ⟨_, _, ["_law_script"], rfl, ok_bag (k := 0) F_bag B, m_bag, F_bag.kp, F_bag.bindsN fun _ _ _ _ _ _ us hl => match us, hl with | [_], _ => rfl⟩
  have c_take : Cal P w K mg base 1 "_law_take" 2 (sp_take K) := ⟨_, _, ["_law_bag_here", "_law_many"], rfl, ok_take (k := 0) F_take B, m_take, F_take.kp, F_take.bindsN fun _ _ _ _ _ _ us hl => match us, hl with | [_, _], _ => rfl⟩
  have c_zsize : Cal P w K mg base 2 "_law_size" 1 (sp_zsize K) := ⟨_, _, ["_law_bag_here"], rfl, ok_zsize (k := 1) F_zsize B (c_take.mono (by decide)), m_zsize, F_zsize.kp, F_zsize.bindsN fun _ _ _ _ _ _ us hl => match us, hl with | [_], _ => rfl⟩
  have c_zgreat : Cal P w K mg base 2 "_law_great" 1 (sp_zgreat K) := ⟨_, _, ["_law_bag_here"], rfl, ok_zgreat (k := 1) F_zgreat B (c_take.mono (by decide)), m_zgreat, F_zgreat.kp, F_zgreat.bindsN fun _ _ _ _ _ _ us hl => match us, hl with | [_], _ => rfl⟩
  have c_zapart : Cal P w K mg base 1 "_law_apart" 1 (sp_zapart K) := ⟨_, _, ["_law_some"], rfl, ok_zapart (k := 0) F_zapart B, m_zapart, F_zapart.kp, F_zapart.bindsN fun _ _ _ _ _ _ us hl => match us, hl with | [_], _ => rfl⟩
  have c_zrows : Cal P w K mg base 1 "_law_rows" 2 (sp_zrows K) := ⟨_, _, ["_law_few", "_law_size_here"], rfl, ok_zrows (k := 0) F_zrows B, m_zrows, F_zrows.kp, F_zrows.bindsN fun _ _ _ _ _ _ us hl => match us, hl with | [_, _], _ => rfl⟩
  have c_called : Cal P w K mg base 1 "_law_called" 2 (sp_called K) := ⟨_, _, ["_law_row", "_law_place"], rfl, ok_called (k := 0) F_called B, m_called, F_called.kp, F_called.bindsN fun _ _ _ _ _ _ us hl => match us, hl with | [_, _], _ => rfl⟩
  have c_zall : Cal P w K mg base 2 "_law_all" 2 (sp_zall K) := ⟨_, _, ["_law_row", "_law_times"], rfl, ok_zall (k := 1) F_zall B (c_called.mono (by decide)), m_zall, F_zall.kp, F_zall.bindsN fun _ _ _ _ _ _ us hl => match us, hl with | [_, _], _ => rfl⟩
  have c_zstarts : Cal P w K mg base 3 "_law_starts" 3 (sp_zstarts K) := ⟨_, _, ["_law_few", "_law_length", "_law_times"], rfl, ok_zstarts (k := 2) F_zstarts B (c_zapart.mono (by decide)) (c_zrows.mono (by decide)) (c_zall.mono (by decide)), m_zstarts, F_zstarts.kp, F_zstarts.bindsN fun _ _ _ _ _ _ us hl => match us, hl with | [_, _, _], _ => rfl⟩
  have c_alike : Cal P w K mg base 1 "_law_alike" 2 (sp_alike K) := ⟨_, _, ["_law_found", "_law_due"], rfl, ok_alike (k := 0) F_alike B, m_alike, F_alike.kp, F_alike.bindsN fun _ _ _ _ _ _ us hl => match us, hl with | [_, _], _ => rfl⟩
  have c_first_last : Cal P w K mg base 1 "first_last" 2 (sp_first_last K) := ⟨_, _, ["length", "calls"], rfl, ok_first_last (k := 0) F_first_last B, m_first_last, F_first_last.kp, F_first_last.bindsN fun _ _ _ _ _ _ us hl => match us, hl with | [_, _], _ => rfl⟩
  have c_product : Cal P w K mg base 1 "product" 1 (sp_product K) := ⟨_, _, ["numbers"], rfl, ok_product (k := 0) F_product B, m_product, F_product.kp, F_product.bindsN fun _ _ _ _ _ _ us hl => match us, hl with | [_], _ => rfl⟩
  have c_apart_many : Cal P w K mg base 2 "apart_many" 2 (sp_apart_many K) := ⟨_, _, ["letters", "length"], rfl, ok_apart_many (k := 1) F_apart_many B (c_product.mono (by decide)), m_apart_many, F_apart_many.kp, F_apart_many.bindsN fun _ _ _ _ _ _ us hl => match us, hl with | [_, _], _ => rfl⟩
  have c_places_many : Cal P w K mg base 1 "places_many" 2 (sp_places_many K) := ⟨_, _, ["last", "calls"], rfl, ok_places_many (k := 0) F_places_many B, m_places_many, F_places_many.kp, F_places_many.bindsN fun _ _ _ _ _ _ us hl => match us, hl with | [_, _], _ => rfl⟩
  have c_rows_many : Cal P w K mg base 3 "rows_many" 3 (sp_rows_many K) := ⟨_, _, ["letters", "length", "calls"], rfl, ok_rows_many (k := 2) F_rows_many B (c_apart_many.mono (by decide)) (c_product.mono (by decide)) (c_places_many.mono (by decide)) (c_first_last.mono (by decide)), m_rows_many, F_rows_many.kp, F_rows_many.bindsN fun _ _ _ _ _ _ us hl => match us, hl with | [_, _, _], _ => rfl⟩
  have c_zproduct : Cal P w K mg base 1 "_law_product" 3 (sp_zproduct K) := ⟨_, _, ["_law_few", "_law_length", "_law_times"], rfl, ok_zproduct (k := 0) F_zproduct B, m_zproduct, F_zproduct.kp, F_zproduct.bindsN fun _ _ _ _ _ _ us hl => match us, hl with | [_, _, _], _ => rfl⟩
  exact ok_law (k := 3) F_law B (c_rows_many.mono (by decide)) (c_alike.mono (by decide)) (c_zproduct.mono (by decide)) (c_zgreat.mono (by decide)) (c_zstarts.mono (by decide)) (c_zsize.mono (by decide)) (c_bag.mono (by decide))
end
end Ow
open PySem PySem.W PySem.Calls PyProof.Rows
theorem PySem.Challenge.cw_ownlog_k61_rows_counted_by_all_holds : PySem.Challenge.rw_ownlog_k61_rows_counted_by_all.Holds := by
  w_on
  o_law
  refine HandSHeadRun.head_any (r := OpenLaw.row PySem.Challenge.rw_ownlog_k61_rows_counted_by_all) (q := view (OpenLaw.row PySem.Challenge.rw_ownlog_k61_rows_counted_by_all).prog [19]) (H := Ow.hk) (ob := Ow.ob) (M := 20000) (loose := Ow.lo) (d := HandSHeadRun.topDef (OpenLaw.row PySem.Challenge.rw_ownlog_k61_rows_counted_by_all).prog 19) (kwd := []) Ow.ob_eq
    (by kernel_rfl) (fun s => by kernel_rfl) Ow.run (by kernel_rfl) (by kernel_rfl) (by kernel_rfl) (by rfl) (by first | assumption | decide +kernel) (by decide +kernel) ⟨rfl, rfl, rfl, rfl, rfl, by decide +kernel⟩ ?hw ?hc
  case hw => w_witness2
  case hc =>
    refine Ow.walk_g (l := PySem.Challenge.rw_ownlog_k61_rows_counted_by_all) (k := 4) (x := "_law_script") rfl (by kernel_rfl) ⟨rfl, by decide, by decide⟩ ?_
    intro w mg fa h Y G said
    obtain ⟨K, KX, c⟩ := Y
    have told : mg ("law" : PySem.Str) = some (.ref fa) := by
      have e : (HandSHeadRun.topDef (OpenLaw.row PySem.Challenge.rw_ownlog_k61_rows_counted_by_all).prog 19).name = ("law" : PySem.Str) := by kernel_rfl
      rw [← e]
      exact said
    obtain ⟨fd, hb, hF⟩ := Ow.facts (P := (PySem.Challenge.rw_ownlog_k61_rows_counted_by_all).prog) (w := w) KX G told c
    exact ⟨K, fd, KX, hb, hF⟩
