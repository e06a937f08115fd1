import PyProof.Rows.All
import HandS.ForMost
import HandS.Exc
import HandS.TryOnly
import HandS.ExcOwn
import HandS.WordsExc
import HandS.CallSlots
import HandS.Wide
import HandS.TupAny
import HandS.Zip
import HandS.Text
import HandS.SortInts
import HandS.Deep
import HandS.Conv
import HandS.Comp
import KE.KIntText
import PyProof.StrHeap
import PyProof.Rows.StrOr
import HandS.Strs
import HandS.Style
import KE.IntTextLaws
import PySem.Challenge.RW_pinnedheap_k09_whole_counts_of_states
set_option Elab.async false
set_option linter.all false
set_option autoImplicit false
set_option maxRecDepth 100000
set_option maxHeartbeats  4000000

/-! PL0: defs whose callers know that no repr runs below them (FnG); their calls; the end of a law. -/
namespace PL
open PySem PySem.Spec L2
open PyProof.Rows hiding St

/-- a def's promise where no guarded built-in runs below -/
structure FnG (P : Program) (w : World) (K : PySem.W.Frag) (mg : Str → Option Value) (base : Heap) (k : Nat) (f : Addr) (fd : FuncData) (ps : List Str) (sp : Sp) : Prop where
  size : ∀ vs H Q E, sp vs H Q E → vs.length = ps.length
  go : ∀ (A : Around) (stk : List PySem.Env) (s : Shared) (H : Hp) (args : Args) (us : List Value) (vs : List V) (Q : VK) (E : XK), Room k A → A.guards = some [] →
    Env0 P w K mg base A stk s H → BindsTo s fd args (ps.zip us) → Vals vs us → sp vs H Q E → codeAny (model P w) A (.call (.ref f) args) (CR (L2.CX P w) stk P w H s Q E) s
section
variable {P : Program} {w : World} {K : PySem.W.Frag} {mg : Str → Option Value} {base : Heap}
theorem FnG.up {j k : Nat} {f : Addr} {fd : FuncData} {ps : List Str} {sp : Sp} (F : FnG P w K mg base j f fd ps sp) (h : j ≤ k) : FnG P w K mg base k f fd ps sp :=
  ⟨F.size, fun A stk s H args us vs Q E hr => F.go A stk s H args us vs Q E (hr.mono h)⟩
theorem FnG.weaker {k : Nat} {f : Addr} {fd : FuncData} {ps : List Str} {sp sp' : Sp} (F : FnG P w K mg base k f fd ps sp) (h : ∀ vs H Q E, sp' vs H Q E → sp vs H Q E) : FnG P w K mg base k f fd ps sp' :=
  ⟨fun vs H Q E q => F.size vs H Q E (h _ _ _ _ q), fun A stk s H args us vs Q E hr hg he hb hv hs => F.go A stk s H args us vs Q E hr hg he hb hv (h _ _ _ _ hs)⟩
/-- from the body's walk -/
theorem fnG_of {x qual : Str} {st : Stmt} {f : Addr} {fd : FuncData} {N ps : List Str} {k : Nat} {sp : Sp} (F : Fun K x qual st f fd) (S : FnScope N ps (defScope st)) (size : ∀ vs H Q E, sp vs H Q E → vs.length = ps.length)
    (walk : ∀ (cdv : Value) (A : Around) (stk : List PySem.Env) (s : Shared) (H : Hp) (vs : List V) (Q : VK) (E : XK), Room k (A.deeper (envOfC qual (defScope st) s.heap.objs.size f cdv)) → (A.deeper (envOfC qual (defScope st) s.heap.objs.size f cdv)).guards = some [] → sp vs H Q E →
      ∃ t, PSs (cxOf (L2.CX P w) P w K mg base N qual (defScope st) f cdv A stk s H E) (defBody st) t ∧ t { nx := fun _ H' => Q .non H', rt := Q } (L2.start N vs) H) : FnG P w K mg base (k + 1) f fd ps sp := by
  obtain ⟨oc, od, kV, doc, pm, an, cdv, ct, osl, rfl, lk, hcd⟩ := F.ex
  refine ⟨size, fun A stk s H args us vs Q E hr hg e0 hb r hsp => ?_⟩
  have kept : ∀ (b : Addr) (o : Obj), base.get? b = some o → s.heap.get? b = some o := fun b o q => (e0.bs b o q).1
  have inK := e0.mod.kin.keeps kept
  have noL := e0.mod.nolimit.keeps kept
  have pars : ∀ y ∈ ps.zip us, (defScope st).names.lookup y.1 = some .local ∨ ((defScope st).names.lookup y.1 = some .cell ∧ ((cellsFrom (s.heap.objs.size + 1) (defScope st).names []).lookup y.1).isSome = true) := by
    rintro ⟨n, v⟩ hy
    rcases S.par n (List.of_mem_zip hy).1 with q | q
    · exact Or.inl q
    · exact Or.inr ⟨q, PySem.W.cellsFrom_some _ _ _ (Or.inl q)⟩
  refine codeAny_call_function hr.depth (inK _ _ lk) rfl S.co S.gen rfl (PySem.W.codeRec_of inK hcd) (hb _ _ _ _ (wpAny_newFunctionEnv_cells S.kind pars ?_))
  rintro env rfl s1 x
  refine ⟨noL.keeps x.toInCall.keep, codeAny_func ?_⟩
  obtain ⟨t, ht, hq⟩ := walk cdv A stk s H vs Q E (hr.deeper _) hg hsp
  have I0 := inv_start (CX := L2.CX P w) (E := E) (f := f) (cd := cdv) (qual := qual) S hr.hd e0 (size _ _ _ _ hsp) r x
  refine wpAny_mono (ht.run [] s1 (L2.start N vs) H _ I0 hq) (fun fl s' hs => ?_) fun e s' hs => hs
  have leave : ∀ (σ' : L2.St) (H' : Hp) (v : V) (u : Value), Inv (cxOf (L2.CX P w) P w K mg base N qual (defScope st) f cdv A stk s H E) [] σ' H' s' → RelV v u → Q v H' → CE stk P w H s Q u s' :=
    fun _ H' v _ J rv q => ⟨v, H', J.os, J.bare, J.base, J.hok, rv, q⟩
  cases fl with
  | ret u => obtain ⟨v, σ', H', J, rv, q⟩ := hs; exact leave σ' H' v u J rv q
  | next => obtain ⟨σ', H', J, q⟩ := hs; exact leave σ' H' .non .none J rfl q
  | brk => obtain ⟨_, _, _, q⟩ := hs; exact q.elim
  | cont => obtain ⟨_, _, _, q⟩ := hs; exact q.elim
end
section
variable {X : Cx} {k : Nat} {f : Addr} {fd : FuncData} {ps : List Str} {sp : Sp} {dvs : List V} {ds : List Value} {W : WX} {x : Str} {p pos : Pos} {e : Expr} {es : List Expr} {t : TA}
/-- the callee runs, from a body -/
theorem FnG.call {pins : List (Addr × Obj)} {σ : L2.St} {H : Hp} {s : Shared} {Q : VK} {us : List Value} {vs : List V} (F : FnG X.prog X.w X.K X.mg X.base k f fd ps sp) (hr : Room k X.A) (hg : X.A.guards = some []) (hb : Binds X.K fd ps ds) (hd : Vals dvs ds) (tk : Takes X W)
    (I : Inv X pins σ H s) (r : Vals vs us) (h : sp (vs ++ dvs) H Q (WE W σ)) : wpAny (model X.prog X.w) X.A (call (.ref f) us) (EP X pins σ Q) X.xe s := by
  have both := r.append hd
  have n2 : (us ++ ds).length = ps.length := both.length.symm.trans (F.size _ _ _ _ h)
  refine wpAny_call (codeAny_mono (F.go X.A X.stack s H ⟨us, []⟩ (us ++ ds) (vs ++ dvs) Q (WE W σ) hr hg I.env0 (hb s us I.kIn n2) both h) ?_)
  rintro (err | fl) s' q
  · exact passAt tk σ pins H s err s' I q
  · cases fl <;> first | exact I.after q | exact False.elim q
theorem pe_callG (F : FnG X.prog X.w X.K X.mg X.base k f fd ps sp) (hr : Room k X.A) (hg : X.A.guards = some []) (gl : Gl X x) (hm : X.mg x = some (.ref f)) (hk : PySem.W.keepIn X.K (.ref f) = true) (hb : Binds X.K fd ps ds) (hd : Vals dvs ds) (tk : Takes X W)
    (ha : PA X (e :: es) t) (hdb : (x == ("__debug__" : Str)) = false := by decide) (he : starEach (e :: es) X.env = (false, eval e X.env) :: starEach es X.env := by rfl) (hpl : (backTo pos (starEach es X.env)).any (·.1) = false := by rfl) :
    PE X (.Call (.Name x p) (e :: es) [] pos) (tCallSD sp dvs (fun σ => WE W σ) t) :=
  ⟨fun pins s σ H Q I h => wpAny_Call_Name_kw (ld_glob I gl hm (PySem.W.callWith_K (h₀ := X.base) I.ok.mod.kin hk
    (thn (ha.run pos pins s σ H _ I h) fun us s1 ⟨vs, H1, I1, r, q⟩ => ⟨I1.kIn, F.call hr hg hb hd tk I1 r q⟩) he hpl) hdb)⟩
theorem pe_callG0 (F : FnG X.prog X.w X.K X.mg X.base k f fd ps sp) (hr : Room k X.A) (hg : X.A.guards = some []) (gl : Gl X x) (hm : X.mg x = some (.ref f)) (hk : PySem.W.keepIn X.K (.ref f) = true) (hb : Binds X.K fd ps ds) (hd : Vals dvs ds) (tk : Takes X W)
    (hdb : (x == ("__debug__" : Str)) = false := by decide) : PE X (.Call (.Name x p) [] [] pos) (tCallSD sp dvs (fun σ => WE W σ) tNil) :=
  ⟨fun pins s σ H Q I h => wpAny_Call_Name_kw (ld_glob I gl hm (PySem.W.callWith_K0 I.kIn hk (F.call (us := []) hr hg hb hd tk I .nil h)) hdb)⟩
end

/-! ### the end of a law -/
section
variable {P : Program} {w : World} {K : PySem.W.Frag} {mg mb : Str → Option Value}
/-- the law's call behind the top; H0: what is tracked there (the script alone, or nothing) -/
theorem top_core {k : Nat} {fa a : Addr} {fd : FuncData} {x : Str} {sp : Sp} {z : Shared} {vs : List Value} {H0 : Hp}
    (inK : K.In z.heap) (gs : z.heap.Ns mainGlobals mg) (bs : z.heap.Ns builtinsNs mb) (bb : ∀ x : Str, x ≠ "__name__" → mb x = bootBuiltins x) (noL : z.heap.NoLimit) (ng : z.gens = #[])
    (ha : z.heap.get? a = some { cls := .type "list", data := .seq vs.toArray }) (hr : Room k callerA)
    (F : ∀ base : Heap, K.In base → base.Ns mainGlobals mg → FnG P w K mg base k fa fd [x] sp) (hbind : ∀ (s : Shared) (u : Value), BindsTo s fd ⟨[u], []⟩ [(x, u)])
    (fz : ∀ b u, H0 b = some u → b = a ∧ ∃ o xs, u = .frz o (.lst xs)) (out : ∀ u, H0 a = some u → K.lookup a = none) (ok : HOk P w H0 z.heap)
    (hsp : sp [.ref a] H0 (fun v _ => v = .bl true) fun _ _ _ => False) :
    codeAny (model P w) callerA (.call (.ref fa) ⟨[.ref a], []⟩) (fun r s' => r = .ok (.ret (.bool true)) ∧ OldK z.heap s'.heap ∧ s'.os = z.os ∧ AllBare s'.gens) z := by
  have free : ∀ b o, z.heap.get? b = some o → b ≠ a → (hidT z.heap H0).get? b = some o := fun b o e ne => hidT_get e (by
    cases q : H0 b with
    | none => rfl
    | some u => exact absurd (fz b u q).1 ne)
  have ns : ∀ {b : Addr} {m : Str → Option Value}, z.heap.Ns b m → (hidT z.heap H0).Ns b m := fun {b m} n => by
    obtain ⟨o, es, ep, e, d, r⟩ := n
    refine ⟨o, es, ep, free b o e fun q => ?_, d, r⟩
    rw [q, ha] at e
    cases e
    exact (by simp at d)
  have kin : K.In (hidT z.heap H0) := fun b o e => by
    have e1 := inK b o e
    cases q : H0 b with
    | none => exact hidT_get e1 q
    | some u =>
      have e2 := (fz b u q).1
      subst e2
      rw [out u q] at e
      cases e
  obtain ⟨mc, c1, c2⟩ := noL
  have md : Mod K mg (hidT z.heap H0) := ⟨kin, ns gs, ⟨mb, ns bs, bb⟩, ⟨mc, ns c1, c2⟩⟩
  have e0 : Env0 P w K mg (hidT z.heap H0) callerA [] z H0 :=
    ⟨rfl, md, fun _ _ e => of_hidT e, Nat.le_of_eq (hidT_size _ _), trivial, fun b hb => absurd (show b ∈ ([] : List Addr) from hb) List.not_mem_nil, ok, .of_eq ng⟩
  refine codeAny_mono ((F _ kin (ns gs)).go callerA [] z H0 ⟨[.ref a], []⟩ [.ref a] [.ref a] _ _ hr rfl e0 (hbind z (.ref a)) (.cons rfl .nil) hsp) ?_
  rintro (err | fl) s' h
  · obtain ⟨_, _, _, _, _, _, _, _, _, _, _, _, no⟩ := h
    exact no.elim
  · cases fl <;> first | exact False.elim h | skip
    obtain ⟨v, H', os, bare, un, ok', r', q⟩ := h
    obtain rfl : v = .bl true := q
    cases r'
    refine ⟨rfl, OldK.of_keep fun b o e => ?_, os, bare⟩
    cases q : H0 b with
    | none => exact un.keep b o e q (fun hb => absurd (show b ∈ ([] : List Addr) from hb) List.not_mem_nil) List.not_mem_nil
    | some u =>
      obtain ⟨rfl, ob, xs, rfl⟩ := fz b u q
      have e1 := (ok b _ q).1
      have e2 := (ok' b _ (un.frzs b ob _ q)).1
      rw [e1] at e
      cases e
      exact e2
theorem walk_ofG {l : PySem.W.OpenLaw} {n k : Nat} {q : Program} {loose : List Str} {XP : (Str → Option Value) → Heap → Prop} {YP : World → Heap → Prop} {d : DefRec} {KK : Params → PySem.W.Frag} {sp : World → Sp} {x : Str}
    (hn : l.most = some n) (hn2 : n ≤ sizeLine) (hdf : d.params.defaults = []) (hr : Room k callerA)
    (hY : ∀ (w : World) (h : Heap), YP w h → (KK w.params).In h)
    (F : ∀ (w : World) (mg : Str → Option Value) (fa : Addr) (h : Heap), (KK w.params).In h → h.Ns mainGlobals mg → mg d.name = some (.ref fa) →
      ∃ fd : FuncData, (∀ (s : Shared) (u : Value), BindsTo s fd ⟨[u], []⟩ [(x, u)]) ∧
        ∀ base : Heap, (KK w.params).In base → base.Ns mainGlobals mg → FnG l.prog w (KK w.params) mg base k fa fd [x] (sp w))
    (hsp : ∀ (w : World) (H : Hp) (a : Addr) (ns : List Int), ns.length ≤ n → SqL (KK w.params) H a (ns.map V.int) → sp w [.ref a] H (fun v _ => v = .bl true) fun _ _ _ => False) :
    PySem.W.WalkO q loose XP YP l.row.toRowW d [] (fun f vs => PySem.call f vs) := by
  refine Att.attach_call hn hdf fun w s0 z mg mb fa o pm cd doc a vs ns G Y ho hd hcd hmg hobj hints hlen hg => ?_
  have inK := hY w _ Y
  obtain ⟨fd, hb, hF⟩ := F w mg fa _ inK G.T.g hmg
  have rv := L2.vals_ints hints
  have hl : ns.length ≤ sizeLine := Nat.le_trans hlen hn2
  cases hk : (KK w.params).lookup a with
  | some oa =>
    have e := inK a oa hk
    rw [hobj] at e
    cases e
    refine top_core (H0 := fun _ => none) inK G.T.g G.T.b G.T.builtins G.T.nolimit hg hobj hr hF hb (fun b u z => by cases z) (fun u z => by cases z) (fun b u z => by cases z) (hsp w _ a ns hlen (.inr ⟨_, vs.toArray, _, hk, rfl, rfl, rfl, ?_, by simpa using rv⟩))
    rw [List.size_toArray, hints.length]; exact hl
  | none =>
    have at1 : ∀ b u, (if b = a then some (HO.frz { cls := .type "list", data := .seq vs.toArray } (.lst (ns.map V.int))) else none) = some u → b = a ∧ u = HO.frz { cls := .type "list", data := .seq vs.toArray } (.lst (ns.map V.int)) := fun b u z => by
      split at z
      · rename_i e; cases z; exact ⟨e, rfl⟩
      · cases z
    refine top_core (H0 := fun b => if b = a then some (.frz { cls := .type "list", data := .seq vs.toArray } (.lst (ns.map V.int))) else none) inK G.T.g G.T.b G.T.builtins G.T.nolimit hg hobj hr hF hb
      (fun b u z => ⟨(at1 b u z).1, _, _, (at1 b u z).2⟩) (fun _ _ => hk) (fun b u z => ?_) (hsp w _ a ns hlen (.inl (.inr ⟨_, if_pos rfl⟩)))
    obtain ⟨rfl, rfl⟩ := at1 b u z
    exact ⟨hobj, by rw [List.length_map]; exact hl, vs, _, rv, hobj⟩
end
end PL

/-! PL1: pure values in slots, the relation to the abstract heap, what a reading refines. -/
namespace PL
open PySem PySem.Spec L2
open PyProof.Rows hiding St

/-- what a slot holds: nothing known, a value that never changes again, a list or dict that this def alone holds -/
inductive Sl where
  | emp | val (d : PyData) | own (d : PyData) | scr (ns : List Int)
abbrev Env := List Sl
abbrev PExc := Nat × PyData
inductive Out (α : Type) where
  | ok (a : α) (r : Env) | exc (e : PExc) (r : Env) | bad
abbrev M (α : Type) := Env → Out α
def keyD : Key → PyData
  | .inl i => .int i
  | .inr x => .str x

def FzL (K : PySem.W.Frag) (fz : Addr → Prop) (H : Hp) (a : Addr) (xs : List V) : Prop :=
  (fz a ∧ Rd H a (.lst xs)) ∨
    ∃ (o : Obj) (its : Array Value) (n : Nat), K.lookup a = some o ∧ o.cls = .type "list" ∧ o.dict = none ∧ o.data = .seq its n ∧ its.size ≤ sizeLine ∧ Vals xs its.toList
theorem FzL.sq {K : PySem.W.Frag} {fz : Addr → Prop} {H : Hp} {a : Addr} {xs : List V} (h : FzL K fz H a xs) : SqL K H a xs := h.imp (fun z => z.2) id
def FzT (K : PySem.W.Frag) (fz : Addr → Prop) (H : Hp) (a : Addr) (xs : List V) : Prop :=
  (fz a ∧ Rd H a (.tup xs)) ∨
    ∃ (o : Obj) (its : Array Value) (n : Nat), K.lookup a = some o ∧ o.cls = .type "tuple" ∧ o.data = .seq its n ∧ its.size ≤ sizeLine ∧ Vals xs its.toList
theorem FzT.sq {K : PySem.W.Frag} {fz : Addr → Prop} {H : Hp} {a : Addr} {xs : List V} (h : FzT K fz H a xs) : SqT K H a xs := h.imp (fun z => z.2) id

mutual
inductive Rep (K : PySem.W.Frag) (fz : Addr → Prop) (H : Hp) : V → PyData → Prop
  | non : Rep K fz H .non .none
  | bl (b : Bool) : Rep K fz H (.bl b) (.bool b)
  | int (i : Int) : Rep K fz H (.int i) (.int i)
  | str (x : Str) : Rep K fz H (.str x) (.str x)
  | lst {a : Addr} {xs : List V} {ds : List PyData} : fz a → H a = some (.lst xs) → RepA K fz H xs ds → Rep K fz H (.ref a) (.list ds)
  | tup {a : Addr} {xs : List V} {ds : List PyData} : FzT K fz H a xs → RepA K fz H xs ds → Rep K fz H (.ref a) (.tuple ds)
  | dic {a : Addr} {kvs : List (Key × V)} {ds : List (PyData × PyData)} : fz a → H a = some (.dK kvs) → RepK K fz H kvs ds → Rep K fz H (.ref a) (.dict ds)
inductive RepA (K : PySem.W.Frag) (fz : Addr → Prop) (H : Hp) : List V → List PyData → Prop
  | nil : RepA K fz H [] []
  | cons {v : V} {vs : List V} {d : PyData} {ds : List PyData} : Rep K fz H v d → RepA K fz H vs ds → RepA K fz H (v :: vs) (d :: ds)
inductive RepK (K : PySem.W.Frag) (fz : Addr → Prop) (H : Hp) : List (Key × V) → List (PyData × PyData) → Prop
  | nil : RepK K fz H [] []
  | cons {k : Key} {v : V} {kvs : List (Key × V)} {d : PyData} {ds : List (PyData × PyData)} : Rep K fz H v d → RepK K fz H kvs ds → RepK K fz H ((k, v) :: kvs) ((keyD k, d) :: ds)
end

/-- the frozen part stays -/
structure Ext (fz : Addr → Prop) (H : Hp) (fz' : Addr → Prop) (H' : Hp) : Prop where
  mono : ∀ a, fz a → fz' a
  keep : ∀ a, fz a → H' a = H a
theorem Rd.ext {H H' : Hp} {a : Addr} {u : HO} (h : Rd H a u) (e : H' a = H a) : Rd H' a u := by
  unfold Rd; rw [e]; exact h
section
variable {K : PySem.W.Frag} {fz fz' : Addr → Prop} {H H' : Hp}
theorem FzL.ext {a : Addr} {xs : List V} (E : Ext fz H fz' H') (h : FzL K fz H a xs) : FzL K fz' H' a xs := h.imp (fun z => ⟨E.mono _ z.1, Rd.ext z.2 (E.keep _ z.1)⟩) id
mutual
theorem Rep.ext (E : Ext fz H fz' H') : ∀ {v : V} {d : PyData}, Rep K fz H v d → Rep K fz' H' v d
  | _, _, .non => .non
  | _, _, .bl b => .bl b
  | _, _, .int i => .int i
  | _, _, .str x => .str x
  | _, _, .lst h e r => .lst (E.mono _ h) ((E.keep _ h).trans e) (RepA.ext E r)
  | _, _, .tup h r => .tup (h.imp (fun z => ⟨E.mono _ z.1, Rd.ext z.2 (E.keep _ z.1)⟩) id) (RepA.ext E r)
  | _, _, .dic h e r => .dic (E.mono _ h) ((E.keep _ h).trans e) (RepK.ext E r)
theorem RepA.ext (E : Ext fz H fz' H') : ∀ {v : List V} {d : List PyData}, RepA K fz H v d → RepA K fz' H' v d
  | _, _, .nil => .nil
  | _, _, .cons h r => .cons (Rep.ext E h) (RepA.ext E r)
theorem RepK.ext (E : Ext fz H fz' H') : ∀ {v : List (Key × V)} {d : List (PyData × PyData)}, RepK K fz H v d → RepK K fz' H' v d
  | _, _, .nil => .nil
  | _, _, .cons h r => .cons (Rep.ext E h) (RepK.ext E r)
end
theorem RepA.length : ∀ {v : List V} {d : List PyData}, RepA K fz H v d → v.length = d.length
  | _, _, .nil => rfl
  | _, _, .cons _ r => by simp [RepA.length r]
theorem RepA.get : ∀ {v : List V} {d : List PyData} {i : Nat} {x : PyData}, RepA K fz H v d → d[i]? = some x → ∃ y, v[i]? = some y ∧ Rep K fz H y x
  | _, _, _, _, .nil, e => by simp at e
  | _, _, 0, _, .cons h _, e => by simp at e; subst e; exact ⟨_, rfl, h⟩
  | _, _, i + 1, _, .cons _ r, e => by
    obtain ⟨y, h1, h2⟩ := RepA.get (i := i) r (by simpa using e)
    exact ⟨y, by simpa using h1, h2⟩
theorem RepA.getV : ∀ {v : List V} {d : List PyData} {i : Nat} {y : V}, RepA K fz H v d → v[i]? = some y → ∃ x, d[i]? = some x ∧ Rep K fz H y x
  | _, _, _, _, .nil, e => by simp at e
  | _, _, 0, _, .cons h _, e => by simp at e; subst e; exact ⟨_, rfl, h⟩
  | _, _, i + 1, _, .cons _ r, e => by
    obtain ⟨y, h1, h2⟩ := RepA.getV (i := i) r (by simpa using e)
    exact ⟨y, by simpa using h1, h2⟩
theorem RepA.append : ∀ {v v' : List V} {d d' : List PyData}, RepA K fz H v d → RepA K fz H v' d' → RepA K fz H (v ++ v') (d ++ d')
  | _, _, _, _, .nil, s => s
  | _, _, _, _, .cons h r, s => .cons h (RepA.append r s)
theorem RepA.take : ∀ {v : List V} {d : List PyData} (n : Nat), RepA K fz H v d → RepA K fz H (v.take n) (d.take n)
  | _, _, 0, _ => .nil
  | _, _, _ + 1, .nil => .nil
  | _, _, n + 1, .cons h r => .cons h (RepA.take n r)
theorem RepA.drop : ∀ {v : List V} {d : List PyData} (n : Nat), RepA K fz H v d → RepA K fz H (v.drop n) (d.drop n)
  | _, _, 0, r => r
  | _, _, _ + 1, .nil => .nil
  | _, _, n + 1, .cons h r => RepA.drop n r
theorem RepA.dropLast : ∀ {v : List V} {d : List PyData}, RepA K fz H v d → RepA K fz H v.dropLast d.dropLast := fun {v d} h => by
  rw [List.dropLast_eq_take, List.dropLast_eq_take, h.length]; exact h.take _
theorem RepA.set : ∀ {v : List V} {d : List PyData} (n : Nat) {x : V} {y : PyData}, RepA K fz H v d → Rep K fz H x y → RepA K fz H (v.set n x) (d.set n y)
  | _, _, _, _, _, .nil, _ => .nil
  | _, _, 0, _, _, .cons _ r, h => .cons h r
  | _, _, n + 1, _, _, .cons g r, h => .cons g (RepA.set n r h)
theorem RepA.reverse : ∀ {v : List V} {d : List PyData}, RepA K fz H v d → RepA K fz H v.reverse d.reverse
  | _, _, .nil => .nil
  | _, _, .cons h r => by simp only [List.reverse_cons]; exact (RepA.reverse r).append (.cons h .nil)
theorem RepA.ints : ∀ {v : List V} {ns : List Int}, RepA K fz H v (ns.map PyData.int) → v = ns.map V.int
  | _, [], h => by cases h; rfl
  | _, n :: ns, h => by
    cases h with
    | cons h r => cases h; rw [RepA.ints r]; rfl
theorem RepA.bls : ∀ {v : List V} {ns : List Bool}, RepA K fz H v (ns.map PyData.bool) → v = ns.map V.bl
  | _, [], h => by cases h; rfl
  | _, n :: ns, h => by
    cases h with
    | cons h r => cases h; rw [RepA.bls r]; rfl
theorem RepA.of_ints : ∀ (ns : List Int), RepA K fz H (ns.map V.int) (ns.map PyData.int)
  | [] => .nil
  | n :: ns => .cons (.int n) (RepA.of_ints ns)
mutual
theorem Rep.dp : ∀ {v : V} {d : PyData}, Rep K fz H v d → d.canLay0 = true → Dp K H v d
  | _, _, .non, _ => .non
  | _, _, .bl b, _ => .bl b
  | _, _, .int i, _ => .int i
  | _, _, .str x, _ => .str x
  | _, _, .lst h e r, s => .lst (SqL.of e) (RepA.dp r (by simpa [PyData.canLay0] using s))
  | _, _, .tup h r, s => .tup h.sq (RepA.dp r (by simpa [PyData.canLay0] using s))
  | _, _, .dic h e r, s => by simp [PyData.canLay0] at s
theorem RepA.dp : ∀ {v : List V} {d : List PyData}, RepA K fz H v d → PyData.canLayAll0 d = true → DpAll K H v d
  | _, _, .nil, _ => .nil
  | _, _, .cons h r, s => by
    have s' := s
    simp only [PyData.canLayAll0, Bool.and_eq_true] at s'
    exact .cons (Rep.dp h s'.1) (RepA.dp r s'.2)
end
end

/-! ### what a def alone holds -/
def OwnC (K : PySem.W.Frag) (fz : Addr → Prop) (H : Hp) (a : Addr) : PyData → Prop
  | .list ds => ∃ vs, H a = some (.lst vs) ∧ RepA K fz H vs ds
  | .dict ds => ∃ kvs, H a = some (.dK kvs) ∧ RepK K fz H kvs ds
  | _ => False
theorem OwnC.some {K : PySem.W.Frag} {fz : Addr → Prop} {H : Hp} {a : Addr} {d : PyData} (h : OwnC K fz H a d) : H a ≠ none := by
  cases d <;> first | exact h.elim | (obtain ⟨_, e, _⟩ := h; rw [e]; simp)
theorem OwnC.ext {K : PySem.W.Frag} {fz fz' : Addr → Prop} {H H' : Hp} {a : Addr} {d : PyData} (h : OwnC K fz H a d) (E : Ext fz H fz' H') (e : H' a = H a) : OwnC K fz' H' a d := by
  cases d <;> first | exact h.elim | (obtain ⟨x, e', r⟩ := h; exact ⟨x, e.trans e', r.ext E⟩)
/-- it freezes -/
theorem OwnC.frz {K : PySem.W.Frag} {fz : Addr → Prop} {H : Hp} {a : Addr} {d : PyData} (h : OwnC K fz H a d) : Rep K (fun b => fz b ∨ b = a) H (.ref a) d := by
  have E : Ext fz H (fun b => fz b ∨ b = a) H := ⟨fun _ z => .inl z, fun _ _ => rfl⟩
  cases d with
  | list ds => obtain ⟨vs, e, r⟩ := h; exact .lst (.inr rfl) e (r.ext E)
  | dict ds => obtain ⟨vs, e, r⟩ := h; exact .dic (.inr rfl) e (r.ext E)
  | _ => exact h.elim

def SlR (K : PySem.W.Frag) (pr fz : Addr → Prop) (H : Hp) (o : Option V) : Sl → Prop
  | .emp => True
  | .val d => ∃ v, o = some v ∧ Rep K fz H v d
  | .own d => ∃ a, o = some (.ref a) ∧ ¬ fz a ∧ ¬ pr a ∧ OwnC K fz H a d
  | .scr ns => ∃ a, o = some (.ref a) ∧ FzL K fz H a (ns.map V.int)

structure Rel (K : PySem.W.Frag) (pp : List (Nat × Addr)) (pr fz : Addr → Prop) (σ : L2.St) (H : Hp) (ρ : Env) : Prop where
  len : σ.length = ρ.length
  at_ : ∀ (i : Nat) (s : Sl), ρ[i]? = some s → SlR K pr fz H (σ[i]?.join) s
  sep : ∀ (i j : Nat) (a : Addr) (x y : PyData), ρ[i]? = some (.own x) → ρ[j]? = some (.own y) → σ[i]? = some (some (V.ref a)) → σ[j]? = some (some (V.ref a)) → i = j
  fzH : ∀ a, fz a → H a ≠ none
  prH : ∀ a, pr a → H a ≠ none
  pin : ∀ p ∈ pp, ∃ x, ρ[p.1]? = some (.own x) ∧ σ[p.1]? = some (some (V.ref p.2))

structure Fr (pr fz : Addr → Prop) (H : Hp) (fz' : Addr → Prop) (H' : Hp) : Prop where
  mono : ∀ a, fz a → fz' a
  keep : ∀ a, fz a → H' a = H a
  keepP : ∀ a, pr a → H' a = H a
  new : ∀ a, pr a → fz' a → fz a
theorem Fr.refl {pr fz : Addr → Prop} {H : Hp} : Fr pr fz H fz H := ⟨fun _ h => h, fun _ _ => rfl, fun _ _ => rfl, fun _ _ h => h⟩
theorem Fr.trans {pr fz fz1 fz2 : Addr → Prop} {H H1 H2 : Hp} (a : Fr pr fz H fz1 H1) (b : Fr pr fz1 H1 fz2 H2) : Fr pr fz H fz2 H2 :=
  ⟨fun x h => b.mono x (a.mono x h), fun x h => (b.keep x (a.mono x h)).trans (a.keep x h), fun x h => (b.keepP x h).trans (a.keepP x h), fun x h z => a.new x h (b.new x h z)⟩
theorem Fr.ext {pr fz fz' : Addr → Prop} {H H' : Hp} (a : Fr pr fz H fz' H') : Ext fz H fz' H' := ⟨a.mono, a.keep⟩

theorem join_some {o : Option (Option V)} {v : V} : o.join = some v ↔ o = some (some v) := by
  cases o with
  | none => simp
  | some x => simp

section
variable {K : PySem.W.Frag} {pp : List (Nat × Addr)} {pr fz fz' : Addr → Prop} {σ : L2.St} {H H' : Hp} {ρ : Env}

/-- new objects alone -/
structure Alc (fz : Addr → Prop) (H : Hp) (fz' : Addr → Prop) (H' : Hp) : Prop where
  keep : ∀ a, H a ≠ none → H' a = H a
  mono : ∀ a, fz a → fz' a
  new : ∀ a, fz' a → fz a ∨ H a = none
  some : ∀ a, fz' a → fz a ∨ H' a ≠ none
theorem Alc.refl : Alc fz H fz H := ⟨fun _ _ => rfl, fun _ h => h, fun _ h => .inl h, fun _ h => .inl h⟩
theorem Alc.one {p : Addr} {o : HO} (h : H p = none) : Alc fz H (fun b => fz b ∨ b = p) (upd H p o) :=
  ⟨fun a e => upd_ne (fun z => e (by rw [z]; exact h)), fun _ h => .inl h, fun a z => z.imp id (fun e => by rw [e]; exact h), fun a z => z.imp id (fun e => by rw [e, upd_same]; simp)⟩
theorem Alc.own {p : Addr} {o : HO} (h : H p = none) : Alc fz H fz (upd H p o) :=
  ⟨fun a e => upd_ne (fun z => e (by rw [z]; exact h)), fun _ h => h, fun a z => .inl z, fun a z => .inl z⟩
theorem Alc.fr (A : Alc fz H fz' H') (R : Rel K pp pr fz σ H ρ) : Fr pr fz H fz' H' :=
  ⟨A.mono, fun a h => A.keep a (R.fzH a h), fun a h => A.keep a (R.prH a h), fun a h z => (A.new a z).elim id fun e => absurd e (R.prH a h)⟩
theorem Alc.ext (A : Alc fz H fz' H') (h : ∀ a, fz a → H a ≠ none) : Ext fz H fz' H' := ⟨A.mono, fun a z => A.keep a (h a z)⟩
theorem Rel.own_ne (R : Rel K pp pr fz σ H ρ) {i : Nat} {x : PyData} (e : ρ[i]? = some (.own x)) : ∃ a, σ[i]? = some (some (V.ref a)) ∧ ¬ fz a ∧ ¬ pr a ∧ OwnC K fz H a x := by
  obtain ⟨a, h, r⟩ := R.at_ i _ e
  exact ⟨a, join_some.mp h, r⟩
theorem Alc.rel (A : Alc fz H fz' H') (R : Rel K pp pr fz σ H ρ) : Rel K pp pr fz' σ H' ρ := by
  have E := A.ext R.fzH
  refine ⟨R.len, fun i s e => ?_, R.sep, fun a h => ?_, fun a h => by rw [A.keep a (R.prH a h)]; exact R.prH a h, R.pin⟩
  · have q := R.at_ i s e
    cases s with
    | emp => trivial
    | val d => obtain ⟨v, h, r⟩ := q; exact ⟨v, h, r.ext E⟩
    | scr ns => obtain ⟨v, h, r⟩ := q; exact ⟨v, h, r.ext E⟩
    | own d =>
      obtain ⟨a, h, n, np, r⟩ := q
      refine ⟨a, h, fun z => ?_, np, r.ext E (A.keep a r.some)⟩
      rcases A.new a z with z | z
      · exact n z
      · exact r.some z
  · rcases A.some a h with z | z
    · rw [A.keep a (R.fzH a z)]; exact R.fzH a z
    · exact z
/-- an owned object that no slot holds freezes -/
theorem frz_free {a : Addr} (R : Rel K pp pr fz σ H ρ) (ha : H a ≠ none) (hp : ¬ pr a) (hs : ∀ (i : Nat) (x : PyData), ρ[i]? = some (.own x) → σ[i]? ≠ some (some (V.ref a))) :
    Fr pr fz H (fun b => fz b ∨ b = a) H ∧ Rel K pp pr (fun b => fz b ∨ b = a) σ H ρ := by
  have E : Ext fz H (fun b => fz b ∨ b = a) H := ⟨fun _ z => .inl z, fun _ _ => rfl⟩
  refine ⟨⟨fun _ z => .inl z, fun _ _ => rfl, fun _ _ => rfl, fun b h z => z.elim id fun e => absurd (e ▸ h) hp⟩, R.len, fun i s e => ?_, R.sep, fun b h => h.elim (R.fzH b) fun e => by rw [e]; exact ha, R.prH, R.pin⟩
  have q := R.at_ i s e
  cases s with
  | emp => trivial
  | val d => obtain ⟨v, h, r⟩ := q; exact ⟨v, h, r.ext E⟩
  | scr ns => obtain ⟨v, h, r⟩ := q; exact ⟨v, h, r.ext E⟩
  | own d =>
    obtain ⟨b, h, n, np, r⟩ := q
    refine ⟨b, h, fun z => ?_, np, r.ext E rfl⟩
    rcases z with z | z
    · exact n z
    · subst z; exact hs i d e (join_some.mp h)
/-- a slot is set to a value -/
theorem Rel.setV {i : Nat} {v : V} {d : PyData} (R : Rel K pp pr fz σ H ρ) (r : Rep K fz H v d) (hi : i ∉ pp.map (·.1)) : Rel K pp pr fz (σ.set i (some v)) H (ρ.set i (.val d)) := by
  have ne : ∀ (j : Nat) (x : PyData), (ρ.set i (.val d))[j]? = some (Sl.own x) → ρ[j]? = some (.own x) ∧ j ≠ i := fun j x e => by
    by_cases h : j = i
    · subst h
      rw [List.getElem?_set] at e
      simp at e
    · rw [List.getElem?_set_ne (Ne.symm h)] at e
      exact ⟨e, h⟩
  refine ⟨by simpa using R.len, fun j s e => ?_, fun j k a x y e1 e2 s1 s2 => ?_, R.fzH, R.prH, fun p hp => ?_⟩
  · by_cases h : j = i
    · subst h
      have hl : j < ρ.length := by
        have := (List.getElem?_eq_some_iff.mp e).1
        simpa using this
      rw [List.getElem?_set_self hl] at e
      cases e
      exact ⟨v, by rw [List.getElem?_set_self (by rw [R.len]; exact hl)]; rfl, r⟩
    · rw [List.getElem?_set_ne (Ne.symm h)] at e ⊢
      exact R.at_ j s e
  · obtain ⟨e1, n1⟩ := ne j x e1
    obtain ⟨e2, n2⟩ := ne k y e2
    rw [List.getElem?_set_ne (Ne.symm n1)] at s1
    rw [List.getElem?_set_ne (Ne.symm n2)] at s2
    exact R.sep j k a x y e1 e2 s1 s2
  · have h : p.1 ≠ i := fun z => hi (z ▸ List.mem_map_of_mem hp)
    rw [List.getElem?_set_ne (Ne.symm h), List.getElem?_set_ne (Ne.symm h)]
    exact R.pin p hp
/-- a slot is set to an object that no slot holds -/
theorem Rel.setO {i : Nat} {a : Addr} {d : PyData} (R : Rel K pp pr fz σ H ρ) (hf : ¬ fz a) (hp : ¬ pr a) (r : OwnC K fz H a d) (hs : ∀ (i : Nat) (x : PyData), ρ[i]? = some (.own x) → σ[i]? ≠ some (some (V.ref a))) (hi : i ∉ pp.map (·.1)) :
    Rel K pp pr fz (σ.set i (some (.ref a))) H (ρ.set i (.own d)) := by
  have ne : ∀ (j : Nat) (x : PyData), j ≠ i → (ρ.set i (.own d))[j]? = some (Sl.own x) → ρ[j]? = some (.own x) := fun j x h e => by
    rw [List.getElem?_set_ne (Ne.symm h)] at e
    exact e
  refine ⟨by simpa using R.len, fun j s e => ?_, fun j k b x y e1 e2 s1 s2 => ?_, R.fzH, R.prH, fun p hp' => ?_⟩
  · by_cases h : j = i
    · subst h
      have hl : j < ρ.length := by
        have := (List.getElem?_eq_some_iff.mp e).1
        simpa using this
      rw [List.getElem?_set_self hl] at e
      cases e
      exact ⟨a, by rw [List.getElem?_set_self (by rw [R.len]; exact hl)]; rfl, hf, hp, r⟩
    · rw [List.getElem?_set_ne (Ne.symm h)] at e ⊢
      exact R.at_ j s e
  · by_cases h1 : j = i
    · by_cases h2 : k = i
      · rw [h1, h2]
      · have q := ne k y h2 e2
        rw [List.getElem?_set_ne (Ne.symm h2)] at s2
        subst h1
        have hl : j < σ.length := by
          have := (List.getElem?_eq_some_iff.mp s1).1
          simpa using this
        rw [List.getElem?_set_self hl] at s1
        cases s1
        exact absurd s2 (hs k y q)
    · have q := ne j x h1 e1
      rw [List.getElem?_set_ne (Ne.symm h1)] at s1
      by_cases h2 : k = i
      · subst h2
        have hl : k < σ.length := by
          have := (List.getElem?_eq_some_iff.mp s2).1
          simpa using this
        rw [List.getElem?_set_self hl] at s2
        cases s2
        exact absurd s1 (hs j x q)
      · have q2 := ne k y h2 e2
        rw [List.getElem?_set_ne (Ne.symm h2)] at s2
        exact R.sep j k b x y q q2 s1 s2
  · have h : p.1 ≠ i := fun z => hi (z ▸ List.mem_map_of_mem hp')
    rw [List.getElem?_set_ne (Ne.symm h), List.getElem?_set_ne (Ne.symm h)]
    exact R.pin p hp'
/-- the object in slot i is changed -/
theorem Rel.wr {i : Nat} {a : Addr} {d d' : PyData} {o : HO} (R : Rel K pp pr fz σ H ρ) (hr : ρ[i]? = some (.own d)) (hs : σ[i]? = some (some (V.ref a))) (r : OwnC K fz (upd H a o) a d') :
    Fr pr fz H fz (upd H a o) ∧ Rel K pp pr fz σ (upd H a o) (ρ.set i (.own d')) := by
  obtain ⟨a', h', nf, np, rc⟩ := R.own_ne hr
  obtain rfl : a' = a := by rw [hs] at h'; cases h'; rfl
  have kf : ∀ b, fz b → upd H a' o b = H b := fun b z => upd_ne fun q => nf (q ▸ z)
  have kp : ∀ b, pr b → upd H a' o b = H b := fun b z => upd_ne fun q => np (q ▸ z)
  have E : Ext fz H fz (upd H a' o) := ⟨fun _ z => z, kf⟩
  have hl : i < ρ.length := (List.getElem?_eq_some_iff.mp hr).1
  refine ⟨⟨fun _ z => z, kf, kp, fun _ _ z => z⟩, by simpa using R.len, fun j s e => ?_, fun j k b x y e1 e2 => ?_, fun b z => by rw [kf b z]; exact R.fzH b z, fun b z => by rw [kp b z]; exact R.prH b z, fun p hp => ?_⟩
  · by_cases h : j = i
    · subst h
      rw [List.getElem?_set_self hl] at e
      cases e
      exact ⟨a', join_some.mpr hs, nf, np, r⟩
    · rw [List.getElem?_set_ne (Ne.symm h)] at e
      have q := R.at_ j s e
      cases s with
      | emp => trivial
      | val x => obtain ⟨v, h1, h2⟩ := q; exact ⟨v, h1, h2.ext E⟩
      | scr ns => obtain ⟨v, h, r⟩ := q; exact ⟨v, h, r.ext E⟩
      | own x =>
        obtain ⟨b, h1, n, np', r'⟩ := q
        refine ⟨b, h1, n, np', r'.ext E (upd_ne fun z => h (R.sep j i a' x d e hr ?_ hs))⟩
        rw [z] at h1
        exact join_some.mp h1
  · have back : ∀ (j : Nat) (x : PyData), (ρ.set i (.own d'))[j]? = some (Sl.own x) → ∃ x', ρ[j]? = some (.own x') := fun j x e => by
      by_cases h : j = i
      · exact ⟨d, h ▸ hr⟩
      · rw [List.getElem?_set_ne (Ne.symm h)] at e
        exact ⟨x, e⟩
    obtain ⟨x', e1⟩ := back j x e1
    obtain ⟨y', e2⟩ := back k y e2
    exact R.sep j k b x' y' e1 e2
  · obtain ⟨x, e, s⟩ := R.pin p hp
    by_cases h : p.1 = i
    · exact ⟨d', by rw [h, List.getElem?_set_self hl], s⟩
    · exact ⟨x, by rw [List.getElem?_set_ne (Ne.symm h)]; exact e, s⟩
/-- the object in slot i freezes -/
theorem Rel.frz {i : Nat} {d : PyData} (R : Rel K pp pr fz σ H ρ) (hr : ρ[i]? = some (.own d)) (hi : i ∉ pp.map (·.1)) : ∃ a, σ[i]? = some (some (V.ref a)) ∧ Fr pr fz H (fun b => fz b ∨ b = a) H ∧ Rel K pp pr (fun b => fz b ∨ b = a) σ H (ρ.set i (.val d)) ∧ Rep K (fun b => fz b ∨ b = a) H (.ref a) d := by
  obtain ⟨a, hs, nf, np, rc⟩ := R.own_ne hr
  have hl : i < ρ.length := (List.getElem?_eq_some_iff.mp hr).1
  -- first the slot is emptied
  have R0 : Rel K pp pr fz σ H (ρ.set i .emp) := by
    have back : ∀ (j : Nat) (x : PyData), (ρ.set i .emp)[j]? = some (Sl.own x) → ρ[j]? = some (.own x) := fun j x e => by
      by_cases h : j = i
      · subst h
        rw [List.getElem?_set_self hl] at e
        cases e
      · rw [List.getElem?_set_ne (Ne.symm h)] at e
        exact e
    refine ⟨by simpa using R.len, fun j s e => ?_, fun j k b x y e1 e2 => R.sep j k b x y (back j x e1) (back k y e2), R.fzH, R.prH, fun p hp => ?_⟩
    · by_cases h : j = i
      · subst h
        rw [List.getElem?_set_self hl] at e
        cases e
        trivial
      · rw [List.getElem?_set_ne (Ne.symm h)] at e
        exact R.at_ j s e
    · have h : p.1 ≠ i := fun z => hi (z ▸ List.mem_map_of_mem hp)
      rw [List.getElem?_set_ne (Ne.symm h)]
      exact R.pin p hp
  have ns : ∀ (j : Nat) (x : PyData), (ρ.set i .emp)[j]? = some (Sl.own x) → σ[j]? ≠ some (some (V.ref a)) := fun j x e z => by
    by_cases h : j = i
    · subst h
      rw [List.getElem?_set_self hl] at e
      cases e
    · rw [List.getElem?_set_ne (Ne.symm h)] at e
      exact h (R.sep j i a x d e hr z hs)
  obtain ⟨F, R1⟩ := frz_free R0 rc.some np ns
  have rep := rc.frz
  refine ⟨a, hs, F, ?_, rep⟩
  have R2 := R1.setV (i := i) rep hi
  have e1 : σ.set i (some (V.ref a)) = σ := by
    apply List.ext_getElem?
    intro j
    by_cases h : j = i
    · subst h
      rw [List.getElem?_set_self (by rw [R.len]; exact hl)]
      exact hs.symm
    · rw [List.getElem?_set_ne (Ne.symm h)]
  rw [e1, List.set_set] at R2
  exact R2
end
end PL

/-! PL2: what a reading refines (Rf); names, constants, operators, built-ins of one and two arguments. -/
namespace PL
open PySem PySem.Spec L2
open PyProof.Rows hiding St

abbrev RXT := (Addr → Prop) → Hp → Value → Option Addr → PExc → Prop
structure Cw where
  K : PySem.W.Frag
  RX : RXT
  W : WX
  ps : List Nat
/-- how a value is borne: protected, slots, frozen, heap, pure slots -/
abbrev RT (α β : Type) := (Addr → Prop) → L2.St → (Addr → Prop) → Hp → Env → β → α → Prop
def RV (K : PySem.W.Frag) : RT PyData V := fun _ _ fz H _ v d => Rep K fz H v d
def RVs (K : PySem.W.Frag) : RT (List PyData) (List V) := fun _ _ fz H _ v d => RepA K fz H v d
def RB : RT Bool Bool := fun _ _ _ _ _ b c => b = c
def RO (K : PySem.W.Frag) : RT PyData V := fun pr σ fz H ρ v d => ∃ a, v = .ref a ∧ ¬ fz a ∧ ¬ pr a ∧ (∀ (i : Nat) (x : PyData), ρ[i]? = some (.own x) → σ[i]? ≠ some (some (V.ref a))) ∧ OwnC K fz H a d
def PostG {α β : Type} (c : Cw) (pp : List (Nat × Addr)) (pr : Addr → Prop) (σ : L2.St) (R : RT α β) (fz : Addr → Prop) (H : Hp) (o : Out α) (Q : β → Hp → Prop) : Prop :=
  match o with
  | .ok a ρ => ∀ (b : β) (fz' : Addr → Prop) (H' : Hp), Fr pr fz H fz' H' → Rel c.K pp pr fz' σ H' ρ → R pr σ fz' H' ρ b a → Q b H'
  | .exc e ρ => ∀ (cls : Value) (dx : Option Addr) (fz' : Addr → Prop) (H' : Hp), Fr pr fz H fz' H' → Rel c.K pp pr fz' σ H' ρ → c.RX fz' H' cls dx e → c.W cls dx σ H'
  | .bad => False
def Rf {α β : Type} (c : Cw) (R : RT α β) (t : L2.St → Hp → (β → Hp → Prop) → Prop) (m : M α) : Prop :=
  ∀ (pp : List (Nat × Addr)) (pr fz : Addr → Prop) (σ : L2.St) (H : Hp) (ρ : Env) (Q : β → Hp → Prop), pp.map (·.1) = c.ps → Rel c.K pp pr fz σ H ρ → PostG c pp pr σ R fz H (m ρ) Q → t σ H Q
def bnd {α β : Type} (m : M α) (f : α → M β) : M β := fun ρ => match m ρ with
  | .ok a r => f a r
  | .exc e r => .exc e r
  | .bad => .bad
def lft {α : Type} (o : Option α) : M α := fun ρ => match o with
  | some a => .ok a ρ
  | none => .bad
section
variable {α β γ δ : Type} {c : Cw} {pp : List (Nat × Addr)} {pr fz : Addr → Prop} {σ : L2.St} {H : Hp} {ρ : Env}
theorem PostG.rest {R : RT α β} {fz1 : Addr → Prop} {H1 : Hp} {o : Out α} {Q : β → Hp → Prop} (F : Fr pr fz H fz1 H1) (h : PostG c pp pr σ R fz H o Q) : PostG c pp pr σ R fz1 H1 o Q := by
  cases o with
  | ok a r => exact fun b fz' H' F' => h b fz' H' (F.trans F')
  | exc e r => exact fun cls dx fz' H' F' => h cls dx fz' H' (F.trans F')
  | bad => exact h
theorem PostG.bnd {R1 : RT α β} {R2 : RT γ δ} {m : M α} {f : α → M γ} {Q : δ → Hp → Prop} {Q1 : β → Hp → Prop} (h : PostG c pp pr σ R2 fz H (bnd m f ρ) Q)
    (k : ∀ (b : β) (a : α) (fz1 : Addr → Prop) (H1 : Hp) (ρ1 : Env), Fr pr fz H fz1 H1 → Rel c.K pp pr fz1 σ H1 ρ1 → R1 pr σ fz1 H1 ρ1 b a → PostG c pp pr σ R2 fz1 H1 (f a ρ1) Q → Q1 b H1) : PostG c pp pr σ R1 fz H (m ρ) Q1 := by
  unfold PL.bnd at h
  cases e : m ρ with
  | ok a r =>
    rw [e] at h
    exact fun b fz1 H1 F R q => k b a fz1 H1 r F R q (h.rest F)
  | exc x r => rw [e] at h; exact h
  | bad => rw [e] at h; exact h.elim
theorem PostG.imp {R : RT α β} {o : Out α} {Q Q' : β → Hp → Prop} (h : PostG c pp pr σ R fz H o Q) (k : ∀ b H', Q b H' → Q' b H') : PostG c pp pr σ R fz H o Q' := by
  cases o with
  | ok a r => exact fun b fz' H' F' R' q => k _ _ (h b fz' H' F' R' q)
  | exc e r => exact h
  | bad => exact h
/-- an own result freezes -/
theorem Rf.frz {t : TE} {m : M PyData} (h : Rf c (RO c.K) t m) : Rf c (RV c.K) t m := by
  intro pp pr fz σ H ρ Q hp R hq
  refine h pp pr fz σ H ρ Q hp R ?_
  cases e : m ρ with
  | ok d r =>
    rw [e] at hq
    rintro v fz' H' F R' ⟨a, rfl, nf, np, ns, oc⟩
    obtain ⟨F2, R2⟩ := frz_free R' oc.some np ns
    exact hq (.ref a) _ H' (F.trans F2) R2 oc.frz
  | exc x r => rw [e] at hq; exact hq
  | bad => rw [e] at hq; exact hq
end

/-! ### names, constants -/
def mcon (d : PyData) : M PyData := fun ρ => .ok d ρ
def mvar (i : Nat) : M PyData := fun ρ => match ρ[i]? with
  | some (.val d) => .ok d ρ
  | some (.own d) => .ok d (ρ.set i (.val d))
  | _ => .bad
def peek (i : Nat) (ρ : Env) : Option PyData := match ρ[i]? with
  | some (.val d) => some d
  | some (.own d) => some d
  | _ => none
def RepP (K : PySem.W.Frag) (fz : Addr → Prop) (H : Hp) (v : V) (d : PyData) : Prop := Rep K fz H v d ∨ ∃ a, v = .ref a ∧ ¬ fz a ∧ OwnC K fz H a d
section
variable {c : Cw} {pp : List (Nat × Addr)} {pr fz : Addr → Prop} {σ : L2.St} {H : Hp} {ρ : Env}
theorem rf_con {v : V} {d : PyData} (h : ∀ fz H, Rep c.K fz H v d) : Rf c (RV c.K) (tC v) (mcon d) := fun pp pr fz σ H ρ Q hp R hq => hq v fz H Fr.refl R (h fz H)
theorem rf_var {i : Nat} (hi : i ∉ c.ps) : Rf c (RV c.K) (tVar i) (mvar i) := by
  intro pp pr fz σ H ρ Q hp R hq
  unfold mvar at hq
  cases e : ρ[i]? with
  | none => rw [e] at hq; exact hq.elim
  | some s =>
    rw [e] at hq
    cases s with
    | emp => exact hq.elim
    | scr ns => exact hq.elim
    | val d =>
      obtain ⟨v, h, r⟩ := R.at_ i _ e
      exact ⟨v, join_some.mp h, hq v fz H Fr.refl R r⟩
    | own d =>
      obtain ⟨a, hs, F, R', r⟩ := R.frz e (by rw [hp]; exact hi)
      exact ⟨_, hs, hq _ _ _ F R' r⟩
theorem Rel.peek {i : Nat} {d : PyData} (R : Rel c.K pp pr fz σ H ρ) (e : peek i ρ = some d) : ∃ v, σ[i]? = some (some v) ∧ RepP c.K fz H v d := by
  unfold PL.peek at e
  cases e1 : ρ[i]? with
  | none => rw [e1] at e; cases e
  | some s =>
    rw [e1] at e
    have q := R.at_ i _ e1
    cases s with
    | emp => cases e
    | scr ns => cases e
    | val x =>
      cases e
      obtain ⟨v, h, r⟩ := q
      exact ⟨v, join_some.mp h, .inl r⟩
    | own x =>
      cases e
      obtain ⟨a, h, nf, np, r⟩ := q
      exact ⟨_, join_some.mp h, .inr ⟨a, rfl, nf, r⟩⟩
theorem Rep.p {K : PySem.W.Frag} {v : V} {d : PyData} (h : Rep K fz H v d) : RepP K fz H v d := .inl h
theorem RepP.lst {K : PySem.W.Frag} {v : V} {ds : List PyData} (h : RepP K fz H v (.list ds)) : ∃ a vs, v = .ref a ∧ H a = some (.lst vs) ∧ RepA K fz H vs ds := by
  rcases h with h | ⟨a, rfl, _, vs, e, r⟩
  · cases h with
    | lst h e r => exact ⟨_, _, rfl, e, r⟩
  · exact ⟨a, vs, rfl, e, r⟩
theorem RepP.tup {K : PySem.W.Frag} {v : V} {ds : List PyData} (h : RepP K fz H v (.tuple ds)) : ∃ a vs, v = .ref a ∧ SqT K H a vs ∧ RepA K fz H vs ds ∧ Rep K fz H v (.tuple ds) := by
  rcases h with h | ⟨a, rfl, _, z⟩
  · have h' := h
    cases h with
    | tup h r => exact ⟨_, _, rfl, h.sq, r, h'⟩
  · exact z.elim
theorem RepP.int {K : PySem.W.Frag} {v : V} {i : Int} (h : RepP K fz H v (.int i)) : v = .int i := by
  rcases h with h | ⟨a, rfl, _, z⟩
  · cases h; rfl
  · exact z.elim
theorem RepP.str {K : PySem.W.Frag} {v : V} {i : Str} (h : RepP K fz H v (.str i)) : v = .str i := by
  rcases h with h | ⟨a, rfl, _, z⟩
  · cases h; rfl
  · exact z.elim
theorem RepP.bl {K : PySem.W.Frag} {v : V} {i : Bool} (h : RepP K fz H v (.bool i)) : v = .bl i := by
  rcases h with h | ⟨a, rfl, _, z⟩
  · cases h; rfl
  · exact z.elim
theorem RepP.non {K : PySem.W.Frag} {v : V} (h : RepP K fz H v .none) : v = .non := by
  rcases h with h | ⟨a, rfl, _, z⟩
  · cases h; rfl
  · exact z.elim
theorem OwnC.dp {K : PySem.W.Frag} {a : Addr} {d : PyData} (h : OwnC K fz H a d) (s : d.canLay0 = true) : Dp K H (.ref a) d := by
  cases d with
  | list ds => obtain ⟨vs, e, r⟩ := h; exact .lst (SqL.of e) (r.dp (by simpa [PyData.canLay0] using s))
  | dict ds => simp [PyData.canLay0] at s
  | _ => exact h.elim
theorem RepP.dp {K : PySem.W.Frag} {v : V} {d : PyData} (h : RepP K fz H v d) (s : d.canLay0 = true) : Dp K H v d := by
  rcases h with h | ⟨a, rfl, _, z⟩
  · exact h.dp s
  · exact z.dp s

/-! ### operators -/
/-- an operator by values, whose result is a value -/
def OpF (K : PySem.W.Frag) (r : R2) (f : PyData → PyData → Option PyData) : Prop :=
  ∀ (fz : Addr → Prop) (H : Hp) (v w : V) (x y z : PyData), RepP K fz H v x → RepP K fz H w y → f x y = some z → ∀ Q : VK, (∀ u fz' H', Alc fz H fz' H' → ((∀ a, fz a → H a ≠ none) → Rep K fz' H' u z) → Q u H') → r v w H Q
def op2 (f : PyData → PyData → Option PyData) (a b : M PyData) : M PyData := bnd a fun x => bnd b fun y => lft (f x y)
/-- the left a name -/
def op2l (f : PyData → PyData → Option PyData) (i : Nat) (b : M PyData) : M PyData := fun ρ => match peek i ρ with
  | none => .bad
  | some _ => bnd b (fun y ρ' => match peek i ρ' with
    | none => .bad
    | some x => lft (f x y) ρ') ρ
/-- the right a name -/
def op2r (f : PyData → PyData → Option PyData) (a : M PyData) (j : Nat) : M PyData := bnd a fun x ρ' => match peek j ρ' with
  | none => .bad
  | some y => lft (f x y) ρ'
def op2b (f : PyData → PyData → Option PyData) (i j : Nat) : M PyData := fun ρ => match peek i ρ, peek j ρ with
  | some x, some y => lft (f x y) ρ
  | _, _ => .bad
theorem lft_post {Q : VK} {o : Option PyData} {t : VK → Prop} (R : Rel c.K pp pr fz σ H ρ) (h : PostG c pp pr σ (RV c.K) fz H (lft o ρ) Q)
    (k : ∀ z, o = some z → (∀ u fz' H', Alc fz H fz' H' → ((∀ a, fz a → H a ≠ none) → Rep c.K fz' H' u z) → Q u H') → t Q) : t Q := by
  cases o with
  | none => exact h.elim
  | some z => exact k z rfl fun u fz' H' A r => h u fz' H' (A.fr R) (A.rel R) (r R.fzH)
variable {r : R2} {f : PyData → PyData → Option PyData} {ta tb : TE} {ma mb : M PyData}
theorem rf_op2 (ho : OpF c.K r f) (ha : Rf c (RV c.K) ta ma) (hb : Rf c (RV c.K) tb mb) : Rf c (RV c.K) (tOp r ta tb) (op2 f ma mb) := by
  intro pp pr fz σ H ρ Q hp R hq
  refine ha pp pr fz σ H ρ _ hp R (hq.bnd fun v x fz1 H1 ρ1 F1 R1 r1 P1 => ?_)
  refine hb pp pr fz1 σ H1 ρ1 _ hp R1 (P1.bnd fun w y fz2 H2 ρ2 F2 R2 r2 P2 => ?_)
  exact lft_post (t := r v w H2) R2 P2 fun z e k => ho fz2 H2 v w x y z (.inl (Rep.ext F2.ext r1)) (.inl r2) e Q k
theorem rf_op2l {i : Nat} (ho : OpF c.K r f) (hb : Rf c (RV c.K) tb mb) : Rf c (RV c.K) (tOp r (tVar i) tb) (op2l f i mb) := by
  intro pp pr fz σ H ρ Q hp R hq
  unfold op2l at hq
  cases e : peek i ρ with
  | none => rw [e] at hq; exact hq.elim
  | some x0 =>
    rw [e] at hq
    obtain ⟨v, hv, _⟩ := R.peek e
    refine ⟨v, hv, ?_⟩
    refine hb pp pr fz σ H ρ _ hp R (hq.bnd fun w y fz1 H1 ρ1 F1 R1 r1 P1 => ?_)
    cases e1 : peek i ρ1 with
    | none => simp only [e1] at P1; exact P1.elim
    | some x =>
      simp only [e1] at P1
      obtain ⟨v', hv', rv⟩ := R1.peek e1
      rw [hv] at hv'
      cases hv'
      exact lft_post (t := r v w H1) R1 P1 fun z e k => ho fz1 H1 v w x y z rv (.inl r1) e Q k
theorem rf_op2r {j : Nat} (ho : OpF c.K r f) (ha : Rf c (RV c.K) ta ma) : Rf c (RV c.K) (tOp r ta (tVar j)) (op2r f ma j) := by
  intro pp pr fz σ H ρ Q hp R hq
  refine ha pp pr fz σ H ρ _ hp R (hq.bnd fun v x fz1 H1 ρ1 F1 R1 r1 P1 => ?_)
  cases e1 : peek j ρ1 with
  | none => simp only [e1] at P1; exact P1.elim
  | some y =>
    simp only [e1] at P1
    obtain ⟨w, hw, rw'⟩ := R1.peek e1
    refine ⟨w, hw, ?_⟩
    exact lft_post (t := r v w H1) R1 P1 fun z e k => ho fz1 H1 v w x y z (.inl r1) rw' e Q k
theorem rf_op2b {i j : Nat} (ho : OpF c.K r f) : Rf c (RV c.K) (tOp r (tVar i) (tVar j)) (op2b f i j) := by
  intro pp pr fz σ H ρ Q hp R hq
  unfold op2b at hq
  cases e : peek i ρ with
  | none => rw [e] at hq; exact hq.elim
  | some x =>
    cases e1 : peek j ρ with
    | none => rw [e, e1] at hq; exact hq.elim
    | some y =>
      simp only [e, e1] at hq
      obtain ⟨v, hv, rv⟩ := R.peek e
      obtain ⟨w, hw, rw'⟩ := R.peek e1
      refine ⟨v, hv, w, hw, ?_⟩
      exact lft_post (t := r v w H) R hq fun z e k => ho fz H v w x y z rv rw' e Q k
end
end PL

/-! PL3: the operators and built-ins by pure values. -/
namespace PL
open PySem PySem.Spec L2
open PyProof.Rows hiding St

/-! ### numbers, texts, tuples, lists -/
def lenOk (n : Nat) : Bool := decide (n ≤ 16777216)
theorem lenOk_iff {n : Nat} : lenOk n = true ↔ n ≤ sizeLine := by rw [sizeLine_eq]; simp [lenOk]
def add? : PyData → PyData → Option PyData
  | .int i, .int j => some (.int (i + j))
  | .str x, .str y => if lenOk (x.length + y.length) = true then some (.str (x ++ y)) else none
  | .tuple x, .tuple y => if lenOk (x.length + y.length) = true then some (.tuple (x ++ y)) else none
  | .list x, .list y => if lenOk (x.length + y.length) = true then some (.list (x ++ y)) else none
  | _, _ => none
def sub? : PyData → PyData → Option PyData
  | .int i, .int j => some (.int (i - j))
  | _, _ => none
def mulOk (i j : Int) : Bool := decide (i.natAbs < 2 ^ 64) || decide (j.natAbs < 2 ^ 64) || decide (i.natAbs.log2 + j.natAbs.log2 < 1000000)
def repOk (n : Nat) (k : Int) : Bool := decide (-(2 ^ 63) ≤ k) && decide (k < 2 ^ 63) && lenOk (n * k.toNat)
/-- a text times a number -/
def strRep (x : Str) (k : Int) : Str := if k < 1 then Str.empty else if (k == 1 || x.length == 0) = true then x else ⟨(List.replicate k.toNat x.cps).foldl (· ++ ·) #[]⟩
def mul? : PyData → PyData → Option PyData
  | .int i, .int j => if mulOk i j = true then some (.int (i * j)) else none
  | .list x, .int k => if repOk x.length k = true then some (.list (List.replicate k.toNat x).flatten) else none
  | .str x, .int k => if repOk x.length k = true then some (.str (strRep x k)) else none
  | _, _ => none
def fdiv? : PyData → PyData → Option PyData
  | .int i, .int j => if (decide (0 < j) && decide (j.natAbs.log2 < 9000)) = true then some (.int (i / j)) else none
  | _, _ => none
def mod? : PyData → PyData → Option PyData
  | .int i, .int j => if decide (0 < j) = true then some (.int (i % j)) else none
  | _, _ => none
def powOk (i j : Int) : Bool := decide (0 ≤ j) && decide ((Builtin.Int.intBits i : Int) * j ≤ 2 ^ 27)
def pow? : PyData → PyData → Option PyData
  | .int i, .int j => if powOk i j = true then some (.int (i ^ j.toNat)) else none
  | _, _ => none
def neg? : PyData → Option PyData
  | .int i => some (.int (-i))
  | _ => none
def cmpI? (p : Int → Int → Bool) : PyData → PyData → Option PyData
  | .int i, .int j => some (.bool (p i j))
  | _, _ => none
abbrev lt? := cmpI? fun i j => decide (i < j)
abbrev le? := cmpI? fun i j => decide (i ≤ j)
abbrev gt? := cmpI? fun i j => decide (j < i)
abbrev ge? := cmpI? fun i j => decide (j ≤ i)
def strD : PyData → Bool
  | .str _ => true
  | _ => false
def cmpOk (x y : PyData) : Bool := (strD x && strD y) || (SeqAt.shaped x && SeqAt.shaped y)
def eq? (x y : PyData) : Option PyData := if cmpOk x y = true then some (.bool (PyData.eqv x y)) else none
def ne? (x y : PyData) : Option PyData := if cmpOk x y = true then some (.bool (!PyData.eqv x y)) else none
def isNb : PyData → Bool
  | .none => true
  | _ => false
def isN? (x y : PyData) : Option PyData := match y with
  | .none => some (.bool (isNb x))
  | _ => none
def notN? (x y : PyData) : Option PyData := match y with
  | .none => some (.bool (!isNb x))
  | _ => none
def flatD : PyData → Bool
  | .none => true
  | .bool _ => true
  | .int _ => true
  | .str _ => true
  | _ => false
def in? (x y : PyData) : Option PyData := match y with
  | .list ds => if (flatD x && ds.all flatD) = true then some (.bool (ds.any fun z => PyData.eqv z x)) else if (SeqAt.shaped x && SeqAt.shaped (.list ds)) = true then some (.bool (ds.any fun z => PyData.eqv z x)) else none
  | .tuple ds => if (flatD x && ds.all flatD) = true then some (.bool (ds.any fun z => PyData.eqv z x)) else none
  | _ => none
def notB? (o : Option PyData) : Option PyData := match o with
  | some (.bool b) => some (.bool (!b))
  | _ => none
def notIn? (x y : PyData) : Option PyData := notB? (in? x y)
/-- an item -/
def item? (x i : PyData) : Option PyData := match x, i with
  | .list ds, .int k => atI ds k
  | .tuple ds, .int k => atI ds k
  | .str z, .int k => if lenOk z.length = true then (atI z.cps.toList k).map fun c => .str ⟨#[c]⟩ else none
  | _, _ => none
/-- a slice by ones -/
def cut {α : Type} (xs : List α) (lo hi : Option Int) : List α := (xs.drop (HT.sIx xs.length 0 lo)).take (HT.sIx xs.length xs.length hi - HT.sIx xs.length 0 lo)
def slice? (x : PyData) (lo hi : Option Int) : Option PyData := match x with
  | .list ds => some (.list (cut ds lo hi))
  | .tuple ds => some (.tuple (cut ds lo hi))
  | .str z => if lenOk z.length = true then some (.str (cutS z lo hi)) else none
  | _ => none
/-- truth -/
def truth? : PyData → Option Bool
  | .none => some false
  | .bool b => some b
  | .int i => some (i != 0)
  | .str x => if lenOk x.length = true then some ((x.length : Int) != 0) else none
  | .list ds => some (!ds.isEmpty)
  | .tuple ds => some (!ds.isEmpty)
  | .dict ds => some (!ds.isEmpty)
def asB? : PyData → Option Bool
  | .bool b => some b
  | _ => none
def ints? : List PyData → Option (List Int)
  | [] => some []
  | .int i :: r => (ints? r).map (i :: ·)
  | _ => none
def bools? : List PyData → Option (List Bool)
  | [] => some []
  | .bool i :: r => (bools? r).map (i :: ·)
  | _ => none
theorem ints_of : ∀ {ds : List PyData} {ns : List Int}, ints? ds = some ns → ds = ns.map PyData.int
  | [], ns, h => by cases h; rfl
  | d :: r, ns, h => by
    cases d with
    | int i =>
      simp only [ints?] at h
      cases e : ints? r with
      | none => rw [e] at h; cases h
      | some ms => rw [e] at h; cases h; rw [ints_of e]; rfl
    | _ => simp [ints?] at h
theorem bools_of : ∀ {ds : List PyData} {ns : List Bool}, bools? ds = some ns → ds = ns.map PyData.bool
  | [], ns, h => by cases h; rfl
  | d :: r, ns, h => by
    cases d with
    | bool i =>
      simp only [bools?] at h
      cases e : bools? r with
      | none => rw [e] at h; cases h
      | some ms => rw [e] at h; cases h; rw [bools_of e]; rfl
    | _ => simp [bools?] at h
theorem ints_map (ns : List Int) : ints? (ns.map PyData.int) = some ns := by
  induction ns with
  | nil => rfl
  | cons n r ih => simp [ints?, ih]
theorem bools_map (ns : List Bool) : bools? (ns.map PyData.bool) = some ns := by
  induction ns with
  | nil => rfl
  | cons n r ih => simp [bools?, ih]
def maxL : List Int → Int
  | [] => 0
  | [a] => a
  | a :: b :: r => max a (maxL (b :: r))
def minL : List Int → Int
  | [] => 0
  | [a] => a
  | a :: b :: r => min a (minL (b :: r))
theorem maxL_spec : ∀ (ns : List Int), ns ≠ [] → maxL ns ∈ ns ∧ ∀ y ∈ ns, y ≤ maxL ns
  | [], h => absurd rfl h
  | [a], _ => by simp [maxL]
  | a :: b :: r, _ => by
    obtain ⟨h1, h2⟩ := maxL_spec (b :: r) (by simp)
    simp only [maxL]
    refine ⟨?_, fun y hy => ?_⟩
    · rcases Int.le_total a (maxL (b :: r)) with h | h
      · rw [Int.max_eq_right h]; exact List.mem_cons_of_mem _ h1
      · rw [Int.max_eq_left h]; exact List.mem_cons_self
    · rcases List.mem_cons.mp hy with e | e
      · rw [e]; exact Int.le_max_left _ _
      · exact Int.le_trans (h2 y e) (Int.le_max_right _ _)
theorem minL_spec : ∀ (ns : List Int), ns ≠ [] → minL ns ∈ ns ∧ ∀ y ∈ ns, minL ns ≤ y
  | [], h => absurd rfl h
  | [a], _ => by simp [minL]
  | a :: b :: r, _ => by
    obtain ⟨h1, h2⟩ := minL_spec (b :: r) (by simp)
    simp only [minL]
    refine ⟨?_, fun y hy => ?_⟩
    · rcases Int.le_total a (minL (b :: r)) with h | h
      · rw [Int.min_eq_left h]; exact List.mem_cons_self
      · rw [Int.min_eq_right h]; exact List.mem_cons_of_mem _ h1
    · rcases List.mem_cons.mp hy with e | e
      · rw [e]; exact Int.min_le_left _ _
      · exact Int.le_trans (Int.min_le_right _ _) (h2 y e)

section
variable {K : PySem.W.Frag} {fz : Addr → Prop} {H : Hp}
theorem Alc.same {Q : VK} {u : V} {z : PyData} (r : Rep K fz H u z) (q : ∀ u fz' H', Alc fz H fz' H' → ((∀ a, fz a → H a ≠ none) → Rep K fz' H' u z) → Q u H') : Q u H := q u fz H Alc.refl fun _ => r
theorem alc_tup {Q : VK} {vs : List V} {ds : List PyData} (r : RepA K fz H vs ds) (q : ∀ u fz' H', Alc fz H fz' H' → ((∀ a, fz a → H a ≠ none) → Rep K fz' H' u (.tuple ds)) → Q u H') : ∀ p, H p = none → Q (.ref p) (upd H p (.tup vs)) := fun p hp =>
  q _ _ _ (Alc.one hp) fun hf => .tup (.inl ⟨.inr rfl, .inl upd_same⟩) (r.ext ((Alc.one hp).ext hf))
theorem alc_lst {Q : VK} {vs : List V} {ds : List PyData} (r : RepA K fz H vs ds) (q : ∀ u fz' H', Alc fz H fz' H' → ((∀ a, fz a → H a ≠ none) → Rep K fz' H' u (.list ds)) → Q u H') : ∀ p, H p = none → Q (.ref p) (upd H p (.lst vs)) := fun p hp =>
  q _ _ _ (Alc.one hp) fun hf => .lst (.inr rfl) upd_same (r.ext ((Alc.one hp).ext hf))

def rAdd (K : PySem.W.Frag) : R2 := fun x y H Q => rI0 (fun i j => .int (i + j)) x y H Q ∨ (∃ i j, x = .str i ∧ y = .str j ∧ i.length + j.length ≤ sizeLine ∧ Q (.str (i ++ j)) H) ∨ rCatA K x y H Q ∨ rCat x y H Q
theorem opr_add {X : Cx} : OpR X (binaryOp .Add) (rAdd X.K) := op_add.or (op_add_str.or (op_catA.or op_cat))
theorem RepA.nil_iff {vs : List V} {ds : List PyData} (r : RepA K fz H vs ds) : vs = [] ↔ ds = [] := by
  cases r with
  | nil => simp
  | cons _ _ => simp
theorem of_add : OpF K (rAdd K) add? := by
  intro fz H v w x y z hv hw e Q q
  unfold add? at e
  split at e
  · cases e; rw [hv.int, hw.int]; exact .inl ⟨_, _, rfl, rfl, Alc.same (.int _) q⟩
  · split at e
    · rename_i h
      cases e
      rw [hv.str, hw.str]; exact .inr (.inl ⟨_, _, rfl, rfl, lenOk_iff.mp h, Alc.same (.str _) q⟩)
    · cases e
  · split at e
    · rename_i h
      cases e
      obtain ⟨a, vs, rfl, sa, ra, ra'⟩ := hv.tup
      obtain ⟨b, ws, rfl, sb, rb, rb'⟩ := hw.tup
      refine .inr (.inr (.inl ⟨a, b, vs, ws, rfl, rfl, sa, sb, ?_, fun z => ?_, fun _ z => ?_, fun _ _ => alc_tup (ra.append rb) q⟩))
      · rw [ra.length, rb.length]; exact lenOk_iff.mp h
      · rw [ra.nil_iff] at z
        subst z
        exact Alc.same rb' q
      · rw [rb.nil_iff] at z
        subst z
        rw [List.append_nil] at q
        exact Alc.same ra' q
    · cases e
  · split at e
    · rename_i h
      cases e
      obtain ⟨a, vs, rfl, sa, ra⟩ := hv.lst
      obtain ⟨b, ws, rfl, sb, rb⟩ := hw.lst
      refine .inr (.inr (.inr ⟨a, b, vs, ws, rfl, rfl, sa, sb, ?_, alc_lst (ra.append rb) q⟩))
      rw [ra.length, rb.length]; exact lenOk_iff.mp h
    · cases e
  · cases e
def rSub : R2 := rI0 fun i j => .int (i - j)
theorem of_sub : OpF K rSub sub? := by
  intro fz H v w x y z hv hw e Q q
  unfold sub? at e
  split at e
  · cases e; rw [hv.int, hw.int]; exact ⟨_, _, rfl, rfl, Alc.same (.int _) q⟩
  · cases e
def rRepS : R2 := fun x y H Q => ∃ a k, x = .str a ∧ y = .int k ∧ repOk a.length k = true ∧ Q (.str (strRep a k)) H
def rMul : R2 := fun x y H Q => rI (fun i j => mulOk i j = true) (fun i j => .int (i * j)) x y H Q ∨ rRep x y H Q ∨ rRepS x y H Q
theorem foldl_app_size {α : Type} (a : Array α) : ∀ (n : Nat) (z : Array α), ((List.replicate n a).foldl (· ++ ·) z).size = z.size + n * a.size
  | 0, z => by simp
  | n + 1, z => by
    rw [List.replicate_succ, List.foldl_cons, foldl_app_size a n, Array.size_append, Nat.succ_mul]
    omega
theorem op_repS {X : Cx} : OpR X (binaryOp .Mult) rRepS := by
  intro pins s σ H x y v u Q I rx ry h
  obtain ⟨a, k, rfl, rfl, hk, q⟩ := h
  obtain ⟨t, rfl⟩ := rx
  obtain ⟨t', rfl⟩ := ry
  unfold repOk at hk
  simp only [Bool.and_eq_true, decide_eq_true_eq] at hk
  obtain ⟨⟨h1, h2⟩, h3⟩ := hk
  have h4 : a.length * k.toNat ≤ sizeLine := lenOk_iff.mp h3
  have big : (sizeLine : Nat) ≤ 16777216 := by decide
  have e1 : (decide (k < -(2 ^ 63 : Int)) || decide (k ≥ 2 ^ 63)) = false := by
    rw [decide_eq_false (by omega), decide_eq_false (by omega)]; rfl
  have tl : Builtin.Str.tooLong (a.length * k.toNat) = false := by
    unfold Builtin.Str.tooLong
    exact decide_eq_false (by omega)
  refine PySem.P.mul_str e1 (fun n1 n2 z => ?_) (fun _ _ => tl) ?_
  · have hkp : 0 < k := by omega
    have z1 : (2 ^ 63 - 1) / k < (a.length : Int) := z
    have z2 : (2 ^ 63 - 1 : Int) < (a.length : Int) * k := by
      have := Int.lt_mul_of_ediv_lt hkp z1
      exact this
    have z3 : ((a.length * k.toNat : Nat) : Int) = (a.length : Int) * k := by
      rw [Int.natCast_mul, Int.toNat_of_nonneg (Int.le_of_lt hkp)]
    omega
  · unfold strRep at q
    split
    · rename_i h; rw [if_pos h] at q; exact ⟨by decide, ⟨.str _, H, I.tok _, ⟨_, rfl⟩, q⟩⟩
    · rename_i h
      rw [if_neg h] at q
      split
      · rename_i h'; rw [if_pos h'] at q; exact ⟨.str _, H, I, ⟨_, rfl⟩, q⟩
      · rename_i h'
        rw [if_neg h'] at q
        refine ⟨?_, ⟨.str _, H, I.tok _, ⟨_, rfl⟩, q⟩⟩
        show ((List.replicate k.toNat a.cps).foldl (· ++ ·) #[]).size ≤ sizeLine
        rw [foldl_app_size, Nat.mul_comm]
        show 0 + a.length * k.toNat ≤ sizeLine
        rw [Nat.zero_add]
        exact h4
theorem mulOk_ok {i j : Int} (h : mulOk i j = true) : IntMulOk i j := by
  unfold mulOk at h
  simp only [Bool.or_eq_true, decide_eq_true_eq] at h
  rcases h with (h | h) | h
  · exact CMul.ok (.inl ⟨by omega, by omega⟩)
  · exact CMul.ok (.inr ⟨by omega, by omega⟩)
  · exact CMulW.ok h
theorem opr_mul {X : Cx} : OpR X (binaryOp .Mult) rMul := (opI fun _ _ _ _ _ _ _ hc q => mul_int q (mulOk_ok hc)).or (op_rep.or op_repS)
theorem RepA.rep {vs : List V} {ds : List PyData} (r : RepA K fz H vs ds) : ∀ k : Nat, RepA K fz H (List.replicate k vs).flatten (List.replicate k ds).flatten
  | 0 => .nil
  | k + 1 => by
    rw [List.replicate_succ, List.replicate_succ, List.flatten_cons, List.flatten_cons]
    exact r.append (RepA.rep r k)
theorem of_mul : OpF K rMul mul? := by
  intro fz H v w x y z hv hw e Q q
  unfold mul? at e
  split at e
  · split at e
    · rename_i h
      cases e; rw [hv.int, hw.int]; exact .inl ⟨_, _, rfl, rfl, h, Alc.same (.int _) q⟩
    · cases e
  · split at e
    · rename_i h
      cases e
      obtain ⟨a, vs, rfl, sa, ra⟩ := hv.lst
      unfold repOk at h
      simp only [Bool.and_eq_true, decide_eq_true_eq] at h
      rw [hw.int]
      exact .inr (.inl ⟨a, _, vs, rfl, rfl, sa, h.1.1, h.1.2, by rw [ra.length]; exact lenOk_iff.mp h.2, alc_lst (ra.rep _) q⟩)
    · cases e
  · split at e
    · rename_i h
      cases e
      rw [hv.str, hw.int]
      exact .inr (.inr ⟨_, _, rfl, rfl, h, Alc.same (.str _) q⟩)
    · cases e
  · cases e
def rFdiv : R2 := rI CDivW fun i j => .int (i / j)
theorem of_fdiv : OpF K rFdiv fdiv? := by
  intro fz H v w x y z hv hw e Q q
  unfold fdiv? at e
  split at e
  · split at e
    · rename_i h
      simp only [Bool.and_eq_true, decide_eq_true_eq] at h
      cases e; rw [hv.int, hw.int]; exact ⟨_, _, rfl, rfl, h, Alc.same (.int _) q⟩
    · cases e
  · cases e
def rMod : R2 := rI (fun _ j => 0 < j) fun i j => .int (i % j)
theorem of_mod : OpF K rMod mod? := by
  intro fz H v w x y z hv hw e Q q
  unfold mod? at e
  split at e
  · split at e
    · rename_i h
      simp only [decide_eq_true_eq] at h
      cases e; rw [hv.int, hw.int]; exact ⟨_, _, rfl, rfl, h, Alc.same (.int _) q⟩
    · cases e
  · cases e
def rPow : R2 := rI (fun i j => powOk i j = true) fun i j => .int (i ^ j.toNat)
theorem opr_pow {X : Cx} : OpR X (binaryOp .Pow) rPow := opI fun i j _ _ _ _ _ hc q => by
  unfold powOk at hc
  simp only [Bool.and_eq_true, decide_eq_true_eq] at hc
  exact pow_int hc.1 hc.2 q
theorem of_pow : OpF K rPow pow? := by
  intro fz H v w x y z hv hw e Q q
  unfold pow? at e
  split at e
  · split at e
    · rename_i h
      cases e; rw [hv.int, hw.int]; exact ⟨_, _, rfl, rfl, h, Alc.same (.int _) q⟩
    · cases e
  · cases e
theorem of_cmpI (p : Int → Int → Bool) : OpF K (rI0 fun i j => .bl (p i j)) (cmpI? p) := by
  intro fz H v w x y z hv hw e Q q
  unfold cmpI? at e
  split at e
  · cases e; rw [hv.int, hw.int]; exact ⟨_, _, rfl, rfl, Alc.same (.bl _) q⟩
  · cases e
theorem strD_eq {x : PyData} (h : strD x = true) : ∃ a, x = .str a := by
  cases x <;> first | (cases h; done) | exact ⟨_, rfl⟩
theorem dec_strV {a b : Str} : decide (V.str a = V.str b) = PyData.eqv (.str a) (.str b) := by
  rw [dec_str]; simp [PyData.eqv]
def rEqA (K : PySem.W.Frag) : R2 := fun x y H Q => rEq x y H Q ∨ rEqD K x y H Q
def rNeA (K : PySem.W.Frag) : R2 := fun x y H Q => rNe x y H Q ∨ rNeD K x y H Q
theorem opr_eq {X : Cx} (hu : X.A.units + 64 < cLine) : OpR X (compareOp .Eq) (rEqA X.K) := op_eq.or (op_eqD hu)
theorem opr_ne {X : Cx} (hu : X.A.units + 64 < cLine) : OpR X (compareOp .NotEq) (rNeA X.K) := op_ne.or (op_neD hu)
theorem of_eq : OpF K (rEqA K) eq? := by
  intro fz H v w x y z hv hw e Q q
  unfold eq? at e
  split at e
  · rename_i h
    cases e
    simp only [cmpOk, Bool.or_eq_true, Bool.and_eq_true] at h
    rcases h with h | h
    · obtain ⟨a, rfl⟩ := strD_eq h.1
      obtain ⟨b, rfl⟩ := strD_eq h.2
      rw [hv.str, hw.str]
      refine .inl ⟨rfl, ?_⟩
      rw [dec_strV]
      exact Alc.same (.bl _) q
    · exact .inr ⟨x, y, hv.dp (SeqAt.canLay_of_shaped h.1), hw.dp (SeqAt.canLay_of_shaped h.2), h.1, h.2, Alc.same (.bl _) q⟩
  · cases e
theorem of_ne : OpF K (rNeA K) ne? := by
  intro fz H v w x y z hv hw e Q q
  unfold ne? at e
  split at e
  · rename_i h
    cases e
    simp only [cmpOk, Bool.or_eq_true, Bool.and_eq_true] at h
    rcases h with h | h
    · obtain ⟨a, rfl⟩ := strD_eq h.1
      obtain ⟨b, rfl⟩ := strD_eq h.2
      rw [hv.str, hw.str]
      refine .inl ⟨rfl, ?_⟩
      rw [dec_strV]
      exact Alc.same (.bl _) q
    · exact .inr ⟨x, y, hv.dp (SeqAt.canLay_of_shaped h.1), hw.dp (SeqAt.canLay_of_shaped h.2), h.1, h.2, Alc.same (.bl _) q⟩
  · cases e
theorem RepP.isNon {v : V} {x : PyData} (h : RepP K fz H v x) : decide (v = .non) = isNb x := by
  rcases h with h | ⟨a, rfl, _, z⟩
  · cases h <;> simp [isNb]
  · cases x <;> first | exact z.elim | simp [isNb]
def rIsN : R2 := fun x y H Q => y = .non ∧ Q (.bl (decide (x = .non))) H
def rNotN : R2 := fun x y H Q => y = .non ∧ Q (.bl (!decide (x = .non))) H
theorem of_isN : OpF K rIsN isN? := by
  intro fz H v w x y z hv hw e Q q
  unfold isN? at e
  split at e
  · cases e
    refine ⟨hw.non, ?_⟩
    rw [hv.isNon]
    exact Alc.same (.bl _) q
  · cases e
theorem of_notN : OpF K rNotN notN? := by
  intro fz H v w x y z hv hw e Q q
  unfold notN? at e
  split at e
  · cases e
    refine ⟨hw.non, ?_⟩
    rw [hv.isNon]
    exact Alc.same (.bl _) q
  · cases e
theorem RepP.flat {v : V} {x : PyData} (h : RepP K fz H v x) (f : flatD x = true) : Rep K fz H v x ∧ flatV v = true := by
  rcases h with h | ⟨a, rfl, _, z⟩
  · refine ⟨h, ?_⟩
    cases h <;> first | rfl | cases f
  · cases x <;> first | exact z.elim | cases f
theorem eqV_eqv {v w : V} {x y : PyData} (h : Rep K fz H v x) (h' : Rep K fz H w y) (f : flatD x = true) (g : flatD y = true) : eqV v w = PyData.eqv x y := by
  cases h <;> first | (cases f; done) | (cases h' <;> first | (cases g; done) | simp [eqV, PyData.eqv])
theorem any_eqV {w : V} {y : PyData} (h' : Rep K fz H w y) (g : flatD y = true) : ∀ {vs : List V} {ds : List PyData}, RepA K fz H vs ds → ds.all flatD = true → vs.all flatV = true ∧ inV w vs = ds.any fun z => PyData.eqv z y
  | _, _, .nil, _ => ⟨rfl, rfl⟩
  | _, _, .cons h r, f => by
    rw [List.all_cons, Bool.and_eq_true] at f
    obtain ⟨h1, h2⟩ := any_eqV h' g r f.2
    refine ⟨by rw [List.all_cons, (RepP.flat (.inl h) f.1).2, h1]; rfl, ?_⟩
    unfold inV at h2 ⊢
    rw [List.any_cons, List.any_cons, h2, eqV_eqv h h' f.1 g]
def rInA (K : PySem.W.Frag) : R2 := fun x y H Q => rIn K false x y H Q ∨ rInD K x y H Q
def rNotInA (K : PySem.W.Frag) : R2 := fun x y H Q => rIn K true x y H Q ∨ rNotInD K x y H Q
theorem opr_in {X : Cx} (hu : X.A.units + 65 < cLine) : OpR X (compareOp .In) (rInA X.K) := op_in_seq.or (op_inD hu)
theorem opr_notIn {X : Cx} (hu : X.A.units + 65 < cLine) : OpR X (compareOp .NotIn) (rNotInA X.K) := op_notIn_seq.or (op_notInD hu)
theorem in_both {v w : V} {x y z : PyData} (hv : RepP K fz H v x) (hw : RepP K fz H w y) (e : in? x y = some z) : ∃ b, z = .bool b ∧
    ∀ Q : VK, Q (.bl b) H → rInA K v w H Q := by
  unfold in? at e
  split at e
  · split at e
    · rename_i h
      cases e
      rw [Bool.and_eq_true] at h
      obtain ⟨a, vs, rfl, sa, ra⟩ := hw.lst
      obtain ⟨rx, fx⟩ := hv.flat h.1
      obtain ⟨h1, h2⟩ := any_eqV rx h.1 ra h.2
      refine ⟨_, rfl, fun Q q => .inl ⟨a, vs, rfl, .inl (SqL.of sa), fx, h1, ?_⟩⟩
      rw [h2]; exact q
    · split at e
      · rename_i h
        cases e
        rw [Bool.and_eq_true] at h
        exact ⟨_, rfl, fun Q q => .inr ⟨x, _, hv.dp (SeqAt.canLay_of_shaped h.1), hw.dp (SeqAt.canLay_of_shaped h.2), h.1, h.2, q⟩⟩
      · cases e
  · split at e
    · rename_i h
      cases e
      rw [Bool.and_eq_true] at h
      obtain ⟨a, vs, rfl, sa, ra, _⟩ := hw.tup
      obtain ⟨rx, fx⟩ := hv.flat h.1
      obtain ⟨h1, h2⟩ := any_eqV rx h.1 ra h.2
      refine ⟨_, rfl, fun Q q => .inl ⟨a, vs, rfl, .inr sa, fx, h1, ?_⟩⟩
      rw [h2]; exact q
    · cases e
  · cases e
theorem of_in : OpF K (rInA K) in? := by
  intro fz H v w x y z hv hw e Q q
  obtain ⟨b, rfl, h⟩ := in_both hv hw e
  exact h Q (Alc.same (.bl _) q)
theorem of_notIn : OpF K (rNotInA K) notIn? := by
  intro fz H v w x y z hv hw e Q q
  unfold notIn? notB? at e
  split at e
  · rename_i b h
    cases e
    obtain ⟨b', e', h⟩ := in_both hv hw h
    cases e'
    rcases h (fun u H' => u = .bl b ∧ H' = H) ⟨rfl, rfl⟩ with ⟨p, xs, h1, h2, h3, h4, h5⟩ | ⟨d, ds, h1, h2, h3, h4, h5⟩
    · refine .inl ⟨p, xs, h1, h2, h3, h4, ?_⟩
      have e5 : inV v xs = b := by have := h5.1; simp at this; exact this
      rw [if_pos rfl, e5]
      exact Alc.same (.bl _) q
    · refine .inr ⟨d, ds, h1, h2, h3, h4, ?_⟩
      have e5 : (ds.any fun z => PyData.eqv z d) = b := by have := h5.1; simp only [V.bl.injEq] at this; exact this
      rw [e5]
      exact Alc.same (.bl _) q
  · cases e
theorem RepA.atI {vs : List V} {ds : List PyData} {k : Int} {z : PyData} (r : RepA K fz H vs ds) (e : atI ds k = some z) : ∃ v, atI vs k = some v ∧ Rep K fz H v z := by
  unfold L2.atI at e ⊢
  rw [r.length]
  cases h : ixN ds.length k with
  | none => rw [h] at e; cases e
  | some j =>
    rw [h] at e
    exact r.get e
theorem of_item : OpF K (rIx K) item? := by
  intro fz H v w x y z hv hw e Q q
  unfold item? at e
  split at e
  · obtain ⟨a, vs, rfl, sa, ra⟩ := hv.lst
    obtain ⟨u, h, ru⟩ := ra.atI e
    rw [hw.int]
    exact .inl ⟨a, vs, _, u, rfl, rfl, SqL.of sa, h, Alc.same ru q⟩
  · obtain ⟨a, vs, rfl, sa, ra, _⟩ := hv.tup
    obtain ⟨u, h, ru⟩ := ra.atI e
    rw [hw.int]
    exact .inr (.inl ⟨a, vs, _, u, rfl, rfl, sa, h, Alc.same ru q⟩)
  · split at e
    · rename_i zz k h
      cases e1 : L2.atI zz.cps.toList k with
      | none => rw [e1] at e; cases e
      | some c =>
        rw [e1] at e
        cases e
        rw [hw.int, hv.str]
        exact .inr (.inr ⟨zz, k, c, rfl, rfl, lenOk_iff.mp h, e1, Alc.same (.str _) q⟩)
    · cases e
  · cases e
theorem RepA.cut {vs : List V} {ds : List PyData} (r : RepA K fz H vs ds) (lo hi : Option Int) : RepA K fz H (cutV vs lo hi) (cut ds lo hi) := by
  unfold cutV PL.cut
  rw [r.length]
  exact (r.drop _).take _
def rSl (K : PySem.W.Frag) : V → Option Int → Option Int → Hp → VK → Prop := fun x lo hi H Q => rSlL K x lo hi H Q ∨ rSlA K x lo hi H Q ∨ rSlS x lo hi H Q
theorem slr_any {X : Cx} : L2.SlR X (rSl X.K) := sl_list.or (sl_tupA.or sl_str)
theorem of_slice {v : V} {x z : PyData} {lo hi : Option Int} (hv : RepP K fz H v x) (e : slice? x lo hi = some z) (Q : VK) (q : ∀ u fz' H', Alc fz H fz' H' → ((∀ a, fz a → H a ≠ none) → Rep K fz' H' u z) → Q u H') : rSl K v lo hi H Q := by
  unfold slice? at e
  split at e
  · cases e
    obtain ⟨a, vs, rfl, sa, ra⟩ := hv.lst
    exact .inl ⟨a, vs, rfl, SqL.of sa, alc_lst (ra.cut lo hi) q⟩
  · cases e
    obtain ⟨a, vs, rfl, sa, ra, ra'⟩ := hv.tup
    refine .inr (.inl ⟨a, vs, rfl, sa, fun h => ?_, fun h => alc_tup (ra.cut lo hi) q⟩)
    rename_i ds
    have ec : PL.cut ds lo hi = ds := by
      unfold PL.cut
      rw [← ra.length, h.1, h.2, ra.length]
      simp
    rw [ec] at q
    exact Alc.same ra' q
  · split at e
    · rename_i h
      cases e
      rw [hv.str]
      exact .inr (.inr ⟨_, rfl, lenOk_iff.mp h, Alc.same (.str _) q⟩)
    · cases e
  · cases e
theorem RepP.tru {v : V} {x : PyData} {b : Bool} (h : RepP K fz H v x) (e : truth? x = some b) : TruV K v H b := by
  have emp : ∀ {vs : List V} {ds : List PyData}, RepA K fz H vs ds → (!vs.isEmpty) = !ds.isEmpty := fun r => by cases r <;> rfl
  have empK : ∀ {vs : List (Key × V)} {ds : List (PyData × PyData)}, RepK K fz H vs ds → (!vs.isEmpty) = !ds.isEmpty := fun r => by cases r <;> rfl
  cases x with
  | none => cases e; rw [h.non]; exact rfl
  | bool k => cases e; rw [h.bl]; exact rfl
  | int i => cases e; rw [h.int]; exact rfl
  | str y =>
    simp only [truth?] at e
    split at e
    · rename_i hl
      cases e
      rw [h.str]; exact ⟨lenOk_iff.mp hl, rfl⟩
    · cases e
  | list ds =>
    cases e
    obtain ⟨a, vs, rfl, sa, ra⟩ := h.lst
    exact .inl ⟨vs, SqL.of sa, (emp ra).symm⟩
  | tuple ds =>
    cases e
    obtain ⟨a, vs, rfl, sa, ra, _⟩ := h.tup
    exact .inr (.inl ⟨vs, sa, (emp ra).symm⟩)
  | dict ds =>
    cases e
    rcases h with h | ⟨a, rfl, _, kvs, z, r⟩
    · cases h with
      | dic h e r => exact .inr (.inr ⟨_, e, (empK r).symm⟩)
    · exact .inr (.inr ⟨kvs, z, (empK r).symm⟩)
end
end PL

/-! PL4: tests, displays, slices, calls of built-ins, what is walked, targets, comprehensions. -/
namespace PL
open PySem PySem.Spec L2
open PyProof.Rows hiding St

section
variable {c : Cw} {pp : List (Nat × Addr)} {pr fz : Addr → Prop} {σ : L2.St} {H : Hp} {ρ : Env}

/-! ### tests -/
def asB (m : M PyData) : M Bool := bnd m fun d => lft (asB? d)
def trB (m : M PyData) : M Bool := bnd m fun d => lft (truth? d)
def trBp (i : Nat) : M Bool := fun ρ => match peek i ρ with
  | some d => lft (truth? d) ρ
  | none => .bad
def mand (a b : M Bool) : M Bool := bnd a fun k => if k = true then b else fun ρ => .ok false ρ
def mor (a b : M Bool) : M Bool := bnd a fun k => if k = true then fun ρ => .ok true ρ else b
def mnot (a : M Bool) : M Bool := bnd a fun k ρ => .ok (!k) ρ
def mif {α : Type} (t : M Bool) (a b : M α) : M α := bnd t fun k => if k = true then a else b
def ofB (m : M Bool) : M PyData := bnd m fun b ρ => .ok (.bool b) ρ
theorem lftB_post {α β : Type} {R : RT α β} {Q : β → Hp → Prop} {o : Option α} (h : PostG c pp pr σ R fz H (lft o ρ) Q) : ∃ z, o = some z ∧ PostG c pp pr σ R fz H (.ok z ρ) Q := by
  cases o with
  | none => exact h.elim
  | some z => exact ⟨z, rfl, h⟩
theorem ok_post {α β : Type} {R : RT α β} {Q : β → Hp → Prop} {a : α} {b : β} (h : PostG c pp pr σ R fz H (.ok a ρ) Q) (R1 : Rel c.K pp pr fz σ H ρ) (r : R pr σ fz H ρ b a) : Q b H := h b fz H Fr.refl R1 r
theorem alc_post {α β : Type} {R : RT α β} {Q : β → Hp → Prop} {a : α} {b : β} {fz' : Addr → Prop} {H' : Hp} (h : PostG c pp pr σ R fz H (.ok a ρ) Q) (R1 : Rel c.K pp pr fz σ H ρ) (A : Alc fz H fz' H') (r : R pr σ fz' H' ρ b a) : Q b H' := h b fz' H' (A.fr R1) (A.rel R1) r
variable {te ta tb : TE} {t u : TT} {m ma mb : M PyData} {ka kb : M Bool}
theorem rf_tB (h : Rf c (RV c.K) te m) : Rf c RB (tB te) (asB m) := by
  intro pp pr fz σ H ρ Q hp R hq
  refine h pp pr fz σ H ρ _ hp R (hq.bnd fun v x fz1 H1 ρ1 F1 R1 r1 P1 => ?_)
  obtain ⟨z, e, P1⟩ := lftB_post P1
  cases x <;> first | (cases e; done) | skip
  cases e
  cases r1
  exact ⟨_, rfl, ok_post P1 R1 rfl⟩
theorem rf_tTest (h : Rf c (RV c.K) te m) : Rf c RB (tTest te) (asB m) := rf_tB h
theorem rf_tru (h : Rf c (RV c.K) te m) : Rf c RB (fun σ H Q => te σ H fun x H' => ∃ k, TruV c.K x H' k ∧ Q k H') (trB m) := by
  intro pp pr fz σ H ρ Q hp R hq
  refine h pp pr fz σ H ρ _ hp R (hq.bnd fun v x fz1 H1 ρ1 F1 R1 r1 P1 => ?_)
  obtain ⟨z, e, P1⟩ := lftB_post P1
  exact ⟨z, RepP.tru (.inl r1) e, ok_post P1 R1 rfl⟩
theorem rf_trup {i : Nat} : Rf c RB (fun σ H Q => tVar i σ H fun x H' => ∃ k, TruV c.K x H' k ∧ Q k H') (trBp i) := by
  intro pp pr fz σ H ρ Q hp R hq
  unfold trBp at hq
  cases e : peek i ρ with
  | none => rw [e] at hq; exact hq.elim
  | some d =>
    simp only [e] at hq
    obtain ⟨v, hv, rv⟩ := R.peek e
    obtain ⟨z, e2, P1⟩ := lftB_post hq
    exact ⟨v, hv, z, rv.tru e2, ok_post P1 R rfl⟩
theorem rf_and (h : Rf c RB t ka) (h2 : Rf c RB u kb) : Rf c RB (tAnd t u) (mand ka kb) := by
  intro pp pr fz σ H ρ Q hp R hq
  refine h pp pr fz σ H ρ _ hp R (hq.bnd fun v x fz1 H1 ρ1 F1 R1 r1 P1 => ?_)
  obtain rfl : v = x := r1
  cases v with
  | true => exact h2 pp pr fz1 σ H1 ρ1 Q hp R1 P1
  | false => exact ok_post P1 R1 rfl
theorem rf_or (h : Rf c RB t ka) (h2 : Rf c RB u kb) : Rf c RB (tOr t u) (mor ka kb) := by
  intro pp pr fz σ H ρ Q hp R hq
  refine h pp pr fz σ H ρ _ hp R (hq.bnd fun v x fz1 H1 ρ1 F1 R1 r1 P1 => ?_)
  obtain rfl : v = x := r1
  cases v with
  | false => exact h2 pp pr fz1 σ H1 ρ1 Q hp R1 P1
  | true => exact ok_post P1 R1 rfl
theorem rf_not (h : Rf c RB t ka) : Rf c RB (tNot t) (mnot ka) := by
  intro pp pr fz σ H ρ Q hp R hq
  refine h pp pr fz σ H ρ _ hp R (hq.bnd fun v x fz1 H1 ρ1 F1 R1 r1 P1 => ?_)
  obtain rfl : v = x := r1
  exact ok_post P1 R1 rfl
/-- and, or, not as values of bools -/
def mandV (a : M PyData) (b : M PyData) : M PyData := bnd (asB a) fun k => if k = true then b else fun ρ => .ok (.bool false) ρ
def morV (a : M PyData) (b : M PyData) : M PyData := bnd (asB a) fun k => if k = true then (fun ρ => .ok (.bool true) ρ) else b
def mnotV (a : M PyData) : M PyData := bnd (asB a) fun k ρ => .ok (.bool (!k)) ρ
theorem rf_andV (h : Rf c (RV c.K) ta ma) (h2 : Rf c (RV c.K) tb mb) : Rf c (RV c.K) (tAndV ta tb) (mandV ma mb) := by
  intro pp pr fz σ H ρ Q hp R hq
  refine rf_tB h pp pr fz σ H ρ (fun k H1 => if k = true then tb σ H1 Q else Q (.bl false) H1) hp R (hq.bnd fun v x fz1 H1 ρ1 F1 R1 r1 P1 => ?_)
  obtain rfl : v = x := r1
  cases v with
  | true => exact h2 pp pr fz1 σ H1 ρ1 Q hp R1 P1
  | false => exact ok_post P1 R1 (Rep.bl false)
theorem rf_orV (h : Rf c (RV c.K) ta ma) (h2 : Rf c (RV c.K) tb mb) : Rf c (RV c.K) (tOrV ta tb) (morV ma mb) := by
  intro pp pr fz σ H ρ Q hp R hq
  refine rf_tB h pp pr fz σ H ρ (fun k H1 => if k = true then Q (.bl true) H1 else tb σ H1 Q) hp R (hq.bnd fun v x fz1 H1 ρ1 F1 R1 r1 P1 => ?_)
  obtain rfl : v = x := r1
  cases v with
  | false => exact h2 pp pr fz1 σ H1 ρ1 Q hp R1 P1
  | true => exact ok_post P1 R1 (Rep.bl true)
theorem rf_notV (h : Rf c (RV c.K) ta ma) : Rf c (RV c.K) (tNotV ta) (mnotV ma) := by
  intro pp pr fz σ H ρ Q hp R hq
  refine rf_tB h pp pr fz σ H ρ (fun k H1 => Q (.bl (!k)) H1) hp R (hq.bnd fun v x fz1 H1 ρ1 F1 R1 r1 P1 => ?_)
  obtain rfl : v = x := r1
  exact ok_post P1 R1 (Rep.bl _)
theorem rf_ifE {R0 : RT PyData V} (h : Rf c RB t ka) (ha : Rf c R0 ta ma) (hb : Rf c R0 tb mb) : Rf c R0 (tIf t ta tb) (mif ka ma mb) := by
  intro pp pr fz σ H ρ Q hp R hq
  refine h pp pr fz σ H ρ _ hp R (hq.bnd fun v x fz1 H1 ρ1 F1 R1 r1 P1 => ?_)
  obtain rfl : v = x := r1
  cases v with
  | true => exact ha pp pr fz1 σ H1 ρ1 Q hp R1 P1
  | false => exact hb pp pr fz1 σ H1 ρ1 Q hp R1 P1
/-- -a -/
def mneg (m : M PyData) : M PyData := bnd m fun d => lft (neg? d)
theorem rf_neg (h : Rf c (RV c.K) te m) : Rf c (RV c.K) (tUn (rU fun i => .int (-i)) te) (mneg m) := by
  intro pp pr fz σ H ρ Q hp R hq
  refine h pp pr fz σ H ρ _ hp R (hq.bnd fun v x fz1 H1 ρ1 F1 R1 r1 P1 => ?_)
  obtain ⟨z, e, P1⟩ := lftB_post P1
  cases x <;> first | (cases e; done) | skip
  cases e
  cases r1
  exact ⟨_, rfl, ok_post P1 R1 (Rep.int _)⟩
/-- a op b op' d -/
def mchain (f g : PyData → PyData → Option PyData) (a b d : M PyData) : M PyData := bnd a fun x => bnd b fun y => bnd (lft (f x y)) fun z => bnd (lft (asB? z)) fun k =>
  if k = true then bnd d fun w => lft (g y w) else fun ρ => .ok (.bool false) ρ
theorem rf_chain {r r' : R2} {f g : PyData → PyData → Option PyData} {td : TE} {md : M PyData} (ho : OpF c.K r f) (ho' : OpF c.K r' g) (ha : Rf c (RV c.K) ta ma) (hb : Rf c (RV c.K) tb mb) (hd : Rf c (RV c.K) td md) :
    Rf c (RV c.K) (tChain r r' ta tb td) (mchain f g ma mb md) := by
  intro pp pr fz σ H ρ Q hp R hq
  refine ha pp pr fz σ H ρ _ hp R (hq.bnd fun v x fz1 H1 ρ1 F1 R1 r1 P1 => ?_)
  refine hb pp pr fz1 σ H1 ρ1 _ hp R1 (P1.bnd fun w y fz2 H2 ρ2 F2 R2 r2 P2 => ?_)
  unfold PL.bnd at P2
  cases e : f x y with
  | none => rw [e] at P2; exact P2.elim
  | some z =>
    rw [e] at P2
    simp only [lft] at P2
    refine ho fz2 H2 v w x y z (.inl (Rep.ext F2.ext r1)) (.inl r2) e _ fun u fz3 H3 A rz => ?_
    have P3 := P2.rest (A.fr R2)
    have R3 := A.rel R2
    have rz := rz R2.fzH
    cases z <;> first | (simp only [asB?] at P3; exact P3.elim) | skip
    rename_i k rz0
    have eu : u = .bl k := by cases rz; rfl
    subst eu
    refine ⟨k, rfl, ?_⟩
    cases k with
    | true =>
      rw [if_pos rfl]
      refine hd pp pr fz3 σ H3 ρ2 _ hp R3 (PostG.bnd (f := fun w => lft (g y w)) P3 fun q x4 fz4 H4 ρ4 F4 R4 r4 P4 => ?_)
      exact lft_post (t := fun Q => r' w q H4 Q) R4 P4 fun z e k => ho' fz4 H4 w q y x4 z (.inl (Rep.ext F4.ext (Rep.ext (A.fr R2).ext r2))) (.inl r4) e Q k
    | false =>
      rw [if_neg (by simp)]
      exact ok_post P3 R3 (Rep.bl false)

/-! ### argument lists, displays -/
def anil : M (List PyData) := fun ρ => .ok [] ρ
def acons (a : M PyData) (r : M (List PyData)) : M (List PyData) := bnd a fun x => bnd r fun xs ρ => .ok (x :: xs) ρ
theorem rf_nil : Rf c (RVs c.K) tNil anil := fun pp pr fz σ H ρ Q hp R hq => ok_post hq R .nil
theorem rf_cons {tr : TA} {mr : M (List PyData)} (ha : Rf c (RV c.K) ta ma) (hr : Rf c (RVs c.K) tr mr) : Rf c (RVs c.K) (tCons ta tr) (acons ma mr) := by
  intro pp pr fz σ H ρ Q hp R hq
  refine ha pp pr fz σ H ρ _ hp R (hq.bnd fun v x fz1 H1 ρ1 F1 R1 r1 P1 => ?_)
  refine hr pp pr fz1 σ H1 ρ1 _ hp R1 (P1.bnd fun w y fz2 H2 ρ2 F2 R2 r2 P2 => ?_)
  exact ok_post P2 R2 (.cons (Rep.ext F2.ext r1) r2)
def mtup (a : M (List PyData)) : M PyData := bnd a fun ds ρ => if lenOk ds.length = true then .ok (.tuple ds) ρ else .bad
def mlst (a : M (List PyData)) : M PyData := bnd a fun ds ρ => if lenOk ds.length = true then .ok (.list ds) ρ else .bad
variable {tas : TA} {mas : M (List PyData)}
theorem rf_tup (ha : Rf c (RVs c.K) tas mas) : Rf c (RV c.K) (tTup tas) (mtup mas) := by
  intro pp pr fz σ H ρ Q hp R hq
  refine ha pp pr fz σ H ρ _ hp R (hq.bnd fun v x fz1 H1 ρ1 F1 R1 r1 P1 => ?_)
  by_cases h : lenOk x.length = true
  · rw [if_pos h] at P1
    refine ⟨by rw [RepA.length r1]; exact lenOk_iff.mp h, alc_tup r1 fun u fz' H' A r => alc_post P1 R1 A (r R1.fzH)⟩
  · rw [if_neg h] at P1; exact P1.elim
/-- a new object that no slot holds -/
theorem ro_new {Q : VK} {p : Addr} {H' : Hp} {z : PyData} (R : Rel c.K pp pr fz σ H ρ) (hp : H p = none) (hk : ∀ a, a ≠ p → H' a = H a) (oc : OwnC c.K fz H' p z) (h : PostG c pp pr σ (RO c.K) fz H (.ok z ρ) Q) : Q (.ref p) H' := by
  have A : Alc fz H fz H' := ⟨fun a e => hk a fun z => e (z ▸ hp), fun _ h => h, fun _ h => .inl h, fun _ h => .inl h⟩
  refine alc_post h R A ⟨p, rfl, fun z => R.fzH p z hp, fun z => R.prH p z hp, fun i x e s => ?_, oc⟩
  obtain ⟨a, s', _, _, o⟩ := R.own_ne e
  rw [s] at s'
  cases s'
  exact o.some hp
theorem rf_lst (ha : Rf c (RVs c.K) tas mas) : Rf c (RO c.K) (tLst tas) (mlst mas) := by
  intro pp pr fz σ H ρ Q hp R hq
  refine ha pp pr fz σ H ρ _ hp R (hq.bnd fun v x fz1 H1 ρ1 F1 R1 r1 P1 => ?_)
  by_cases h : lenOk x.length = true
  · rw [if_pos h] at P1
    refine ⟨by rw [RepA.length r1]; exact lenOk_iff.mp h, fun p hp' => ro_new (z := .list x) R1 hp' (fun a n => upd_ne n) ⟨v, upd_same, RepA.ext ⟨fun _ z => z, fun a z => upd_ne fun q => R1.fzH a z (by rw [q]; exact hp')⟩ r1⟩ P1⟩
  · rw [if_neg h] at P1; exact P1.elim

/-! ### slices -/
def RI : RT (Option Int) (Option Int) := fun _ _ _ _ _ a b => a = b
def mpn : M (Option Int) := fun ρ => .ok none ρ
def asI? : PyData → Option Int
  | .int i => some i
  | _ => none
def mps (m : M PyData) : M (Option Int) := bnd m fun d => lft ((asI? d).map some)
theorem rf_pn : Rf c RI tNoPart mpn := fun pp pr fz σ H ρ Q hp R hq => ok_post hq R rfl
theorem rf_ps (h : Rf c (RV c.K) te m) : Rf c RI (tPart te) (mps m) := by
  intro pp pr fz σ H ρ Q hp R hq
  refine h pp pr fz σ H ρ _ hp R (hq.bnd fun v x fz1 H1 ρ1 F1 R1 r1 P1 => ?_)
  obtain ⟨z, e, P1⟩ := lftB_post P1
  cases x <;> first | (cases e; done) | skip
  cases e
  cases r1
  exact ⟨_, rfl, ok_post P1 R1 rfl⟩
def msl (m : M PyData) (lo hi : M (Option Int)) : M PyData := bnd m fun x => bnd lo fun l => bnd hi fun u => lft (slice? x l u)
def mslp (i : Nat) (lo hi : M (Option Int)) : M PyData := fun ρ => match peek i ρ with
  | none => .bad
  | some _ => bnd lo (fun l => bnd hi fun u ρ' => match peek i ρ' with
    | some x => lft (slice? x l u) ρ'
    | none => .bad) ρ
theorem rf_sl {tl th : TO} {ml mh : M (Option Int)} (h : Rf c (RV c.K) te m) (hl : Rf c RI tl ml) (hh : Rf c RI th mh) : Rf c (RV c.K) (tSl (rSl c.K) te tl th) (msl m ml mh) := by
  intro pp pr fz σ H ρ Q hp R hq
  refine h pp pr fz σ H ρ _ hp R (hq.bnd fun v x fz1 H1 ρ1 F1 R1 r1 P1 => ?_)
  refine hl pp pr fz1 σ H1 ρ1 _ hp R1 (P1.bnd fun l l' fz2 H2 ρ2 F2 R2 r2 P2 => ?_)
  obtain rfl : l = l' := r2
  refine hh pp pr fz2 σ H2 ρ2 _ hp R2 (P2.bnd fun u u' fz3 H3 ρ3 F3 R3 r3 P3 => ?_)
  obtain rfl : u = u' := r3
  obtain ⟨z, e, P4⟩ := lftB_post P3
  exact of_slice (.inl (Rep.ext (F2.trans F3).ext r1)) e Q fun u fz' H' A r => alc_post P4 R3 A (r R3.fzH)
theorem rf_slp {i : Nat} {tl th : TO} {ml mh : M (Option Int)} (hl : Rf c RI tl ml) (hh : Rf c RI th mh) : Rf c (RV c.K) (tSl (rSl c.K) (tVar i) tl th) (mslp i ml mh) := by
  intro pp pr fz σ H ρ Q hp R hq
  unfold mslp at hq
  cases e : peek i ρ with
  | none => rw [e] at hq; exact hq.elim
  | some x0 =>
    simp only [e] at hq
    obtain ⟨v, hv, _⟩ := R.peek e
    refine ⟨v, hv, ?_⟩
    refine hl pp pr fz σ H ρ _ hp R (hq.bnd fun l l' fz2 H2 ρ2 F2 R2 r2 P2 => ?_)
    obtain rfl : l = l' := r2
    refine hh pp pr fz2 σ H2 ρ2 _ hp R2 (P2.bnd fun u u' fz3 H3 ρ3 F3 R3 r3 P3 => ?_)
    obtain rfl : u = u' := r3
    cases e1 : peek i ρ3 with
    | none => simp only [e1] at P3; exact P3.elim
    | some x =>
      simp only [e1] at P3
      obtain ⟨v', hv', rv⟩ := R3.peek e1
      rw [hv] at hv'
      cases hv'
      obtain ⟨z, e, P4⟩ := lftB_post P3
      exact of_slice rv e Q fun u fz' H' A r => alc_post P4 R3 A (r R3.fzH)

/-! ### built-ins by values -/
abbrev RL := List V → Hp → VK → Prop
def C1 (K : PySem.W.Frag) (r : RL) (f : PyData → Option PyData) : Prop :=
  ∀ (fz : Addr → Prop) (H : Hp) (v : V) (x z : PyData), RepP K fz H v x → f x = some z → ∀ Q : VK, (∀ u fz' H', Alc fz H fz' H' → ((∀ a, fz a → H a ≠ none) → Rep K fz' H' u z) → Q u H') → r [v] H Q
def C2 (K : PySem.W.Frag) (r : RL) (f : PyData → PyData → Option PyData) : Prop :=
  ∀ (fz : Addr → Prop) (H : Hp) (v w : V) (x y z : PyData), Rep K fz H v x → Rep K fz H w y → f x y = some z → ∀ Q : VK, (∀ u fz' H', Alc fz H fz' H' → ((∀ a, fz a → H a ≠ none) → Rep K fz' H' u z) → Q u H') → r [v, w] H Q
def CO (K : PySem.W.Frag) (r : RL) (f : PyData → Option PyData) : Prop :=
  ∀ (fz : Addr → Prop) (H : Hp) (v : V) (x z : PyData), RepP K fz H v x → f x = some z → (∀ a, fz a → H a ≠ none) → ∀ Q : VK, (∀ p H', H p = none → (∀ a, a ≠ p → H' a = H a) → OwnC K fz H' p z → Q (.ref p) H') → r [v] H Q
def mc1 (f : PyData → Option PyData) (m : M PyData) : M PyData := bnd m fun x => lft (f x)
def mc1p (f : PyData → Option PyData) (i : Nat) : M PyData := fun ρ => match peek i ρ with
  | some x => lft (f x) ρ
  | none => .bad
theorem rf_c1 {r : RL} {f : PyData → Option PyData} (ho : C1 c.K r f) (h : Rf c (RV c.K) te m) : Rf c (RV c.K) (tCB r (tCons te tNil)) (mc1 f m) := by
  intro pp pr fz σ H ρ Q hp R hq
  refine h pp pr fz σ H ρ _ hp R (hq.bnd fun v x fz1 H1 ρ1 F1 R1 r1 P1 => ?_)
  obtain ⟨z, e, P1⟩ := lftB_post P1
  exact ho fz1 H1 v x z (.inl r1) e Q fun u fz' H' A r => alc_post P1 R1 A (r R1.fzH)
theorem rf_c1p {i : Nat} {r : RL} {f : PyData → Option PyData} (ho : C1 c.K r f) : Rf c (RV c.K) (tCB r (tCons (tVar i) tNil)) (mc1p f i) := by
  intro pp pr fz σ H ρ Q hp R hq
  unfold mc1p at hq
  cases e : peek i ρ with
  | none => rw [e] at hq; exact hq.elim
  | some x =>
    simp only [e] at hq
    obtain ⟨v, hv, rv⟩ := R.peek e
    obtain ⟨z, e1, P1⟩ := lftB_post hq
    exact ⟨v, hv, ho fz H v x z rv e1 Q fun u fz' H' A r => alc_post P1 R A (r R.fzH)⟩
theorem rf_c2 {r : RL} {f : PyData → PyData → Option PyData} (ho : C2 c.K r f) (h : Rf c (RV c.K) ta ma) (h2 : Rf c (RV c.K) tb mb) : Rf c (RV c.K) (tCB r (tCons ta (tCons tb tNil))) (op2 f ma mb) := by
  intro pp pr fz σ H ρ Q hp R hq
  refine h pp pr fz σ H ρ _ hp R (hq.bnd fun v x fz1 H1 ρ1 F1 R1 r1 P1 => ?_)
  refine h2 pp pr fz1 σ H1 ρ1 _ hp R1 (P1.bnd fun w y fz2 H2 ρ2 F2 R2 r2 P2 => ?_)
  obtain ⟨z, e, P3⟩ := lftB_post P2
  exact ho fz2 H2 v w x y z (Rep.ext F2.ext r1) r2 e Q fun u fz' H' A r => alc_post P3 R2 A (r R2.fzH)
theorem rf_co {r : RL} {f : PyData → Option PyData} (ho : CO c.K r f) (h : Rf c (RV c.K) te m) : Rf c (RO c.K) (tCB r (tCons te tNil)) (mc1 f m) := by
  intro pp pr fz σ H ρ Q hp R hq
  refine h pp pr fz σ H ρ _ hp R (hq.bnd fun v x fz1 H1 ρ1 F1 R1 r1 P1 => ?_)
  obtain ⟨z, e, P1⟩ := lftB_post P1
  exact ho fz1 H1 v x z (.inl r1) e R1.fzH Q fun p H' hp hk oc => ro_new R1 hp hk oc P1
theorem rf_cop {i : Nat} {r : RL} {f : PyData → Option PyData} (ho : CO c.K r f) : Rf c (RO c.K) (tCB r (tCons (tVar i) tNil)) (mc1p f i) := by
  intro pp pr fz σ H ρ Q hp R hq
  unfold mc1p at hq
  cases e : peek i ρ with
  | none => rw [e] at hq; exact hq.elim
  | some x =>
    simp only [e] at hq
    obtain ⟨v, hv, rv⟩ := R.peek e
    obtain ⟨z, e1, P1⟩ := lftB_post hq
    exact ⟨v, hv, ho fz H v x z rv e1 R.fzH Q fun p H' hp hk oc => ro_new R hp hk oc P1⟩
end
end PL

/-! PL5: what is walked, targets, comprehensions, statements. -/
namespace PL
open PySem PySem.Spec L2
open PyProof.Rows hiding St
open RZ (iZipA ItzT pi_zipA)

/-! ### what is walked -/
def IterOk (K : PySem.W.Frag) (fz : Addr → Prop) (H : Hp) (J : It) (ds : List PyData) : Prop :=
  ∀ (fz' : Addr → Prop) (H' : Hp), Ext fz H fz' H' → (∀ a, fz' a → H' a ≠ none) → ∀ i : Nat,
    (∀ d, ds[i]? = some d → J.go i H' ∧ ∀ x H'', J.yld i H' x H'' → ∃ fz'', Alc fz' H' fz'' H'' ∧ Rep K fz'' H'' x d) ∧ (ds.length ≤ i → J.stop i H')
def RIt (K : PySem.W.Frag) : RT (List PyData) It := fun _ _ fz H _ J ds => IterOk K fz H J ds
def seq? : PyData → Option (List PyData)
  | .list ds => some ds
  | .tuple ds => some ds
  | _ => none
def mseqI (m : M PyData) : M (List PyData) := bnd m fun d => lft (seq? d)
def iSeq (K : PySem.W.Frag) (tl : TE) : TI := fun σ H R => iList K tl σ H R ∨ iTup K tl σ H R
theorem pi_seq {X : Cx} {tg l : Expr} {tl : TE} (hl : PE X l tl) : PI X tg l (iSeq X.K tl) := by
  refine ⟨fun pins s σ H R I h => ?_⟩
  rcases h with h | h
  · exact (pi_list (tg := tg) hl).run pins s σ H R I h
  · exact (pi_tup (tg := tg) hl).run pins s σ H R I h
section
variable {c : Cw} {pp : List (Nat × Addr)} {pr fz : Addr → Prop} {σ : L2.St} {H : Hp} {ρ : Env}
theorem sqL_inj {K : PySem.W.Frag} {a : Addr} {xs ys : List V} (h : H a = some (.lst xs)) (h' : H a = some (.lst ys)) : xs = ys := by rw [h] at h'; cases h'; rfl
theorem iterOk_list {K : PySem.W.Frag} {a : Addr} {vs : List V} {ds : List PyData} (hf : fz a) (h : H a = some (.lst vs)) (r : RepA K fz H vs ds) : IterOk K fz H (Itl K a) ds := by
  intro fz' H' E hf' i
  have e : H' a = some (.lst vs) := (E.keep a hf).trans h
  refine ⟨fun d hd => ?_, fun hl => ⟨vs, SqL.of e, by rw [r.length]; exact hl⟩⟩
  obtain ⟨y, hy, ry⟩ := r.get hd
  refine ⟨⟨vs, y, SqL.of e, hy⟩, fun x H'' hx => ?_⟩
  obtain ⟨rfl, hx⟩ := hx
  have := hx vs (SqL.of e)
  rw [hy] at this
  cases this
  exact ⟨fz', Alc.refl, ry.ext E⟩
theorem iterOk_tup {K : PySem.W.Frag} {a : Addr} {vs : List V} {ds : List PyData} (h : FzT K fz H a vs) (r : RepA K fz H vs ds) : IterOk K fz H (Itt K a) ds := by
  intro fz' H' E hf' i
  have e : SqT K H' a vs := FzT.sq (fz := fz') (h.imp (fun z => ⟨E.mono _ z.1, Rd.ext z.2 (E.keep _ z.1)⟩) id)
  refine ⟨fun d hd => ?_, fun hl => ⟨vs, e, by rw [r.length]; exact hl⟩⟩
  obtain ⟨y, hy, ry⟩ := r.get hd
  refine ⟨⟨vs, y, e, hy⟩, fun x H'' hx => ?_⟩
  obtain ⟨rfl, hx⟩ := hx
  have := hx vs e
  rw [hy] at this
  cases this
  exact ⟨fz', Alc.refl, ry.ext E⟩
variable {te ta tb : TE} {m ma mb : M PyData}
theorem rf_seqI (h : Rf c (RV c.K) te m) : Rf c (RIt c.K) (iSeq c.K te) (mseqI m) := by
  intro pp pr fz σ H ρ Q hp R hq
  have key : ∀ tl : Bool, (∀ d ρ', m ρ = .ok d ρ' → (match d with | .list _ => tl = true | .tuple _ => tl = false | _ => True)) → iSeq c.K te σ H Q := by
    intro tl hk
    cases tl with
    | true =>
      refine .inl (h pp pr fz σ H ρ _ hp R ?_)
      unfold mseqI PL.bnd at hq
      cases e : m ρ with
      | ok d ρ' =>
        rw [e] at hq
        have hk := hk d ρ' e
        intro v fz1 H1 F R1 r
        have P1 := PostG.rest F hq
        obtain ⟨z, e1, P1⟩ := lftB_post P1
        cases r <;> first | (cases e1; done) | skip
        · rename_i a xs ds hf hH ra
          cases e1
          exact ⟨a, rfl, ⟨xs, SqL.of hH⟩, ok_post P1 R1 (iterOk_list hf hH ra)⟩
        · cases hk
      | exc x r => rw [e] at hq; exact hq
      | bad => rw [e] at hq; exact hq.elim
    | false =>
      refine .inr (h pp pr fz σ H ρ _ hp R ?_)
      unfold mseqI PL.bnd at hq
      cases e : m ρ with
      | ok d ρ' =>
        rw [e] at hq
        have hk := hk d ρ' e
        intro v fz1 H1 F R1 r
        have P1 := PostG.rest F hq
        obtain ⟨z, e1, P1⟩ := lftB_post P1
        cases r <;> first | (cases e1; done) | skip
        · cases hk
        · rename_i a xs ds hH ra
          cases e1
          exact ⟨a, rfl, ⟨xs, hH.sq⟩, ok_post P1 R1 (iterOk_tup hH ra)⟩
      | exc x r => rw [e] at hq; exact hq
      | bad => rw [e] at hq; exact hq.elim
  cases e : m ρ with
  | ok d ρ' =>
    cases d with
    | list ds => exact key true fun d' ρ'' e' => by rw [e] at e'; cases e'; exact rfl
    | tuple ds => exact key false fun d' ρ'' e' => by rw [e] at e'; cases e'; exact rfl
    | _ => exact key true fun d' ρ'' e' => by rw [e] at e'; cases e'; trivial
  | exc x r => exact key true fun d' ρ'' e' => by rw [e] at e'; cases e'
  | bad => exact key true fun d' ρ'' e' => by rw [e] at e'; cases e'
def rangeL (lo : Int) (n : Nat) : List PyData := (List.range n).map fun (i : Nat) => PyData.int (lo + i)
theorem rangeL_get {lo : Int} {n i : Nat} {d : PyData} (h : (rangeL lo n)[i]? = some d) : i < n ∧ d = .int (lo + i) := by
  unfold rangeL at h
  rw [List.getElem?_map] at h
  cases e : (List.range n)[i]? with
  | none => rw [e] at h; cases h
  | some j =>
    obtain ⟨hi, ej⟩ := List.getElem?_eq_some_iff.mp e
    simp at hi ej
    subst ej
    rw [e] at h
    cases h
    exact ⟨hi, rfl⟩
theorem iterOk_range {K : PySem.W.Frag} {lo : Int} {n : Nat} : IterOk K fz H (Itr lo n) (rangeL lo n) := by
  intro fz' H' E hf' i
  refine ⟨fun d hd => ?_, fun hl => ?_⟩
  · obtain ⟨hi, rfl⟩ := rangeL_get hd
    refine ⟨hi, fun x H'' hx => ?_⟩
    obtain ⟨rfl, rfl⟩ := hx
    exact ⟨fz', Alc.refl, .int _⟩
  · unfold rangeL at hl
    simp at hl
    exact hl
def rOk (i : Int) : Bool := decide (-(2 ^ 62) ≤ i) && decide (i < 2 ^ 62)
def rng1? : PyData → Option (List PyData)
  | .int j => if rOk j = true then some (rangeL 0 j.toNat) else none
  | _ => none
def rng2? : PyData → PyData → Option (List PyData)
  | .int i, .int j => if (rOk i && rOk j) = true then some (rangeL i (j - i).toNat) else none
  | _, _ => none
def rangeC (lo step : Int) (n : Nat) : List PyData := (List.range n).map fun (i : Nat) => PyData.int (lo + (i : Nat) * step)
def rng3? : PyData → PyData → PyData → Option (List PyData)
  | .int i, .int j, .int k => if (decide (k ≠ 0) && decide (k.natAbs < 1073741824) && Builtin.Range.small i j k && decide (0 ≤ Builtin.Range.rangeSize i j k)) = true then some (rangeC i k (Builtin.Range.rangeSize i j k).toNat) else none
  | _, _, _ => none
def mrng1 (a : M PyData) : M (List PyData) := bnd a fun x => lft (rng1? x)
def mrng2 (a b : M PyData) : M (List PyData) := bnd a fun x => bnd b fun y => lft (rng2? x y)
def mrng3 (a b d : M PyData) : M (List PyData) := bnd a fun x => bnd b fun y => bnd d fun z => lft (rng3? x y z)
theorem rOk_iff {i : Int} : rOk i = true ↔ -(2 ^ 62) ≤ i ∧ i < 2 ^ 62 := by simp [rOk]
theorem rf_rng1 (h : Rf c (RV c.K) ta ma) : Rf c (RIt c.K) (iRng1 (tCons ta tNil)) (mrng1 ma) := by
  intro pp pr fz σ H ρ Q hp R hq
  refine h pp pr fz σ H ρ _ hp R (hq.bnd fun v x fz1 H1 ρ1 F1 R1 r1 P1 => ?_)
  obtain ⟨z, e, P1⟩ := lftB_post P1
  cases x <;> first | (cases e; done) | skip
  simp only [rng1?] at e
  split at e
  · rename_i j h
    cases e
    cases r1
    obtain ⟨h1, h2⟩ := rOk_iff.mp h
    exact ⟨j, rfl, h1, h2, ok_post P1 R1 iterOk_range⟩
  · cases e
theorem rf_rng2 (h : Rf c (RV c.K) ta ma) (h2 : Rf c (RV c.K) tb mb) : Rf c (RIt c.K) (iRng2 (tCons ta (tCons tb tNil))) (mrng2 ma mb) := by
  intro pp pr fz σ H ρ Q hp R hq
  refine h pp pr fz σ H ρ _ hp R (hq.bnd fun v x fz1 H1 ρ1 F1 R1 r1 P1 => ?_)
  refine h2 pp pr fz1 σ H1 ρ1 _ hp R1 (P1.bnd fun w y fz2 H2 ρ2 F2 R2 r2 P2 => ?_)
  obtain ⟨z, e, P3⟩ := lftB_post P2
  cases x <;> first | (cases e; done) | skip
  cases y <;> first | (cases e; done) | skip
  simp only [rng2?] at e
  split at e
  · rename_i i j h
    cases e
    cases r1
    cases r2
    rw [Bool.and_eq_true] at h
    obtain ⟨h1, h2⟩ := rOk_iff.mp h.1
    obtain ⟨h3, h4⟩ := rOk_iff.mp h.2
    exact ⟨i, j, rfl, ⟨h1, h2, h3, h4⟩, ok_post P3 R2 iterOk_range⟩
  · cases e
theorem iterOk_rangeC {K : PySem.W.Frag} {lo k : Int} {n : Nat} : IterOk K fz H (Itc lo k n) (rangeC lo k n) := by
  intro fz' H' E hf' i
  refine ⟨fun d hd => ?_, fun hl => ?_⟩
  · unfold rangeC at hd
    rw [List.getElem?_map] at hd
    cases e : (List.range n)[i]? with
    | none => rw [e] at hd; cases hd
    | some j =>
      obtain ⟨hi, ej⟩ := List.getElem?_eq_some_iff.mp e
      simp at hi ej
      subst ej
      rw [e] at hd
      cases hd
      refine ⟨hi, fun x H'' hx => ?_⟩
      obtain ⟨rfl, rfl⟩ := hx
      exact ⟨fz', Alc.refl, .int _⟩
  · unfold rangeC at hl
    simp at hl
    exact hl
theorem rf_rng3 {td : TE} {md : M PyData} (h : Rf c (RV c.K) ta ma) (h2 : Rf c (RV c.K) tb mb) (h3 : Rf c (RV c.K) td md) : Rf c (RIt c.K) (iRng3 (tCons ta (tCons tb (tCons td tNil)))) (mrng3 ma mb md) := by
  intro pp pr fz σ H ρ Q hp R hq
  refine h pp pr fz σ H ρ _ hp R (hq.bnd fun v x fz1 H1 ρ1 F1 R1 r1 P1 => ?_)
  refine h2 pp pr fz1 σ H1 ρ1 _ hp R1 (P1.bnd fun w y fz2 H2 ρ2 F2 R2 r2 P2 => ?_)
  refine h3 pp pr fz2 σ H2 ρ2 _ hp R2 (P2.bnd fun w3 y3 fz3 H3 ρ3 F3 R3 r3 P3 => ?_)
  obtain ⟨z, e, P4⟩ := lftB_post P3
  cases x <;> first | (cases e; done) | skip
  cases y <;> first | (cases e; done) | skip
  cases y3 <;> first | (cases e; done) | skip
  simp only [rng3?] at e
  split at e
  · rename_i i j k h
    cases e
    cases r1
    cases r2
    cases r3
    simp only [Bool.and_eq_true, decide_eq_true_eq] at h
    obtain ⟨⟨⟨h1, h2⟩, h3⟩, h4⟩ := h
    exact ⟨i, j, k, _, rfl, ⟨h1, h2, h3, by omega⟩, ok_post P4 R3 iterOk_rangeC⟩
  · cases e
def zipP (xs ys : List PyData) : List PyData := (xs.zip ys).map fun p => .tuple [p.1, p.2]
def zip? : PyData → PyData → Option (List PyData)
  | .list xs, .list ys => some (zipP xs ys)
  | .tuple xs, .tuple ys => some (zipP xs ys)
  | _, _ => none
def mzip (a b : M PyData) : M (List PyData) := bnd a fun x => bnd b fun y => lft (zip? x y)
theorem zipP_get {xs ys : List PyData} {i : Nat} {d : PyData} (h : (zipP xs ys)[i]? = some d) : ∃ x y, xs[i]? = some x ∧ ys[i]? = some y ∧ d = .tuple [x, y] := by
  unfold zipP at h
  rw [List.getElem?_map] at h
  cases e : (xs.zip ys)[i]? with
  | none => rw [e] at h; cases h
  | some p =>
    rw [e] at h
    cases h
    obtain ⟨h1, h2⟩ := List.getElem?_zip_eq_some.mp e
    exact ⟨_, _, h1, h2, rfl⟩
theorem pair_new {K : PySem.W.Frag} {fz' : Addr → Prop} {H' : Hp} {T : Addr} {v w : V} {x y : PyData} (hf : ∀ a, fz' a → H' a ≠ none) (hT : H' T = none) (r1 : Rep K fz' H' v x) (r2 : Rep K fz' H' w y) :
    ∃ fz'', Alc fz' H' fz'' (upd H' T (.tup [v, w])) ∧ Rep K fz'' (upd H' T (.tup [v, w])) (.ref T) (.tuple [x, y]) :=
  ⟨_, Alc.one hT, .tup (.inl ⟨.inr rfl, .inl upd_same⟩) (RepA.ext ((Alc.one hT).ext hf) (.cons r1 (.cons r2 .nil)))⟩
theorem rf_zip (h : Rf c (RV c.K) ta ma) (h2 : Rf c (RV c.K) tb mb) : Rf c (RIt c.K) (iZipA c.K (tCons ta (tCons tb tNil))) (mzip ma mb) := by
  intro pp pr fz σ H ρ Q hp R hq
  refine h pp pr fz σ H ρ _ hp R (hq.bnd fun v x fz1 H1 ρ1 F1 R1 r1 P1 => ?_)
  refine h2 pp pr fz1 σ H1 ρ1 _ hp R1 (P1.bnd fun w y fz2 H2 ρ2 F2 R2 r2 P2 => ?_)
  obtain ⟨z, e, P3⟩ := lftB_post P2
  have r1 : Rep c.K fz2 H2 v x := Rep.ext F2.ext r1
  cases x <;> first | (cases y <;> cases e; done) | skip
  · rename_i xs
    cases y <;> first | (cases e; done) | skip
    rename_i ys
    cases e
    cases r1 with
    | @lst a vs _ hf hH ra =>
      cases r2 with
      | @lst b ws _ hf' hH' rb =>
        refine ⟨a, b, vs, ws, rfl, .inl ⟨SqL.of hH, SqL.of hH', ok_post P3 R2 ?_⟩⟩
        intro fz' H' E hff i
        have e1 : H' a = some (.lst vs) := (E.keep a hf).trans hH
        have e2 : H' b = some (.lst ws) := (E.keep b hf').trans hH'
        refine ⟨fun d hd => ?_, fun hl => ⟨vs, ws, SqL.of e1, SqL.of e2, ?_⟩⟩
        · obtain ⟨x, y, hx, hy, rfl⟩ := zipP_get hd
          obtain ⟨v, hv, rv⟩ := ra.get hx
          obtain ⟨w, hw, rw'⟩ := rb.get hy
          refine ⟨⟨vs, ws, v, w, SqL.of e1, SqL.of e2, hv, hw⟩, fun u H'' hu => ?_⟩
          obtain ⟨T, x1, x2, rfl, hT, rfl, f1, f2⟩ := hu
          have q1 := f1 _ (SqL.of e1)
          have q2 := f2 _ (SqL.of e2)
          rw [hv] at q1
          rw [hw] at q2
          cases q1
          cases q2
          exact pair_new hff hT (rv.ext E) (rw'.ext E)
        · unfold zipP at hl
          rw [List.length_map, List.length_zip] at hl
          rw [ra.length, rb.length]
          omega
  · rename_i xs
    cases y <;> first | (cases e; done) | skip
    rename_i ys
    cases e
    cases r1 with
    | @tup a vs _ hH ra =>
      cases r2 with
      | @tup b ws _ hH' rb =>
        refine ⟨a, b, vs, ws, rfl, .inr ⟨hH.sq, hH'.sq, ok_post P3 R2 ?_⟩⟩
        intro fz' H' E hff i
        have e1 : SqT c.K H' a vs := FzT.sq (fz := fz') (hH.imp (fun z => ⟨E.mono _ z.1, Rd.ext z.2 (E.keep _ z.1)⟩) id)
        have e2 : SqT c.K H' b ws := FzT.sq (fz := fz') (hH'.imp (fun z => ⟨E.mono _ z.1, Rd.ext z.2 (E.keep _ z.1)⟩) id)
        refine ⟨fun d hd => ?_, fun hl => ⟨vs, ws, e1, e2, ?_⟩⟩
        · obtain ⟨x, y, hx, hy, rfl⟩ := zipP_get hd
          obtain ⟨v, hv, rv⟩ := ra.get hx
          obtain ⟨w, hw, rw'⟩ := rb.get hy
          refine ⟨⟨vs, ws, v, w, e1, e2, hv, hw⟩, fun u H'' hu => ?_⟩
          obtain ⟨T, x1, x2, rfl, hT, rfl, f1, f2⟩ := hu
          have q1 := f1 _ e1
          have q2 := f2 _ e2
          rw [hv] at q1
          rw [hw] at q2
          cases q1
          cases q2
          exact pair_new hff hT (rv.ext E) (rw'.ext E)
        · unfold zipP at hl
          rw [List.length_map, List.length_zip] at hl
          rw [ra.length, rb.length]
          omega
def enumP (xs : List PyData) : List PyData := xs.mapIdx fun (i : Nat) x => .tuple [.int i, x]
def enum? : PyData → Option (List PyData)
  | .list xs => some (enumP xs)
  | _ => none
def menum (a : M PyData) : M (List PyData) := bnd a fun x => lft (enum? x)
theorem rf_enum (h : Rf c (RV c.K) ta ma) : Rf c (RIt c.K) (iEnum c.K (tCons ta tNil)) (menum ma) := by
  intro pp pr fz σ H ρ Q hp R hq
  refine h pp pr fz σ H ρ _ hp R (hq.bnd fun v x fz1 H1 ρ1 F1 R1 r1 P1 => ?_)
  obtain ⟨z, e, P1⟩ := lftB_post P1
  cases x <;> first | (cases e; done) | skip
  rename_i xs
  cases e
  cases r1 with
  | @lst a vs _ hf hH ra =>
    refine ⟨a, vs, rfl, SqL.of hH, ok_post P1 R1 ?_⟩
    intro fz' H' E hff i
    have e1 : H' a = some (.lst vs) := (E.keep a hf).trans hH
    refine ⟨fun d hd => ?_, fun hl => ⟨vs, SqL.of e1, ?_⟩⟩
    · unfold enumP at hd
      rw [List.getElem?_mapIdx] at hd
      cases e : xs[i]? with
      | none => rw [e] at hd; cases hd
      | some x =>
        rw [e] at hd
        cases hd
        obtain ⟨v, hv, rv⟩ := ra.get e
        refine ⟨⟨vs, v, SqL.of e1, hv⟩, fun u H'' hu => ?_⟩
        obtain ⟨T, x1, rfl, hT, rfl, f1⟩ := hu
        have q1 := f1 _ (SqL.of e1)
        rw [hv] at q1
        cases q1
        exact pair_new hff hT (.int _) (rv.ext E)
    · unfold enumP at hl
      rw [List.length_mapIdx] at hl
      rw [ra.length]; exact hl

/-! ### targets -/
abbrev Asg := PyData → Env → Option Env
def RfG (c : Cw) (ts : List Nat) (g : TG) (a : Asg) : Prop :=
  ∀ (pp : List (Nat × Addr)) (pr fz : Addr → Prop) (σ : L2.St) (H : Hp) (ρ ρ' : Env) (v : V) (d : PyData) (Q : L2.St → Hp → Prop), pp.map (·.1) = c.ps → Rel c.K pp pr fz σ H ρ → Rep c.K fz H v d → a d ρ = some ρ' →
    (∀ σ', Rel c.K pp pr fz σ' H ρ' → σ'.length = σ.length → (∀ i : Nat, i ∉ ts → σ'[i]? = σ[i]?) → Q σ' H) → g v σ H Q
def RfGs (c : Cw) (ts : List Nat) (g : TGs) (a : List PyData → Env → Option Env) : Prop :=
  ∀ (pp : List (Nat × Addr)) (pr fz : Addr → Prop) (σ : L2.St) (H : Hp) (ρ ρ' : Env) (v : List V) (d : List PyData) (Q : L2.St → Hp → Prop), pp.map (·.1) = c.ps → Rel c.K pp pr fz σ H ρ → RepA c.K fz H v d → a d ρ = some ρ' →
    (∀ σ', Rel c.K pp pr fz σ' H ρ' → σ'.length = σ.length → (∀ i : Nat, i ∉ ts → σ'[i]? = σ[i]?) → Q σ' H) → g v σ H Q
def aname (i : Nat) : Asg := fun d ρ => some (ρ.set i (.val d))
def agnil : List PyData → Env → Option Env := fun ds ρ => match ds with
  | [] => some ρ
  | _ => none
def agcons (a : Asg) (r : List PyData → Env → Option Env) : List PyData → Env → Option Env := fun ds ρ => match ds with
  | d :: ds => (a d ρ).bind fun ρ' => r ds ρ'
  | [] => none
def atup (n : Nat) (a : List PyData → Env → Option Env) : Asg := fun d ρ => match d with
  | .tuple ds => if ds.length = n then a ds ρ else none
  | _ => none
theorem rg_name {i : Nat} (hi : i ∉ c.ps) : RfG c [i] (gName i) (aname i) := by
  intro pp pr fz σ H ρ ρ' v d Q hp R r e q
  cases e
  refine q _ (R.setV r (by rw [hp]; exact hi)) (by simp) fun j hj => ?_
  have : i ≠ j := fun z => hj (by rw [z]; exact List.mem_singleton.mpr rfl)
  rw [List.getElem?_set_ne this]
theorem rgs_nil : RfGs c [] gNil agnil := by
  intro pp pr fz σ H ρ ρ' v d Q hp R r e q
  cases r with
  | nil => cases e; exact ⟨rfl, q σ R rfl fun _ _ => rfl⟩
  | cons _ _ => cases e
theorem rgs_cons {ts us : List Nat} {g : TG} {gs : TGs} {a : Asg} {as : List PyData → Env → Option Env} (h : RfG c ts g a) (hs : RfGs c us gs as) : RfGs c (ts ++ us) (gCons g gs) (agcons a as) := by
  intro pp pr fz σ H ρ ρ' v d Q hp R r e q
  cases r with
  | nil => cases e
  | cons r rr =>
    rename_i v vs d ds
    simp only [agcons] at e
    cases e1 : a d ρ with
    | none => rw [e1] at e; cases e
    | some ρ1 =>
      rw [e1] at e
      refine ⟨v, vs, rfl, h pp pr fz σ H ρ ρ1 v d _ hp R r e1 fun σ1 R1 l1 k1 => ?_⟩
      refine hs pp pr fz σ1 H ρ1 ρ' vs ds Q hp R1 rr e fun σ2 R2 l2 k2 => q σ2 R2 (l2.trans l1) fun i hi => ?_
      rw [List.mem_append, not_or] at hi
      exact (k2 i hi.2).trans (k1 i hi.1)
theorem rg_tup {ts : List Nat} {n : Nat} {gs : TGs} {as : List PyData → Env → Option Env} (hs : RfGs c ts gs as) : RfG c ts (gTup c.K n gs) (atup n as) := by
  intro pp pr fz σ H ρ ρ' v d Q hp R r e q
  cases d <;> first | (cases e; done) | skip
  rename_i ds
  simp only [atup] at e
  split at e
  · rename_i hn
    cases r with
    | tup hH ra =>
      exact ⟨_, _, rfl, hH.sq, by rw [ra.length]; exact hn, hs pp pr fz σ H ρ ρ' _ ds Q hp R ra e q⟩
  · cases e
end
end PL

/-! PL6: list comprehensions. -/
namespace PL
open PySem PySem.Spec L2
open PyProof.Rows hiding St

def wipeE (ρ : Env) : List Nat → Env
  | [] => ρ
  | v :: vs => (wipeE ρ vs).set v .emp
def unw (ρ0 ρ : Env) : List Nat → Env
  | [] => ρ
  | v :: vs => match ρ0[v]? with
    | some (.val d) => (unw ρ0 ρ vs).set v (.val d)
    | _ => unw ρ0 ρ vs
theorem wipe_at {σ : L2.St} {i : Nat} : ∀ {vs : List Nat}, i ∈ vs → (wipe σ vs)[i]? = if i < σ.length then some none else none
  | v :: vs, h => by
    unfold wipe
    by_cases hv : v = i
    · subst hv
      rw [List.getElem?_set]
      simp [wipe_length]
    · rw [List.getElem?_set_ne hv]
      exact wipe_at ((List.mem_cons.mp h).resolve_left (Ne.symm hv))
theorem wipe_congr {σ σ2 : L2.St} {vs : List Nat} (hl : σ2.length = σ.length) (h : ∀ i : Nat, i ∉ vs → σ2[i]? = σ[i]?) : wipe σ2 vs = wipe σ vs := by
  apply List.ext_getElem?
  intro j
  by_cases hj : j ∈ vs
  · rw [wipe_at hj, wipe_at hj, hl]
  · rw [wipe_out hj, wipe_out hj]; exact h j hj
theorem unw_length {ρ0 ρ : Env} : ∀ {vs : List Nat}, (unw ρ0 ρ vs).length = ρ.length
  | [] => rfl
  | v :: vs => by
    unfold unw
    split
    · rw [List.length_set]; exact unw_length
    · exact unw_length
theorem unw_out {ρ0 ρ : Env} {i : Nat} : ∀ {vs : List Nat}, i ∉ vs → (unw ρ0 ρ vs)[i]? = ρ[i]?
  | [], _ => rfl
  | v :: vs, h => by
    have h1 : v ≠ i := fun e => h (by rw [e]; exact List.mem_cons_self)
    have h2 : i ∉ vs := fun m => h (List.mem_cons_of_mem _ m)
    unfold unw
    split
    · rw [List.getElem?_set_ne h1]; exact unw_out h2
    · exact unw_out h2
theorem unw_at {ρ0 ρ : Env} {i : Nat} {s : Sl} : ∀ {vs : List Nat}, (unw ρ0 ρ vs)[i]? = some s → ρ[i]? = some s ∨ ∃ d, s = .val d ∧ ρ0[i]? = some (.val d)
  | [], h => .inl h
  | v :: vs, h => by
    unfold unw at h
    split at h
    · rename_i d hd
      by_cases hv : v = i
      · subst hv
        rw [List.getElem?_set] at h
        simp only [if_true] at h
        split at h
        · cases h; exact .inr ⟨d, rfl, hd⟩
        · cases h
      · rw [List.getElem?_set_ne hv] at h
        exact unw_at h
    · exact unw_at h
section
variable {K : PySem.W.Frag} {pp : List (Nat × Addr)} {pr fz fz' : Addr → Prop} {σ : L2.St} {H H' : Hp} {ρ ρ' : Env}
theorem Rel.setEmp {i : Nat} (R : Rel K pp pr fz σ H ρ) (hi : i ∉ pp.map (·.1)) (o : Option V) : Rel K pp pr fz (σ.set i o) H (ρ.set i .emp) := by
  have back : ∀ (j : Nat) (x : PyData), (ρ.set i .emp)[j]? = some (Sl.own x) → ρ[j]? = some (.own x) ∧ j ≠ i := fun j x e => by
    by_cases h : j = i
    · subst h
      rw [List.getElem?_set] at e
      simp at e
    · rw [List.getElem?_set_ne (Ne.symm h)] at e
      exact ⟨e, h⟩
  refine ⟨by simpa using R.len, fun j s e => ?_, fun j k b x y e1 e2 s1 s2 => ?_, R.fzH, R.prH, fun p hp => ?_⟩
  · by_cases h : j = i
    · subst h
      have hl : j < ρ.length := by
        have := (List.getElem?_eq_some_iff.mp e).1
        simpa using this
      rw [List.getElem?_set_self hl] at e
      cases e
      trivial
    · rw [List.getElem?_set_ne (Ne.symm h)] at e ⊢
      exact R.at_ j s e
  · obtain ⟨e1, n1⟩ := back j x e1
    obtain ⟨e2, n2⟩ := back k y e2
    rw [List.getElem?_set_ne (Ne.symm n1)] at s1
    rw [List.getElem?_set_ne (Ne.symm n2)] at s2
    exact R.sep j k b x y e1 e2 s1 s2
  · have h : p.1 ≠ i := fun z => hi (z ▸ List.mem_map_of_mem hp)
    rw [List.getElem?_set_ne (Ne.symm h), List.getElem?_set_ne (Ne.symm h)]
    exact R.pin p hp
theorem Rel.wipe (R : Rel K pp pr fz σ H ρ) : ∀ {vs : List Nat}, (∀ i ∈ vs, i ∉ pp.map (·.1)) → Rel K pp pr fz (L2.wipe σ vs) H (wipeE ρ vs)
  | [], _ => R
  | v :: vs, h => (Rel.wipe R fun i hi => h i (List.mem_cons_of_mem _ hi)).setEmp (h v List.mem_cons_self) none
/-- a wider, a narrower protection -/
theorem Rel.wide {D : Addr} (R : Rel K pp pr fz σ H ρ) (hD : H D ≠ none) (hs : ∀ (i : Nat) (x : PyData), ρ[i]? = some (.own x) → σ[i]? ≠ some (some (V.ref D))) : Rel K pp (fun a => pr a ∨ a = D) fz σ H ρ := by
  refine ⟨R.len, fun i s e => ?_, R.sep, R.fzH, fun a h => h.elim (R.prH a) fun e => by rw [e]; exact hD, R.pin⟩
  have q := R.at_ i s e
  cases s with
  | own d =>
    obtain ⟨a, h, n, np, r⟩ := q
    refine ⟨a, h, n, fun z => z.elim np fun z => ?_, r⟩
    subst z
    exact hs i d e (join_some.mp h)
  | _ => exact q
theorem Rel.narrow {pr' : Addr → Prop} (R : Rel K pp pr' fz σ H ρ) (h : ∀ a, pr a → pr' a) : Rel K pp pr fz σ H ρ := by
  refine ⟨R.len, fun i s e => ?_, R.sep, R.fzH, fun a z => R.prH a (h a z), R.pin⟩
  have q := R.at_ i s e
  cases s with
  | own d =>
    obtain ⟨a, h', n, np, r⟩ := q
    exact ⟨a, h', n, fun z => np (h a z), r⟩
  | _ => exact q
theorem Fr.narrow {pr' : Addr → Prop} (F : Fr pr' fz H fz' H') (h : ∀ a, pr a → pr' a) : Fr pr fz H fz' H' := ⟨F.mono, F.keep, fun a z => F.keepP a (h a z), fun a z => F.new a (h a z)⟩
/-- an object that no slot holds is changed -/
theorem Rel.other {D : Addr} {o : HO} (R : Rel K pp pr fz σ H ρ) (hf : ¬ fz D) (hs : ∀ (i : Nat) (x : PyData), ρ[i]? = some (.own x) → σ[i]? ≠ some (some (V.ref D))) : Rel K pp pr fz σ (upd H D o) ρ := by
  have E : Ext fz H fz (upd H D o) := ⟨fun _ z => z, fun a z => upd_ne fun q => hf (q ▸ z)⟩
  have there : ∀ a, H a ≠ none → upd H D o a ≠ none := fun a z => by
    by_cases h : a = D
    · rw [h, upd_same]; simp
    · rw [upd_ne h]; exact z
  refine ⟨R.len, fun i s e => ?_, R.sep, fun a z => there a (R.fzH a z), fun a z => there a (R.prH a z), R.pin⟩
  have q := R.at_ i s e
  cases s with
  | emp => trivial
  | val d => obtain ⟨v, h, r⟩ := q; exact ⟨v, h, r.ext E⟩
  | scr ns => obtain ⟨v, h, r⟩ := q; exact ⟨v, h, r.ext E⟩
  | own d =>
    obtain ⟨a, h, n, np, r⟩ := q
    refine ⟨a, h, n, np, r.ext E (upd_ne fun z => ?_)⟩
    subst z
    exact hs i d e (join_some.mp h)
/-- back from the block -/
theorem Rel.unw {vs : List Nat} (R0 : Rel K pp pr fz σ H ρ) (R : Rel K pp pr fz' (L2.wipe σ vs) H' ρ') (F : Fr pr fz H fz' H') (hv : ∀ i ∈ vs, i ∉ pp.map (·.1)) : Rel K pp pr fz' σ H' (PL.unw ρ ρ' vs) := by
  have emp : ∀ (i : Nat) (s : Sl), i ∈ vs → ρ'[i]? = some s → s = .emp := fun i s hi e => by
    have q := R.at_ i s e
    rw [wipe_at hi] at q
    have hn : (if i < σ.length then some none else none : Option (Option V)).join = none := by split <;> rfl
    rw [hn] at q
    cases s with
    | emp => rfl
    | val d => obtain ⟨v, h, _⟩ := q; cases h
    | own d => obtain ⟨v, h, _⟩ := q; cases h
    | scr d => obtain ⟨v, h, _⟩ := q; cases h
  have own : ∀ (i : Nat) (x : PyData), (PL.unw ρ ρ' vs)[i]? = some (.own x) → ρ'[i]? = some (.own x) ∧ i ∉ vs := fun i x e => by
    rcases unw_at e with h | ⟨d, h, _⟩
    · exact ⟨h, fun z => by cases emp i _ z h⟩
    · cases h
  refine ⟨by rw [unw_length, ← R.len, wipe_length], fun i s e => ?_, fun i j a x y e1 e2 s1 s2 => ?_, R.fzH, R.prH, fun p hp => ?_⟩
  · by_cases hi : i ∈ vs
    · rcases unw_at e with h | ⟨d, rfl, h⟩
      · rw [emp i s hi h]; trivial
      · obtain ⟨v, hv', r⟩ := R0.at_ i _ h
        exact ⟨v, hv', r.ext F.ext⟩
    · rw [unw_out hi] at e
      have q := R.at_ i s e
      rw [wipe_out hi] at q
      exact q
  · obtain ⟨e1, n1⟩ := own i x e1
    obtain ⟨e2, n2⟩ := own j y e2
    exact R.sep i j a x y e1 e2 (by rw [wipe_out n1]; exact s1) (by rw [wipe_out n2]; exact s2)
  · have hn : p.1 ∉ vs := fun z => hv p.1 z (List.mem_map_of_mem hp)
    obtain ⟨x, e, s⟩ := R.pin p hp
    rw [wipe_out hn] at s
    exact ⟨x, by rw [unw_out hn]; exact e, s⟩
end

def compL (asg : Asg) (test : M Bool) (elt : M PyData) (vs : List Nat) : List PyData → Env → List PyData → Out PyData
  | [], ρ, acc => .ok (.list acc) ρ
  | d :: r, ρ, acc => match asg d ρ with
    | none => .bad
    | some ρ1 => match test ρ1 with
      | .ok b ρ2 => if b = true then match elt ρ2 with
          | .ok y ρ3 => if lenOk (acc.length + 1) = true then compL asg test elt vs r (wipeE ρ3 vs) (acc ++ [y]) else .bad
          | _ => .bad
        else compL asg test elt vs r (wipeE ρ2 vs) acc
      | _ => .bad
def mlc (items : M (List PyData)) (asg : Asg) (test : M Bool) (elt : M PyData) (vs : List Nat) : M PyData := bnd items fun ds ρ => match compL asg test elt vs ds (wipeE ρ vs) [] with
  | .ok d ρ' => .ok d (unw ρ ρ' vs)
  | _ => .bad
abbrev Cw.calm0 (c : Cw) : Cw := { c with W := fun _ _ _ _ => False }
def myes : M Bool := fun ρ => .ok true ρ
section
variable {c : Cw} {wi : TI} {g : TG} {tt : TT} {te : TE} {items : M (List PyData)} {asg : Asg} {test : M Bool} {elt : M PyData} {vs ts : List Nat}
theorem rf_yes : Rf c RB tYes myes := fun pp pr fz σ H ρ Q hp R hq => ok_post hq R rfl
theorem rf_lc (hi : Rf c (RIt c.K) wi items) (hg : RfG c.calm0 ts g asg) (ht : Rf c.calm0 RB tt test) (he : Rf c.calm0 (RV c.K) te elt) (hts : ∀ i ∈ ts, i ∈ vs) (hvs : ∀ i ∈ vs, i ∉ c.ps) :
    Rf c (RO c.K) (tLc wi g tt te vs) (mlc items asg test elt vs) := by
  intro pp pr fz σ H ρ Q hp R hq
  refine hi pp pr fz σ H ρ _ hp R (hq.bnd fun J ds fz1 H1 ρ1 F1 R1 J1 P1 D hD => ?_)
  cases eo : compL asg test elt vs ds (wipeE ρ1 vs) [] with
  | bad => rw [eo] at P1; exact P1.elim
  | exc x r => rw [eo] at P1; exact P1.elim
  | ok dF ρF =>
  rw [eo] at P1
  have hvp : ∀ i ∈ vs, i ∉ pp.map (·.1) := fun i h => by rw [hp]; exact hvs i h
  have nD : ¬ fz1 D := fun z => R1.fzH D z hD
  have npD : ¬ pr D := fun z => R1.prH D z hD
  let prD : Addr → Prop := fun a => pr a ∨ a = D
  let W : Nat → Nat → Hp → Prop := fun i m H2 => m = ds.length - i ∧ i ≤ ds.length ∧ ∃ (fz2 : Addr → Prop) (ρ2 : Env) (acc : List PyData) (vacc : List V), Fr pr fz1 H1 fz2 H2 ∧ Rel c.K pp prD fz2 (wipe σ vs) H2 ρ2 ∧ ¬ fz2 D ∧ H2 D = some (.lst vacc) ∧ RepA c.K fz2 H2 vacc acc ∧
    compL asg test elt vs (ds.drop i) ρ2 acc = .ok dF ρF
  refine ⟨W, ⟨_, rfl, Nat.zero_le _, fz1, wipeE ρ1 vs, [], [], ?_, ?_, nD, upd_same, .nil, by rw [List.drop_zero]; exact eo⟩, fun i m H2 hW => ?_⟩
  · exact ⟨fun _ z => z, fun a z => upd_ne fun q => nD (q ▸ z), fun a z => upd_ne fun q => npD (q ▸ z), fun _ _ z => z⟩
  · have Rw := R1.wipe hvp
    have ns : ∀ (i : Nat) (x : PyData), (wipeE ρ1 vs)[i]? = some (.own x) → (wipe σ vs)[i]? ≠ some (some (V.ref D)) := fun i x e z => by
      obtain ⟨a, s, _, _, o⟩ := Rw.own_ne e
      rw [z] at s
      cases s
      exact o.some hD
    exact (Rw.other nD ns).wide (by rw [upd_same]; simp) ns
  · obtain ⟨rfl, hil, fz2, ρ2, acc, vacc, F2, R2, nf2, hD2, ra, ec⟩ := hW
    have nown : ∀ {fz3 : Addr → Prop} {σ3 : L2.St} {H3 : Hp} {ρ3 : Env}, Rel c.K pp prD fz3 σ3 H3 ρ3 → ∀ (i : Nat) (x : PyData), ρ3[i]? = some (.own x) → σ3[i]? ≠ some (some (V.ref D)) := fun R3 i x e z => by
      obtain ⟨a, s, _, np, o⟩ := R3.own_ne e
      rw [z] at s
      cases s
      exact np (.inr rfl)
    by_cases hlt : i < ds.length
    · obtain ⟨go, yld⟩ := (J1 fz2 H2 F2.ext R2.fzH i).1 ds[i] (List.getElem?_eq_getElem hlt)
      rw [List.drop_eq_getElem_cons hlt] at ec
      unfold compL at ec
      refine .inr ⟨go, W (i + 1) (ds.length - (i + 1)), fun H' h => ⟨_, by omega, h⟩, fun x H3 hx => ?_⟩
      obtain ⟨fz3, A3, r3⟩ := yld x H3 hx
      have R3 := A3.rel R2
      have F3 := A3.fr R2
      cases ea : asg ds[i] ρ2 with
      | none => rw [ea] at ec; cases ec
      | some ρ3 =>
        simp only [ea] at ec
        refine hg pp prD fz3 (wipe σ vs) H3 ρ2 ρ3 x ds[i] _ hp R3 r3 ea fun σ4 R4 l4 k4 => ?_
        have w4 : wipe σ4 vs = wipe σ vs := wipe_congr (l4.trans (wipe_length σ vs)) fun j hj => (k4 j fun z => hj (hts j z)).trans (wipe_out hj)
        refine ⟨w4, ?_⟩
        cases et : test ρ3 with
        | bad => simp only [et] at ec; cases ec
        | exc x r => simp only [et] at ec; cases ec
        | ok b ρ5 =>
          simp only [et] at ec
          refine ht pp prD fz3 σ4 H3 ρ3 _ hp R4 ?_
          rw [et]
          intro b' fz5 H5 F5 R5 hb
          obtain rfl : b' = b := hb
          cases b' with
          | false =>
            rw [if_neg (by simp)] at ec ⊢
            have R6 := R5.wipe hvp
            rw [w4] at R6
            refine ⟨rfl, hlt, fz5, _, acc, vacc, F2.trans ((F3.trans F5).narrow fun a z => .inl z), R6, fun z => nf2 (F3.new D (.inr rfl) (F5.new D (.inr rfl) z)), ?_, RepA.ext F5.ext (RepA.ext F3.ext ra), ec⟩
            rw [F5.keepP D (.inr rfl), F3.keepP D (.inr rfl)]; exact hD2
          | true =>
            rw [if_pos rfl] at ec ⊢
            cases ee : elt ρ5 with
            | bad => simp only [ee] at ec; cases ec
            | exc x r => simp only [ee] at ec; cases ec
            | ok y ρ6 =>
              simp only [ee] at ec
              split at ec
              · rename_i hlen
                refine he pp prD fz5 σ4 H5 ρ5 _ hp R5 ?_
                rw [ee]
                intro w fz6 H6 F6 R6 rw6
                have hD6 : H6 D = some (.lst vacc) := by rw [F6.keepP D (.inr rfl), F5.keepP D (.inr rfl), F3.keepP D (.inr rfl)]; exact hD2
                have nf6 : ¬ fz6 D := fun z => nf2 (F3.new D (.inr rfl) (F5.new D (.inr rfl) (F6.new D (.inr rfl) z)))
                have ra6 := RepA.ext F6.ext (RepA.ext F5.ext (RepA.ext F3.ext ra))
                have R7 := R6.wipe hvp
                rw [w4] at R7
                have E7 : Ext fz6 H6 fz6 (upd H6 D (.lst (vacc ++ [w]))) := ⟨fun _ z => z, fun a z => upd_ne fun q => nf6 (q ▸ z)⟩
                refine ⟨vacc, hD6, ?_, rfl, hlt, fz6, _, acc ++ [y], vacc ++ [w], ?_, R7.other nf6 (nown R7), nf6, upd_same, RepA.ext E7 (ra6.append (.cons rw6 .nil)), ec⟩
                · rw [ra6.length]
                  have := lenOk_iff.mp hlen
                  omega
                · have F := F2.trans (((F3.trans F5).trans F6).narrow fun a z => Or.inl z)
                  exact ⟨F.mono, fun a z => (upd_ne fun q => nf6 (by rw [← q]; exact F.mono a z)).trans (F.keep a z), fun a z => (upd_ne fun q => npD (by rw [← q]; exact z)).trans (F.keepP a z), F.new⟩
              · cases ec
    · have e : i = ds.length := by omega
      subst e
      rw [List.drop_length] at ec
      unfold compL at ec
      obtain ⟨rfl, rfl⟩ : PyData.list acc = dF ∧ ρ2 = ρF := by cases ec; exact ⟨rfl, rfl⟩
      refine .inl ⟨(J1 fz2 H2 F2.ext R2.fzH _).2 (Nat.le_refl _), ?_⟩
      have Rn : Rel c.K pp pr fz2 (wipe σ vs) H2 ρ2 := R2.narrow fun a z => .inl z
      have Ru := R1.unw Rn F2 hvp
      refine P1 (.ref D) fz2 H2 F2 Ru ⟨D, rfl, nf2, npD, fun i x e z => ?_, vacc, hD2, ra⟩
      obtain ⟨a, s, nfa, npa, o⟩ := Ru.own_ne e
      rcases unw_at e with h | ⟨d, h, _⟩
      · by_cases hi : i ∈ vs
        · have q := R2.at_ i _ h
          rw [wipe_at hi] at q
          obtain ⟨v, hv, _⟩ := q
          split at hv <;> cases hv
        · exact nown R2 i x h (by rw [wipe_out hi]; exact z)
      · cases h
end
end PL

/-! PL7: statements. -/
namespace PL
open PySem PySem.Spec L2
open PyProof.Rows hiding St

inductive Rt where
  | v (d : PyData) | o (d : PyData)
inductive SOut where
  | nx (r : Env) | rt (a : Rt) (r : Env) | bk (r : Env) | ct (r : Env) | exc (e : PExc) (r : Env) | bad
abbrev SM := Env → SOut
def PostS (c : Cw) (pp : List (Nat × Addr)) (pr fz : Addr → Prop) (H : Hp) (o : SOut) (D : Ends) : Prop :=
  match o with
  | .nx ρ => ∀ (σ' : L2.St) (fz' : Addr → Prop) (H' : Hp), Fr pr fz H fz' H' → Rel c.K pp pr fz' σ' H' ρ → D.nx σ' H'
  | .bk ρ => ∀ (σ' : L2.St) (fz' : Addr → Prop) (H' : Hp), Fr pr fz H fz' H' → Rel c.K pp pr fz' σ' H' ρ → D.bk σ' H'
  | .ct ρ => ∀ (σ' : L2.St) (fz' : Addr → Prop) (H' : Hp), Fr pr fz H fz' H' → Rel c.K pp pr fz' σ' H' ρ → D.ct σ' H'
  | .rt (.v d) ρ => ∀ (v : V) (σ' : L2.St) (fz' : Addr → Prop) (H' : Hp), Fr pr fz H fz' H' → Rel c.K pp pr fz' σ' H' ρ → Rep c.K fz' H' v d → D.rt v H'
  | .rt (.o d) ρ => ∀ (v : V) (σ' : L2.St) (fz' : Addr → Prop) (H' : Hp), Fr pr fz H fz' H' → Rel c.K pp pr fz' σ' H' ρ → RO c.K pr σ' fz' H' ρ v d → D.rt v H'
  | .exc e ρ => ∀ (cls : Value) (dx : Option Addr) (σ' : L2.St) (fz' : Addr → Prop) (H' : Hp), Fr pr fz H fz' H' → Rel c.K pp pr fz' σ' H' ρ → c.RX fz' H' cls dx e → c.W cls dx σ' H'
  | .bad => False
def RfS (c : Cw) (t : TS) (m : SM) : Prop :=
  ∀ (pp : List (Nat × Addr)) (pr fz : Addr → Prop) (σ : L2.St) (H : Hp) (ρ : Env) (D : Ends), pp.map (·.1) = c.ps → Rel c.K pp pr fz σ H ρ → PostS c pp pr fz H (m ρ) D → t D σ H
section
variable {c : Cw} {pp : List (Nat × Addr)} {pr fz : Addr → Prop} {σ : L2.St} {H : Hp} {ρ : Env}
theorem PostS.rest {fz1 : Addr → Prop} {H1 : Hp} {o : SOut} {D : Ends} (F : Fr pr fz H fz1 H1) (h : PostS c pp pr fz H o D) : PostS c pp pr fz1 H1 o D := by
  cases o with
  | nx r => exact fun σ' fz' H' F' => h σ' fz' H' (F.trans F')
  | bk r => exact fun σ' fz' H' F' => h σ' fz' H' (F.trans F')
  | ct r => exact fun σ' fz' H' F' => h σ' fz' H' (F.trans F')
  | rt a r => cases a <;> exact fun v σ' fz' H' F' => h v σ' fz' H' (F.trans F')
  | exc e r => exact fun cls dx σ' fz' H' F' => h cls dx σ' fz' H' (F.trans F')
  | bad => exact h
/-- an expression within a statement -/
def sbnd {α : Type} (m : M α) (f : α → SM) : SM := fun ρ => match m ρ with
  | .ok a r => f a r
  | .exc e r => .exc e r
  | .bad => .bad
theorem PostS.bnd {α β : Type} {R1 : RT α β} {m : M α} {f : α → SM} {D : Ends} {Q1 : β → Hp → Prop} (h : PostS c pp pr fz H (sbnd m f ρ) D)
    (k : ∀ (b : β) (a : α) (fz1 : Addr → Prop) (H1 : Hp) (ρ1 : Env), Fr pr fz H fz1 H1 → Rel c.K pp pr fz1 σ H1 ρ1 → R1 pr σ fz1 H1 ρ1 b a → PostS c pp pr fz1 H1 (f a ρ1) D → Q1 b H1) : PostG c pp pr σ R1 fz H (m ρ) Q1 := by
  unfold sbnd at h
  cases e : m ρ with
  | ok a r =>
    rw [e] at h
    exact fun b fz1 H1 F R q => k b a fz1 H1 r F R q (h.rest F)
  | exc x r => rw [e] at h; exact fun cls dx fz1 H1 F R q => h cls dx σ fz1 H1 F R q
  | bad => rw [e] at h; exact h.elim
def slft {α : Type} (o : Option α) (f : α → SOut) : SOut := match o with
  | some a => f a
  | none => .bad
variable {t u : TS} {ma mb : SM} {te : TE} {m : M PyData} {g : TG} {asg : Asg} {ts : List Nat}

def mnext : SM := fun ρ => .nx ρ
def mseq (a b : SM) : SM := fun ρ => match a ρ with
  | .nx r => b r
  | o => o
theorem rs_next : RfS c tNext mnext := fun pp pr fz σ H ρ D hp R h => h σ fz H Fr.refl R
theorem rs_seq (h1 : RfS c t ma) (h2 : RfS c u mb) : RfS c (tSeq t u) (mseq ma mb) := by
  intro pp pr fz σ H ρ D hp R hq
  refine h1 pp pr fz σ H ρ { D with nx := u D } hp R ?_
  unfold mseq at hq
  cases e : ma ρ with
  | nx r =>
    rw [e] at hq
    exact fun σ' fz' H' F R' => h2 pp pr fz' σ' H' r D hp R' (PostS.rest F hq)
  | rt a r => rw [e] at hq; cases a <;> exact hq
  | bk r => rw [e] at hq; exact hq
  | ct r => rw [e] at hq; exact hq
  | exc x r => rw [e] at hq; exact hq
  | bad => rw [e] at hq; exact hq
def mbreak : SM := fun ρ => .bk ρ
def mcont : SM := fun ρ => .ct ρ
theorem rs_break : RfS c tBreak mbreak := fun pp pr fz σ H ρ D hp R h => h σ fz H Fr.refl R
theorem rs_cont : RfS c tCont mcont := fun pp pr fz σ H ρ D hp R h => h σ fz H Fr.refl R
def mexpr (e : M PyData) : SM := sbnd e fun _ r => .nx r
theorem rs_expr (h : Rf c (RV c.K) te m) : RfS c (tDrop te) (mexpr m) := by
  intro pp pr fz σ H ρ D hp R hq
  exact h pp pr fz σ H ρ _ hp R (hq.bnd fun v x fz1 H1 ρ1 F1 R1 r1 P1 => P1 σ fz1 H1 Fr.refl R1)
def mret (e : M PyData) : SM := sbnd e fun d r => .rt (.v d) r
def mretO (e : M PyData) : SM := sbnd e fun d r => .rt (.o d) r
theorem rs_ret (h : Rf c (RV c.K) te m) : RfS c (tRet te) (mret m) := by
  intro pp pr fz σ H ρ D hp R hq
  exact h pp pr fz σ H ρ _ hp R (hq.bnd fun v x fz1 H1 ρ1 F1 R1 r1 P1 => P1 v σ fz1 H1 Fr.refl R1 r1)
theorem rs_retO (h : Rf c (RO c.K) te m) : RfS c (tRet te) (mretO m) := by
  intro pp pr fz σ H ρ D hp R hq
  exact h pp pr fz σ H ρ _ hp R (hq.bnd fun v x fz1 H1 ρ1 F1 R1 r1 P1 => P1 v σ fz1 H1 Fr.refl R1 r1)
def mretN : SM := fun ρ => .rt (.v .none) ρ
theorem rs_retN : RfS c tRetN mretN := fun pp pr fz σ H ρ D hp R h => h .non σ fz H Fr.refl R .non
/-- a slot's own object is given away -/
def mtake (i : Nat) : M PyData := fun ρ => match ρ[i]? with
  | some (.own d) => .ok d (ρ.set i .emp)
  | _ => .bad
theorem rf_take {i : Nat} (hi : i ∉ c.ps) : Rf c (RO c.K) (tVar i) (mtake i) := by
  intro pp pr fz σ H ρ Q hp R hq
  unfold mtake at hq
  cases e : ρ[i]? with
  | none => rw [e] at hq; exact hq.elim
  | some s =>
    rw [e] at hq
    cases s with
    | own d =>
      obtain ⟨a, hs, nf, np, oc⟩ := R.own_ne e
      refine ⟨_, hs, ?_⟩
      have hil : i < σ.length := (List.getElem?_eq_some_iff.mp hs).1
      have R1 := R.setEmp (i := i) (by rw [hp]; exact hi) (some (V.ref a))
      have e1 : σ.set i (some (V.ref a)) = σ := by
        apply List.ext_getElem?
        intro j
        by_cases h : j = i
        · subst h
          rw [List.getElem?_set_self hil]
          exact hs.symm
        · rw [List.getElem?_set_ne (Ne.symm h)]
      rw [e1] at R1
      refine hq _ fz H Fr.refl R1 ⟨a, rfl, nf, np, fun j x ej sj => ?_, oc⟩
      by_cases h : j = i
      · subst h
        rw [List.getElem?_set] at ej
        simp at ej
      · rw [List.getElem?_set_ne (Ne.symm h)] at ej
        exact h (R.sep j i a x d ej e sj hs)
    | _ => exact hq.elim
/-- target = e -/
def massign (e : M PyData) (a : Asg) : SM := sbnd e fun d r => slft (a d r) .nx
theorem rs_assign (h : Rf c (RV c.K) te m) (hg : RfG c ts g asg) : RfS c (tAsg te g) (massign m asg) := by
  intro pp pr fz σ H ρ D hp R hq
  refine h pp pr fz σ H ρ _ hp R (hq.bnd fun v x fz1 H1 ρ1 F1 R1 r1 P1 => ?_)
  cases e : asg x ρ1 with
  | none => simp only [e, slft] at P1; exact P1.elim
  | some ρ2 =>
    simp only [e, slft] at P1
    exact hg pp pr fz1 σ H1 ρ1 ρ2 v x _ hp R1 r1 e fun σ' R' _ _ => P1 σ' fz1 H1 Fr.refl R'
/-- name = a new list or dict -/
def mown (e : M PyData) (i : Nat) : SM := sbnd e fun d r => .nx (r.set i (.own d))
theorem rs_own {i : Nat} (hi : i ∉ c.ps) (h : Rf c (RO c.K) te m) : RfS c (tAsg te (gName i)) (mown m i) := by
  intro pp pr fz σ H ρ D hp R hq
  refine h pp pr fz σ H ρ _ hp R (hq.bnd fun v x fz1 H1 ρ1 F1 R1 r1 P1 => ?_)
  obtain ⟨a, rfl, nf, np, ns, oc⟩ := r1
  exact P1 _ fz1 H1 Fr.refl (R1.setO nf np oc ns (by rw [hp]; exact hi))
/-- name op= e -/
def maug (f : PyData → PyData → Option PyData) (i : Nat) (e : M PyData) : SM := fun ρ => match ρ[i]? with
  | some (.val x) => sbnd e (fun y r => slft (f x y) fun z => .nx (r.set i (.val z))) ρ
  | _ => .bad
theorem rs_aug {r : R2} {f : PyData → PyData → Option PyData} {i : Nat} (hi : i ∉ c.ps) (ho : OpF c.K r f) (h : Rf c (RV c.K) te m) : RfS c (tAug i te r) (maug f i m) := by
  intro pp pr fz σ H ρ D hp R hq
  unfold maug at hq
  cases e : ρ[i]? with
  | none => rw [e] at hq; exact hq.elim
  | some s =>
    rw [e] at hq
    cases s with
    | val x =>
      obtain ⟨v, hv, rv⟩ := R.at_ i _ e
      refine ⟨v, join_some.mp hv, ?_⟩
      refine h pp pr fz σ H ρ _ hp R (PostS.bnd (f := fun y r => slft (f x y) fun z => .nx (r.set i (.val z))) hq fun w y fz1 H1 ρ1 F1 R1 r1 P1 => ?_)
      cases ez : f x y with
      | none => simp only [ez, slft] at P1; exact P1.elim
      | some z =>
        simp only [ez, slft] at P1
        refine ho fz1 H1 v w x y z (.inl (Rep.ext F1.ext rv)) (.inl r1) ez _ fun u fz2 H2 A r2 => ?_
        exact P1 _ fz2 H2 (A.fr R1) ((A.rel R1).setV (r2 R1.fzH) (by rw [hp]; exact hi))
    | _ => exact hq.elim
def mifS (k : M Bool) (a b : SM) : SM := sbnd k fun x => if x = true then a else b
theorem rs_if {tc : TT} {k : M Bool} (hk : Rf c RB tc k) (ha : RfS c t ma) (hb : RfS c u mb) : RfS c (tIfS tc t u) (mifS k ma mb) := by
  intro pp pr fz σ H ρ D hp R hq
  refine hk pp pr fz σ H ρ _ hp R (hq.bnd fun v x fz1 H1 ρ1 F1 R1 r1 P1 => ?_)
  obtain rfl : v = x := r1
  cases v with
  | true => exact ha pp pr fz1 σ H1 ρ1 D hp R1 P1
  | false => exact hb pp pr fz1 σ H1 ρ1 D hp R1 P1

/-! ### loops -/
def forL (asg : Asg) (body : SM) : List PyData → Env → SOut
  | [], ρ => .nx ρ
  | d :: r, ρ => match asg d ρ with
    | none => .bad
    | some ρ1 => match body ρ1 with
      | .nx ρ2 => forL asg body r ρ2
      | .ct ρ2 => forL asg body r ρ2
      | .bk ρ2 => .nx ρ2
      | o => o
def mfor (items : M (List PyData)) (asg : Asg) (body : SM) : SM := sbnd items fun ds => forL asg body ds
theorem rs_for {wi : TI} {items : M (List PyData)} (hi : Rf c (RIt c.K) wi items) (hg : RfG c ts g asg) (hb : RfS c t ma) : RfS c (tFor wi g t) (mfor items asg ma) := by
  intro pp pr fz σ H ρ D hp R hq
  refine hi pp pr fz σ H ρ _ hp R (hq.bnd fun J ds fz1 H1 ρ1 F1 R1 J1 P1 => ?_)
  let W : Nat → Nat → L2.St → Hp → Prop := fun i n σ2 H2 => n = ds.length - i ∧ i ≤ ds.length ∧ ∃ (fz2 : Addr → Prop) (ρ2 : Env), Fr pr fz1 H1 fz2 H2 ∧ Rel c.K pp pr fz2 σ2 H2 ρ2 ∧ PostS c pp pr fz2 H2 (forL asg ma (ds.drop i) ρ2) D
  refine ⟨W, ⟨_, rfl, Nat.zero_le _, fz1, ρ1, Fr.refl, R1, by rw [List.drop_zero]; exact P1⟩, fun i n σ2 H2 hW => ?_⟩
  obtain ⟨rfl, hil, fz2, ρ2, F2, R2, P2⟩ := hW
  by_cases hlt : i < ds.length
  · obtain ⟨go, yld⟩ := (J1 fz2 H2 F2.ext R2.fzH i).1 ds[i] (List.getElem?_eq_getElem hlt)
    rw [List.drop_eq_getElem_cons hlt] at P2
    unfold forL at P2
    refine .inr ⟨go, W (i + 1) (ds.length - (i + 1)), fun σ' H' h => ⟨_, by omega, h⟩, fun x H3 hx => ?_⟩
    obtain ⟨fz3, A3, r3⟩ := yld x H3 hx
    have R3 := A3.rel R2
    have F3 := A3.fr R2
    cases ea : asg ds[i] ρ2 with
    | none => rw [ea] at P2; exact P2.elim
    | some ρ3 =>
      simp only [ea] at P2
      refine hg pp pr fz3 σ2 H3 ρ2 ρ3 x ds[i] _ hp R3 r3 ea fun σ4 R4 l4 k4 => ?_
      refine hb pp pr fz3 σ4 H3 ρ3 _ hp R4 ?_
      have P2 := PostS.rest F3 P2
      cases eb : ma ρ3 with
      | nx ρ5 =>
        simp only [eb] at P2
        exact fun σ' fz' H' F' R' => ⟨rfl, hlt, fz', ρ5, F2.trans (F3.trans F'), R', PostS.rest F' P2⟩
      | ct ρ5 =>
        simp only [eb] at P2
        exact fun σ' fz' H' F' R' => ⟨rfl, hlt, fz', ρ5, F2.trans (F3.trans F'), R', PostS.rest F' P2⟩
      | bk ρ5 =>
        simp only [eb] at P2
        exact P2
      | rt a r => simp only [eb] at P2; cases a <;> exact P2
      | exc x r => simp only [eb] at P2; exact P2
      | bad => simp only [eb] at P2; exact P2.elim
  · have e : i = ds.length := by omega
    subst e
    rw [List.drop_length] at P2
    exact .inl ⟨(J1 fz2 H2 F2.ext R2.fzH _).2 (Nat.le_refl _), P2 σ2 fz2 H2 Fr.refl R2⟩
def whileN (k : M Bool) (b : SM) : Nat → Env → SOut
  | 0, _ => .bad
  | n + 1, ρ => match k ρ with
    | .ok x ρ1 => if x = true then match b ρ1 with
        | .nx ρ2 => whileN k b n ρ2
        | .ct ρ2 => whileN k b n ρ2
        | .bk ρ2 => .nx ρ2
        | o => o
      else .nx ρ1
    | .exc e r => .exc e r
    | .bad => .bad
open Classical in
noncomputable def mwhile (k : M Bool) (b : SM) : SM := fun ρ => if h : ∃ n, whileN k b n ρ ≠ .bad then whileN k b (Classical.choose h) ρ else .bad
theorem whileN_mono {k : M Bool} {b : SM} : ∀ {n : Nat} {ρ : Env}, whileN k b n ρ ≠ .bad → ∀ j, whileN k b (n + j) ρ = whileN k b n ρ
  | 0, ρ, h, j => absurd rfl h
  | n + 1, ρ, h, j => by
    rw [show n + 1 + j = (n + j) + 1 by omega]
    unfold whileN at h ⊢
    cases e : k ρ with
    | bad => rfl
    | exc x r => rfl
    | ok x r =>
      simp only [e] at h ⊢
      cases x with
      | false => rfl
      | true =>
        simp only [if_true] at h ⊢
        cases eb : b r with
        | nx r2 => simp only [eb] at h ⊢; exact whileN_mono h j
        | ct r2 => simp only [eb] at h ⊢; exact whileN_mono h j
        | _ => rfl
theorem mwhile_eq {k : M Bool} {b : SM} {ρ : Env} (n : Nat) (h : whileN k b n ρ ≠ .bad) : mwhile k b ρ = whileN k b n ρ := by
  have hx : ∃ n, whileN k b n ρ ≠ .bad := ⟨n, h⟩
  unfold mwhile
  rw [dif_pos hx]
  have h2 := Classical.choose_spec hx
  rcases Nat.le_total n (Classical.choose hx) with hl | hl
  · obtain ⟨j, ej⟩ := Nat.le.dest hl
    rw [← ej]; exact whileN_mono h j
  · obtain ⟨j, ej⟩ := Nat.le.dest hl
    have := whileN_mono h2 j
    rw [ej] at this
    exact this.symm
theorem rs_while {tc : TT} {k : M Bool} (hk : Rf c RB tc k) (hb : RfS c t ma) : RfS c (tWhile tc t) (mwhile k ma) := by
  intro pp pr fz σ H ρ D hp R hq
  unfold mwhile at hq
  split at hq
  · rename_i hx
    refine ⟨fun n σ2 H2 => ∃ (fz2 : Addr → Prop) (ρ2 : Env), Fr pr fz H fz2 H2 ∧ Rel c.K pp pr fz2 σ2 H2 ρ2 ∧ PostS c pp pr fz2 H2 (whileN k ma n ρ2) D, ⟨_, fz, ρ, Fr.refl, R, hq⟩, fun n σ2 H2 hW => ?_⟩
    obtain ⟨fz2, ρ2, F2, R2, P2⟩ := hW
    cases n with
    | zero => exact P2.elim
    | succ n =>
      unfold whileN at P2
      refine hk pp pr fz2 σ2 H2 ρ2 _ hp R2 ?_
      cases e : k ρ2 with
      | bad => simp only [e] at P2; exact P2.elim
      | exc x r => simp only [e] at P2; exact fun cls dx fz' H' F' R' q => P2 cls dx σ2 fz' H' F' R' q
      | ok x ρ3 =>
        simp only [e] at P2
        intro b fz3 H3 F3 R3 hb'
        obtain rfl : b = x := hb'
        cases b with
        | false =>
          simp only [Bool.false_eq_true, if_false] at P2 ⊢
          exact P2 σ2 fz3 H3 F3 R3
        | true =>
          simp only [if_true] at P2 ⊢
          refine ⟨fun σ4 H4 => ∃ (fz4 : Addr → Prop) (ρ4 : Env), Fr pr fz H fz4 H4 ∧ Rel c.K pp pr fz4 σ4 H4 ρ4 ∧ PostS c pp pr fz4 H4 (whileN k ma n ρ4) D, fun σ' H' h => ⟨n, Nat.lt_succ_self n, h⟩, ?_⟩
          refine hb pp pr fz3 σ2 H3 ρ3 _ hp R3 ?_
          have P2 := PostS.rest F3 P2
          cases eb : ma ρ3 with
          | nx ρ5 =>
            simp only [eb] at P2
            exact fun σ' fz' H' F' R' => ⟨fz', ρ5, F2.trans (F3.trans F'), R', PostS.rest F' P2⟩
          | ct ρ5 =>
            simp only [eb] at P2
            exact fun σ' fz' H' F' R' => ⟨fz', ρ5, F2.trans (F3.trans F'), R', PostS.rest F' P2⟩
          | bk ρ5 => simp only [eb] at P2; exact P2
          | rt a r => simp only [eb] at P2; cases a <;> exact P2
          | exc x r => simp only [eb] at P2; exact P2
          | bad => simp only [eb] at P2; exact P2.elim
  · exact hq.elim

/-! ### lists that a slot holds: append, pop, x[i] = e -/
def ownL (i : Nat) (ρ : Env) : Option (List PyData) := match ρ[i]? with
  | some (.own (.list ds)) => some ds
  | _ => none
theorem ownL_eq {i : Nat} {ds : List PyData} (h : ownL i ρ = some ds) : ρ[i]? = some (.own (.list ds)) := by
  unfold ownL at h
  split at h
  · rename_i e; cases h; exact e
  · cases h
def mappend (i : Nat) (e : M PyData) : SM := fun ρ => slft (ownL i ρ) fun _ => sbnd e (fun d r => slft (ownL i r) fun ds => if lenOk (ds.length + 1) = true then .nx (r.set i (.own (.list (ds ++ [d])))) else .bad) ρ
theorem rs_append {i : Nat} (h : Rf c (RV c.K) te m) : RfS c (tDrop (tBM c.K "list" rAppend (tVar i) (tCons te tNil))) (mappend i m) := by
  intro pp pr fz σ H ρ D hp R hq
  unfold mappend at hq
  cases e : ownL i ρ with
  | none => simp only [e, slft] at hq; exact hq.elim
  | some ds0 =>
    simp only [e, slft] at hq
    obtain ⟨a, hs, nf, np, vs0, hH0, _⟩ := R.own_ne (ownL_eq e)
    refine ⟨_, hs, .inl ⟨rfl, vs0, SqL.of hH0⟩, ?_⟩
    refine h pp pr fz σ H ρ _ hp R (PostS.bnd (f := fun d r => slft (ownL i r) fun ds => if lenOk (ds.length + 1) = true then .nx (r.set i (.own (.list (ds ++ [d])))) else .bad) hq fun v x fz1 H1 ρ1 F1 R1 r1 P1 => ?_)
    cases e1 : ownL i ρ1 with
    | none => simp only [e1, slft] at P1; exact P1.elim
    | some ds =>
      simp only [e1, slft] at P1
      split at P1
      · rename_i hl
        have er := ownL_eq e1
        obtain ⟨a', hs', nf', np', vs, hH, ra⟩ := R1.own_ne er
        obtain rfl : a' = a := by rw [hs] at hs'; cases hs'; rfl
        refine ⟨a', vs, v, rfl, rfl, hH, ?_, ?_⟩
        · have := lenOk_iff.mp hl
          rw [ra.length]; omega
        · have E : Ext fz1 H1 fz1 (upd H1 a' (.lst (vs ++ [v]))) := ⟨fun _ z => z, fun b z => upd_ne fun q => nf' (by rw [← q]; exact z)⟩
          obtain ⟨F2, R2⟩ := R1.wr (d' := .list (ds ++ [x])) er hs ⟨_, upd_same, RepA.ext E (ra.append (.cons r1 .nil))⟩
          exact P1 σ fz1 _ F2 R2
      · exact P1.elim
def mpop (i : Nat) : M PyData := fun ρ => match ownL i ρ with
  | some ds => (match ds[ds.length - 1]? with
    | some d => .ok d (ρ.set i (.own (.list ds.dropLast)))
    | none => .bad)
  | none => .bad
theorem rf_pop {i : Nat} : Rf c (RV c.K) (tBM0 c.K "list" rPop (tVar i)) (mpop i) := by
  intro pp pr fz σ H ρ Q hp R hq
  unfold mpop at hq
  cases e : ownL i ρ with
  | none => simp only [e] at hq; exact hq.elim
  | some ds =>
    simp only [e] at hq
    cases e1 : ds[ds.length - 1]? with
    | none => simp only [e1] at hq; exact hq.elim
    | some d =>
      simp only [e1] at hq
      have er := ownL_eq e
      obtain ⟨a, hs, nf, np, vs, hH, ra⟩ := R.own_ne er
      obtain ⟨y, hy, ry⟩ := ra.get e1
      have E : Ext fz H fz (upd H a (.lst vs.dropLast)) := ⟨fun _ z => z, fun b z => upd_ne fun q => nf (by rw [← q]; exact z)⟩
      obtain ⟨F2, R2⟩ := R.wr (d' := .list ds.dropLast) er hs ⟨_, upd_same, RepA.ext E ra.dropLast⟩
      refine ⟨_, hs, .inl ⟨rfl, vs, SqL.of hH⟩, a, vs, y, rfl, rfl, hH, by rw [ra.length]; exact hy, ?_⟩
      exact hq y fz _ F2 R2 (ry.ext E)
def mstore (i : Nat) (k : M PyData) (e : M PyData) : SM := sbnd e fun d ρ1 => slft (ownL i ρ1) fun _ => sbnd k (fun j r => slft (ownL i r) fun ds => slft ((asI? j).bind (ixN ds.length)) fun n => .nx (r.set i (.own (.list (ds.set n d))))) ρ1
theorem rs_store {i : Nat} {tk : TE} {mk : M PyData} (h : Rf c (RV c.K) te m) (hk : Rf c (RV c.K) tk mk) : RfS c (tAsg te (gSub (tVar i) tk rSetL)) (mstore i mk m) := by
  intro pp pr fz σ H ρ D hp R hq
  refine h pp pr fz σ H ρ _ hp R (hq.bnd fun v x fz1 H1 ρ1 F1 R1 r1 P1 => ?_)
  cases e : ownL i ρ1 with
  | none => simp only [e, slft] at P1; exact P1.elim
  | some ds0 =>
    simp only [e, slft] at P1
    obtain ⟨a, hs, nf, np, vs0, hH0, _⟩ := R1.own_ne (ownL_eq e)
    refine ⟨_, hs, ?_⟩
    refine hk pp pr fz1 σ H1 ρ1 _ hp R1 (PostS.bnd (f := fun j r => slft (ownL i r) fun ds => slft ((asI? j).bind (ixN ds.length)) fun n => .nx (r.set i (.own (.list (ds.set n x))))) P1 fun w j fz2 H2 ρ2 F2 R2 r2 P2 => ?_)
    cases e1 : ownL i ρ2 with
    | none => simp only [e1, slft] at P2; exact P2.elim
    | some ds =>
      simp only [e1, slft] at P2
      cases j <;> first | (simp only [asI?, Option.bind_none] at P2; exact P2.elim) | skip
      rename_i k
      simp only [asI?, Option.bind_some] at P2
      cases e2 : ixN ds.length k with
      | none => simp only [e2] at P2; exact P2.elim
      | some n =>
        simp only [e2] at P2
        have er := ownL_eq e1
        obtain ⟨a', hs', nf', np', vs, hH, ra⟩ := R2.own_ne er
        obtain rfl : a' = a := by rw [hs] at hs'; cases hs'; rfl
        cases r2
        refine ⟨a', vs, k, n, rfl, rfl, hH, by rw [ra.length]; exact e2, ?_⟩
        have E : Ext fz2 H2 fz2 (upd H2 a' (.lst (vs.set n v))) := ⟨fun _ z => z, fun b z => upd_ne fun q => nf' (by rw [← q]; exact z)⟩
        obtain ⟨F3, R3⟩ := R2.wr (d' := .list (ds.set n x)) er hs ⟨_, upd_same, RepA.ext E (ra.set n (Rep.ext F2.ext r1))⟩
        exact P2 σ fz2 _ F3 R3
end
end PL

/-! PL8: defs and calls. -/
namespace PL
open PySem PySem.Spec L2
open PyProof.Rows hiding St

/-- a parameter: a value, an object lent, the script -/
inductive PKd where
  | v | o | s
  deriving DecidableEq
inductive FOut where
  | ok (r : Rt) (outs : List PyData) | exc (e : PExc) (outs : List PyData) | bad
def ArgR (K : PySem.W.Frag) (pr fz : Addr → Prop) (H : Hp) : PKd → V → PyData → Prop
  | .v, w, x => Rep K fz H w x
  | .o, w, x => ∃ a, w = .ref a ∧ ¬ fz a ∧ ¬ pr a ∧ OwnC K fz H a x
  | .s, w, x => ∃ (a : Addr) (ns : List Int), w = .ref a ∧ FzL K fz H a (ns.map V.int) ∧ x = .list (ns.map PyData.int)
def ArgsR (K : PySem.W.Frag) (pr fz : Addr → Prop) (H : Hp) : List PKd → List V → List PyData → Prop
  | [], [], [] => True
  | k :: ks, v :: vs, x :: xs => ArgR K pr fz H k v x ∧ ArgsR K pr fz H ks vs xs
  | _, _, _ => False
def ownAd : List PKd → List V → List Addr
  | .o :: ks, .ref a :: vs => a :: ownAd ks vs
  | _ :: ks, _ :: vs => ownAd ks vs
  | _, _ => []
def OutsR (K : PySem.W.Frag) (fz : Addr → Prop) (H : Hp) : List PKd → List V → List PyData → Prop
  | [], _, [] => True
  | .o :: ks, .ref a :: vs, x :: xs => ¬ fz a ∧ OwnC K fz H a x ∧ OutsR K fz H ks vs xs
  | .v :: ks, _ :: vs, xs => OutsR K fz H ks vs xs
  | .s :: ks, _ :: vs, xs => OutsR K fz H ks vs xs
  | _, _, _ => False
def RetR (K : PySem.W.Frag) (pr fz : Addr → Prop) (H : Hp) (as : List Addr) : Rt → V → Prop
  | .v d, v => Rep K fz H v d
  | .o d, v => ∃ a, v = .ref a ∧ ¬ fz a ∧ ¬ pr a ∧ a ∉ as ∧ OwnC K fz H a d
def PostF (K : PySem.W.Frag) (RX : RXT) (pr fz : Addr → Prop) (H : Hp) (ks : List PKd) (vs : List V) (o : FOut) (Q : VK) (E : XK) : Prop :=
  match o with
  | .ok r outs => ∀ (v : V) (fz' : Addr → Prop) (H' : Hp), Fr pr fz H fz' H' → (∀ a, fz' a → H' a ≠ none) → OutsR K fz' H' ks vs outs → RetR K pr fz' H' (ownAd ks vs) r v → Q v H'
  | .exc e outs => ∀ (cls : Value) (dx : Option Addr) (fz' : Addr → Prop) (H' : Hp), Fr pr fz H fz' H' → (∀ a, fz' a → H' a ≠ none) → OutsR K fz' H' ks vs outs → RX fz' H' cls dx e → E cls dx H'
  | .bad => False
/-- the promise of a def that is the pure function f -/
def spF (K : PySem.W.Frag) (RX : RXT) (ks : List PKd) (f : List PyData → FOut) : Sp := fun vs H Q E =>
  ∃ (pr fz : Addr → Prop) (xs : List PyData), ArgsR K pr fz H ks vs xs ∧ (ownAd ks vs).Nodup ∧ (∀ a, fz a → H a ≠ none) ∧ (∀ a, pr a → H a ≠ none) ∧ PostF K RX pr fz H ks vs (f xs) Q E
theorem ArgsR.len {K : PySem.W.Frag} {pr fz : Addr → Prop} {H : Hp} : ∀ {ks : List PKd} {vs : List V} {xs : List PyData}, ArgsR K pr fz H ks vs xs → vs.length = ks.length
  | [], [], [], _ => rfl
  | _ :: _, _ :: _, _ :: _, h => by simp [ArgsR.len h.2]
  | [], [], _ :: _, h => h.elim
  | [], _ :: _, _, h => h.elim
  | _ :: _, [], _, h => h.elim
  | _ :: _, _ :: _, [], h => h.elim

/-! ### a body -/
def entrySl : PKd → PyData → Sl
  | .v, x => .val x
  | .o, x => .own x
  | .s, .list ds => .scr ((ints? ds).getD [])
  | .s, _ => .emp
def entrySls : List PKd → List PyData → Env
  | k :: ks, x :: xs => entrySl k x :: entrySls ks xs
  | _, _ => []
def entry (n : Nat) (ks : List PKd) (xs : List PyData) : Env := entrySls ks xs ++ List.replicate (n - ks.length) .emp
def ownIx : Nat → List PKd → List Nat
  | _, [] => []
  | n, .o :: ks => n :: ownIx (n + 1) ks
  | n, .v :: ks => ownIx (n + 1) ks
  | n, .s :: ks => ownIx (n + 1) ks
def ownPP : Nat → List PKd → List V → List (Nat × Addr)
  | n, .o :: ks, .ref a :: vs => (n, a) :: ownPP (n + 1) ks vs
  | n, _ :: ks, _ :: vs => ownPP (n + 1) ks vs
  | _, _, _ => []
def outAt (i : Nat) (ρ : Env) : PyData := match ρ[i]? with
  | some (.own x) => x
  | _ => .none
def fin (ks : List PKd) : SOut → FOut
  | .nx ρ => .ok (.v .none) ((ownIx 0 ks).map fun i => outAt i ρ)
  | .rt r ρ => .ok r ((ownIx 0 ks).map fun i => outAt i ρ)
  | .exc e ρ => .exc e ((ownIx 0 ks).map fun i => outAt i ρ)
  | _ => .bad
def bodyF (n : Nat) (ks : List PKd) (m : SM) (xs : List PyData) : FOut := fin ks (m (entry n ks xs))
section
variable {K : PySem.W.Frag} {pr fz fz' : Addr → Prop} {H H' : Hp}
theorem ownPP_ix : ∀ {n : Nat} {ks : List PKd} {vs : List V} {xs : List PyData}, ArgsR K pr fz H ks vs xs → (ownPP n ks vs).map (·.1) = ownIx n ks
  | _, [], [], [], _ => rfl
  | n, .v :: ks, v :: vs, x :: xs, h => by
    have : ownPP n (.v :: ks) (v :: vs) = ownPP (n + 1) ks vs := by cases v <;> rfl
    rw [this]; exact ownPP_ix h.2
  | n, .s :: ks, v :: vs, x :: xs, h => by
    have : ownPP n (.s :: ks) (v :: vs) = ownPP (n + 1) ks vs := by cases v <;> rfl
    rw [this]; exact ownPP_ix h.2
  | n, .o :: ks, v :: vs, x :: xs, h => by
    obtain ⟨⟨a, rfl, _⟩, h2⟩ := h
    simp only [ownPP, ownIx, List.map_cons, ownPP_ix h2]
  | _, [], [], _ :: _, h => h.elim
  | _, [], _ :: _, _, h => h.elim
  | _, _ :: _, [], _, h => h.elim
  | _, _ :: _, _ :: _, [], h => h.elim
theorem ownPP_get : ∀ {n : Nat} {ks : List PKd} {vs : List V} {xs : List PyData} {p : Nat × Addr}, ArgsR K pr fz H ks vs xs → p ∈ ownPP n ks vs → n ≤ p.1 ∧ vs[p.1 - n]? = some (.ref p.2) ∧ ∃ x, (entrySls ks xs)[p.1 - n]? = some (.own x)
  | _, [], [], [], p, _, hp => by simp [ownPP] at hp
  | n, k :: ks, v :: vs, x :: xs, p, h, hp => by
    have tail : p ∈ ownPP (n + 1) ks vs → n ≤ p.1 ∧ (v :: vs)[p.1 - n]? = some (.ref p.2) ∧ ∃ y, (entrySls (k :: ks) (x :: xs))[p.1 - n]? = some (.own y) := fun hp => by
      obtain ⟨h1, h2, y, h3⟩ := ownPP_get h.2 hp
      have e : p.1 - n = (p.1 - (n + 1)) + 1 := by omega
      refine ⟨by omega, by rw [e]; exact h2, y, by rw [e]; exact h3⟩
    cases k with
    | v =>
      have : ownPP n (.v :: ks) (v :: vs) = ownPP (n + 1) ks vs := by cases v <;> rfl
      rw [this] at hp; exact tail hp
    | s =>
      have : ownPP n (.s :: ks) (v :: vs) = ownPP (n + 1) ks vs := by cases v <;> rfl
      rw [this] at hp; exact tail hp
    | o =>
      obtain ⟨⟨a, rfl, _⟩, _⟩ := id h
      simp only [ownPP] at hp
      rcases List.mem_cons.mp hp with e | hp
      · subst e
        refine ⟨Nat.le_refl _, ?_, x, ?_⟩ <;> simp [entrySls, entrySl]
      · exact tail hp
  | _, [], [], _ :: _, _, h, _ => h.elim
  | _, [], _ :: _, _, _, h, _ => h.elim
  | _, _ :: _, [], _, _, h, _ => h.elim
  | _, _ :: _, _ :: _, [], _, h, _ => h.elim
theorem entrySls_len : ∀ {ks : List PKd} {vs : List V} {xs : List PyData}, ArgsR K pr fz H ks vs xs → (entrySls ks xs).length = ks.length
  | [], [], [], _ => rfl
  | _ :: _, _ :: _, _ :: _, h => by simp [entrySls, entrySls_len h.2]
  | [], [], _ :: _, h => h.elim
  | [], _ :: _, _, h => h.elim
  | _ :: _, [], _, h => h.elim
  | _ :: _, _ :: _, [], h => h.elim
theorem entrySls_at : ∀ {ks : List PKd} {vs : List V} {xs : List PyData} {i : Nat} {s : Sl}, ArgsR K pr fz H ks vs xs → (entrySls ks xs)[i]? = some s → SlR K pr fz H vs[i]? s
  | [], [], [], _, _, _, e => by simp [entrySls] at e
  | k :: ks, v :: vs, x :: xs, 0, s, h, e => by
    simp only [entrySls, List.getElem?_cons_zero, Option.some.injEq] at e
    subst e
    obtain ⟨h, _⟩ := h
    cases k with
    | v => exact ⟨v, rfl, h⟩
    | o => obtain ⟨a, rfl, r⟩ := h; exact ⟨a, rfl, r⟩
    | s =>
      obtain ⟨a, ns, rfl, hr, rfl⟩ := h
      refine ⟨a, rfl, ?_⟩
      rw [ints_map]; exact hr
  | k :: ks, v :: vs, x :: xs, i + 1, s, h, e => by
    simp only [entrySls, List.getElem?_cons_succ] at e ⊢
    exact entrySls_at h.2 e
  | [], [], _ :: _, _, _, h, _ => h.elim
  | [], _ :: _, _, _, _, h, _ => h.elim
  | _ :: _, [], _, _, _, h, _ => h.elim
  | _ :: _, _ :: _, [], _, _, h, _ => h.elim
theorem ownAd_at : ∀ {ks : List PKd} {vs : List V} {xs : List PyData} {i : Nat} {x : PyData} {a : Addr}, ArgsR K pr fz H ks vs xs → (entrySls ks xs)[i]? = some (.own x) → vs[i]? = some (.ref a) → a ∈ ownAd ks vs
  | [], [], [], _, _, _, _, e, _ => by simp [entrySls] at e
  | k :: ks, v :: vs, x :: xs, 0, s, a, h, e, ev => by
    simp only [entrySls, List.getElem?_cons_zero, Option.some.injEq] at e ev
    subst ev
    cases k with
    | v => cases e
    | o => simp [ownAd]
    | s => obtain ⟨⟨_, ns, _, _, rfl⟩, _⟩ := h; simp [entrySl] at e
  | k :: ks, v :: vs, x :: xs, i + 1, s, a, h, e, ev => by
    simp only [entrySls, List.getElem?_cons_succ] at e ev
    have q := ownAd_at h.2 e ev
    cases k with
    | v => have : ownAd (.v :: ks) (v :: vs) = ownAd ks vs := by cases v <;> rfl
           rw [this]; exact q
    | s => have : ownAd (.s :: ks) (v :: vs) = ownAd ks vs := by cases v <;> rfl
           rw [this]; exact q
    | o =>
      obtain ⟨⟨b, rfl, _⟩, _⟩ := id h
      exact List.mem_cons_of_mem _ q
  | [], [], _ :: _, _, _, _, h, _, _ => h.elim
  | [], _ :: _, _, _, _, _, h, _, _ => h.elim
  | _ :: _, [], _, _, _, _, h, _, _ => h.elim
  | _ :: _, _ :: _, [], _, _, _, h, _, _ => h.elim
theorem ownAd_inj : ∀ {ks : List PKd} {vs : List V} {xs : List PyData} {i j : Nat} {x y : PyData} {a : Addr}, ArgsR K pr fz H ks vs xs → (ownAd ks vs).Nodup → (entrySls ks xs)[i]? = some (.own x) → (entrySls ks xs)[j]? = some (.own y) → vs[i]? = some (.ref a) → vs[j]? = some (.ref a) → i = j
  | [], [], [], _, _, _, _, _, _, _, e, _, _, _ => by simp [entrySls] at e
  | k :: ks, v :: vs, z :: xs, 0, 0, _, _, _, _, _, _, _, _, _ => rfl
  | k :: ks, v :: vs, z :: xs, i + 1, j + 1, x, y, a, h, n, e1, e2, s1, s2 => by
    simp only [entrySls, List.getElem?_cons_succ] at e1 e2 s1 s2
    have n' : (ownAd ks vs).Nodup := by
      cases k with
      | v => have : ownAd (.v :: ks) (v :: vs) = ownAd ks vs := by cases v <;> rfl
             rw [this] at n; exact n
      | s => have : ownAd (.s :: ks) (v :: vs) = ownAd ks vs := by cases v <;> rfl
             rw [this] at n; exact n
      | o =>
        obtain ⟨⟨b, rfl, _⟩, _⟩ := id h
        exact (List.nodup_cons.mp n).2
    rw [ownAd_inj h.2 n' e1 e2 s1 s2]
  | k :: ks, v :: vs, z :: xs, 0, j + 1, x, y, a, h, n, e1, e2, s1, s2 => by
    simp only [entrySls, List.getElem?_cons_succ, List.getElem?_cons_zero, Option.some.injEq] at e1 e2 s1 s2
    subst s1
    cases k with
    | v => cases e1
    | s => obtain ⟨⟨_, ns, _, _, rfl⟩, _⟩ := h; simp [entrySl] at e1
    | o => exact absurd (ownAd_at h.2 e2 s2) (List.nodup_cons.mp n).1
  | k :: ks, v :: vs, z :: xs, i + 1, 0, x, y, a, h, n, e1, e2, s1, s2 => by
    simp only [entrySls, List.getElem?_cons_succ, List.getElem?_cons_zero, Option.some.injEq] at e1 e2 s1 s2
    subst s2
    cases k with
    | v => cases e2
    | s => obtain ⟨⟨_, ns, _, _, rfl⟩, _⟩ := h; simp [entrySl] at e2
    | o => exact absurd (ownAd_at h.2 e1 s1) (List.nodup_cons.mp n).1
  | [], [], _ :: _, _, _, _, _, _, h, _, _, _, _, _ => h.elim
  | [], _ :: _, _, _, _, _, _, _, h, _, _, _, _, _ => h.elim
  | _ :: _, [], _, _, _, _, _, _, h, _, _, _, _, _ => h.elim
  | _ :: _, _ :: _, [], _, _, _, _, _, h, _, _, _, _, _ => h.elim
theorem start_at {N : List Str} {vs : List V} {i : Nat} : ((L2.start N vs)[i]?).join = vs[i]? := by
  unfold L2.start
  by_cases h : i < vs.length
  · rw [List.getElem?_append_left (by simpa using h), List.getElem?_map, List.getElem?_eq_getElem h]; rfl
  · rw [List.getElem?_append_right (by simpa using h), List.getElem?_eq_none (by omega : vs.length ≤ i)]
    rw [List.getElem?_replicate]
    split <;> rfl
theorem Rel.start {N : List Str} {ks : List PKd} {vs : List V} {xs : List PyData} (h : ArgsR K pr fz H ks vs xs) (hn : (ownAd ks vs).Nodup) (hf : ∀ a, fz a → H a ≠ none) (hp : ∀ a, pr a → H a ≠ none) (hl : ks.length ≤ N.length) :
    Rel K (ownPP 0 ks vs) pr fz (L2.start N vs) H (entry N.length ks xs) := by
  have lv := h.len
  have le := entrySls_len h
  have at1 : ∀ {i : Nat} {s : Sl}, (entry N.length ks xs)[i]? = some s → s = .emp ∨ (entrySls ks xs)[i]? = some s := fun {i s} e => by
    unfold entry at e
    by_cases hi : i < (entrySls ks xs).length
    · rw [List.getElem?_append_left hi] at e; exact .inr e
    · rw [List.getElem?_append_right (by omega), List.getElem?_replicate] at e
      split at e
      · cases e; exact .inl rfl
      · cases e
  have own1 : ∀ {i : Nat} {x : PyData}, (entry N.length ks xs)[i]? = some (.own x) → (entrySls ks xs)[i]? = some (.own x) := fun e => (at1 e).elim (fun z => by cases z) id
  have st : ∀ {i : Nat} {a : Addr}, (L2.start N vs)[i]? = some (some (V.ref a)) → vs[i]? = some (.ref a) := fun {i a} e => by
    have := join_some.mpr e
    rw [start_at] at this
    exact this
  refine ⟨?_, fun i s e => ?_, fun i j a x y e1 e2 s1 s2 => ownAd_inj h hn (own1 e1) (own1 e2) (st s1) (st s2), hf, hp, fun p hpp => ?_⟩
  · unfold L2.start entry
    simp [lv, le]
  · rcases at1 e with rfl | e
    · trivial
    · rw [start_at]
      exact entrySls_at h e
  · obtain ⟨_, h2, x, h3⟩ := ownPP_get h hpp
    rw [Nat.sub_zero] at h2 h3
    refine ⟨x, ?_, ?_⟩
    · unfold entry
      rw [List.getElem?_append_left (List.getElem?_eq_some_iff.mp h3).1]
      exact h3
    · refine join_some.mp ?_
      rw [start_at]; exact h2
theorem outs_of : ∀ {n : Nat} {ks : List PKd} {vs : List V} {xs : List PyData} {ρ : Env}, ArgsR K pr fz H ks vs xs → (∀ p ∈ ownPP n ks vs, ∃ x, ρ[p.1]? = some (.own x) ∧ ¬ fz' p.2 ∧ OwnC K fz' H' p.2 x) → OutsR K fz' H' ks vs ((ownIx n ks).map fun i => outAt i ρ)
  | _, [], [], [], _, _, _ => trivial
  | n, .v :: ks, v :: vs, x :: xs, ρ, h, hp => by
    have : ownPP n (.v :: ks) (v :: vs) = ownPP (n + 1) ks vs := by cases v <;> rfl
    rw [this] at hp
    simp only [ownIx, OutsR]
    exact outs_of h.2 hp
  | n, .s :: ks, v :: vs, x :: xs, ρ, h, hp => by
    have : ownPP n (.s :: ks) (v :: vs) = ownPP (n + 1) ks vs := by cases v <;> rfl
    rw [this] at hp
    simp only [ownIx, OutsR]
    exact outs_of h.2 hp
  | n, .o :: ks, v :: vs, x :: xs, ρ, h, hp => by
    obtain ⟨⟨a, rfl, _⟩, h2⟩ := h
    simp only [ownPP] at hp
    simp only [ownIx, List.map_cons, OutsR]
    obtain ⟨y, e, nf, oc⟩ := hp (n, a) List.mem_cons_self
    refine ⟨nf, ?_, outs_of h2 fun p q => hp p (List.mem_cons_of_mem _ q)⟩
    simp only at e
    simp only [outAt, e]
    exact oc
  | _, [], [], _ :: _, _, h, _ => h.elim
  | _, [], _ :: _, _, _, h, _ => h.elim
  | _, _ :: _, [], _, _, h, _ => h.elim
  | _, _ :: _, _ :: _, [], _, h, _ => h.elim
theorem ownAd_pp : ∀ {n : Nat} {ks : List PKd} {vs : List V} {a : Addr}, a ∈ ownAd ks vs → ∃ i, (i, a) ∈ ownPP n ks vs
  | _, [], _, _, h => by simp [ownAd] at h
  | _, _ :: _, [], _, h => by simp [ownAd] at h
  | n, k :: ks, v :: vs, a, h => by
    have tl : a ∈ ownAd ks vs → ownAd (k :: ks) (v :: vs) = ownAd ks vs → ownPP n (k :: ks) (v :: vs) = ownPP (n + 1) ks vs → ∃ i, (i, a) ∈ ownPP n (k :: ks) (v :: vs) := fun q _ e => by
      rw [e]; exact ownAd_pp q
    cases k with
    | v =>
      have e : ownAd (.v :: ks) (v :: vs) = ownAd ks vs := by cases v <;> rfl
      rw [e] at h; exact tl h e (by cases v <;> rfl)
    | s =>
      have e : ownAd (.s :: ks) (v :: vs) = ownAd ks vs := by cases v <;> rfl
      rw [e] at h; exact tl h e (by cases v <;> rfl)
    | o =>
      cases v with
      | ref b =>
        simp only [ownAd, ownPP] at h ⊢
        rcases List.mem_cons.mp h with e | q
        · exact ⟨n, by rw [e]; exact List.mem_cons_self⟩
        · obtain ⟨i, q⟩ := ownAd_pp (n := n + 1) q
          exact ⟨i, List.mem_cons_of_mem _ q⟩
      | non => exact tl h rfl rfl
      | bl _ => exact tl h rfl rfl
      | int _ => exact tl h rfl rfl
      | str _ => exact tl h rfl rfl
      | byt _ => exact tl h rfl rfl
      | flt _ => exact tl h rfl rfl
      | ty _ => exact tl h rfl rfl
end
section
variable {P : Program} {w : World} {K : PySem.W.Frag} {mg : Str → Option Value} {base : Heap}
def cwOf (K : PySem.W.Frag) (RX : RXT) (ks : List PKd) (E : XK) : Cw := ⟨K, RX, fun cls d _ H => E cls d H, ownIx 0 ks⟩
/-- THE RULE for a def -/
theorem fn_pure {RX : RXT} {ks : List PKd} {m : SM} {x qual : Str} {st : Stmt} {f : Addr} {fd : FuncData} {N ps : List Str} {k : Nat} (F : Fun K x qual st f fd) (S : FnScope N ps (defScope st)) (hk : ks.length = ps.length) (hN : ks.length ≤ N.length)
    (hbody : ∀ (cdv : Value) (A : Around) (outer : List PySem.Env) (s : Shared) (H : Hp) (E : XK), Room k (A.deeper (envOfC qual (defScope st) s.heap.objs.size f cdv)) → (A.deeper (envOfC qual (defScope st) s.heap.objs.size f cdv)).guards = some [] →
      ∃ t, PSs (cxOf (L2.CX P w) P w K mg base N qual (defScope st) f cdv A outer s H E) (defBody st) t ∧ RfS (cwOf K RX ks E) t m) : FnG P w K mg base (k + 1) f fd ps (spF K RX ks (bodyF N.length ks m)) := by
  refine fnG_of F S (fun vs H Q E h => ?_) (fun cdv A outer s H vs Q E hr hg h => ?_)
  · obtain ⟨pr, fz, xs, ha, _⟩ := h
    rw [ha.len, hk]
  · obtain ⟨t, ht, hm⟩ := hbody cdv A outer s H E hr hg
    refine ⟨t, ht, ?_⟩
    obtain ⟨pr, fz, xs, ha, hn, hf, hp, hq⟩ := h
    have R := Rel.start (N := N) ha hn hf hp hN
    have outs : ∀ {fz' : Addr → Prop} {H' : Hp} {σ' : L2.St} {ρ : Env}, Rel K (ownPP 0 ks vs) pr fz' σ' H' ρ → OutsR K fz' H' ks vs ((ownIx 0 ks).map fun i => outAt i ρ) := fun R' => outs_of ha fun p hpp => by
      obtain ⟨y, e, s⟩ := R'.pin p hpp
      obtain ⟨a, s', nf, _, oc⟩ := R'.own_ne e
      rw [s] at s'
      cases s'
      exact ⟨y, e, nf, oc⟩
    refine hm (ownPP 0 ks vs) pr fz _ H (entry N.length ks xs) _ (ownPP_ix ha) R ?_
    unfold bodyF at hq
    cases e : m (entry N.length ks xs) with
    | nx ρ =>
      rw [e] at hq
      exact fun σ' fz' H' F' R' => hq .non fz' H' F' R'.fzH (outs R') .non
    | rt r ρ =>
      rw [e] at hq
      cases r with
      | v d => exact fun v σ' fz' H' F' R' r => hq v fz' H' F' R'.fzH (outs R') r
      | o d =>
        intro v σ' fz' H' F' R' r
        obtain ⟨a, rfl, nf, np, ns, oc⟩ := r
        refine hq _ fz' H' F' R'.fzH (outs R') ⟨a, rfl, nf, np, fun z => ?_, oc⟩
        obtain ⟨i, hi⟩ := ownAd_pp (n := 0) z
        obtain ⟨y, e1, s1⟩ := R'.pin _ hi
        exact ns _ y e1 s1
    | exc x ρ =>
      rw [e] at hq
      exact fun cls dx σ' fz' H' F' R' r => hq cls dx fz' H' F' R'.fzH (outs R') r
    | bk ρ => rw [e] at hq; exact hq.elim
    | ct ρ => rw [e] at hq; exact hq.elim
    | bad => rw [e] at hq; exact hq.elim
end
end PL

/-! PL9: calls of defs that are pure functions. -/
namespace PL
open PySem PySem.Spec L2
open PyProof.Rows hiding St

/-- an argument: a value, the object of a slot that is lent, the script of a slot -/
inductive CArg where
  | v (m : M PyData) | lend (i : Nat) | scr (i : Nat)
def CArg.kd : CArg → PKd
  | .v _ => .v
  | .lend _ => .o
  | .scr _ => .s
def lendIx : List CArg → List Nat
  | [] => []
  | .lend i :: as => i :: lendIx as
  | .v _ :: as => lendIx as
  | .scr _ :: as => lendIx as
def isOwn (i : Nat) (ρ : Env) : Bool := match ρ[i]? with
  | some (.own _) => true
  | _ => false
def isScr (i : Nat) (ρ : Env) : Bool := match ρ[i]? with
  | some (.scr _) => true
  | _ => false
/-- the values, from the left -/
def evA : List CArg → M (List PyData)
  | [] => fun ρ => .ok [] ρ
  | .v m :: as => bnd m fun x => bnd (evA as) fun xs ρ => .ok (x :: xs) ρ
  | .lend i :: as => fun ρ => if isOwn i ρ = true then bnd (evA as) (fun xs ρ => .ok (.none :: xs) ρ) ρ else .bad
  | .scr i :: as => fun ρ => if isScr i ρ = true then bnd (evA as) (fun xs ρ => .ok (.none :: xs) ρ) ρ else .bad
def scrAt (i : Nat) (ρ : Env) : PyData := match ρ[i]? with
  | some (.scr ns) => .list (ns.map PyData.int)
  | _ => .none
/-- what is lent, as it stands at the call -/
def fillA (ρ : Env) : List CArg → List PyData → List PyData
  | .v _ :: as, x :: xs => x :: fillA ρ as xs
  | .lend i :: as, _ :: xs => outAt i ρ :: fillA ρ as xs
  | .scr i :: as, _ :: xs => scrAt i ρ :: fillA ρ as xs
  | _, _ => []
/-- what was lent comes back -/
def wbA : List CArg → List PyData → Env → Env
  | .lend i :: as, x :: xs, ρ => (wbA as xs ρ).set i (.own x)
  | .v _ :: as, xs, ρ => wbA as xs ρ
  | .scr _ :: as, xs, ρ => wbA as xs ρ
  | _, _, ρ => ρ
def lendOk (as : List CArg) (ρ : Env) : Bool := decide (lendIx as).Nodup && (lendIx as).all fun i => isOwn i ρ
def scrOk : List CArg → Env → Bool
  | [], _ => true
  | .scr i :: as, ρ => isScr i ρ && scrOk as ρ
  | _ :: as, ρ => scrOk as ρ
def mcall (f : List PyData → FOut) (as : List CArg) : M Rt := fun ρ => match evA as ρ with
  | .ok xs ρ1 => if (lendOk as ρ1 && scrOk as ρ1) = true then (match f (fillA ρ1 as xs) with
      | .ok r outs => .ok r (wbA as outs ρ1)
      | .exc e outs => .exc e (wbA as outs ρ1)
      | .bad => .bad) else .bad
  | .exc e r => .exc e r
  | .bad => .bad
def RRt (K : PySem.W.Frag) : RT Rt V := fun pr σ fz H ρ v r => match r with
  | .v d => Rep K fz H v d
  | .o d => RO K pr σ fz H ρ v d
def ArgsV (K : PySem.W.Frag) (σ : L2.St) (fz : Addr → Prop) (H : Hp) : List CArg → List V → List PyData → Prop
  | [], [], [] => True
  | .v _ :: as, v :: vs, x :: xs => Rep K fz H v x ∧ ArgsV K σ fz H as vs xs
  | .lend i :: as, v :: vs, _ :: xs => σ[i]? = some (some v) ∧ ArgsV K σ fz H as vs xs
  | .scr i :: as, v :: vs, _ :: xs => σ[i]? = some (some v) ∧ ArgsV K σ fz H as vs xs
  | _, _, _ => False
def RArgs (K : PySem.W.Frag) (as : List CArg) : RT (List PyData) (List V) := fun _ σ fz H _ vs xs => ArgsV K σ fz H as vs xs
section
variable {c : Cw} {pp : List (Nat × Addr)} {pr fz : Addr → Prop} {σ : L2.St} {H : Hp} {ρ : Env}
theorem rf_anil : Rf c (RArgs c.K []) tNil (evA []) := fun pp pr fz σ H ρ Q hp R hq => ok_post hq R (show ArgsV c.K σ fz H [] [] [] from trivial)
theorem rf_acons {te : TE} {tr : TA} {m : M PyData} {as : List CArg} (ha : Rf c (RV c.K) te m) (hr : Rf c (RArgs c.K as) tr (evA as)) : Rf c (RArgs c.K (.v m :: as)) (tCons te tr) (evA (.v m :: as)) := by
  intro pp pr fz σ H ρ Q hp R hq
  refine ha pp pr fz σ H ρ _ hp R (PostG.bnd (f := fun x => bnd (evA as) fun xs ρ => .ok (x :: xs) ρ) hq fun v x fz1 H1 ρ1 F1 R1 r1 P1 => ?_)
  refine hr pp pr fz1 σ H1 ρ1 _ hp R1 (P1.bnd fun w y fz2 H2 ρ2 F2 R2 r2 P2 => ?_)
  exact ok_post P2 R2 (show ArgsV c.K σ fz2 H2 (.v m :: as) (v :: w) (x :: y) from ⟨Rep.ext F2.ext r1, r2⟩)
theorem isOwn_eq {i : Nat} (h : isOwn i ρ = true) : ∃ x, ρ[i]? = some (.own x) := by
  unfold isOwn at h
  split at h
  · rename_i x e; exact ⟨x, e⟩
  · cases h
theorem isScr_eq {i : Nat} (h : isScr i ρ = true) : ∃ x, ρ[i]? = some (.scr x) := by
  unfold isScr at h
  split at h
  · rename_i x e; exact ⟨x, e⟩
  · cases h
theorem rf_alend {i : Nat} {tr : TA} {as : List CArg} (hr : Rf c (RArgs c.K as) tr (evA as)) : Rf c (RArgs c.K (.lend i :: as)) (tCons (tVar i) tr) (evA (.lend i :: as)) := by
  intro pp pr fz σ H ρ Q hp R hq
  simp only [evA] at hq
  split at hq
  · rename_i h
    obtain ⟨x, e⟩ := isOwn_eq h
    obtain ⟨a, hs, _⟩ := R.own_ne e
    refine ⟨_, hs, ?_⟩
    refine hr pp pr fz σ H ρ _ hp R (hq.bnd fun w y fz2 H2 ρ2 F2 R2 r2 P2 => ?_)
    exact ok_post P2 R2 (show ArgsV c.K σ fz2 H2 (.lend i :: as) (.ref a :: w) (.none :: y) from ⟨hs, r2⟩)
  · exact hq.elim
theorem rf_ascr {i : Nat} {tr : TA} {as : List CArg} (hr : Rf c (RArgs c.K as) tr (evA as)) : Rf c (RArgs c.K (.scr i :: as)) (tCons (tVar i) tr) (evA (.scr i :: as)) := by
  intro pp pr fz σ H ρ Q hp R hq
  simp only [evA] at hq
  split at hq
  · rename_i h
    obtain ⟨x, e⟩ := isScr_eq h
    obtain ⟨a, hs, _⟩ := R.at_ i _ e
    have hs := join_some.mp hs
    refine ⟨_, hs, ?_⟩
    refine hr pp pr fz σ H ρ _ hp R (hq.bnd fun w y fz2 H2 ρ2 F2 R2 r2 P2 => ?_)
    exact ok_post P2 R2 (show ArgsV c.K σ fz2 H2 (.scr i :: as) (.ref a :: w) (.none :: y) from ⟨hs, r2⟩)
  · exact hq.elim
theorem outAt_own {i : Nat} {x : PyData} (e : ρ[i]? = some (.own x)) : outAt i ρ = x := by simp only [outAt, e]

theorem argsR_of (R : Rel c.K pp pr fz σ H ρ) (pr1 : Addr → Prop) : ∀ {as : List CArg} {vs : List V} {xs : List PyData}, ArgsV c.K σ fz H as vs xs → (∀ i ∈ lendIx as, isOwn i ρ = true) → (∀ i ∈ lendIx as, ∀ a, σ[i]? = some (some (V.ref a)) → ¬ pr1 a) → scrOk as ρ = true →
    ArgsR c.K pr1 fz H (as.map CArg.kd) vs (fillA ρ as xs)
  | [], [], [], _, _, _, _ => trivial
  | .v m :: as, v :: vs, x :: xs, h, hl, hn, hs => ⟨h.1, argsR_of R pr1 h.2 hl hn hs⟩
  | .lend i :: as, v :: vs, x :: xs, h, hl, hn, hs => by
    obtain ⟨y, e⟩ := isOwn_eq (hl i List.mem_cons_self)
    obtain ⟨a, s, nf, _, oc⟩ := R.own_ne e
    have ev := h.1
    rw [s] at ev
    cases ev
    refine ⟨⟨a, rfl, nf, hn i List.mem_cons_self a s, ?_⟩, argsR_of R pr1 h.2 (fun j hj => hl j (List.mem_cons_of_mem _ hj)) (fun j hj => hn j (List.mem_cons_of_mem _ hj)) hs⟩
    rw [outAt_own e]; exact oc
  | .scr i :: as, v :: vs, x :: xs, h, hl, hn, hs => by
    simp only [scrOk, Bool.and_eq_true] at hs
    obtain ⟨ns, e⟩ := isScr_eq hs.1
    obtain ⟨a, s, hr⟩ := R.at_ i _ e
    have s := join_some.mp s
    have ev := h.1
    rw [s] at ev
    cases ev
    refine ⟨⟨a, ns, rfl, hr, by simp only [scrAt, e]⟩, argsR_of R pr1 h.2 hl hn hs.2⟩
  | [], [], _ :: _, h, _, _, _ => h.elim
  | [], _ :: _, _, h, _, _, _ => h.elim
  | .v _ :: _, [], _, h, _, _, _ => h.elim
  | .v _ :: _, _ :: _, [], h, _, _, _ => h.elim
  | .lend _ :: _, [], _, h, _, _, _ => h.elim
  | .lend _ :: _, _ :: _, [], h, _, _, _ => h.elim
  | .scr _ :: _, [], _, h, _, _, _ => h.elim
  | .scr _ :: _, _ :: _, [], h, _, _, _ => h.elim
theorem lendAd : ∀ {as : List CArg} {vs : List V} {xs : List PyData} {a : Addr}, ArgsV c.K σ fz H as vs xs → (a ∈ ownAd (as.map CArg.kd) vs ↔ ∃ i ∈ lendIx as, σ[i]? = some (some (V.ref a)))
  | [], [], [], a, _ => by simp [ownAd, lendIx]
  | .v m :: as, v :: vs, x :: xs, a, h => by
    have : ownAd ((CArg.v m :: as).map CArg.kd) (v :: vs) = ownAd (as.map CArg.kd) vs := by cases v <;> rfl
    rw [this]; exact lendAd h.2
  | .scr m :: as, v :: vs, x :: xs, a, h => by
    have : ownAd ((CArg.scr m :: as).map CArg.kd) (v :: vs) = ownAd (as.map CArg.kd) vs := by cases v <;> rfl
    rw [this]; exact lendAd h.2
  | .lend i :: as, v :: vs, x :: xs, a, h => by
    have ih := lendAd (a := a) h.2
    cases v with
    | ref b =>
      have : ownAd ((CArg.lend i :: as).map CArg.kd) (.ref b :: vs) = b :: ownAd (as.map CArg.kd) vs := rfl
      rw [this, List.mem_cons, ih]
      simp only [lendIx, List.mem_cons, exists_eq_or_imp, h.1]
      constructor
      · rintro (e | e)
        · exact .inl (by rw [e])
        · exact .inr e
      · rintro (e | e)
        · cases e; exact .inl rfl
        · exact .inr e
    | _ =>
      have e2 : ∀ w : V, (∀ b, w ≠ .ref b) → ownAd ((CArg.lend i :: as).map CArg.kd) (w :: vs) = ownAd (as.map CArg.kd) vs := fun w hw => by cases w <;> first | rfl | exact absurd rfl (hw _)
      have h1 := h.1
      rw [e2 _ (fun b z => by cases z), ih]
      simp only [lendIx, List.mem_cons, exists_eq_or_imp]
      constructor
      · exact .inr
      · rintro (e | e)
        · rw [h1] at e; cases e
        · exact e
  | [], [], _ :: _, _, h => h.elim
  | [], _ :: _, _, _, h => h.elim
  | .v _ :: _, [], _, _, h => h.elim
  | .v _ :: _, _ :: _, [], _, h => h.elim
  | .lend _ :: _, [], _, _, h => h.elim
  | .lend _ :: _, _ :: _, [], _, h => h.elim
  | .scr _ :: _, [], _, _, h => h.elim
  | .scr _ :: _, _ :: _, [], _, h => h.elim
theorem lendNd (R : Rel c.K pp pr fz σ H ρ) : ∀ {as : List CArg} {vs : List V} {xs : List PyData}, ArgsV c.K σ fz H as vs xs → (lendIx as).Nodup → (∀ i ∈ lendIx as, isOwn i ρ = true) → (ownAd (as.map CArg.kd) vs).Nodup
  | [], [], [], _, _, _ => .nil
  | .v m :: as, v :: vs, x :: xs, h, n, hl => by
    have : ownAd ((CArg.v m :: as).map CArg.kd) (v :: vs) = ownAd (as.map CArg.kd) vs := by cases v <;> rfl
    rw [this]; exact lendNd R h.2 n hl
  | .scr m :: as, v :: vs, x :: xs, h, n, hl => by
    have : ownAd ((CArg.scr m :: as).map CArg.kd) (v :: vs) = ownAd (as.map CArg.kd) vs := by cases v <;> rfl
    rw [this]; exact lendNd R h.2 n hl
  | .lend i :: as, v :: vs, x :: xs, h, n, hl => by
    simp only [lendIx, List.nodup_cons] at n
    have ih := lendNd R h.2 n.2 fun j hj => hl j (List.mem_cons_of_mem _ hj)
    obtain ⟨y, e⟩ := isOwn_eq (hl i List.mem_cons_self)
    obtain ⟨a, s, _⟩ := R.own_ne e
    have ev := h.1
    rw [s] at ev
    cases ev
    show (a :: ownAd (as.map CArg.kd) vs).Nodup
    refine List.nodup_cons.mpr ⟨fun z => ?_, ih⟩
    obtain ⟨j, hj, sj⟩ := (lendAd h.2).mp z
    obtain ⟨y2, e2⟩ := isOwn_eq (hl j (List.mem_cons_of_mem _ hj))
    exact n.1 (R.sep i j a y y2 e e2 s sj ▸ hj)
  | [], [], _ :: _, h, _, _ => h.elim
  | [], _ :: _, _, h, _, _ => h.elim
  | .v _ :: _, [], _, h, _, _ => h.elim
  | .v _ :: _, _ :: _, [], h, _, _ => h.elim
  | .lend _ :: _, [], _, h, _, _ => h.elim
  | .lend _ :: _, _ :: _, [], h, _, _ => h.elim
  | .scr _ :: _, [], _, h, _, _ => h.elim
  | .scr _ :: _, _ :: _, [], h, _, _ => h.elim
theorem wbA_len : ∀ {as : List CArg} {outs : List PyData}, (wbA as outs ρ).length = ρ.length
  | [], _ => rfl
  | .v _ :: as, outs => by unfold wbA; exact wbA_len (as := as)
  | .scr _ :: as, outs => by unfold wbA; exact wbA_len (as := as)
  | .lend i :: as, [] => rfl
  | .lend i :: as, x :: xs => by unfold wbA; rw [List.length_set]; exact wbA_len
theorem wbA_out {j : Nat} : ∀ {as : List CArg} {outs : List PyData}, j ∉ lendIx as → (wbA as outs ρ)[j]? = ρ[j]?
  | [], _, _ => rfl
  | .v _ :: as, outs, h => by unfold wbA; exact wbA_out (as := as) h
  | .scr _ :: as, outs, h => by unfold wbA; exact wbA_out (as := as) h
  | .lend i :: as, [], _ => rfl
  | .lend i :: as, x :: xs, h => by
    simp only [lendIx, List.mem_cons, not_or] at h
    unfold wbA
    rw [List.getElem?_set_ne (Ne.symm h.1)]
    exact wbA_out h.2
theorem wbA_at {fz' : Addr → Prop} {H' : Hp} {j : Nat} : ∀ {as : List CArg} {vs : List V} {xs outs : List PyData}, ArgsV c.K σ fz H as vs xs → OutsR c.K fz' H' (as.map CArg.kd) vs outs → (lendIx as).Nodup → j ∈ lendIx as →
    ∃ (a : Addr) (x : PyData), σ[j]? = some (some (V.ref a)) ∧ ¬ fz' a ∧ OwnC c.K fz' H' a x ∧ (wbA as outs ρ)[j]? = if j < ρ.length then some (.own x) else none
  | .v m :: as, v :: vs, x :: xs, outs, h, ho, n, hj => by
    unfold wbA
    simp only [List.map_cons, CArg.kd, OutsR] at ho
    exact wbA_at h.2 ho n hj
  | .scr m :: as, v :: vs, x :: xs, outs, h, ho, n, hj => by
    unfold wbA
    simp only [List.map_cons, CArg.kd, OutsR] at ho
    exact wbA_at h.2 ho n hj
  | .lend i :: as, v :: vs, x :: xs, outs, h, ho, n, hj => by
    simp only [lendIx, List.nodup_cons] at n
    cases v with
    | ref a =>
      cases outs with
      | nil => exact absurd ho (by simp [OutsR, CArg.kd])
      | cons o outs =>
        simp only [List.map_cons, CArg.kd, OutsR] at ho
        obtain ⟨nf, oc, ho⟩ := ho
        unfold wbA
        by_cases e : j = i
        · subst e
          refine ⟨a, o, h.1, nf, oc, ?_⟩
          rw [List.getElem?_set]
          simp only [if_true, wbA_len]
        · rw [List.getElem?_set_ne (Ne.symm e)]
          exact wbA_at h.2 ho n.2 ((List.mem_cons.mp hj).resolve_left e)
    | _ => exact absurd ho (by simp [OutsR, CArg.kd])
  | [], _, _, _, _, _, _, hj => by simp [lendIx] at hj
  | .v _ :: _, [], _, _, h, _, _, _ => h.elim
  | .v _ :: _, _ :: _, [], _, h, _, _, _ => h.elim
  | .lend _ :: _, [], _, _, h, _, _, _ => h.elim
  | .lend _ :: _, _ :: _, [], _, h, _, _, _ => h.elim
  | .scr _ :: _, [], _, _, h, _, _, _ => h.elim
  | .scr _ :: _, _ :: _, [], _, h, _, _, _ => h.elim
/-- what a caller protects -/
def prC (pr : Addr → Prop) (σ : L2.St) (ρ : Env) (as : List CArg) : Addr → Prop := fun a => pr a ∨ ∃ (i : Nat) (x : PyData), ρ[i]? = some (.own x) ∧ σ[i]? = some (some (V.ref a)) ∧ i ∉ lendIx as
theorem Rel.back {as : List CArg} {vs : List V} {xs outs : List PyData} {fz' : Addr → Prop} {H' : Hp} (R : Rel c.K pp pr fz σ H ρ) (ha : ArgsV c.K σ fz H as vs xs) (hn : (lendIx as).Nodup) (hl : ∀ i ∈ lendIx as, isOwn i ρ = true)
    (F : Fr (prC pr σ ρ as) fz H fz' H') (hf : ∀ a, fz' a → H' a ≠ none) (ho : OutsR c.K fz' H' (as.map CArg.kd) vs outs) : Fr pr fz H fz' H' ∧ Rel c.K pp pr fz' σ H' (wbA as outs ρ) := by
  have F1 : Fr pr fz H fz' H' := F.narrow fun a z => .inl z
  have own : ∀ (i : Nat) (x : PyData), (wbA as outs ρ)[i]? = some (.own x) → ∃ y, ρ[i]? = some (.own y) := fun i x e => by
    by_cases hi : i ∈ lendIx as
    · exact isOwn_eq (hl i hi)
    · rw [wbA_out hi] at e; exact ⟨x, e⟩
  refine ⟨F1, by rw [wbA_len]; exact R.len, fun i s e => ?_, fun i j a x y e1 e2 s1 s2 => ?_, hf, fun a z => by rw [F1.keepP a z]; exact R.prH a z, fun p hp => ?_⟩
  · by_cases hi : i ∈ lendIx as
    · obtain ⟨a, x, s', nf, oc, e'⟩ := wbA_at (ρ := ρ) ha ho hn hi
      rw [e'] at e
      split at e
      · cases e
        obtain ⟨y, ey⟩ := isOwn_eq (hl i hi)
        obtain ⟨b, sb, _, np, _⟩ := R.own_ne ey
        rw [s'] at sb
        cases sb
        exact ⟨a, join_some.mpr s', nf, np, oc⟩
      · cases e
    · rw [wbA_out hi] at e
      have q := R.at_ i s e
      cases s with
      | emp => trivial
      | val d => obtain ⟨v, h, r⟩ := q; exact ⟨v, h, r.ext F1.ext⟩
      | scr ns => obtain ⟨v, h, r⟩ := q; exact ⟨v, h, r.ext F1.ext⟩
      | own d =>
        obtain ⟨a, h, n, np, r⟩ := q
        have pa : prC pr σ ρ as a := .inr ⟨i, d, e, join_some.mp h, hi⟩
        exact ⟨a, h, fun z => n (F.new a pa z), np, r.ext F1.ext (F.keepP a pa)⟩
  · obtain ⟨x', e1⟩ := own i x e1
    obtain ⟨y', e2⟩ := own j y e2
    exact R.sep i j a x' y' e1 e2 s1 s2
  · obtain ⟨x, e, s⟩ := R.pin p hp
    by_cases hi : p.1 ∈ lendIx as
    · obtain ⟨a, y, s', _, _, e'⟩ := wbA_at (ρ := ρ) ha ho hn hi
      rw [if_pos (List.getElem?_eq_some_iff.mp e).1] at e'
      exact ⟨y, e', s⟩
    · exact ⟨x, by rw [wbA_out hi]; exact e, s⟩
/-- THE RULE for a call -/
theorem rf_call {as : List CArg} {f : List PyData → FOut} {ta : TA} {ks : List PKd} (hks : as.map CArg.kd = ks) (ha : Rf c (RArgs c.K as) ta (evA as)) : Rf c (RRt c.K) (tCallSD (spF c.K c.RX ks f) [] (fun σ => WE c.W σ) ta) (mcall f as) := by
  subst hks
  intro pp pr fz σ H ρ Q hp R hq
  refine ha pp pr fz σ H ρ _ hp R ?_
  unfold mcall at hq
  cases e : evA as ρ with
  | bad => rw [e] at hq; exact hq.elim
  | exc x r => rw [e] at hq; exact hq
  | ok xs ρ1 =>
    rw [e] at hq
    intro vs fz1 H1 F1 R1 r1
    have r1 : ArgsV c.K σ fz1 H1 as vs xs := r1
    have hq := PostG.rest F1 hq
    simp only at hq
    split at hq
    · rename_i hok
      simp only [lendOk, Bool.and_eq_true, decide_eq_true_eq, List.all_eq_true] at hok
      obtain ⟨⟨hn, hl⟩, hs⟩ := hok
      rw [List.append_nil]
      refine ⟨prC pr σ ρ1 as, fz1, fillA ρ1 as xs, argsR_of R1 _ r1 hl (fun i hi a sa z => ?_) hs, lendNd R1 r1 hn hl, R1.fzH, fun a z => ?_, ?_⟩
      · obtain ⟨y, ey⟩ := isOwn_eq (hl i hi)
        obtain ⟨b, sb, _, np, _⟩ := R1.own_ne ey
        rw [sa] at sb
        cases sb
        rcases z with z | ⟨j, x, ej, sj, hj⟩
        · exact np z
        · exact hj (R1.sep j i a x y ej ey sj sa ▸ hi)
      · rcases z with z | ⟨j, x, ej, sj, hj⟩
        · exact R1.prH a z
        · obtain ⟨b, sb, _, _, oc⟩ := R1.own_ne ej
          rw [sj] at sb
          cases sb
          exact oc.some
      · cases ef : f (fillA ρ1 as xs) with
        | bad => rw [ef] at hq; exact hq.elim
        | ok r outs =>
          rw [ef] at hq
          intro v fz2 H2 F2 hf2 ho hr
          obtain ⟨F3, R3⟩ := R1.back r1 hn hl F2 hf2 ho
          refine hq v fz2 H2 F3 R3 ?_
          cases r with
          | v d => exact hr
          | o d =>
            obtain ⟨a, rfl, nf, np, na, oc⟩ := hr
            refine ⟨a, rfl, nf, fun z => np (.inl z), fun i x ei si => ?_, oc⟩
            by_cases hi : i ∈ lendIx as
            · exact na ((lendAd r1).mpr ⟨i, hi, si⟩)
            · rw [wbA_out hi] at ei
              exact np (.inr ⟨i, x, ei, si, hi⟩)
        | exc x outs =>
          rw [ef] at hq
          intro cls dx fz2 H2 F2 hf2 ho hr
          obtain ⟨F3, R3⟩ := R1.back r1 hn hl F2 hf2 ho
          exact hq cls dx fz2 H2 F3 R3 hr
    · exact hq.elim
/-- the result as a value -/
def rtV (m : M Rt) : M PyData := bnd m fun r ρ => match r with
  | .v d => .ok d ρ
  | .o d => .ok d ρ
def rtO (m : M Rt) : M PyData := bnd m fun r ρ => match r with
  | .o d => .ok d ρ
  | .v _ => .bad
theorem rf_rtV {t : TE} {m : M Rt} (h : Rf c (RRt c.K) t m) : Rf c (RV c.K) t (rtV m) := by
  intro pp pr fz σ H ρ Q hp R hq
  refine h pp pr fz σ H ρ _ hp R (hq.bnd fun v x fz1 H1 ρ1 F1 R1 r1 P1 => ?_)
  cases x with
  | v d => exact ok_post P1 R1 r1
  | o d =>
    obtain ⟨a, rfl, nf, np, ns, oc⟩ := r1
    obtain ⟨F2, R2⟩ := frz_free R1 oc.some np ns
    exact P1 (.ref a) _ H1 F2 R2 oc.frz
theorem rf_rtO {t : TE} {m : M Rt} (h : Rf c (RRt c.K) t m) : Rf c (RO c.K) t (rtO m) := by
  intro pp pr fz σ H ρ Q hp R hq
  refine h pp pr fz σ H ρ _ hp R (hq.bnd fun v x fz1 H1 ρ1 F1 R1 r1 P1 => ?_)
  cases x with
  | o d => exact ok_post P1 R1 r1
  | v d => exact P1.elim
end
end PL

/-! PL10: built-in functions by pure values. -/
namespace PL
open PySem PySem.Spec L2
open PyProof.Rows hiding St

def len? : PyData → Option PyData
  | .list ds => some (.int ds.length)
  | .tuple ds => some (.int ds.length)
  | .str x => if lenOk x.length = true then some (.int x.length) else none
  | _ => none
def abs? : PyData → Option PyData
  | .int i => some (.int (if i < 0 then -i else i))
  | _ => none
def int? : PyData → Option PyData
  | .int i => some (.int i)
  | .bool b => some (.int (if b then 1 else 0))
  | .str x => if lenOk x.length = true then (intText? x).map .int else none
  | _ => none
def tuple? : PyData → Option PyData
  | .list ds => some (.tuple ds)
  | .tuple ds => some (.tuple ds)
  | _ => none
def list? : PyData → Option PyData
  | .list ds => some (.list ds)
  | .tuple ds => some (.list ds)
  | _ => none
def sum? : PyData → Option PyData
  | .list ds => (ints? ds).map fun ns => .int ns.sum
  | _ => none
def max? : PyData → Option PyData
  | .list ds => (ints? ds).bind fun ns => if ns.isEmpty = true then none else some (.int (maxL ns))
  | _ => none
def min? : PyData → Option PyData
  | .list ds => (ints? ds).bind fun ns => if ns.isEmpty = true then none else some (.int (minL ns))
  | _ => none
def any? : PyData → Option PyData
  | .list ds => (bools? ds).map fun bs => .bool (bs.any id)
  | _ => none
def all? : PyData → Option PyData
  | .list ds => (bools? ds).map fun bs => .bool (bs.all id)
  | _ => none
def isort : List Int → List Int := fun l => l.mergeSort (fun a b => decide (a ≤ b))
def sortI? : PyData → Option PyData
  | .list ds => (ints? ds).map fun ns => .list ((isort ns).map PyData.int)
  | _ => none
def max2? : PyData → PyData → Option PyData
  | .int i, .int j => some (.int (if j > i then j else i))
  | _, _ => none
def min2? : PyData → PyData → Option PyData
  | .int i, .int j => some (.int (if j < i then j else i))
  | _, _ => none
def reprOk (d : PyData) : Bool := d.showable && !d.hasDict && decide (d.depth ≤ 60) && lenOk d.shown.length
def repr? : PyData → Option PyData
  | .int i => if i.natAbs.log2 < 12900 then some (.str (toString i)) else none
  | d => if reprOk d = true then some (.str d.shown) else none

theorem isort_perm (ns : List Int) : (isort ns).Perm ns := List.mergeSort_perm ns _
theorem isort_sorted (ns : List Int) : (isort ns).Pairwise (· ≤ ·) := by
  have h := List.pairwise_mergeSort (le := fun a b : Int => decide (a ≤ b)) (fun a b c h1 h2 => by simp at *; omega) (fun a b => by simp; omega) ns
  exact h.imp fun h => by simpa using h
theorem sorted_unique : ∀ {a b : List Int}, a.Perm b → a.Pairwise (· ≤ ·) → b.Pairwise (· ≤ ·) → a = b := fun p h1 h2 => p.eq_of_pairwise (fun x y _ _ h h' => Int.le_antisymm h h') h1 h2
theorem isort_of_sorted {ns : List Int} (h : ns.Pairwise (· ≤ ·)) : isort ns = ns := sorted_unique (isort_perm ns) (isort_sorted ns) h

section
variable {K : PySem.W.Frag} {fz : Addr → Prop} {H : Hp}
def rLen (K : PySem.W.Frag) : RL := fun xs H Q => (∃ p ys, xs = [.ref p] ∧ (SqL K H p ys ∨ SqT K H p ys) ∧ Q (.int ys.length) H) ∨ (∃ z, xs = [.str z] ∧ z.length ≤ sizeLine ∧ Q (.int z.length) H)
theorem cr_len {X : Cx} : CallR X (.builtin "len") (rLen X.K) := call_len_seq.or call_len_str
theorem c1_len : C1 K (rLen K) len? := by
  intro fz H v x z hv e Q q
  cases x <;> first | (cases e; done) | skip
  · rename_i s
    simp only [len?] at e
    split at e
    · rename_i h
      cases e
      rw [hv.str]
      exact .inr ⟨s, rfl, lenOk_iff.mp h, Alc.same (.int _) q⟩
    · cases e
  · cases e
    obtain ⟨a, vs, rfl, sa, ra⟩ := hv.lst
    refine .inl ⟨a, vs, rfl, .inl (SqL.of sa), ?_⟩
    rw [ra.length]
    exact Alc.same (.int _) q
  · cases e
    obtain ⟨a, vs, rfl, sa, ra, _⟩ := hv.tup
    refine .inl ⟨a, vs, rfl, .inr sa, ?_⟩
    rw [ra.length]
    exact Alc.same (.int _) q
def rAbs : RL := fun xs H Q => ∃ i, xs = [.int i] ∧ Q (.int (if i < 0 then -i else i)) H
theorem c1_abs : C1 K rAbs abs? := by
  intro fz H v x z hv e Q q
  cases x <;> first | (cases e; done) | skip
  cases e
  rw [hv.int]
  exact ⟨_, rfl, Alc.same (.int _) q⟩
/-- no digits limit set -/
def NoDg (K : PySem.W.Frag) : Prop := PySem.W.nsIn K cStatics "sys.int_max_str_digits" = some none
theorem NoDg.looks {K : PySem.W.Frag} {M : Model} {h : Heap} (n : NoDg K) (k : K.In h) : PySem.W.Looks M h (nsGet cStatics "sys.int_max_str_digits") none := PySem.W.looks_nsIn k n
theorem digitsW {M : Model} {A : Around} {E : Value → Shared → Prop} {s : Shared} {Q : Nat → Shared → Prop} {K : PySem.W.Frag} (n : NoDg K) (k : K.In s.heap) (h : Q 4300 s) : wpAny M A Builtin.intMaxStrDigits Q E s := by
  unfold Builtin.intMaxStrDigits
  exact wpAny_bind ((n.looks k).here (wpAny_pure h))
theorem intTextW {M : Model} {A : Around} {E : Value → Shared → Prop} {s : Shared} {Q : Value → Shared → Prop} {v : Value} {text : List Nat} {n : Int} {K : PySem.W.Frag} (nd : NoDg K) (k : K.In s.heap)
    (hr : (int_private% "readNumeral") (if (text.takeWhile (· != 0)).length ≤ 640 then 0 else 4300) 10 (text.takeWhile (· != 0)) = (int_private% "Numeral.value") n)
    (ha : ((text.takeWhile (· != 0)).length == text.length) = true) (h : Q (.int n s.toks) { s with toks := s.toks + 1 }) :
    wpAny M A ((int_private% "intFromText") v text 10) Q E s := by
  by_cases hs : (text.takeWhile (· != 0)).length ≤ 640
  · rw [if_pos hs] at hr
    exact PySem.W.KIN.wp_text hs hr ha h
  · rw [if_neg hs] at hr
    obtain ⟨hp, g, d, tk, os⟩ := s
    repeat (any_goals (first
      | assumption
      | (with_reducible refine wpAny_ite_false (decide_eq_false hs) ?_)
      | (refine wpAny_bind (digitsW nd k ?_))
      | (with_reducible refine wpAny_ite_true (decide_eq_true ha) ?_)
      | wp_step))
    all_goals (try rw [hr])
    all_goals (try dsimp only)
    repeat (any_goals (first
      | assumption
      | (with_reducible refine wpAny_ite_true (decide_eq_true ha) ?_)
      | wp_step))
theorem meets_textW {x : PySem.Str} {u : Tok} {n : Int} {K : PySem.W.Frag} (nd : NoDg K) (hl : x.length ≤ sizeLine) (hn : PySem.intText? x = some n) :
    Meets (Builtin.«int.__new__» ⟨[.type "int", .str x u], []⟩) (fun _ R s => K.In s.heap ∧ R (.ok (.ret (.int n s.toks))) { s with toks := s.toks + 1 }) :=
  .of_wp fun prog w A R s hh => by
    obtain ⟨k, h⟩ := hh
    obtain ⟨hp, g, d, tk, os⟩ := s
    have f1 := F.conv_sub_int
    have f2 := F.madeHere_int
    have f3 := PySem.W.KIN.str_int
    have f4 := PySem.W.KIN.str_idx
    have f5 := PySem.W.KIN.str_trunc
    have f6 : typeOf (.str x u) = pure (.type "str") := rfl
    have hr : (int_private% "readNumeral") (numLimitOf x) 10 (numSeenOf x) = (int_private% "Numeral.value") n ∧ ((numSeenOf x).length == (numTextOf x).length) = true := by
      rcases readAny x hl with ⟨m, h1, h2, h3⟩ | ⟨h1, _⟩
      · rw [hn] at h1
        injection h1 with h1
        subst h1
        exact ⟨h3, h2⟩
      · rw [hn] at h1
        cases h1
    have hk := PySem.W.KIN.Hid.mk hr
    clear hr hl hn
    repeat (any_goals (first
      | assumption
      | ((with_reducible show wpAny _ _ ((int_private% "intFromText") _ _ _) _ _ _); refine intTextW nd k hk.out.1 hk.out.2 ?_)
      | wp_step))
    all_goals first | exact ⟨_, rfl, h⟩ | skip
def rIntS : RL := fun xs H Q => ∃ a n, xs = [.str a] ∧ PySem.intText? a = some n ∧ a.length ≤ sizeLine ∧ Q (.int n) H
theorem call_intS {X : Cx} (nd : NoDg X.K) : CallR X (.type "int") rIntS := by
  intro pins s σ H xs us Q I rs h
  obtain ⟨a, n, rfl, hn, hl, h⟩ := h
  obtain ⟨u, rfl, t, rfl⟩ := vals1 rs
  exact call_int_1 (meets_textW nd hl hn) ⟨I.kIn, ⟨rfl, ⟨.int n, H, I.tok _, ⟨_, rfl⟩, h⟩⟩⟩
def rInt0 : RL := fun xs H Q => (∃ i, xs = [.int i] ∧ Q (.int i) H) ∨ ∃ k, xs = [.bl k] ∧ Q (.int (if k then 1 else 0)) H
def rInt : RL := fun xs H Q => rInt0 xs H Q ∨ rIntS xs H Q
theorem cr_int {X : Cx} (nd : NoDg X.K) : CallR X (.type "int") rInt := fun pins s σ H xs us Q I rs h =>
  h.elim (call_int1 pins s σ H xs us Q I rs) (call_intS nd pins s σ H xs us Q I rs)
theorem c1_int : C1 K rInt int? := by
  intro fz H v x z hv e Q q
  cases x <;> first | (cases e; done) | skip
  · cases e; rw [hv.bl]; exact .inl (.inr ⟨_, rfl, Alc.same (.int _) q⟩)
  · cases e; rw [hv.int]; exact .inl (.inl ⟨_, rfl, Alc.same (.int _) q⟩)
  · rename_i a
    rw [hv.str]
    simp only [int?] at e
    split at e
    · rename_i h
      cases ea : intText? a with
      | none => rw [ea] at e; cases e
      | some n =>
        rw [ea] at e
        cases e
        exact .inr ⟨_, _, rfl, ea, lenOk_iff.mp h, Alc.same (.int _) q⟩
    · cases e
def rTuple (K : PySem.W.Frag) : RL := fun xs H Q => ∃ p ys, xs = [.ref p] ∧ ((SqL K H p ys ∧ ∀ l, H l = none → Q (.ref l) (upd H l (.tup ys))) ∨ (SqT K H p ys ∧ Q (.ref p) H))
theorem c1_tuple : C1 K (rTuple K) tuple? := by
  intro fz H v x z hv e Q q
  cases x <;> first | (cases e; done) | skip
  · cases e
    obtain ⟨a, vs, rfl, sa, ra⟩ := hv.lst
    exact ⟨a, vs, rfl, .inl ⟨SqL.of sa, alc_tup ra q⟩⟩
  · cases e
    obtain ⟨a, vs, rfl, sa, ra, ra'⟩ := hv.tup
    exact ⟨a, vs, rfl, .inr ⟨sa, Alc.same ra' q⟩⟩
def rList (K : PySem.W.Frag) : RL := fun xs H Q => ∃ p ys, xs = [.ref p] ∧ (SqL K H p ys ∨ SqT K H p ys) ∧ ∀ l, H l = none → Q (.ref l) (upd H l (.lst ys))
theorem co_list : CO K (rList K) list? := by
  intro fz H v x z hv e hf Q q
  have go : ∀ {vs : List V} {ds : List PyData}, RepA K fz H vs ds → ∀ p, H p = none → OwnC K fz (upd H p (.lst vs)) p (.list ds) := fun r p hp =>
    ⟨_, upd_same, RepA.ext ⟨fun _ z => z, fun a z => upd_ne fun q => hf a z (by rw [q]; exact hp)⟩ r⟩
  cases x <;> first | (cases e; done) | skip
  · cases e
    obtain ⟨a, vs, rfl, sa, ra⟩ := hv.lst
    exact ⟨a, vs, rfl, .inl (SqL.of sa), fun l hl => q l _ hl (fun b n => upd_ne n) (go ra l hl)⟩
  · cases e
    obtain ⟨a, vs, rfl, sa, ra, _⟩ := hv.tup
    exact ⟨a, vs, rfl, .inr sa, fun l hl => q l _ hl (fun b n => upd_ne n) (go ra l hl)⟩
theorem ints_rep {vs : List V} {ds : List PyData} {ns : List Int} (r : RepA K fz H vs ds) (e : ints? ds = some ns) : vs = ns.map V.int := by
  rw [ints_of e] at r; exact r.ints
theorem bools_rep {vs : List V} {ds : List PyData} {ns : List Bool} (r : RepA K fz H vs ds) (e : bools? ds = some ns) : vs = ns.map V.bl := by
  rw [bools_of e] at r; exact r.bls
theorem c1_sum : C1 K (rSum K) sum? := by
  intro fz H v x z hv e Q q
  cases x <;> first | (cases e; done) | skip
  rename_i ds
  simp only [sum?] at e
  cases e1 : ints? ds with
  | none => rw [e1] at e; cases e
  | some ns =>
    rw [e1] at e
    cases e
    obtain ⟨a, vs, rfl, sa, ra⟩ := hv.lst
    rw [ints_rep ra e1] at sa
    exact ⟨a, ns, rfl, SqL.of sa, Alc.same (.int _) q⟩
theorem isEmpty_pos {α : Type} {l : List α} (h : ¬ l.isEmpty = true) : 0 < l.length := by cases l <;> simp_all
theorem c1_max : C1 K (rMax K) max? := by
  intro fz H v x z hv e Q q
  cases x <;> first | (cases e; done) | skip
  rename_i ds
  simp only [max?] at e
  cases e1 : ints? ds with
  | none => rw [e1] at e; cases e
  | some ns =>
    rw [e1] at e
    simp only [Option.bind_some] at e
    split at e
    · cases e
    · rename_i hn
      cases e
      obtain ⟨a, vs, rfl, sa, ra⟩ := hv.lst
      rw [ints_rep ra e1] at sa
      refine ⟨a, ns, rfl, SqL.of sa, isEmpty_pos hn, fun m hm hle => ?_⟩
      obtain ⟨h1, h2⟩ := maxL_spec ns (fun z => by rw [z] at hn; simp at hn)
      rw [show m = maxL ns from Int.le_antisymm (h2 m hm) (hle _ h1)]
      exact Alc.same (.int _) q
theorem c1_min : C1 K (rMin K) min? := by
  intro fz H v x z hv e Q q
  cases x <;> first | (cases e; done) | skip
  rename_i ds
  simp only [min?] at e
  cases e1 : ints? ds with
  | none => rw [e1] at e; cases e
  | some ns =>
    rw [e1] at e
    simp only [Option.bind_some] at e
    split at e
    · cases e
    · rename_i hn
      cases e
      obtain ⟨a, vs, rfl, sa, ra⟩ := hv.lst
      rw [ints_rep ra e1] at sa
      refine ⟨a, ns, rfl, SqL.of sa, isEmpty_pos hn, fun m hm hle => ?_⟩
      obtain ⟨h1, h2⟩ := minL_spec ns (fun z => by rw [z] at hn; simp at hn)
      rw [show m = minL ns from Int.le_antisymm (hle _ h1) (h2 m hm)]
      exact Alc.same (.int _) q
theorem c1_any : C1 K (rAny K) any? := by
  intro fz H v x z hv e Q q
  cases x <;> first | (cases e; done) | skip
  rename_i ds
  simp only [any?] at e
  cases e1 : bools? ds with
  | none => rw [e1] at e; cases e
  | some ns =>
    rw [e1] at e
    cases e
    obtain ⟨a, vs, rfl, sa, ra⟩ := hv.lst
    rw [bools_rep ra e1] at sa
    exact ⟨a, ns, rfl, SqL.of sa, Alc.same (.bl _) q⟩
theorem c1_all : C1 K (rAll K) all? := by
  intro fz H v x z hv e Q q
  cases x <;> first | (cases e; done) | skip
  rename_i ds
  simp only [all?] at e
  cases e1 : bools? ds with
  | none => rw [e1] at e; cases e
  | some ns =>
    rw [e1] at e
    cases e
    obtain ⟨a, vs, rfl, sa, ra⟩ := hv.lst
    rw [bools_rep ra e1] at sa
    exact ⟨a, ns, rfl, SqL.of sa, Alc.same (.bl _) q⟩
theorem co_sortI : CO K (rSortedI K) sortI? := by
  intro fz H v x z hv e hf Q q
  cases x <;> first | (cases e; done) | skip
  rename_i ds
  simp only [sortI?] at e
  cases e1 : ints? ds with
  | none => rw [e1] at e; cases e
  | some ns =>
    rw [e1] at e
    cases e
    obtain ⟨a, vs, rfl, sa, ra⟩ := hv.lst
    rw [ints_rep ra e1] at sa
    refine ⟨a, ns, rfl, SqL.of sa, fun ns' p hp hs hn => ?_⟩
    have : ns' = isort ns := sorted_unique (hp.trans (isort_perm ns).symm) hs (isort_sorted ns)
    subst this
    exact q p _ hn (fun b n => upd_ne n) ⟨_, upd_same, RepA.of_ints _⟩
def rMax2 : RL := fun xs H Q => ∃ i j, xs = [.int i, .int j] ∧ Q (.int (if j > i then j else i)) H
def rMin2 : RL := fun xs H Q => ∃ i j, xs = [.int i, .int j] ∧ Q (.int (if j < i then j else i)) H
theorem c2_max : C2 K rMax2 max2? := by
  intro fz H v w x y z hv hw e Q q
  cases x <;> first | (cases e; done) | skip
  cases y <;> first | (cases e; done) | skip
  cases e; cases hv; cases hw
  exact ⟨_, _, rfl, Alc.same (.int _) q⟩
theorem c2_min : C2 K rMin2 min2? := by
  intro fz H v w x y z hv hw e Q q
  cases x <;> first | (cases e; done) | skip
  cases y <;> first | (cases e; done) | skip
  cases e; cases hv; cases hw
  exact ⟨_, _, rfl, Alc.same (.int _) q⟩

/-! ### repr -/
mutual
theorem Rep.dpn : ∀ {v : V} {d : PyData}, Rep K fz H v d → d.hasDict = false → Dp K H v d
  | _, _, .non, _ => .non
  | _, _, .bl b, _ => .bl b
  | _, _, .int i, _ => .int i
  | _, _, .str x, _ => .str x
  | _, _, .lst h e r, s => .lst (SqL.of e) (RepA.dpn r (by simpa [PyData.hasDict] using s))
  | _, _, .tup h r, s => .tup h.sq (RepA.dpn r (by simpa [PyData.hasDict] using s))
  | _, _, .dic h e r, s => by simp [PyData.hasDict] at s
theorem RepA.dpn : ∀ {v : List V} {d : List PyData}, RepA K fz H v d → PyData.hasDictAll d = false → DpAll K H v d
  | _, _, .nil, _ => .nil
  | _, _, .cons h r, s => by
    have s' := s
    simp only [PyData.hasDictAll, Bool.or_eq_false_iff] at s'
    exact .cons (Rep.dpn h s'.1) (RepA.dpn r s'.2)
end
theorem RepP.dpn {v : V} {d : PyData} (h : RepP K fz H v d) (s : d.hasDict = false) : Dp K H v d := by
  rcases h with h | ⟨a, rfl, _, z⟩
  · exact h.dpn s
  · cases d with
    | list ds => obtain ⟨vs, e, r⟩ := z; exact .lst (SqL.of e) (r.dpn (by simpa [PyData.hasDict] using s))
    | dict ds => simp [PyData.hasDict] at s
    | _ => exact z.elim
theorem NoDg.digits {K : PySem.W.Frag} {h : Heap} (n : NoDg K) (k : K.In h) (l : h.NoLimit) : h.NoDigits := by
  obtain ⟨mc, ⟨o, es, ep, e1, e2, e3, e4⟩, _⟩ := l
  refine ⟨mc, ⟨o, es, ep, e1, e2, e3, e4⟩, ?_⟩
  unfold NoDg PySem.W.nsIn at n
  split at n
  · rename_i c d es' n' sl ho
    have e5 := k _ _ ho
    rw [e1] at e5
    cases e5
    cases e2
    rw [← e4]
    unfold nsFind findBy
    rw [← Array.find?_toList]
    split at n
    · cases n
    · rename_i he
      rw [he]
      rfl
  · cases n
def rReprI : RL := fun vs H Q => ∃ i, vs = [.int i] ∧ i.natAbs.log2 < 12900 ∧ Q (.str (toString i)) H
theorem cr_reprI {X : Cx} (nd : NoDg X.K) (hu : X.A.units + 64 < cLine) : CallR X (.builtin "repr") rReprI := by
  intro pins s σ H xs us Q I rs h
  obtain ⟨i, rfl, hl, q⟩ := h
  obtain ⟨u, rfl, t, rfl⟩ := vals1 rs
  have hd : s.heap.NoDigits := nd.digits I.kIn (I.ok.mod.nolimit.keeps fun b o e => (I.bs b o e).1)
  have lt : i.natAbs < 10 ^ 4300 := Nat.lt_of_lt_of_le (PyProof.Rows.lt_of_log2 hl) PyProof.Rows.pow_lo
  refine PySem.call_repr_slot (T := "int") (idr := "int.__repr__") (by omega) (typeIs_int s i t) PySem.F.slot_int_repr.toG ?_
  refine wpAny_call_entry F.slot_int_repr (typeIs_int s i t) F.entry_int_repr ?_ (F.args_int_repr_1 _)
  unfold Builtin.«int.__repr__»
  show wpAny _ _ (do let r ← Builtin.overDigitLimit? i; _) _ _ s
  refine wpAny_bind (PyProof.Rows.overDigitLimit_any hd (fun hlt => ?_) (fun hge => absurd lt (Nat.not_lt.mpr hge)))
  exact wpAny_bind (wpAny_mkStr (wpAny_pure ⟨_, rfl, _, _, rfl, .str _, H, I.tok _, ⟨_, rfl⟩, q⟩) (int_text_fits10 hlt))
def rRepr1 (K : PySem.W.Frag) : RL := fun vs H Q => ∃ v d, vs = [v] ∧ Dp K H v d ∧ d.showable = true ∧ d.hasDict = false ∧ d.depth ≤ 60 ∧ d.shown.length ≤ sizeLine ∧ Q (.str d.shown) H
theorem cr_repr1 {X : Cx} (hg : X.A.guards = some []) (hu : X.A.units + 64 < cLine) : CallR X (.builtin "repr") (rRepr1 X.K) := by
  intro pins s σ H xs us Q I r h
  obtain ⟨v, d, rfl, hd, hs, hn, hl, hz, q⟩ := h
  obtain ⟨u, rfl, rx⟩ := vals1 r
  have fin : ∀ (h' : Heap) (t : Tok) (tk : Nat), (∀ b o, s.heap.get? b = some o → h'.get? b = some o) → EP X pins σ Q (.str d.shown t) { s with heap := h', toks := tk } := fun h' t tk hk => ⟨.str d.shown, H, I.kept hk, ⟨t, rfl⟩, q⟩
  cases hd with
  | non => cases rx; exact PySem.P.repr_of_none (by have := fin s.heap s.toks (s.toks + 1) (fun _ _ e => e); simpa [PyData.shown] using this)
  | bl b =>
    cases rx
    refine PySem.P.repr_of_bool ?_
    have := fin s.heap s.toks (s.toks + 1) (fun _ _ e => e)
    cases b <;> simpa [PyData.shown] using this
  | int i =>
    obtain ⟨t, rfl⟩ := rx
    exact PySem.P.repr_of_int (by simpa [PyData.showable] using hs) (by have := fin s.heap s.toks (s.toks + 1) (fun _ _ e => e); simpa [PyData.shown] using this)
  | str x =>
    obtain ⟨t, rfl⟩ := rx
    exact PySem.P.repr_of_str (by have := fin s.heap s.toks (s.toks + 1) (fun _ _ e => e); simpa [PyData.shown] using this) (by simpa [PyData.shown] using hz)
  | @lst a ys ds h1 h2 =>
    obtain ⟨as, rr⟩ := Dp.reads I _ _ _ (.lst h1 h2) rx
    cases rx
    exact repr_of_reads' rr hs (fun h => absurd (hn.symm.trans h) Bool.false_ne_true) hg (by omega) (fun _ _ e => e) (fun h' u tk hk => fin h' u tk hk) hz
  | @tup a ys ds h1 h2 =>
    obtain ⟨as, rr⟩ := Dp.reads I _ _ _ (.tup h1 h2) rx
    cases rx
    exact repr_of_reads' rr hs (fun h => absurd (hn.symm.trans h) Bool.false_ne_true) hg (by omega) (fun _ _ e => e) (fun h' u tk hk => fin h' u tk hk) hz
def rRepr (K : PySem.W.Frag) : RL := fun vs H Q => rReprI vs H Q ∨ rRepr1 K vs H Q
theorem cr_repr {X : Cx} (nd : NoDg X.K) (hg : X.A.guards = some []) (hu : X.A.units + 64 < cLine) : CallR X (.builtin "repr") (rRepr X.K) := fun pins s σ H xs us Q I rs h =>
  h.elim (cr_reprI nd hu pins s σ H xs us Q I rs) (cr_repr1 hg hu pins s σ H xs us Q I rs)
theorem c1_repr : C1 K (rRepr K) repr? := by
  intro fz H v x z hv e Q q
  unfold repr? at e
  split at e
  · split at e
    · rename_i h
      cases e
      rw [hv.int]
      exact .inl ⟨_, rfl, h, Alc.same (.str _) q⟩
    · cases e
  refine .inr ?_
  split at e
  · rename_i h
    simp only [reprOk, Bool.and_eq_true, Bool.not_eq_true', decide_eq_true_eq] at h
    obtain ⟨⟨⟨h1, h2⟩, h3⟩, h4⟩ := h
    cases e
    exact ⟨v, x, rfl, hv.dpn h2, h1, h2, h3, lenOk_iff.mp h4, Alc.same (.str _) q⟩
  · cases e
end

/-! ### the script -/
section
variable {c : Cw} {pp : List (Nat × Addr)} {pr fz : Addr → Prop} {σ : L2.St} {H : Hp} {ρ : Env}
def scrNs (i : Nat) (ρ : Env) : Option (List Int) := match ρ[i]? with
  | some (.scr ns) => some ns
  | _ => none
theorem scrNs_eq {i : Nat} {ns : List Int} (h : scrNs i ρ = some ns) : ρ[i]? = some (.scr ns) := by
  unfold scrNs at h
  split at h
  · rename_i e; cases h; exact e
  · cases h
def mlenS (i : Nat) : M PyData := fun ρ => match scrNs i ρ with
  | some ns => .ok (.int ns.length) ρ
  | none => .bad
theorem rf_lenS {i : Nat} : Rf c (RV c.K) (tCB (rLen c.K) (tCons (tVar i) tNil)) (mlenS i) := by
  intro pp pr fz σ H ρ Q hp R hq
  unfold mlenS at hq
  cases e : scrNs i ρ with
  | none => rw [e] at hq; exact hq.elim
  | some ns =>
    simp only [e] at hq
    obtain ⟨a, hs, hr⟩ := R.at_ i _ (scrNs_eq e)
    refine ⟨_, join_some.mp hs, .inl ⟨a, _, rfl, .inl hr.sq, ?_⟩⟩
    rw [List.length_map]
    exact ok_post hq R (.int _)
def mixS (i : Nat) (m : M PyData) : M PyData := fun ρ => match scrNs i ρ with
  | some ns => bnd m (fun k => lft ((asI? k).bind fun j => (atI ns j).map PyData.int)) ρ
  | none => .bad
theorem rf_ixS {i : Nat} {te : TE} {m : M PyData} (h : Rf c (RV c.K) te m) : Rf c (RV c.K) (tOp (rIx c.K) (tVar i) te) (mixS i m) := by
  intro pp pr fz σ H ρ Q hp R hq
  unfold mixS at hq
  cases e : scrNs i ρ with
  | none => rw [e] at hq; exact hq.elim
  | some ns =>
    simp only [e] at hq
    obtain ⟨a, hs, hr⟩ := R.at_ i _ (scrNs_eq e)
    refine ⟨_, join_some.mp hs, h pp pr fz σ H ρ _ hp R (hq.bnd fun w k fz1 H1 ρ1 F1 R1 r1 P1 => ?_)⟩
    obtain ⟨z, e1, P1⟩ := lftB_post P1
    cases k <;> first | (cases e1; done) | skip
    rename_i j
    cases r1
    simp only [asI?, Option.bind_some] at e1
    cases e2 : atI ns j with
    | none => rw [e2] at e1; cases e1
    | some n =>
      rw [e2] at e1
      cases e1
      refine .inl ⟨a, _, j, .int n, rfl, rfl, (hr.ext F1.ext).sq, ?_, ok_post P1 R1 (.int n)⟩
      unfold atI at e2 ⊢
      rw [List.length_map]
      cases e3 : ixN ns.length j with
      | none => rw [e3] at e2; cases e2
      | some k =>
        rw [e3] at e2
        simp only [Option.bind_some] at e2 ⊢
        rw [List.getElem?_map, e2]; rfl
end
end PL

/-! PL11: several targets at once; facts of built-in names. -/
namespace PL
open PySem PySem.Spec L2
open PyProof.Rows hiding St

inductive PArg where
  | v (m : M PyData) | o (m : M PyData)
def pev : List PArg → M (List Sl)
  | [] => fun ρ => .ok [] ρ
  | .v m :: as => bnd m fun d => bnd (pev as) fun ss ρ => .ok (.val d :: ss) ρ
  | .o m :: as => bnd m fun d => bnd (pev as) fun ss ρ => .ok (.own d :: ss) ρ
def SlsR (K : PySem.W.Frag) (pr : Addr → Prop) (σ : L2.St) (fz : Addr → Prop) (H : Hp) (ρ : Env) : List Sl → List V → Prop
  | [], [] => True
  | .val d :: ss, v :: vs => Rep K fz H v d ∧ SlsR K pr σ fz H ρ ss vs
  | .own d :: ss, v :: vs => (∃ a, v = .ref a ∧ ¬ fz a ∧ ¬ pr a ∧ (∀ (i : Nat) (x : PyData), ρ[i]? = some (.own x) → σ[i]? ≠ some (some (V.ref a))) ∧ OwnC K fz H a d ∧ (∀ (j : Nat) (x : PyData), ss[j]? = some (.own x) → vs[j]? ≠ some (V.ref a))) ∧ SlsR K pr σ fz H ρ ss vs
  | _, _ => False
def RSls (K : PySem.W.Frag) : RT (List Sl) (List V) := fun pr σ fz H ρ vs ss => SlsR K pr σ fz H ρ ss vs
def setsE : Env → List Nat → List Sl → Env
  | ρ, i :: is, s :: ss => setsE (ρ.set i s) is ss
  | ρ, _, _ => ρ
def setsV : L2.St → List Nat → List V → L2.St
  | σ, i :: is, v :: vs => setsV (σ.set i (some v)) is vs
  | σ, _, _ => σ
def mpar (as : List PArg) (is : List Nat) : SM := sbnd (pev as) fun ss r => if ss.length = is.length then .nx (setsE r is ss) else .bad
section
variable {c : Cw} {pp : List (Nat × Addr)} {pr fz : Addr → Prop} {σ : L2.St} {H : Hp} {ρ : Env}
theorem rf_pnil : Rf c (RSls c.K) tNil (pev []) := fun pp pr fz σ H ρ Q hp R hq => ok_post hq R (show SlsR c.K pr σ fz H ρ [] [] from trivial)
theorem rf_pv {te : TE} {tr : TA} {m : M PyData} {as : List PArg} (ha : Rf c (RV c.K) te m) (hr : Rf c (RSls c.K) tr (pev as)) : Rf c (RSls c.K) (tCons te tr) (pev (.v m :: as)) := by
  intro pp pr fz σ H ρ Q hp R hq
  refine ha pp pr fz σ H ρ _ hp R (PostG.bnd (f := fun d => bnd (pev as) fun ss ρ => .ok (.val d :: ss) ρ) hq fun v x fz1 H1 ρ1 F1 R1 r1 P1 => ?_)
  refine hr pp pr fz1 σ H1 ρ1 _ hp R1 (P1.bnd fun w y fz2 H2 ρ2 F2 R2 r2 P2 => ?_)
  exact ok_post P2 R2 (show SlsR c.K pr σ fz2 H2 ρ2 (.val x :: y) (v :: w) from ⟨Rep.ext F2.ext r1, r2⟩)
theorem SlsR.narrow {K : PySem.W.Frag} {pr' : Addr → Prop} (h : ∀ a, pr a → pr' a) : ∀ {ss : List Sl} {vs : List V}, SlsR K pr' σ fz H ρ ss vs → SlsR K pr σ fz H ρ ss vs ∧ ∀ a, pr' a → ∀ (j : Nat) (x : PyData), ss[j]? = some (.own x) → vs[j]? ≠ some (V.ref a)
  | [], [], _ => ⟨trivial, fun a _ j x e => by simp at e⟩
  | .val d :: ss, v :: vs, q => by
    obtain ⟨h1, h2⟩ := SlsR.narrow h q.2
    refine ⟨⟨q.1, h1⟩, fun a pa j x e => ?_⟩
    cases j with
    | zero => simp at e
    | succ j => exact h2 a pa j x (by simpa using e)
  | .own d :: ss, v :: vs, q => by
    obtain ⟨⟨b, rfl, nf, np, ns, oc, nd⟩, q2⟩ := q
    obtain ⟨h1, h2⟩ := SlsR.narrow h q2
    refine ⟨⟨⟨b, rfl, nf, fun z => np (h b z), ns, oc, nd⟩, h1⟩, fun a pa j x e => ?_⟩
    cases j with
    | zero =>
      simp only [List.getElem?_cons_zero, ne_eq, Option.some.injEq, V.ref.injEq]
      intro z
      exact np (z ▸ pa)
    | succ j => exact h2 a pa j x (by simpa using e)
  | .emp :: _, _, q => by cases ‹List V› <;> exact q.elim
  | .scr _ :: _, _, q => by cases ‹List V› <;> exact q.elim
  | [], _ :: _, q => q.elim
  | .val _ :: _, [], q => q.elim
  | .own _ :: _, [], q => q.elim
theorem rf_po {te : TE} {tr : TA} {m : M PyData} {as : List PArg} (ha : Rf c (RO c.K) te m) (hr : Rf c (RSls c.K) tr (pev as)) : Rf c (RSls c.K) (tCons te tr) (pev (.o m :: as)) := by
  intro pp pr fz σ H ρ Q hp R hq
  refine ha pp pr fz σ H ρ _ hp R (PostG.bnd (f := fun d => bnd (pev as) fun ss ρ => .ok (.own d :: ss) ρ) hq fun v x fz1 H1 ρ1 F1 R1 r1 P1 => ?_)
  obtain ⟨a, rfl, nf, np, ns, oc⟩ := r1
  have R1w := R1.wide oc.some ns
  refine hr pp _ fz1 σ H1 ρ1 _ hp R1w ?_
  unfold PL.bnd at P1
  cases e : pev as ρ1 with
  | bad => rw [e] at P1; exact P1.elim
  | exc y r => rw [e] at P1; exact fun cls dx fz' H' F' R' q => P1 cls dx fz' H' (F'.narrow fun a z => .inl z) (R'.narrow fun a z => .inl z) q
  | ok ss ρ2 =>
    rw [e] at P1
    intro vs fz2 H2 F2 R2 r2
    obtain ⟨r3, r4⟩ := SlsR.narrow (pr := pr) (fun a z => Or.inl z) (show SlsR c.K (fun b => pr b ∨ b = a) σ fz2 H2 ρ2 ss vs from r2)
    refine P1 (.ref a :: vs) fz2 H2 (F2.narrow fun a z => .inl z) (R2.narrow fun a z => .inl z) (show SlsR c.K pr σ fz2 H2 ρ2 (.own x :: ss) (.ref a :: vs) from ⟨⟨a, rfl, fun z => nf (F2.new a (.inr rfl) z), np, fun i y ei si => ?_, oc.ext F2.ext (F2.keepP a (.inr rfl)), fun j y ej => r4 a (.inr rfl) j y ej⟩, r3⟩)
    obtain ⟨b, sb, _, npb, _⟩ := R2.own_ne ei
    rw [si] at sb
    cases sb
    exact npb (.inr rfl)
theorem Rel.sets : ∀ {is : List Nat} {ss : List Sl} {vs : List V} {σ : L2.St} {ρ : Env}, Rel c.K pp pr fz σ H ρ → SlsR c.K pr σ fz H ρ ss vs → (∀ i ∈ is, i ∉ pp.map (·.1)) → Rel c.K pp pr fz (setsV σ is vs) H (setsE ρ is ss)
  | [], ss, vs, σ, ρ, R, _, _ => by cases ss <;> cases vs <;> exact R
  | i :: is, [], [], σ, ρ, R, _, _ => R
  | i :: is, .val d :: ss, v :: vs, σ, ρ, R, h, hi => by
    have R2 := R.setV h.1 (hi i List.mem_cons_self)
    show Rel c.K pp pr fz (setsV (σ.set i (some v)) is vs) H (setsE (ρ.set i (.val d)) is ss)
    refine Rel.sets (is := is) (vs := vs) (ss := ss) R2 ?_ fun j hj => hi j (List.mem_cons_of_mem _ hj)
    have key : ∀ {ss : List Sl} {vs : List V}, SlsR c.K pr σ fz H ρ ss vs → SlsR c.K pr (σ.set i (some v)) fz H (ρ.set i (.val d)) ss vs := by
      intro ss
      induction ss with
      | nil => intro vs h; cases vs <;> exact h
      | cons s ss ih =>
        intro vs h
        cases vs with
        | nil => cases s <;> exact h.elim
        | cons w vs =>
          cases s with
          | emp => exact h.elim
          | scr _ => exact h.elim
          | val x => exact ⟨h.1, ih h.2⟩
          | own x =>
            obtain ⟨⟨b, rfl, nf, np, ns, oc, nd⟩, h2⟩ := h
            refine ⟨⟨b, rfl, nf, np, fun j y ej sj => ?_, oc, nd⟩, ih h2⟩
            by_cases e : j = i
            · subst e
              rw [List.getElem?_set] at ej
              simp at ej
            · rw [List.getElem?_set_ne (Ne.symm e)] at ej sj
              exact ns j y ej sj
    exact key h.2
  | i :: is, .own d :: ss, v :: vs, σ, ρ, R, h, hi => by
    obtain ⟨⟨a, rfl, nf, np, ns, oc, nd⟩, h2⟩ := h
    have R2 := R.setO nf np oc ns (hi i List.mem_cons_self)
    show Rel c.K pp pr fz (setsV (σ.set i (some (V.ref a))) is vs) H (setsE (ρ.set i (.own d)) is ss)
    refine Rel.sets (is := is) (vs := vs) (ss := ss) R2 ?_ fun j hj => hi j (List.mem_cons_of_mem _ hj)
    have key : ∀ {ss : List Sl} {vs : List V}, (∀ (j : Nat) (x : PyData), ss[j]? = some (.own x) → vs[j]? ≠ some (V.ref a)) → SlsR c.K pr σ fz H ρ ss vs → SlsR c.K pr (σ.set i (some (V.ref a))) fz H (ρ.set i (.own d)) ss vs := by
      intro ss
      induction ss with
      | nil => intro vs _ h; cases vs <;> exact h
      | cons s ss ih =>
        intro vs nd h
        cases vs with
        | nil => cases s <;> exact h.elim
        | cons w vs =>
          have nd' : ∀ (j : Nat) (x : PyData), ss[j]? = some (.own x) → vs[j]? ≠ some (V.ref a) := fun j x e => by
            have := nd (j + 1) x (by simpa using e)
            simpa using this
          cases s with
          | emp => exact h.elim
          | scr _ => exact h.elim
          | val x => exact ⟨h.1, ih nd' h.2⟩
          | own x =>
            obtain ⟨⟨b, rfl, nf, np, ns, oc, nd2⟩, h2⟩ := h
            refine ⟨⟨b, rfl, nf, np, fun j y ej sj => ?_, oc, nd2⟩, ih nd' h2⟩
            by_cases e : j = i
            · subst e
              rw [List.getElem?_set] at sj
              simp only [if_true] at sj
              split at sj
              · have hab : a = b := by simpa using sj
                exact nd 0 x rfl (by simp [hab])
              · cases sj
            · rw [List.getElem?_set_ne (Ne.symm e)] at ej sj
              exact ns j y ej sj
    exact key nd h2
  | _ :: _, .emp :: _, _, _, _, _, h, _ => by cases ‹List V› <;> exact h.elim
  | _ :: _, .scr _ :: _, _, _, _, _, h, _ => by cases ‹List V› <;> exact h.elim
  | _ :: _, [], _ :: _, _, _, _, h, _ => h.elim
  | _ :: _, .val _ :: _, [], _, _, _, h, _ => h.elim
  | _ :: _, .own _ :: _, [], _, _, _, h, _ => h.elim
theorem SlsR.len {K : PySem.W.Frag} : ∀ {ss : List Sl} {vs : List V}, SlsR K pr σ fz H ρ ss vs → vs.length = ss.length
  | [], [], _ => rfl
  | .val d :: ss, v :: vs, h => by simp [SlsR.len h.2]
  | .own d :: ss, v :: vs, h => by simp [SlsR.len h.2]
  | .emp :: _, _, q => by cases ‹List V› <;> exact q.elim
  | .scr _ :: _, _, q => by cases ‹List V› <;> exact q.elim
  | [], _ :: _, q => q.elim
  | .val _ :: _, [], q => q.elim
  | .own _ :: _, [], q => q.elim
theorem SlsR.alc {K : PySem.W.Frag} {H2 : Hp} (E : Ext fz H fz H2) (k : ∀ a, H a ≠ none → H2 a = H a) : ∀ {ss : List Sl} {vs : List V}, SlsR K pr σ fz H ρ ss vs → SlsR K pr σ fz H2 ρ ss vs
  | [], [], _ => trivial
  | .val d :: ss, v :: vs, h => ⟨Rep.ext E h.1, SlsR.alc E k h.2⟩
  | .own d :: ss, v :: vs, h => by
    obtain ⟨⟨b, e, nf, np, ns, oc, nd⟩, h2⟩ := h
    exact ⟨⟨b, e, nf, np, ns, oc.ext E (k b oc.some), nd⟩, SlsR.alc E k h2⟩
  | .emp :: _, _, q => by cases ‹List V› <;> exact q.elim
  | .scr _ :: _, _, q => by cases ‹List V› <;> exact q.elim
  | [], _ :: _, q => q.elim
  | .val _ :: _, [], q => q.elim
  | .own _ :: _, [], q => q.elim
variable {ta : TA} {as : List PArg}
theorem rs_par {i j : Nat} (h : Rf c (RSls c.K) ta (pev as)) (hi : ∀ n ∈ [i, j], n ∉ c.ps) : RfS c (tPar i j ta) (mpar as [i, j]) := by
  intro pp pr fz σ H ρ D hp R hq
  refine h pp pr fz σ H ρ _ hp R (hq.bnd fun vs ss fz1 H1 ρ1 F1 R1 r1 P1 => ?_)
  split at P1
  · rename_i hl
    have r1 : SlsR c.K pr σ fz1 H1 ρ1 ss vs := r1
    have ln := r1.len
    have R2 := Rel.sets (is := [i, j]) R1 r1 (fun n hn => by rw [hp]; exact hi n hn)
    have l2 : vs.length = 2 := ln.trans hl
    obtain ⟨v, w, rfl⟩ : ∃ v w, vs = [v, w] := by
      match vs, l2 with
      | [v, w], _ => exact ⟨v, w, rfl⟩
    exact ⟨v, w, rfl, P1 _ fz1 H1 Fr.refl R2⟩
  · exact P1.elim
theorem rs_par3 {i j l : Nat} (h : Rf c (RSls c.K) ta (pev as)) (hi : ∀ n ∈ [i, j, l], n ∉ c.ps) : RfS c (tPar3 i j l ta) (mpar as [i, j, l]) := by
  intro pp pr fz σ H ρ D hp R hq
  refine h pp pr fz σ H ρ _ hp R (hq.bnd fun vs ss fz1 H1 ρ1 F1 R1 r1 P1 => ?_)
  split at P1
  · rename_i hl
    have r1 : SlsR c.K pr σ fz1 H1 ρ1 ss vs := r1
    have ln := r1.len
    have R2 := Rel.sets (is := [i, j, l]) R1 r1 (fun n hn => by rw [hp]; exact hi n hn)
    have l2 : vs.length = 3 := ln.trans hl
    obtain ⟨u, v, w, rfl⟩ : ∃ u v w, vs = [u, v, w] := by
      match vs, l2 with
      | [u, v, w], _ => exact ⟨u, v, w, rfl⟩
    exact ⟨u, v, w, rfl, P1 _ fz1 H1 Fr.refl R2⟩
  · exact P1.elim
/-- targets that are names, as a tuple's -/
def gNames : List Nat → TGs
  | [] => gNil
  | i :: is => gCons (gName i) (gNames is)
theorem gNames_run : ∀ {is : List Nat} {vs : List V} {σ : L2.St} {H : Hp} {Q : L2.St → Hp → Prop}, vs.length = is.length → Q (setsV σ is vs) H → gNames is vs σ H Q
  | [], [], σ, H, Q, _, q => ⟨rfl, q⟩
  | i :: is, v :: vs, σ, H, Q, hl, q => ⟨v, vs, rfl, gNames_run (by simpa using hl) q⟩
  | [], _ :: _, _, _, _, hl, _ => by simp at hl
  | _ :: _, [], _, _, _, hl, _ => by simp at hl
theorem rs_parN {is : List Nat} {n : Nat} (h : Rf c (RSls c.K) ta (pev as)) (hi : ∀ i ∈ is, i ∉ c.ps) (hn : is.length = n) (hz : lenOk n = true) : RfS c (tAsg (tTup ta) (gTup c.K n (gNames is))) (mpar as is) := by
  intro pp pr fz σ H ρ D hp R hq
  refine h pp pr fz σ H ρ _ hp R (hq.bnd fun vs ss fz1 H1 ρ1 F1 R1 r1 P1 => ?_)
  split at P1
  · rename_i hl
    have r1 : SlsR c.K pr σ fz1 H1 ρ1 ss vs := r1
    have ln := r1.len
    refine ⟨by rw [ln, hl, hn]; exact lenOk_iff.mp hz, fun p hpn => ?_⟩
    have A : Alc fz1 H1 fz1 (upd H1 p (.tup vs)) := Alc.own hpn
    have R2 := A.rel R1
    have r2 : SlsR c.K pr σ fz1 (upd H1 p (.tup vs)) ρ1 ss vs := r1.alc (A.ext R1.fzH) A.keep
    refine ⟨p, vs, rfl, SqT.of upd_same, by rw [ln, hl, hn], gNames_run (by rw [ln, hl]) ?_⟩
    exact P1 _ fz1 _ (A.fr R1) (Rel.sets R2 r2 fun i hi' => by rw [hp]; exact hi i hi')
  · exact P1.elim
end

/-! ### names of built-ins -/
theorem bt_len : bootBuiltins "len" = some (.builtin "len") := by decide +kernel
theorem bt_abs : bootBuiltins "abs" = some (.builtin "abs") := by decide +kernel
theorem bt_max : bootBuiltins "max" = some (.builtin "max") := by decide +kernel
theorem bt_min : bootBuiltins "min" = some (.builtin "min") := by decide +kernel
theorem bt_sum : bootBuiltins "sum" = some (.builtin "sum") := by decide +kernel
theorem bt_any : bootBuiltins "any" = some (.builtin "any") := by decide +kernel
theorem bt_all : bootBuiltins "all" = some (.builtin "all") := by decide +kernel
theorem bt_sorted : bootBuiltins "sorted" = some (.builtin "sorted") := by decide +kernel
theorem bt_repr : bootBuiltins "repr" = some (.builtin "repr") := by decide +kernel
theorem bt_isinstance : bootBuiltins "isinstance" = some (.builtin "isinstance") := by decide +kernel
theorem bt_int : bootBuiltins "int" = some (.type "int") := by decide +kernel
theorem bt_str : bootBuiltins "str" = some (.type "str") := by decide +kernel
theorem bt_list : bootBuiltins "list" = some (.type "list") := by decide +kernel
theorem bt_tuple : bootBuiltins "tuple" = some (.type "tuple") := by decide +kernel
theorem bt_dict : bootBuiltins "dict" = some (.type "dict") := by decide +kernel
theorem bt_set : bootBuiltins "set" = some (.type "set") := by decide +kernel
/-- a slot that no caller has lent -/
theorem nps {K : PySem.W.Frag} {RX : RXT} {ks : List PKd} {E : XK} {i : Nat} (h : decide (i ∈ ownIx 0 ks) = false) : i ∉ (cwOf K RX ks E).ps := of_decide_eq_false h
theorem nps0 {K : PySem.W.Frag} {RX : RXT} {ks : List PKd} {E : XK} {i : Nat} (h : decide (i ∈ ownIx 0 ks) = false) : i ∉ (cwOf K RX ks E).calm0.ps := of_decide_eq_false h
theorem npsL {K : PySem.W.Frag} {RX : RXT} {ks : List PKd} {E : XK} {is : List Nat} (h : is.all (fun i => !decide (i ∈ ownIx 0 ks)) = true) : ∀ i ∈ is, i ∉ (cwOf K RX ks E).ps := fun i hi => by
  have := List.all_eq_true.mp h i hi
  show i ∉ ownIx 0 ks
  simpa using this
end PL

/-! PLall: a temporary object handed on, in-place operators, is of bools, the end of a law. -/
namespace PL
open PySem PySem.Spec L2
open PyProof.Rows hiding St

theorem hu65 {k : Nat} {A : Around} (r : Room k A) : A.units + 65 < cLine := by have := r.un; omega
theorem npsL0 {K : PySem.W.Frag} {RX : RXT} {ks : List PKd} {E : XK} {is : List Nat} (h : is.all (fun i => !decide (i ∈ ownIx 0 ks)) = true) : ∀ i ∈ is, i ∉ (cwOf K RX ks E).calm0.ps := npsL (E := E) (K := K) (RX := RX) h
def addI? : PyData → PyData → Option PyData
  | .int i, .int j => some (.int (i + j))
  | _, _ => none
def mulI? : PyData → PyData → Option PyData
  | .int i, .int j => if mulOk i j = true then some (.int (i * j)) else none
  | _, _ => none
theorem of_addI {K : PySem.W.Frag} : OpF K (ipI fun i j => i + j) addI? := by
  intro fz H v w x y z hv hw e Q q
  unfold addI? at e
  split at e
  · cases e; rw [hv.int, hw.int]; exact ⟨_, _, rfl, rfl, Alc.same (.int _) q⟩
  · cases e
theorem of_subI {K : PySem.W.Frag} : OpF K (ipI fun i j => i - j) sub? := by
  intro fz H v w x y z hv hw e Q q
  unfold sub? at e
  split at e
  · cases e; rw [hv.int, hw.int]; exact ⟨_, _, rfl, rfl, Alc.same (.int _) q⟩
  · cases e
def rMulI : R2 := rI (fun i j => mulOk i j = true) fun i j => .int (i * j)
theorem ip_mulI {X : Cx} : PIp X .Mult rMulI := opI (f := inplaceOp .Mult) fun _ _ _ _ _ _ _ hc q => imul_int q (mulOk_ok hc)
theorem of_mulI {K : PySem.W.Frag} : OpF K rMulI mulI? := by
  intro fz H v w x y z hv hw e Q q
  unfold mulI? at e
  split at e
  · split at e
    · rename_i h
      cases e; rw [hv.int, hw.int]; exact ⟨_, _, rfl, rfl, h, Alc.same (.int _) q⟩
    · cases e
  · cases e
def isB? : PyData → PyData → Option PyData
  | .bool a, .bool b => some (.bool (decide (a = b)))
  | _, _ => none
def isNB? : PyData → PyData → Option PyData
  | .bool a, .bool b => some (.bool (!decide (a = b)))
  | _, _ => none
theorem of_isB {K : PySem.W.Frag} : OpF K rIsB isB? := by
  intro fz H v w x y z hv hw e Q q
  unfold isB? at e
  split at e
  · cases e; rw [hv.bl, hw.bl]; exact ⟨_, _, rfl, rfl, Alc.same (.bl _) q⟩
  · cases e
theorem of_isNB {K : PySem.W.Frag} : OpF K rNotB isNB? := by
  intro fz H v w x y z hv hw e Q q
  unfold isNB? at e
  split at e
  · cases e; rw [hv.bl, hw.bl]; exact ⟨_, _, rfl, rfl, Alc.same (.bl _) q⟩
  · cases e

/-! ### a call whose first argument is a new object, given away -/
def mcallT (f : List PyData → FOut) (m : M PyData) (as : List CArg) : M Rt := bnd m fun x ρ => match evA as ρ with
  | .ok xs ρ1 => if (lendOk as ρ1 && scrOk as ρ1) = true then (match f (x :: fillA ρ1 as xs) with
      | .ok r outs => .ok r (wbA as outs.tail ρ1)
      | .exc e outs => .exc e (wbA as outs.tail ρ1)
      | .bad => .bad) else .bad
  | .exc e r => .exc e r
  | .bad => .bad
section
variable {c : Cw}
theorem rf_callT {as : List CArg} {f : List PyData → FOut} {te : TE} {m : M PyData} {ta : TA} {ks : List PKd} (hks : .o :: as.map CArg.kd = ks) (hm : Rf c (RO c.K) te m) (ha : Rf c (RArgs c.K as) ta (evA as)) :
    Rf c (RRt c.K) (tCallSD (spF c.K c.RX ks f) [] (fun σ => WE c.W σ) (tCons te ta)) (mcallT f m as) := by
  subst hks
  intro pp pr fz0 σ H0 ρ0 Q hp R0 hq0
  refine hm pp pr fz0 σ H0 ρ0 _ hp R0 (hq0.bnd fun v0 x0 fz H ρ F0 R r0 hq => ?_)
  obtain ⟨a0, rfl, nf0, np0, ns0, oc0⟩ := r0
  refine ha pp (fun b => pr b ∨ b = a0) fz σ H ρ _ hp (R.wide oc0.some ns0) ?_
  cases e : evA as ρ with
  | bad => rw [e] at hq; exact hq.elim
  | exc x r => rw [e] at hq; exact fun cls dx fz' H' F' R' q => hq cls dx fz' H' (F'.narrow fun a z => .inl z) (R'.narrow fun a z => .inl z) q
  | ok xs ρ1 =>
    rw [e] at hq
    intro vs fz1 H1 F1w R1w r1
    have F1 : Fr pr fz H fz1 H1 := F1w.narrow fun a z => .inl z
    have R1 : Rel c.K pp pr fz1 σ H1 ρ1 := R1w.narrow fun a z => .inl z
    have nf1 : ¬ fz1 a0 := fun z => nf0 (F1w.new a0 (.inr rfl) z)
    have oc1 : OwnC c.K fz1 H1 a0 x0 := oc0.ext F1.ext (F1w.keepP a0 (.inr rfl))
    have ns1 : ∀ (i : Nat) (x : PyData), ρ1[i]? = some (.own x) → σ[i]? ≠ some (some (V.ref a0)) := fun i x ei si => by
      obtain ⟨b, sb, _, npb, _⟩ := R1w.own_ne ei
      rw [si] at sb
      cases sb
      exact npb (.inr rfl)
    have r1 : ArgsV c.K σ fz1 H1 as vs xs := r1
    have hq := PostG.rest F1 hq
    simp only at hq
    split at hq
    · rename_i hok
      simp only [lendOk, Bool.and_eq_true, decide_eq_true_eq, List.all_eq_true] at hok
      obtain ⟨⟨hn, hl⟩, hs⟩ := hok
      show spF c.K c.RX (.o :: as.map CArg.kd) f ((V.ref a0 :: vs) ++ []) H1 Q (WE c.W σ)
      rw [List.append_nil]
      have n0 : ¬ prC pr σ ρ1 as a0 := by
        rintro (z | ⟨i, x, ei, si, _⟩)
        · exact np0 z
        · exact ns1 i x ei si
      refine ⟨prC pr σ ρ1 as, fz1, x0 :: fillA ρ1 as xs, ⟨⟨a0, rfl, nf1, n0, oc1⟩, argsR_of R1 _ r1 hl (fun i hi a sa z => ?_) hs⟩, ?_, R1.fzH, fun a z => ?_, ?_⟩
      · obtain ⟨y, ey⟩ := isOwn_eq (hl i hi)
        obtain ⟨b, sb, _, np, _⟩ := R1.own_ne ey
        rw [sa] at sb
        cases sb
        rcases z with z | ⟨j, x, ej, sj, hj⟩
        · exact np z
        · exact hj (R1.sep j i a x y ej ey sj sa ▸ hi)
      · show (a0 :: ownAd (as.map CArg.kd) vs).Nodup
        refine List.nodup_cons.mpr ⟨fun z => ?_, lendNd R1 r1 hn hl⟩
        obtain ⟨i, hi, si⟩ := (lendAd r1).mp z
        obtain ⟨y, ey⟩ := isOwn_eq (hl i hi)
        exact ns1 i y ey si
      · rcases z with z | ⟨j, x, ej, sj, hj⟩
        · exact R1.prH a z
        · obtain ⟨b, sb, _, _, oc⟩ := R1.own_ne ej
          rw [sj] at sb
          cases sb
          exact oc.some
      · have tl : ∀ {fz2 : Addr → Prop} {H2 : Hp} {outs : List PyData}, OutsR c.K fz2 H2 (.o :: as.map CArg.kd) (.ref a0 :: vs) outs → OutsR c.K fz2 H2 (as.map CArg.kd) vs outs.tail := fun {fz2 H2 outs} ho => by
          cases outs with
          | nil => exact ho.elim
          | cons o outs => exact ho.2.2
        cases ef : f (x0 :: fillA ρ1 as xs) with
        | bad => rw [ef] at hq; exact hq.elim
        | ok r outs =>
          rw [ef] at hq
          intro v fz2 H2 F2 hf2 ho hr
          obtain ⟨F3, R3⟩ := R1.back r1 hn hl F2 hf2 (tl ho)
          refine hq v fz2 H2 F3 R3 ?_
          cases r with
          | v d => exact hr
          | o d =>
            obtain ⟨a, rfl, nf, np, na, oc⟩ := hr
            refine ⟨a, rfl, nf, fun z => np (.inl z), fun i x ei si => ?_, oc⟩
            by_cases hi : i ∈ lendIx as
            · exact na (List.mem_cons_of_mem _ ((lendAd r1).mpr ⟨i, hi, si⟩))
            · rw [wbA_out hi] at ei
              exact np (.inr ⟨i, x, ei, si, hi⟩)
        | exc x outs =>
          rw [ef] at hq
          intro cls dx fz2 H2 F2 hf2 ho hr
          obtain ⟨F3, R3⟩ := R1.back r1 hn hl F2 hf2 (tl ho)
          exact hq cls dx fz2 H2 F3 R3 hr
    · exact hq.elim
end
/-- from the pure law to the promise at the top -/
theorem law_end {K : PySem.W.Frag} {RX : RXT} {f : List PyData → FOut} {ns : List Int} {H : Hp} {a : Addr} (h : f [.list (ns.map PyData.int)] = .ok (.v (.bool true)) []) (hS : SqL K H a (ns.map V.int)) :
    spF K RX [.s] f [.ref a] H (fun v _ => v = .bl true) fun _ _ _ => False := by
  refine ⟨fun _ => False, fun b => H b ≠ none, [.list (ns.map PyData.int)], ⟨⟨a, ns, rfl, ?_, rfl⟩, trivial⟩, List.nodup_nil, fun _ z => z, fun _ z => z.elim, ?_⟩
  · rcases hS with (q | ⟨o, q⟩) | q
    · exact .inl ⟨(show H a ≠ none by rw [q]; simp), .inl q⟩
    · exact .inl ⟨(show H a ≠ none by rw [q]; simp), .inr ⟨o, q⟩⟩
    · exact .inr q
  · rw [h]
    intro v fz' H' _ _ _ hr
    cases hr
    rfl
end PL

/-! PLM: weakest preconditions for the pure functions. -/
namespace PL
open PySem PySem.Spec L2

structure PS where
  nx : Env → Prop
  rt : Rt → Env → Prop
  bk : Env → Prop
  ct : Env → Prop
  ex : PExc → Env → Prop
abbrev XP := PExc → Env → Prop
def nox : XP := fun _ _ => False
def Tr {α : Type} (m : M α) (ρ : Env) (Q : α → Env → Prop) (X : XP) : Prop := match m ρ with
  | .ok a r => Q a r
  | .exc e r => X e r
  | .bad => False
def TrO {α : Type} (o : Out α) (Q : α → Env → Prop) (X : XP) : Prop := match o with
  | .ok a r => Q a r
  | .exc e r => X e r
  | .bad => False
def TsO (o : SOut) (P : PS) : Prop := match o with
  | .nx r => P.nx r
  | .rt v r => P.rt v r
  | .bk r => P.bk r
  | .ct r => P.ct r
  | .exc e r => P.ex e r
  | .bad => False
def Ts (m : SM) (ρ : Env) (P : PS) : Prop := TsO (m ρ) P
def TrF (o : FOut) (Q : Rt → List PyData → Prop) (X : PExc → List PyData → Prop) : Prop := match o with
  | .ok r o => Q r o
  | .exc e o => X e o
  | .bad => False
def noxF : PExc → List PyData → Prop := fun _ _ => False

section
variable {α β : Type} {ρ : Env} {X : XP} {P : PS}
theorem tr_bnd {m : M α} {f : α → M β} {Q : β → Env → Prop} : Tr (bnd m f) ρ Q X = Tr m ρ (fun a r => Tr (f a) r Q X) X := by
  unfold Tr bnd; cases m ρ <;> rfl
theorem tr_lft {o : Option α} {Q : α → Env → Prop} : Tr (lft o) ρ Q X = ∃ a, o = some a ∧ Q a ρ := by
  unfold Tr lft; cases o <;> simp
theorem tr_ok {a : α} {Q : α → Env → Prop} : Tr (fun ρ => .ok a ρ) ρ Q X = Q a ρ := rfl
theorem tr_con {d : PyData} {Q : PyData → Env → Prop} : Tr (mcon d) ρ Q X = Q d ρ := rfl
def at? (ρ : Env) (i : Nat) : Sl := ρ[i]?.getD .emp
theorem at_0 {s : Sl} {r : Env} : at? (s :: r) 0 = s := rfl
theorem at_1 {s : Sl} {r : Env} {i : Nat} : at? (s :: r) (i + 1) = at? r i := rfl
def getV (s : Sl) : Option PyData := match s with
  | .val d => some d
  | .own d => some d
  | _ => none
theorem getV_v {d : PyData} : getV (.val d) = some d := rfl
theorem getV_o {d : PyData} : getV (.own d) = some d := rfl
theorem peek_at {i : Nat} {ρ : Env} : peek i ρ = getV (at? ρ i) := by
  unfold peek getV at?
  cases ρ[i]? with
  | none => rfl
  | some s => cases s <;> rfl
def fzS (s : Sl) : Sl := match s with
  | .own d => .val d
  | s => s
theorem fzS_v {d : PyData} : fzS (.val d) = .val d := rfl
theorem fzS_o {d : PyData} : fzS (.own d) = .val d := rfl
theorem tr_var {i : Nat} {d : PyData} {Q : PyData → Env → Prop} (h : at? ρ i = .val d) : Tr (mvar i) ρ Q X = Q d ρ := by
  unfold Tr mvar
  unfold at? at h
  cases e : ρ[i]? with
  | none => rw [e] at h; cases h
  | some s => rw [e] at h; cases h; rfl
theorem tr_varO {i : Nat} {d : PyData} {Q : PyData → Env → Prop} (h : at? ρ i = .own d) : Tr (mvar i) ρ Q X = Q d (ρ.set i (.val d)) := by
  unfold Tr mvar
  unfold at? at h
  cases e : ρ[i]? with
  | none => rw [e] at h; cases h
  | some s => rw [e] at h; cases h; rfl
theorem tr_pk {i : Nat} {o : Out α} {k : PyData → Out α} {Q : α → Env → Prop} (h0 : peek i ρ = none → o = .bad) (h1 : ∀ x, peek i ρ = some x → o = k x) : TrO o Q X = ∃ x, getV (at? ρ i) = some x ∧ TrO (k x) Q X := by
  rw [peek_at] at h0
  simp only [peek_at] at h1
  cases e : getV (at? ρ i) with
  | none => rw [h0 e]; simp [TrO]
  | some x => rw [h1 x e]; simp
theorem tro_lft {o : Option α} {r : Env} {Q : α → Env → Prop} : TrO (lft o r) Q X = ∃ a, o = some a ∧ Q a r := by
  unfold TrO lft; cases o <;> simp
theorem tro {m : M α} {Q : α → Env → Prop} : Tr m ρ Q X = TrO (m ρ) Q X := rfl
theorem tr_op2 {f : PyData → PyData → Option PyData} {a b : M PyData} {Q : PyData → Env → Prop} :
    Tr (op2 f a b) ρ Q X = Tr a ρ (fun x r => Tr b r (fun y r' => ∃ z, f x y = some z ∧ Q z r') X) X := by
  unfold op2; simp only [tr_bnd, tr_lft]
theorem tr_op2l {f : PyData → PyData → Option PyData} {i : Nat} {b : M PyData} {Q : PyData → Env → Prop} {d : PyData} (h : getV (at? ρ i) = some d) :
    Tr (op2l f i b) ρ Q X = Tr b ρ (fun y r' => ∃ x, getV (at? r' i) = some x ∧ ∃ z, f x y = some z ∧ Q z r') X := by
  have e : op2l f i b ρ = bnd b (fun y ρ' => match peek i ρ' with
    | none => .bad
    | some x => lft (f x y) ρ') ρ := by
    rw [← peek_at] at h
    unfold op2l
    rw [h] <;> rfl
  rw [tro, e, ← tro, tr_bnd]
  congr 1; funext y r
  rw [tro, tr_pk (i := i) (k := fun x => lft (f x y) r) (fun e => by rw [e]) (fun x e => by rw [e])]
  simp only [tro_lft]
theorem tr_op2r {f : PyData → PyData → Option PyData} {a : M PyData} {j : Nat} {Q : PyData → Env → Prop} :
    Tr (op2r f a j) ρ Q X = Tr a ρ (fun x r' => ∃ y, getV (at? r' j) = some y ∧ ∃ z, f x y = some z ∧ Q z r') X := by
  unfold op2r
  rw [tr_bnd]
  congr 1; funext x r
  rw [tro, tr_pk (i := j) (k := fun y => lft (f x y) r) (fun e => by rw [e]) (fun x e => by rw [e])]
  simp only [tro_lft]
theorem tr_op2b {f : PyData → PyData → Option PyData} {i j : Nat} {Q : PyData → Env → Prop} :
    Tr (op2b f i j) ρ Q X = ∃ x, getV (at? ρ i) = some x ∧ ∃ y, getV (at? ρ j) = some y ∧ ∃ z, f x y = some z ∧ Q z ρ := by
  rw [tro, tr_pk (i := i) (k := fun x => match peek j ρ with
    | some y => lft (f x y) ρ
    | none => .bad) (fun e => by unfold op2b; rw [e]) (fun x e => by unfold op2b; rw [e]; cases peek j ρ <;> rfl)]
  congr 1; funext x
  rw [tr_pk (i := j) (k := fun y => lft (f x y) ρ) (fun e => by rw [e]) (fun x e => by rw [e])]
  simp only [tro_lft]
theorem tr_asB {m : M PyData} {Q : Bool → Env → Prop} : Tr (asB m) ρ Q X = Tr m ρ (fun d r => ∃ b, asB? d = some b ∧ Q b r) X := by
  unfold asB; simp only [tr_bnd, tr_lft]
theorem tr_trB {m : M PyData} {Q : Bool → Env → Prop} : Tr (trB m) ρ Q X = Tr m ρ (fun d r => ∃ b, truth? d = some b ∧ Q b r) X := by
  unfold trB; simp only [tr_bnd, tr_lft]
theorem tr_trBp {i : Nat} {Q : Bool → Env → Prop} : Tr (trBp i) ρ Q X = ∃ d, getV (at? ρ i) = some d ∧ ∃ b, truth? d = some b ∧ Q b ρ := by
  rw [tro, tr_pk (i := i) (k := fun x => lft (truth? x) ρ) (fun e => by unfold trBp; rw [e]) (fun x e => by unfold trBp; rw [e])]
  simp only [tro_lft]
theorem tr_ite {c : Prop} [Decidable c] {a b : M α} {Q : α → Env → Prop} : Tr (if c then a else b) ρ Q X = if c then Tr a ρ Q X else Tr b ρ Q X := by split <;> rfl
theorem tr_and {a b : M Bool} {Q : Bool → Env → Prop} : Tr (mand a b) ρ Q X = Tr a ρ (fun k r => if k = true then Tr b r Q X else Q false r) X := by
  unfold mand; simp only [tr_bnd, tr_ite, tr_ok]
theorem tr_or {a b : M Bool} {Q : Bool → Env → Prop} : Tr (mor a b) ρ Q X = Tr a ρ (fun k r => if k = true then Q true r else Tr b r Q X) X := by
  unfold mor; simp only [tr_bnd, tr_ite, tr_ok]
theorem tr_not {a : M Bool} {Q : Bool → Env → Prop} : Tr (mnot a) ρ Q X = Tr a ρ (fun k r => Q (!k) r) X := by
  unfold mnot; simp only [tr_bnd]; rfl
theorem tr_if {t : M Bool} {a b : M α} {Q : α → Env → Prop} : Tr (mif t a b) ρ Q X = Tr t ρ (fun k r => if k = true then Tr a r Q X else Tr b r Q X) X := by
  unfold mif; simp only [tr_bnd, tr_ite]
theorem tr_andV {a b : M PyData} {Q : PyData → Env → Prop} : Tr (mandV a b) ρ Q X = Tr a ρ (fun d r => ∃ k, asB? d = some k ∧ if k = true then Tr b r Q X else Q (.bool false) r) X := by
  unfold mandV; simp only [tr_bnd, tr_ite, tr_ok, tr_asB]
theorem tr_orV {a b : M PyData} {Q : PyData → Env → Prop} : Tr (morV a b) ρ Q X = Tr a ρ (fun d r => ∃ k, asB? d = some k ∧ if k = true then Q (.bool true) r else Tr b r Q X) X := by
  unfold morV; simp only [tr_bnd, tr_ite, tr_ok, tr_asB]
theorem tr_notV {a : M PyData} {Q : PyData → Env → Prop} : Tr (mnotV a) ρ Q X = Tr a ρ (fun d r => ∃ k, asB? d = some k ∧ Q (.bool (!k)) r) X := by
  unfold mnotV; simp only [tr_bnd, tr_asB]; rfl
theorem tr_neg {m : M PyData} {Q : PyData → Env → Prop} : Tr (mneg m) ρ Q X = Tr m ρ (fun d r => ∃ z, neg? d = some z ∧ Q z r) X := by
  unfold mneg; simp only [tr_bnd, tr_lft]
theorem tr_chain {f g : PyData → PyData → Option PyData} {a b d : M PyData} {Q : PyData → Env → Prop} :
    Tr (mchain f g a b d) ρ Q X = Tr a ρ (fun x r => Tr b r (fun y r => ∃ z, f x y = some z ∧ ∃ k, asB? z = some k ∧ if k = true then Tr d r (fun w r => ∃ z, g y w = some z ∧ Q z r) X else Q (.bool false) r) X) X := by
  unfold mchain; simp only [tr_bnd, tr_lft, tr_ite, tr_ok]
theorem tr_nil {Q : List PyData → Env → Prop} : Tr anil ρ Q X = Q [] ρ := rfl
theorem tr_cons {a : M PyData} {l : M (List PyData)} {Q : List PyData → Env → Prop} : Tr (acons a l) ρ Q X = Tr a ρ (fun x r => Tr l r (fun xs r => Q (x :: xs) r) X) X := by
  unfold acons; simp only [tr_bnd]; rfl
theorem tr_tup {a : M (List PyData)} {Q : PyData → Env → Prop} : Tr (mtup a) ρ Q X = Tr a ρ (fun ds r => lenOk ds.length = true ∧ Q (.tuple ds) r) X := by
  unfold mtup; rw [tr_bnd]; congr 1; funext ds r; unfold Tr; dsimp only; cases lenOk ds.length <;> simp
theorem tr_lst {a : M (List PyData)} {Q : PyData → Env → Prop} : Tr (mlst a) ρ Q X = Tr a ρ (fun ds r => lenOk ds.length = true ∧ Q (.list ds) r) X := by
  unfold mlst; rw [tr_bnd]; congr 1; funext ds r; unfold Tr; dsimp only; cases lenOk ds.length <;> simp
theorem tr_pn {Q : Option Int → Env → Prop} : Tr mpn ρ Q X = Q none ρ := rfl
theorem tr_ps {m : M PyData} {Q : Option Int → Env → Prop} : Tr (mps m) ρ Q X = Tr m ρ (fun d r => ∃ i, asI? d = some i ∧ Q (some i) r) X := by
  unfold mps; simp only [tr_bnd, tr_lft]
  congr 1; funext d r
  cases asI? d <;> simp
theorem tr_sl {m : M PyData} {lo hi : M (Option Int)} {Q : PyData → Env → Prop} : Tr (msl m lo hi) ρ Q X = Tr m ρ (fun x r => Tr lo r (fun l r => Tr hi r (fun u r => ∃ z, slice? x l u = some z ∧ Q z r) X) X) X := by
  unfold msl; simp only [tr_bnd, tr_lft]
theorem tr_slp {i : Nat} {lo hi : M (Option Int)} {Q : PyData → Env → Prop} {d : PyData} (h : getV (at? ρ i) = some d) :
    Tr (mslp i lo hi) ρ Q X = Tr lo ρ (fun l r => Tr hi r (fun u r => ∃ x, getV (at? r i) = some x ∧ ∃ z, slice? x l u = some z ∧ Q z r) X) X := by
  have e : mslp i lo hi ρ = bnd lo (fun l => bnd hi fun u ρ' => match peek i ρ' with
    | some x => lft (slice? x l u) ρ'
    | none => .bad) ρ := by
    unfold mslp
    rw [← peek_at] at h
    rw [h] <;> rfl
  rw [tro, e, ← tro, tr_bnd]
  congr 1; funext l r
  rw [tr_bnd]
  congr 1; funext u r
  rw [tro, tr_pk (i := i) (k := fun x => lft (slice? x l u) r) (fun e => by rw [e]) (fun x e => by rw [e])]
  simp only [tro_lft]
theorem tr_c1 {f : PyData → Option PyData} {m : M PyData} {Q : PyData → Env → Prop} : Tr (mc1 f m) ρ Q X = Tr m ρ (fun x r => ∃ z, f x = some z ∧ Q z r) X := by
  unfold mc1; simp only [tr_bnd, tr_lft]
theorem tr_c1p {f : PyData → Option PyData} {i : Nat} {Q : PyData → Env → Prop} : Tr (mc1p f i) ρ Q X = ∃ x, getV (at? ρ i) = some x ∧ ∃ z, f x = some z ∧ Q z ρ := by
  rw [tro, tr_pk (i := i) (k := fun x => lft (f x) ρ) (fun e => by unfold mc1p; rw [e]) (fun x e => by unfold mc1p; rw [e])]
  simp only [tro_lft]
theorem tr_seqI {m : M PyData} {Q : List PyData → Env → Prop} : Tr (mseqI m) ρ Q X = Tr m ρ (fun d r => ∃ z, seq? d = some z ∧ Q z r) X := by
  unfold mseqI; simp only [tr_bnd, tr_lft]
theorem tr_rng1 {m : M PyData} {Q : List PyData → Env → Prop} : Tr (mrng1 m) ρ Q X = Tr m ρ (fun d r => ∃ z, rng1? d = some z ∧ Q z r) X := by
  unfold mrng1; simp only [tr_bnd, tr_lft]
theorem tr_rng2 {a b : M PyData} {Q : List PyData → Env → Prop} : Tr (mrng2 a b) ρ Q X = Tr a ρ (fun x r => Tr b r (fun y r => ∃ z, rng2? x y = some z ∧ Q z r) X) X := by
  unfold mrng2; simp only [tr_bnd, tr_lft]
theorem tr_rng3 {a b d : M PyData} {Q : List PyData → Env → Prop} : Tr (mrng3 a b d) ρ Q X = Tr a ρ (fun x r => Tr b r (fun y r => Tr d r (fun w r => ∃ z, rng3? x y w = some z ∧ Q z r) X) X) X := by
  unfold mrng3; simp only [tr_bnd, tr_lft]
theorem tr_zip {a b : M PyData} {Q : List PyData → Env → Prop} : Tr (mzip a b) ρ Q X = Tr a ρ (fun x r => Tr b r (fun y r => ∃ z, zip? x y = some z ∧ Q z r) X) X := by
  unfold mzip; simp only [tr_bnd, tr_lft]
theorem tr_enum {a : M PyData} {Q : List PyData → Env → Prop} : Tr (menum a) ρ Q X = Tr a ρ (fun x r => ∃ z, enum? x = some z ∧ Q z r) X := by
  unfold menum; simp only [tr_bnd, tr_lft]
theorem tr_lenS {i : Nat} {ns : List Int} {Q : PyData → Env → Prop} (h : at? ρ i = .scr ns) : Tr (mlenS i) ρ Q X = Q (.int ns.length) ρ := by
  unfold Tr mlenS scrNs
  unfold at? at h
  cases e : ρ[i]? with
  | none => rw [e] at h; cases h
  | some s => rw [e] at h; cases h; rfl
theorem tr_ixS {i : Nat} {m : M PyData} {ns : List Int} {Q : PyData → Env → Prop} (h : at? ρ i = .scr ns) :
    Tr (mixS i m) ρ Q X = Tr m ρ (fun k r => ∃ j, asI? k = some j ∧ ∃ n, atI ns j = some n ∧ Q (.int n) r) X := by
  have e : Tr (mixS i m) ρ Q X = Tr (bnd m fun k => lft ((asI? k).bind fun j => (atI ns j).map PyData.int)) ρ Q X := by
    unfold Tr mixS scrNs
    unfold at? at h
    cases e : ρ[i]? with
    | none => rw [e] at h; cases h
    | some s => rw [e] at h; cases h; rfl
  rw [e, tr_bnd]
  congr 1; funext k r
  rw [tr_lft]
  cases asI? k with
  | none => simp
  | some j => cases ea : atI ns j <;> simp [ea]
def rtd : Rt → PyData
  | .v d => d
  | .o d => d
def rto : Rt → Option PyData
  | .o d => some d
  | .v _ => none
theorem rtd_v {d : PyData} : rtd (.v d) = d := rfl
theorem rtd_o {d : PyData} : rtd (.o d) = d := rfl
theorem rto_o {d : PyData} : rto (.o d) = some d := rfl
theorem tr_rtV {m : M Rt} {Q : PyData → Env → Prop} : Tr (rtV m) ρ Q X = Tr m ρ (fun r ρ => Q (rtd r) ρ) X := by
  unfold rtV; rw [tr_bnd]; congr 1; funext r ρ; cases r <;> rfl
theorem tr_rtO {m : M Rt} {Q : PyData → Env → Prop} : Tr (rtO m) ρ Q X = Tr m ρ (fun r ρ => ∃ d, rto r = some d ∧ Q d ρ) X := by
  unfold rtO; rw [tr_bnd]; congr 1; funext r ρ; cases r <;> simp [Tr, rto]
theorem tr_mono {m : M α} {Q Q' : α → Env → Prop} (h : Tr m ρ Q X) (k : ∀ a r, Q a r → Q' a r) : Tr m ρ Q' X := by
  unfold Tr at *
  cases e : m ρ with
  | ok a r => rw [e] at h; exact k _ _ h
  | exc x r => rw [e] at h; exact h
  | bad => rw [e] at h; exact h

/-! calls -/
theorem tr_aNil {Q : List PyData → Env → Prop} : Tr (evA []) ρ Q X = Q [] ρ := rfl
theorem tr_aV {m : M PyData} {as : List CArg} {Q : List PyData → Env → Prop} : Tr (evA (.v m :: as)) ρ Q X = Tr m ρ (fun x r => Tr (evA as) r (fun xs r => Q (x :: xs) r) X) X := by
  simp only [evA, tr_bnd]; rfl
theorem tr_aL {i : Nat} {as : List CArg} {Q : List PyData → Env → Prop} {d : PyData} (h : at? ρ i = .own d) : Tr (evA (.lend i :: as)) ρ Q X = Tr (evA as) ρ (fun xs r => Q (.none :: xs) r) X := by
  have e : isOwn i ρ = true := by
    unfold isOwn
    unfold at? at h
    cases e : ρ[i]? with
    | none => rw [e] at h; cases h
    | some s => rw [e] at h; cases h; rfl
  have e2 : Tr (evA (.lend i :: as)) ρ Q X = Tr (bnd (evA as) (fun xs ρ => .ok (.none :: xs) ρ)) ρ Q X := by
    unfold Tr
    simp only [evA, e, if_true]
  rw [e2, tr_bnd]; rfl
theorem tr_aS {i : Nat} {as : List CArg} {Q : List PyData → Env → Prop} {ns : List Int} (h : at? ρ i = .scr ns) : Tr (evA (.scr i :: as)) ρ Q X = Tr (evA as) ρ (fun xs r => Q (.none :: xs) r) X := by
  have e : isScr i ρ = true := by
    unfold isScr
    unfold at? at h
    cases e : ρ[i]? with
    | none => rw [e] at h; cases h
    | some s => rw [e] at h; cases h; rfl
  have e2 : Tr (evA (.scr i :: as)) ρ Q X = Tr (bnd (evA as) (fun xs ρ => .ok (.none :: xs) ρ)) ρ Q X := by
    unfold Tr
    simp only [evA, e, if_true]
  rw [e2, tr_bnd]; rfl
theorem tr_call {f : List PyData → FOut} {as : List CArg} {Q : Rt → Env → Prop} :
    Tr (mcall f as) ρ Q X = Tr (evA as) ρ (fun xs r => lendOk as r = true ∧ scrOk as r = true ∧ TrF (f (fillA r as xs)) (fun rt outs => Q rt (wbA as outs r)) (fun e outs => X e (wbA as outs r))) X := by
  unfold Tr mcall
  cases evA as ρ with
  | ok xs r =>
    dsimp only
    by_cases h : (lendOk as r && scrOk as r) = true
    · rw [if_pos h]
      simp only [Bool.and_eq_true] at h
      unfold TrF
      cases f (fillA r as xs) <;> simp [h.1, h.2]
    · rw [if_neg h]
      simp only [Bool.and_eq_true, not_and] at h
      simp only [eq_iff_iff, false_iff]
      exact fun z => h z.1 z.2.1
  | exc e r => rfl
  | bad => rfl
theorem tr_callT {f : List PyData → FOut} {m : M PyData} {as : List CArg} {Q : Rt → Env → Prop} :
    Tr (mcallT f m as) ρ Q X = Tr m ρ (fun x r0 => Tr (evA as) r0 (fun xs r => lendOk as r = true ∧ scrOk as r = true ∧ TrF (f (x :: fillA r as xs)) (fun rt outs => Q rt (wbA as outs.tail r)) (fun e outs => X e (wbA as outs.tail r))) X) X := by
  unfold mcallT
  rw [tr_bnd]
  congr 1; funext x r0
  unfold Tr
  dsimp only
  cases evA as r0 with
  | ok xs r =>
    dsimp only
    by_cases h : (lendOk as r && scrOk as r) = true
    · rw [if_pos h]
      simp only [Bool.and_eq_true] at h
      unfold TrF
      cases f (x :: fillA r as xs) <;> simp [h.1, h.2]
    · rw [if_neg h]
      simp only [Bool.and_eq_true, not_and] at h
      simp only [eq_iff_iff, false_iff]
      exact fun z => h z.1 z.2.1
  | exc e r => rfl
  | bad => rfl
theorem outAt_at {i : Nat} : outAt i ρ = match at? ρ i with
    | .own x => x
    | _ => .none := by
  unfold outAt at?
  cases ρ[i]? with
  | none => rfl
  | some s => cases s <;> rfl
theorem scrAt_at {i : Nat} : scrAt i ρ = match at? ρ i with
    | .scr ns => .list (ns.map PyData.int)
    | _ => .none := by
  unfold scrAt at?
  cases ρ[i]? with
  | none => rfl
  | some s => cases s <;> rfl
theorem isOwn_at {i : Nat} : isOwn i ρ = match at? ρ i with
    | .own _ => true
    | _ => false := by
  unfold isOwn at?
  cases ρ[i]? with
  | none => rfl
  | some s => cases s <;> rfl
theorem isScr_at {i : Nat} : isScr i ρ = match at? ρ i with
    | .scr _ => true
    | _ => false := by
  unfold isScr at?
  cases ρ[i]? with
  | none => rfl
  | some s => cases s <;> rfl

/-! statements -/
theorem ts_sbnd {m : M α} {f : α → SM} : Ts (sbnd m f) ρ P = Tr m ρ (fun a r => Ts (f a) r P) P.ex := by
  unfold Ts Tr sbnd; cases m ρ <;> rfl
theorem ts_nx {r : Env} : Ts (fun _ => .nx r) ρ P = P.nx r := rfl
theorem ts_next : Ts mnext ρ P = P.nx ρ := rfl
theorem ts_break : Ts mbreak ρ P = P.bk ρ := rfl
theorem ts_cont : Ts mcont ρ P = P.ct ρ := rfl
theorem ts_seq {a b : SM} : Ts (mseq a b) ρ P = Ts a ρ { P with nx := fun r => Ts b r P } := by
  unfold Ts mseq; cases a ρ <;> rfl
theorem ts_ret {e : M PyData} : Ts (mret e) ρ P = Tr e ρ (fun d r => P.rt (.v d) r) P.ex := by
  unfold mret; rw [ts_sbnd]; rfl
theorem ts_retO {e : M PyData} : Ts (mretO e) ρ P = Tr e ρ (fun d r => P.rt (.o d) r) P.ex := by
  unfold mretO; rw [ts_sbnd]; rfl
theorem ts_retN : Ts mretN ρ P = P.rt (.v .none) ρ := rfl
theorem tr_take {i : Nat} {d : PyData} {Q : PyData → Env → Prop} (h : at? ρ i = .own d) : Tr (mtake i) ρ Q X = Q d (ρ.set i .emp) := by
  unfold Tr mtake
  unfold at? at h
  cases e : ρ[i]? with
  | none => rw [e] at h; cases h
  | some s => rw [e] at h; cases h; rfl
theorem ts_expr {e : M PyData} : Ts (mexpr e) ρ P = Tr e ρ (fun _ r => P.nx r) P.ex := by
  unfold mexpr; rw [ts_sbnd]; rfl
theorem tso_slft {o : Option α} {f : α → SOut} : TsO (slft o f) P = ∃ a, o = some a ∧ TsO (f a) P := by
  unfold slft; cases o <;> simp [TsO]
theorem tso_ite {c : Prop} [Decidable c] {r : Env} : TsO (if c then .nx r else .bad) P = (c ∧ P.nx r) := by
  split <;> simp_all [TsO]
theorem ts_assign {e : M PyData} {a : Asg} : Ts (massign e a) ρ P = Tr e ρ (fun d r => ∃ r', a d r = some r' ∧ P.nx r') P.ex := by
  unfold massign; rw [ts_sbnd]; congr 1; funext d r
  exact tso_slft
theorem as_name {i : Nat} {d : PyData} {r : Env} : aname i d r = some (r.set i (.val d)) := rfl
theorem as_nil {r : Env} : agnil [] r = some r := rfl
theorem as_cons {a : Asg} {k : List PyData → Env → Option Env} {d : PyData} {ds : List PyData} {r : Env} : agcons a k (d :: ds) r = (a d r).bind fun r' => k ds r' := rfl
theorem as_tup {n : Nat} {a : List PyData → Env → Option Env} {ds : List PyData} {r : Env} : atup n a (.tuple ds) r = if ds.length = n then a ds r else none := rfl
theorem ts_own {e : M PyData} {i : Nat} : Ts (mown e i) ρ P = Tr e ρ (fun d r => P.nx (r.set i (.own d))) P.ex := by
  unfold mown; rw [ts_sbnd]; rfl
theorem ts_aug {f : PyData → PyData → Option PyData} {i : Nat} {e : M PyData} {x : PyData} (h : at? ρ i = .val x) : Ts (maug f i e) ρ P = Tr e ρ (fun y r => ∃ z, f x y = some z ∧ P.nx (r.set i (.val z))) P.ex := by
  have q : Ts (maug f i e) ρ P = Ts (sbnd e (fun y r => slft (f x y) fun z => .nx (r.set i (.val z)))) ρ P := by
    unfold Ts maug
    unfold at? at h
    cases e : ρ[i]? with
    | none => rw [e] at h; cases h
    | some s => rw [e] at h; cases h; rfl
  rw [q, ts_sbnd]; congr 1; funext d r
  exact tso_slft
theorem ts_ite {c : Prop} [Decidable c] {a b : SM} : Ts (if c then a else b) ρ P = if c then Ts a ρ P else Ts b ρ P := by split <;> rfl
theorem ts_if {k : M Bool} {a b : SM} : Ts (mifS k a b) ρ P = Tr k ρ (fun x r => if x = true then Ts a r P else Ts b r P) P.ex := by
  unfold mifS; rw [ts_sbnd]; simp only [ts_ite]
theorem ts_for {items : M (List PyData)} {asg : Asg} {body : SM} : Ts (mfor items asg body) ρ P = Tr items ρ (fun ds r => Ts (forL asg body ds) r P) P.ex := by
  unfold mfor; rw [ts_sbnd]
def getL (s : Sl) : Option (List PyData) := match s with
  | .own (.list ds) => some ds
  | _ => none
theorem ownL_at {i : Nat} : ownL i ρ = getL (at? ρ i) := by
  unfold ownL at? getL
  cases ρ[i]? with
  | none => rfl
  | some s => cases s with
    | own d => cases d <;> rfl
    | _ => rfl
theorem getL_o {ds : List PyData} : getL (.own (.list ds)) = some ds := rfl
theorem ts_append {i : Nat} {e : M PyData} {ds0 : List PyData} (h : at? ρ i = .own (.list ds0)) : Ts (mappend i e) ρ P = Tr e ρ (fun d r => ∃ ds, getL (at? r i) = some ds ∧ lenOk (ds.length + 1) = true ∧ P.nx (r.set i (.own (.list (ds ++ [d]))))) P.ex := by
  have q : Ts (mappend i e) ρ P = Ts (sbnd e (fun d r => slft (ownL i r) fun ds => if lenOk (ds.length + 1) = true then .nx (r.set i (.own (.list (ds ++ [d])))) else .bad)) ρ P := by
    unfold Ts mappend
    rw [ownL_at, h]
    rfl
  rw [q, ts_sbnd]; congr 1; funext d r
  refine Eq.trans tso_slft ?_
  simp only [ownL_at, tso_ite]
theorem ts_store {i : Nat} {k e : M PyData} : Ts (mstore i k e) ρ P = Tr e ρ (fun d r1 => ∃ ds0, getL (at? r1 i) = some ds0 ∧ Tr k r1 (fun j r => ∃ ds, getL (at? r i) = some ds ∧ ∃ n, (asI? j).bind (ixN ds.length) = some n ∧ P.nx (r.set i (.own (.list (ds.set n d))))) P.ex) P.ex := by
  unfold mstore; rw [ts_sbnd]; congr 1; funext d r
  refine Eq.trans tso_slft ?_
  simp only [ownL_at]
  congr 1; funext ds0
  congr 1
  refine Eq.trans (b := Ts (sbnd k (fun j r => slft (ownL i r) fun ds => slft ((asI? j).bind (ixN ds.length)) fun n => .nx (r.set i (.own (.list (ds.set n d)))))) r P) ?_ ?_
  · simp only [ownL_at]; rfl
  rw [ts_sbnd]
  congr 1; funext j r
  refine Eq.trans tso_slft ?_
  simp only [ownL_at, tso_slft]
  rfl
theorem tr_pop {i : Nat} {ds : List PyData} {d : PyData} {Q : PyData → Env → Prop} (h : at? ρ i = .own (.list ds)) : Tr (mpop i) ρ Q X = ∃ d, ds[ds.length - 1]? = some d ∧ Q d (ρ.set i (.own (.list ds.dropLast))) := by
  unfold Tr mpop
  rw [ownL_at, h]
  dsimp only [getL]
  cases ds[ds.length - 1]? <;> simp
theorem ts_mono {m : SM} {P' : PS} (h : Ts m ρ P) (k1 : ∀ r, P.nx r → P'.nx r) (k2 : ∀ v r, P.rt v r → P'.rt v r) (k3 : ∀ r, P.bk r → P'.bk r) (k4 : ∀ r, P.ct r → P'.ct r) (k5 : ∀ e r, P.ex e r → P'.ex e r) : Ts m ρ P' := by
  unfold Ts TsO at *
  cases e : m ρ with
  | nx r => rw [e] at h; exact k1 _ h
  | rt v r => rw [e] at h; exact k2 _ _ h
  | bk r => rw [e] at h; exact k3 _ h
  | ct r => rw [e] at h; exact k4 _ h
  | exc x r => rw [e] at h; exact k5 _ _ h
  | bad => rw [e] at h; exact h
/-- for: an invariant over what is walked -/
theorem ts_forL {asg : Asg} {body : SM} (I : Nat → Env → Prop) {ds0 : List PyData} (h0 : I 0 ρ)
    (hs : ∀ (i : Nat) (d : PyData) (r : Env), ds0[i]? = some d → I i r → ∃ r1, asg d r = some r1 ∧ Ts body r1 { P with nx := I (i + 1), ct := I (i + 1), bk := P.nx })
    (he : ∀ r, I ds0.length r → P.nx r) : Ts (forL asg body ds0) ρ P := by
  have go : ∀ (ds : List PyData) (n : Nat) (ρ : Env), n + ds.length = ds0.length → ds0.drop n = ds → I n ρ → Ts (forL asg body ds) ρ P := by
    intro ds
    induction ds with
    | nil =>
      intro n ρ hn e h
      obtain rfl : n = ds0.length := by simpa using hn
      exact he ρ h
    | cons d ds ih =>
      intro n ρ hn e h
      have hd : ds0[n]? = some d := by
        have := List.getElem?_drop (xs := ds0) (i := n) (j := 0)
        rw [e] at this
        simpa using this.symm
      have e2 : ds0.drop (n + 1) = ds := by
        rw [← List.drop_drop, e]; rfl
      have hn2 : n + 1 + ds.length = ds0.length := by
        simp only [List.length_cons] at hn; omega
      obtain ⟨r1, er, hb⟩ := hs n d ρ hd h
      unfold Ts forL
      rw [er]
      dsimp only
      unfold Ts at hb
      cases eb : body r1 with
      | nx r => rw [eb] at hb; exact ih (n + 1) r hn2 e2 hb
      | ct r => rw [eb] at hb; exact ih (n + 1) r hn2 e2 hb
      | bk r => rw [eb] at hb; exact hb
      | rt v r => rw [eb] at hb; exact hb
      | exc x r => rw [eb] at hb; exact hb
      | bad => rw [eb] at hb; exact hb
  exact go ds0 0 ρ (by simp) rfl h0
theorem rangeL_len {lo : Int} {n : Nat} : (rangeL lo n).length = n := by simp [rangeL]
theorem rangeL_at {lo : Int} {n i : Nat} {d : PyData} (h : (rangeL lo n)[i]? = some d) : i < n ∧ d = .int (lo + i) := by
  unfold rangeL at h
  rw [List.getElem?_map] at h
  by_cases z : i < n
  · rw [List.getElem?_range z] at h
    cases h
    exact ⟨z, rfl⟩
  · rw [List.getElem?_eq_none (by simp; omega)] at h
    cases h
/-- for i in range -/
theorem ts_range {asg : Asg} {body : SM} {lo : Int} {n : Nat} (I : Nat → Env → Prop) (h0 : I 0 ρ)
    (hs : ∀ (i : Nat) (r : Env), i < n → I i r → ∃ r1, asg (.int (lo + i)) r = some r1 ∧ Ts body r1 { P with nx := I (i + 1), ct := I (i + 1), bk := P.nx })
    (he : ∀ r, I n r → P.nx r) : Ts (forL asg body (rangeL lo n)) ρ P :=
  ts_forL I h0 (fun i d r e h => by obtain ⟨z, rfl⟩ := rangeL_at e; exact hs i r z h) (by rw [rangeL_len]; exact he)
theorem tr_lc {items : M (List PyData)} {asg : Asg} {test : M Bool} {elt : M PyData} {vs : List Nat} {Q : PyData → Env → Prop} :
    Tr (mlc items asg test elt vs) ρ Q X = Tr items ρ (fun ds r => match compL asg test elt vs ds (wipeE r vs) [] with
      | .ok d r' => Q d (unw r r' vs)
      | _ => False) X := by
  unfold mlc
  rw [tr_bnd]
  congr 1; funext ds r
  unfold Tr
  dsimp only
  cases compL asg test elt vs ds (wipeE r vs) [] <;> rfl
/-- a comprehension whose parts are pure -/
theorem compL_pure {asg : Asg} {test : M Bool} {elt : M PyData} {vs : List Nat} {r0 : Env} {g : PyData → Bool} {f : PyData → PyData} : ∀ (ds acc : List PyData),
    (∀ d ∈ ds, ∃ r1, asg d r0 = some r1 ∧ ∃ r2, test r1 = .ok (g d) r2 ∧ (g d = true → ∃ r3, elt r2 = .ok (f d) r3 ∧ wipeE r3 vs = r0) ∧ (g d = false → wipeE r2 vs = r0)) →
    lenOk (acc.length + ds.length) = true → compL asg test elt vs ds r0 acc = .ok (.list (acc ++ (ds.filter g).map f)) r0
  | [], acc, _, _ => by simp [compL]
  | d :: ds, acc, h, hl => by
    obtain ⟨r1, e1, r2, e2, h3, h4⟩ := h d (by simp)
    have hr := fun d' z => h d' (List.mem_cons_of_mem d z)
    unfold compL
    rw [e1]; dsimp only; rw [e2]; dsimp only
    have lo : ∀ {a b : Nat}, lenOk b = true → a ≤ b → lenOk a = true := fun h1 h2 => by
      unfold lenOk at *; simp only [decide_eq_true_eq] at *; omega
    cases hg : g d with
    | true =>
      obtain ⟨r3, e3, w3⟩ := h3 hg
      rw [if_pos rfl, e3]; dsimp only
      rw [if_pos (lo hl (by simp)), w3, compL_pure ds (acc ++ [f d]) hr (lo hl (by simp; omega))]
      simp [hg]
    | false =>
      rw [if_neg (by simp), h4 hg, compL_pure ds acc hr (lo hl (by simp))]
      simp [hg]
/-- a def's body -/
theorem trF_body {n : Nat} {ks : List PKd} {m : SM} {xs : List PyData} {Q : Rt → List PyData → Prop} {Y : PExc → List PyData → Prop} :
    TrF (bodyF n ks m xs) Q Y = Ts m (entry n ks xs) ⟨fun ρ => Q (.v .none) ((ownIx 0 ks).map fun i => outAt i ρ), fun r ρ => Q r ((ownIx 0 ks).map fun i => outAt i ρ), fun _ => False, fun _ => False, fun e ρ => Y e ((ownIx 0 ks).map fun i => outAt i ρ)⟩ := by
  unfold bodyF Ts
  cases m (entry n ks xs) <;> rfl
theorem trF_ok {r : Rt} {o : List PyData} {Q : Rt → List PyData → Prop} {Y : PExc → List PyData → Prop} : TrF (.ok r o) Q Y = Q r o := rfl
theorem trF_exc {e : PExc} {o : List PyData} {Q : Rt → List PyData → Prop} {Y : PExc → List PyData → Prop} : TrF (.exc e o) Q Y = Y e o := rfl
theorem trF_eq {o : FOut} {r : Rt} {outs : List PyData} (h : TrF o (fun r' o' => r' = r ∧ o' = outs) noxF) : o = .ok r outs := by
  unfold TrF at h
  cases o with
  | ok a b => dsimp only at h; rw [h.1, h.2]
  | exc a b => exact h.elim
  | bad => exact h.elim
/-- an answer and what it is like -/
theorem trF_ex {o : FOut} {Q : Rt → List PyData → Prop} (h : TrF o Q noxF) : ∃ r outs, o = .ok r outs ∧ Q r outs := by
  unfold TrF at h
  cases o with
  | ok a b => exact ⟨a, b, rfl, h⟩
  | exc a b => exact h.elim
  | bad => exact h.elim
end

/-! without side conditions -/
section
variable {α β : Type} {ρ : Env} {X : XP} {P : PS}
def varK (s : Sl) (i : Nat) (ρ : Env) (Q : PyData → Env → Prop) : Prop := match s with
  | .val d => Q d ρ
  | .own d => Q d (ρ.set i (.val d))
  | _ => False
theorem varK_v {d : PyData} {i : Nat} {Q : PyData → Env → Prop} : varK (.val d) i ρ Q = Q d ρ := rfl
theorem varK_o {d : PyData} {i : Nat} {Q : PyData → Env → Prop} : varK (.own d) i ρ Q = Q d (ρ.set i (.val d)) := rfl
theorem tu_var {i : Nat} {Q : PyData → Env → Prop} : Tr (mvar i) ρ Q X = varK (at? ρ i) i ρ Q := by
  unfold Tr mvar at?
  cases e : ρ[i]? with
  | none => rfl
  | some s => cases s <;> rfl
theorem tu_op2l {f : PyData → PyData → Option PyData} {i : Nat} {b : M PyData} {Q : PyData → Env → Prop} :
    Tr (op2l f i b) ρ Q X = ∃ d, getV (at? ρ i) = some d ∧ Tr b ρ (fun y r' => ∃ x, getV (at? r' i) = some x ∧ ∃ z, f x y = some z ∧ Q z r') X := by
  cases e : getV (at? ρ i) with
  | none =>
    rw [← peek_at] at e
    unfold Tr op2l
    rw [e]
    simp
  | some d => rw [tr_op2l e]; simp
theorem tu_slp {i : Nat} {lo hi : M (Option Int)} {Q : PyData → Env → Prop} :
    Tr (mslp i lo hi) ρ Q X = ∃ d, getV (at? ρ i) = some d ∧ Tr lo ρ (fun l r => Tr hi r (fun u r => ∃ x, getV (at? r i) = some x ∧ ∃ z, slice? x l u = some z ∧ Q z r) X) X := by
  cases e : getV (at? ρ i) with
  | none =>
    rw [← peek_at] at e
    unfold Tr mslp
    rw [e]
    simp
  | some d => rw [tr_slp e]; simp
def getO (s : Sl) : Option PyData := match s with
  | .own d => some d
  | _ => none
def getS (s : Sl) : Option (List Int) := match s with
  | .scr d => some d
  | _ => none
def getX (s : Sl) : Option PyData := match s with
  | .val d => some d
  | _ => none
theorem getO_o {d : PyData} : getO (.own d) = some d := rfl
theorem getS_s {d : List Int} : getS (.scr d) = some d := rfl
theorem getX_v {d : PyData} : getX (.val d) = some d := rfl
theorem tu_aL {i : Nat} {as : List CArg} {Q : List PyData → Env → Prop} : Tr (evA (.lend i :: as)) ρ Q X = ∃ d, getO (at? ρ i) = some d ∧ Tr (evA as) ρ (fun xs r => Q (.none :: xs) r) X := by
  cases e : at? ρ i with
  | own d => rw [tr_aL e]; simp [getO]
  | _ =>
    have q : isOwn i ρ = false := by rw [isOwn_at, e]
    unfold Tr
    simp [evA, q, getO]
theorem tu_aS {i : Nat} {as : List CArg} {Q : List PyData → Env → Prop} : Tr (evA (.scr i :: as)) ρ Q X = ∃ d, getS (at? ρ i) = some d ∧ Tr (evA as) ρ (fun xs r => Q (.none :: xs) r) X := by
  cases e : at? ρ i with
  | scr d => rw [tr_aS e]; simp [getS]
  | _ =>
    have q : isScr i ρ = false := by rw [isScr_at, e]
    unfold Tr
    simp [evA, q, getS]
theorem tu_take {i : Nat} {Q : PyData → Env → Prop} : Tr (mtake i) ρ Q X = ∃ d, getO (at? ρ i) = some d ∧ Q d (ρ.set i .emp) := by
  unfold Tr mtake at? getO
  cases e : ρ[i]? with
  | none => simp
  | some s => cases s <;> simp
theorem tu_aug {f : PyData → PyData → Option PyData} {i : Nat} {e : M PyData} : Ts (maug f i e) ρ P = ∃ x, getX (at? ρ i) = some x ∧ Tr e ρ (fun y r => ∃ z, f x y = some z ∧ P.nx (r.set i (.val z))) P.ex := by
  cases e : at? ρ i with
  | val d => rw [ts_aug e]; simp [getX]
  | _ =>
    unfold Ts maug
    unfold at? at e
    cases q : ρ[i]? with
    | none => simp_all [TsO, getX]
    | some s => rw [q] at e; cases e <;> simp_all [TsO, getX]
theorem tu_append {i : Nat} {e : M PyData} : Ts (mappend i e) ρ P = ∃ ds0, getL (at? ρ i) = some ds0 ∧ Tr e ρ (fun d r => ∃ ds, getL (at? r i) = some ds ∧ lenOk (ds.length + 1) = true ∧ P.nx (r.set i (.own (.list (ds ++ [d]))))) P.ex := by
  cases q : getL (at? ρ i) with
  | none =>
    unfold Ts mappend
    rw [ownL_at, q]
    simp [slft, TsO]
  | some ds =>
    have : at? ρ i = .own (.list ds) := by
      unfold getL at q
      split at q
      · rename_i e; cases q; exact e
      · cases q
    rw [ts_append this]; simp
theorem tu_pop {i : Nat} {Q : PyData → Env → Prop} : Tr (mpop i) ρ Q X = ∃ ds, getL (at? ρ i) = some ds ∧ ∃ d, ds[ds.length - 1]? = some d ∧ Q d (ρ.set i (.own (.list ds.dropLast))) := by
  unfold Tr mpop
  rw [ownL_at]
  cases getL (at? ρ i) with
  | none => simp
  | some ds => dsimp only; cases q : ds[ds.length - 1]? <;> simp [q]
theorem tu_lenS {i : Nat} {Q : PyData → Env → Prop} : Tr (mlenS i) ρ Q X = ∃ ns, getS (at? ρ i) = some ns ∧ Q (.int ns.length) ρ := by
  unfold Tr mlenS scrNs at? getS
  cases e : ρ[i]? with
  | none => simp
  | some s => cases s <;> simp
theorem tu_ixS {i : Nat} {m : M PyData} {Q : PyData → Env → Prop} :
    Tr (mixS i m) ρ Q X = ∃ ns, getS (at? ρ i) = some ns ∧ Tr m ρ (fun k r => ∃ j, asI? k = some j ∧ ∃ n, atI ns j = some n ∧ Q (.int n) r) X := by
  cases e : at? ρ i with
  | scr d => rw [tr_ixS e]; simp [getS]
  | _ =>
    unfold Tr mixS scrNs
    unfold at? at e
    cases q : ρ[i]? with
    | none => simp_all [getS]
    | some s => rw [q] at e; cases e <;> simp_all [getS]
def outS (s : Sl) : PyData := match s with
  | .own x => x
  | _ => .none
def scrS (s : Sl) : PyData := match s with
  | .scr ns => .list (ns.map PyData.int)
  | _ => .none
def isO (s : Sl) : Bool := match s with
  | .own _ => true
  | _ => false
def isS (s : Sl) : Bool := match s with
  | .scr _ => true
  | _ => false
theorem outA {i : Nat} : outAt i ρ = outS (at? ρ i) := outAt_at
theorem scrA {i : Nat} : scrAt i ρ = scrS (at? ρ i) := scrAt_at
theorem isOA {i : Nat} : isOwn i ρ = isO (at? ρ i) := isOwn_at
theorem isSA {i : Nat} : isScr i ρ = isS (at? ρ i) := isScr_at
theorem outS_o {d : PyData} : outS (.own d) = d := rfl
theorem scrS_s {ns : List Int} : scrS (.scr ns) = .list (ns.map PyData.int) := rfl
theorem isO_o {d : PyData} : isO (.own d) = true := rfl
theorem isS_s {ns : List Int} : isS (.scr ns) = true := rfl
theorem lok_nil {as : List CArg} (h : lendIx as = []) : lendOk as ρ = true := by unfold lendOk; rw [h]; rfl
theorem lok_one {as : List CArg} {i : Nat} (h : lendIx as = [i]) : lendOk as ρ = isO (at? ρ i) := by unfold lendOk; rw [h, ← isOA]; simp
theorem lok_two {as : List CArg} {i j : Nat} (h : lendIx as = [i, j]) (n : i ≠ j) : lendOk as ρ = (isO (at? ρ i) && isO (at? ρ j)) := by unfold lendOk; rw [h, ← isOA, ← isOA]; simp [n]
theorem lok_n : lendOk [] ρ = true := rfl
theorem lok_gen {as : List CArg} : lendOk as ρ = (decide (lendIx as).Nodup && (lendIx as).all fun i => isO (at? ρ i)) := by unfold lendOk; simp only [isOA]
theorem lix_nil : lendIx [] = [] := rfl
theorem lix_v {m : M PyData} {as : List CArg} : lendIx (.v m :: as) = lendIx as := rfl
theorem lix_l {i : Nat} {as : List CArg} : lendIx (.lend i :: as) = i :: lendIx as := rfl
theorem lix_s {i : Nat} {as : List CArg} : lendIx (.scr i :: as) = lendIx as := rfl
theorem sok_nil : scrOk [] ρ = true := rfl
theorem sok_v {m : M PyData} {as : List CArg} : scrOk (.v m :: as) ρ = scrOk as ρ := rfl
theorem sok_l {i : Nat} {as : List CArg} : scrOk (.lend i :: as) ρ = scrOk as ρ := rfl
theorem sok_s {i : Nat} {as : List CArg} : scrOk (.scr i :: as) ρ = (isS (at? ρ i) && scrOk as ρ) := by rw [← isSA]; rfl
end
end PL

/-! PLO: the pure operators at constructors. -/
namespace PL
open PySem PySem.Spec L2

section
variable {i j k : Int} {a b : Bool} {x y : Str} {xs ys : List PyData} {d : PyData}
def fdOk (j : Int) : Bool := decide (0 < j) && decide (j.natAbs.log2 < 9000)
theorem log2_lt {n k : Nat} (hk : 0 < k) (h : n < 2 ^ k) : n.log2 < k := by
  by_cases z : n = 0
  · subst z; simpa using hk
  · exact (Nat.log2_lt z).mpr h
theorem fdOk_of (h : 0 < j) (h2 : j.natAbs < 2 ^ 9000) : fdOk j = true := by
  unfold fdOk
  simp only [Bool.and_eq_true, decide_eq_true_eq]
  exact ⟨h, log2_lt (by decide) h2⟩
theorem p64 : (2 : Nat) ^ 64 ≤ 2 ^ 9000 := Nat.pow_le_pow_right (by decide) (by decide)
theorem fdOk_s (h : 0 < j) (h2 : j.natAbs < 2 ^ 64) : fdOk j = true := fdOk_of h (Nat.lt_of_lt_of_le h2 p64)
theorem mulOk_l (h : i.natAbs < 2 ^ 64) : mulOk i j = true := by
  unfold mulOk; simp [h]
theorem mulOk_r (h : j.natAbs < 2 ^ 64) : mulOk i j = true := by
  unfold mulOk; simp [h]
theorem mulOk_if {c : Prop} [Decidable c] : mulOk i (if c then 1 else 0) = true := by
  split <;> exact mulOk_r (by decide)
theorem mulOk_log {n m : Nat} (h : i.natAbs < 2 ^ n) (h2 : j.natAbs < 2 ^ m) (hn : 0 < n) (hm : 0 < m) (hs : n + m ≤ 1000000) : mulOk i j = true := by
  unfold mulOk
  have h3 := log2_lt hn h
  have h4 := log2_lt hm h2
  have h5 : i.natAbs.log2 + j.natAbs.log2 < 1000000 := by omega
  simp only [h5, decide_true, Bool.or_true]
theorem add_ii : add? (.int i) (.int j) = some (.int (i + j)) := rfl
theorem sub_ii : sub? (.int i) (.int j) = some (.int (i - j)) := rfl
theorem mul_ii : mul? (.int i) (.int j) = if mulOk i j = true then some (.int (i * j)) else none := rfl
theorem fdiv_ii : fdiv? (.int i) (.int j) = if fdOk j = true then some (.int (i / j)) else none := rfl
theorem mod_ii : mod? (.int i) (.int j) = if 0 < j then some (.int (i % j)) else none := by unfold mod?; simp
theorem pow_ii : pow? (.int i) (.int j) = if powOk i j = true then some (.int (i ^ j.toNat)) else none := rfl
theorem neg_i : neg? (.int i) = some (.int (-i)) := rfl
theorem cmp_ii {p : Int → Int → Bool} : cmpI? p (.int i) (.int j) = some (.bool (p i j)) := rfl
theorem addI_ii : addI? (.int i) (.int j) = some (.int (i + j)) := rfl
theorem mulI_ii : mulI? (.int i) (.int j) = if mulOk i j = true then some (.int (i * j)) else none := rfl
theorem shp_i : SeqAt.shaped (.int i) = true := rfl
theorem shp_b : SeqAt.shaped (.bool a) = true := rfl
theorem eq_ii : eq? (.int i) (.int j) = some (.bool (decide (i = j))) := by
  unfold eq? cmpOk; rw [shp_i, shp_i, if_pos (by simp)]; simp only [PyData.eqv]; congr 2
theorem ne_ii : ne? (.int i) (.int j) = some (.bool (!decide (i = j))) := by
  unfold ne? cmpOk; rw [shp_i, shp_i, if_pos (by simp)]; simp only [PyData.eqv]; congr 3
theorem eq_ss : eq? (.str x) (.str y) = some (.bool (decide (x = y))) := by
  unfold eq? cmpOk; rw [if_pos (by simp [strD])]; simp only [PyData.eqv]
  congr 2
theorem ne_ss : ne? (.str x) (.str y) = some (.bool (!decide (x = y))) := by
  unfold ne? cmpOk; rw [if_pos (by simp [strD])]; simp only [PyData.eqv]
  congr 3
theorem asB_b : asB? (.bool a) = some a := rfl
theorem truth_b : truth? (.bool a) = some a := rfl
theorem truth_i : truth? (.int i) = some (i != 0) := rfl
theorem truth_l : truth? (.list xs) = some (!xs.isEmpty) := rfl
theorem truth_t : truth? (.tuple xs) = some (!xs.isEmpty) := rfl
theorem truth_n : truth? .none = some false := rfl
theorem asI_i : asI? (.int i) = some i := rfl
theorem item_l : item? (.list xs) (.int i) = atI xs i := rfl
theorem item_t : item? (.tuple xs) (.int i) = atI xs i := rfl
theorem len_l : len? (.list xs) = some (.int xs.length) := rfl
theorem len_t : len? (.tuple xs) = some (.int xs.length) := rfl
theorem abs_i : abs? (.int i) = some (.int (if i < 0 then -i else i)) := rfl
theorem int_i : int? (.int i) = some (.int i) := rfl
theorem int_b : int? (.bool a) = some (.int (if a = true then 1 else 0)) := rfl
theorem tuple_l : tuple? (.list xs) = some (.tuple xs) := rfl
theorem tuple_t : tuple? (.tuple xs) = some (.tuple xs) := rfl
theorem list_l : list? (.list xs) = some (.list xs) := rfl
theorem list_t : list? (.tuple xs) = some (.list xs) := rfl
theorem max2_ii : max2? (.int i) (.int j) = some (.int (if j > i then j else i)) := rfl
theorem min2_ii : min2? (.int i) (.int j) = some (.int (if j < i then j else i)) := rfl
theorem seq_l : seq? (.list xs) = some xs := rfl
theorem seq_t : seq? (.tuple xs) = some xs := rfl
theorem slice_l {lo hi : Option Int} : slice? (.list xs) lo hi = some (.list (cut xs lo hi)) := rfl
theorem slice_t {lo hi : Option Int} : slice? (.tuple xs) lo hi = some (.tuple (cut xs lo hi)) := rfl
theorem rng1_i : rng1? (.int i) = if rOk i = true then some (rangeL 0 i.toNat) else none := rfl
theorem rng2_i : rng2? (.int i) (.int j) = if (rOk i && rOk j) = true then some (rangeL i (j - i).toNat) else none := rfl
theorem zip_l : zip? (.list xs) (.list ys) = some (zipP xs ys) := rfl
theorem zip_t : zip? (.tuple xs) (.tuple ys) = some (zipP xs ys) := rfl
theorem enum_l : enum? (.list xs) = some (enumP xs) := rfl
theorem add_tt : add? (.tuple xs) (.tuple ys) = if lenOk (xs.length + ys.length) = true then some (.tuple (xs ++ ys)) else none := rfl
theorem add_ll : add? (.list xs) (.list ys) = if lenOk (xs.length + ys.length) = true then some (.list (xs ++ ys)) else none := rfl
theorem add_ss : add? (.str x) (.str y) = if lenOk (x.length + y.length) = true then some (.str (x ++ y)) else none := rfl
theorem repr_i : repr? (.int i) = if i.natAbs.log2 < 12900 then some (.str (toString i)) else none := rfl
theorem sum_l : sum? (.list xs) = (ints? xs).map fun ns => .int ns.sum := rfl
theorem atI_0 {α : Type} {a : α} {r : List α} : atI (a :: r) 0 = some a := atI_nat (j := 0) rfl
theorem atI_1 {α : Type} {a b : α} {r : List α} : atI (a :: b :: r) 1 = some b := atI_nat (j := 1) rfl
theorem atI_2 {α : Type} {a b c : α} {r : List α} : atI (a :: b :: c :: r) 2 = some c := atI_nat (j := 2) rfl
theorem ixN_0 {n : Nat} : ixN (n + 1) 0 = some 0 := by
  unfold ixN; rw [if_pos (by decide), if_pos (by omega)]; rfl
theorem ixN_1 {n : Nat} : ixN (n + 1 + 1) 1 = some 1 := by
  unfold ixN; rw [if_pos (by decide), if_pos (by omega)]; rfl
theorem ixN_2 {n : Nat} : ixN (n + 1 + 1 + 1) 2 = some 2 := by
  unfold ixN; rw [if_pos (by decide), if_pos (by omega)]; rfl
theorem ite_some {α : Type} {c : Prop} [Decidable c] {u v : α} : ((if c then some u else none) = some v) = (c ∧ u = v) := by
  split <;> simp_all
theorem map_some {α β : Type} {o : Option α} {f : α → β} {Q : β → Prop} : (∃ z, o.map f = some z ∧ Q z) = ∃ a, o = some a ∧ Q (f a) := by
  cases o <;> simp
theorem lenOk_of {n : Nat} (h : n ≤ 16777216) : lenOk n = true := by unfold lenOk; simpa using h
theorem rOk_of (h : -(2 ^ 62) ≤ i) (h2 : i < 2 ^ 62) : rOk i = true := by unfold rOk; simp only [Bool.and_eq_true, decide_eq_true_eq]; exact ⟨h, h2⟩
theorem outs_o {ks : List PKd} {ρ : Env} : (ownIx 0 (.o :: ks)).map (fun i => outAt i ρ) = outAt 0 ρ :: (ownIx 1 ks).map (fun i => outAt i ρ) := rfl
theorem bind_some {α β : Type} {a : α} {f : α → Option β} : (some a).bind f = f a := rfl
theorem ex_and {α : Type} {p : Prop} {a : α} {Q : α → Prop} : (∃ z, (p ∧ a = z) ∧ Q z) = (p ∧ Q a) := by
  apply propext; constructor
  · rintro ⟨z, ⟨hp, rfl⟩, q⟩; exact ⟨hp, q⟩
  · rintro ⟨hp, q⟩; exact ⟨a, ⟨hp, rfl⟩, q⟩
theorem ex_eq {α : Type} {a : α} {Q : α → Prop} : (∃ z, a = z ∧ Q z) = Q a := by
  apply propext; constructor
  · rintro ⟨z, rfl, q⟩; exact q
  · exact fun q => ⟨a, rfl, q⟩
end
end PL

/-! PLP: the laws' source of numbers: a pot of digits and a turn. -/
namespace PL
open PySem PySem.Spec L2 PySem.NumText

theorem foldl_app_list {α : Type} (a : Array α) : ∀ (n : Nat) (z : Array α), ((List.replicate n a).foldl (· ++ ·) z).toList = z.toList ++ (List.replicate n a.toList).flatten
  | 0, z => by simp
  | n + 1, z => by
    rw [List.replicate_succ, List.foldl_cons, foldl_app_list a n, List.replicate_succ, List.flatten_cons, Array.toList_append, List.append_assoc]
theorem flat_one {α : Type} (a : α) : ∀ n : Nat, (List.replicate n [a]).flatten = List.replicate n a
  | 0 => rfl
  | n + 1 => by rw [List.replicate_succ, List.flatten_cons, flat_one a n]; rfl
theorem zeros (n : Nat) (h : 1 < n) : (strRep "0" (n : Int)).cps.toList = List.replicate n 48 := by
  unfold strRep
  rw [if_neg (by omega), if_neg]
  · show ((List.replicate (n : Int).toNat (#[48] : Array Nat)).foldl (· ++ ·) #[]).toList = _
    rw [foldl_app_list, Int.toNat_natCast]
    simp [flat_one]
  · have h1 : ((n : Int) == 1) = false := by simp; omega
    have h2 : (("0" : Str).length == 0) = false := by decide
    rw [h1, h2]; simp
theorem foldl_zeros : ∀ (n : Nat) (z : Nat), (List.replicate n 48).foldl (fun acc c => acc * 10 + (c - 48)) z = z * 10 ^ n
  | 0, z => by simp
  | n + 1, z => by
    rw [List.replicate_succ, List.foldl_cons, foldl_zeros n]
    simp [Nat.pow_succ, Nat.mul_assoc, Nat.mul_comm]
theorem ten_text (n : Nat) (h : 1 < n) (h2 : n < 4000) : (("1" : Str) ++ strRep "0" (n : Int)).cps.toList = 49 :: List.replicate n 48 := by
  rw [Str.cps_append, Array.toList_append, zeros n h]; rfl
theorem ten_len (n : Nat) (h : 1 < n) (h2 : n < 4000) : (("1" : Str) ++ strRep "0" (n : Int)).length = n + 1 := by
  have := congrArg List.length (ten_text n h h2)
  rw [Array.length_toList, List.length_cons, List.length_replicate] at this
  exact this
theorem zeros_len (n : Nat) (h : 1 < n) : (strRep "0" (n : Int)).length = n := by
  have := congrArg List.length (zeros n h)
  rw [Array.length_toList, List.length_replicate] at this
  exact this
theorem ten_int (n : Nat) (h : 1 < n) (h2 : n < 4000) : intText? (("1" : Str) ++ strRep "0" (n : Int)) = some ((10 ^ n : Nat) : Int) := by
  have e := ten_text n h h2
  rw [intText_digits (by
    rw [e]; intro c hc
    rcases List.mem_cons.mp hc with rfl | hc
    · decide
    · obtain ⟨_, rfl⟩ := List.mem_replicate.mp hc; decide) (by rw [e]; simp) (by rw [ten_len n h h2]; omega)]
  rw [e]
  unfold digitsVal
  rw [List.foldl_cons, foldl_zeros]
  simp
theorem int_s {x : Str} {n : Int} (h : lenOk x.length = true) (h2 : intText? x = some n) : int? (.str x) = some (.int n) := by
  show (if lenOk x.length = true then (intText? x).map PyData.int else none) = _
  rw [if_pos h, h2]; rfl
def G900 : Int := ((10 ^ 900 : Nat) : Int)
theorem int_ten : int? (.str (("1" : Str) ++ strRep "0" 900)) = some (.int G900) :=
  int_s (lenOk_of (by have := ten_len 900 (by decide) (by decide); exact this ▸ (by decide))) (ten_int 900 (by decide) (by decide))
theorem mul_ss {x : Str} {k : Int} : mul? (.str x) (.int k) = if repOk x.length k = true then some (.str (strRep x k)) else none := rfl
theorem rep900 : repOk ("0" : Str).length 900 = true := by decide +kernel
theorem len1900 : lenOk (("1" : Str).length + (strRep "0" 900).length) = true := by
  have := zeros_len 900 (by decide)
  have e : (strRep "0" 900).length = 900 := this
  rw [e]; decide +kernel
theorem z900 : mul? (.str "0") (.int 900) = some (.str (strRep "0" 900)) := by rw [mul_ss, if_pos rep900]
theorem o900 : add? (.str "1") (.str (strRep "0" 900)) = some (.str (("1" : Str) ++ strRep "0" 900)) := by rw [add_ss, if_pos len1900]
theorem scr_ints {ns : List Int} : (ints? (ns.map PyData.int)).getD [] = ns := by rw [ints_map]; rfl
theorem pow18 : powOk 10 18 = true := by decide +kernel
theorem G900_pos : 0 < G900 := by
  unfold G900
  exact Int.natCast_pos.mpr (Nat.pow_pos (by decide))
/-- the pot -/
def Pot (p : PyData) : Prop := ∃ g s : Int, p = .list [.int g, .int s] ∧ 0 ≤ g ∧ g < G900 ∧ 0 ≤ s ∧ s < 2305843009213693951
theorem pot_mk {a n k : Int} {c : Prop} [Decidable c] : Pot (.list [.int (a % G900 * (if c then 1 else 0)), .int (n * 48271 % 2305843009213693951)]) := by
  have h := G900_pos
  have h1 := Int.emod_nonneg a (Int.ne_of_gt h)
  have h2 := Int.emod_lt_of_pos a h
  refine ⟨_, _, rfl, ?_, ?_, Int.emod_nonneg _ (by decide), Int.emod_lt_of_pos _ (by decide)⟩
  · split <;> omega
  · split <;> omega
end PL

/-! pure functions of the law k09, printed by gen.py -/
namespace Lk09
open PySem PL

/-- _law_pot(_law_script, _law_k); slots 0:l_script 1:l_k 2:l_cell 3:l_great -/
noncomputable def m_l_pot : SM :=
  (mseq (massign (op2 add? (op2r mul? (mcon (.int 3)) 1) (mlenS 0)) (aname 2))
   (mseq (mifS (asB (op2l lt? 1 (mlenS 0))) (massign (mixS 0 (mvar 1)) (aname 2)) mnext)
   (mseq (massign (op2 mul? (op2 mod? (mc1p abs? 2) (mc1 int? (op2 add? (mcon (.str "1")) (op2 mul? (mcon (.str "0")) (mcon (.int 900)))))) (mc1 int? (op2 ge? (mc1p abs? 2) (op2 pow? (mcon (.int 10)) (mcon (.int 18)))))) (aname 3))
   (mretO (mlst (acons (mvar 3) (acons (op2 mod? (op2 mul? (op2 add? (op2 add? (op2l mod? 2 (mcon (.int 2305843009213693951))) (op2r mul? (op2r mul? (mcon (.int 7919)) 1) 1)) (mcon (.int 11))) (mcon (.int 48271))) (mcon (.int 2305843009213693951))) anil)))))))
noncomputable def f_l_pot : List PyData → FOut := bodyF 4 [.s, .v] m_l_pot

/-- _law_take(_law_pot_here, _law_upto); slots 0:l_pot_here 1:l_upto 2:l_digit -/
noncomputable def m_l_take : SM :=
  (mseq (mifS (asB (op2 gt? (op2l item? 0 (mcon (.int 0))) (mcon (.int 0)))) (mseq (massign (op2r mod? (op2l item? 0 (mcon (.int 0))) 1) (aname 2))
   (mseq (mstore 0 (mcon (.int 0)) (op2r fdiv? (op2l item? 0 (mcon (.int 0))) 1))
   (mret (mvar 2)))) mnext)
   (mseq (mstore 0 (mcon (.int 1)) (op2 mod? (op2 add? (op2 mul? (op2l item? 0 (mcon (.int 1))) (mcon (.int 1181783497276652981))) (mcon (.int 12345678910987))) (mcon (.int 2305843009213693951))))
   (mret (op2r mod? (op2 fdiv? (op2 mod? (op2 mul? (op2 fdiv? (op2l item? 0 (mcon (.int 1))) (mcon (.int 65537))) (op2 add? (op2 mod? (op2l item? 0 (mcon (.int 1))) (mcon (.int 65537))) (mcon (.int 3)))) (mcon (.int 2305843009213693921))) (mcon (.int 97))) 1))))
noncomputable def f_l_take : List PyData → FOut := bodyF 3 [.o, .v] m_l_take

/-- _law_of(_law_pot_here, _law_some); slots 0:l_pot_here 1:l_some -/
noncomputable def m_l_of : SM :=
  (mret (op2l item? 1 (rtV (mcall f_l_take [.lend 0, .v (mc1p len? 1)]))))
noncomputable def f_l_of : List PyData → FOut := bodyF 2 [.o, .v] m_l_of

/-- _law_links(_law_pot_here, _law_most); slots 0:l_pot_here 1:l_most 2:l_found 3:l_turn 4:l_ratio -/
noncomputable def m_l_links : SM :=
  (mseq (mown (mlst (acons (mcon (.int 1)) anil)) 2)
   (mseq (mfor (mrng1 (rtV (mcall f_l_take [.lend 0, .v (mcon (.int 6))]))) (aname 3) (mseq (massign (rtV (mcall f_l_of [.lend 0, .v (mlst (acons (mcon (.int 2)) (acons (mcon (.int 2)) (acons (mcon (.int 2)) (acons (mcon (.int 3)) (acons (mcon (.int 4)) (acons (op2 add? (mcon (.int 2)) (rtV (mcall f_l_take [.lend 0, .v (mcon (.int 5))]))) anil)))))))])) (aname 4))
   (mifS (mand (asB (op2r le? (op2r mul? (op2l item? 2 (mneg (mcon (.int 1)))) 4) 1)) (asB (op2 lt? (mc1p len? 2) (mcon (.int 12))))) (mappend 2 (op2r mul? (op2l item? 2 (mneg (mcon (.int 1)))) 4)) mnext)))
   (mret (mc1p tuple? 2))))
noncomputable def f_l_links : List PyData → FOut := bodyF 5 [.o, .v] m_l_links

/-- power(base, exponent); slots 0:base 1:exponent 2:found 3:turn -/
noncomputable def m_power : SM :=
  (mseq (massign (mcon (.int 1)) (aname 2))
   (mseq (mfor (mrng1 (mvar 1)) (aname 3) (maug mulI? 2 (mvar 0)))
   (mret (mvar 2))))
noncomputable def f_power : List PyData → FOut := bodyF 4 [.v, .v] m_power

/-- count_states(chain, pages); slots 0:chain 1:pages 2:many 3:size 4:larger -/
noncomputable def m_count_states : SM :=
  (mseq (massign (mcon (.int 2)) (aname 2))
   (mseq (mfor (mzip (mvar 0) (mslp 0 (mps (mcon (.int 1))) mpn)) (atup 2 (agcons (aname 3) (agcons (aname 4) agnil))) (massign (op2 add? (mcon (.int 1)) (rtV (mcall f_power [.v (mvar 2), .v (op2b fdiv? 4 3)]))) (aname 2)))
   (mret (rtV (mcall f_power [.v (mvar 2), .v (mvar 1)])))))
noncomputable def f_count_states : List PyData → FOut := bodyF 5 [.v, .v] m_count_states

/-- _law_counted(_law_links_here, _law_many); slots 0:l_links_here 1:l_many 2:l_one 3:l_smaller 4:l_size 5:l_product 6:l_turn 7:l_found -/
noncomputable def m_l_counted : SM :=
  (mseq (massign (mcon (.int 2)) (aname 2))
   (mseq (mfor (mzip (mvar 0) (mslp 0 (mps (mcon (.int 1))) mpn)) (atup 2 (agcons (aname 3) (agcons (aname 4) agnil))) (mseq (massign (mcon (.int 1)) (aname 5))
   (mseq (mfor (mrng1 (op2b fdiv? 4 3)) (aname 6) (massign (op2b mul? 5 2) (aname 5)))
   (massign (op2l add? 5 (mcon (.int 1))) (aname 2)))))
   (mseq (massign (mcon (.int 1)) (aname 7))
   (mseq (mfor (mrng1 (mvar 1)) (aname 6) (massign (op2b mul? 7 2) (aname 7)))
   (mret (mvar 7))))))
noncomputable def f_l_counted : List PyData → FOut := bodyF 8 [.v, .v] m_l_counted

/-- law(_law_script); slots 0:l_script 1:l_k 2:l_pot_here 3:l_turn 4:l_links_here 5:l_many 6:l_found 7:l_ratio 8:l_longer_links 9:l_fewer -/
noncomputable def m_law : SM :=
  (mseq (mfor (mrng1 (op2 max2? (mcon (.int 1)) (op2 min2? (mcon (.int 3)) (mlenS 0)))) (aname 1) (mseq (mown (rtO (mcall f_l_pot [.scr 0, .v (mvar 1)])) 2)
   (mfor (mrng1 (mcon (.int 4))) (aname 3) (mseq (massign (rtV (mcall f_l_links [.lend 2, .v (mcon (.int 200))])) (aname 4))
   (mseq (massign (rtV (mcall f_l_take [.lend 2, .v (op2 min2? (mcon (.int 80)) (op2 fdiv? (mcon (.int 2000)) (op2l item? 4 (mneg (mcon (.int 1))))))])) (aname 5))
   (mseq (massign (rtV (mcall f_count_states [.v (mvar 4), .v (mvar 5)])) (aname 6))
   (mseq (mifS (mor (asB (op2 ne? (mc1p repr? 6) (mc1 repr? (rtV (mcall f_l_counted [.v (mvar 4), .v (mvar 5)]))))) (asB (op2 ne? (rtV (mcall f_count_states [.v (mvar 4), .v (mcon (.int 0))])) (mcon (.int 1))))) (mret (mcon (.bool false))) mnext)
   (mseq (mifS (asB (op2 ne? (rtV (mcall f_count_states [.v (mvar 4), .v (op2l add? 5 (mcon (.int 1)))])) (op2l mul? 6 (rtV (mcall f_count_states [.v (mvar 4), .v (mcon (.int 1))]))))) (mret (mcon (.bool false))) mnext)
   (mseq (massign (op2 add? (mcon (.int 2)) (rtV (mcall f_l_take [.lend 2, .v (mcon (.int 4))]))) (aname 7))
   (mseq (massign (op2l add? 4 (mtup (acons (op2r mul? (op2l item? 4 (mneg (mcon (.int 1)))) 7) anil))) (aname 8))
   (mseq (mifS (asB (op2 ne? (rtV (mcall f_count_states [.v (mvar 8), .v (mcon (.int 1))])) (op2 add? (rtV (mcall f_count_states [.v (mvar 4), .v (mvar 7)])) (mcon (.int 1))))) (mret (mcon (.bool false))) mnext)
   (mifS (asB (op2 gt? (mc1p len? 4) (mcon (.int 2)))) (mseq (massign (op2 add? (mslp 4 mpn (mps (mcon (.int 1)))) (mslp 4 (mps (mcon (.int 2))) mpn)) (aname 9))
   (mifS (asB (op2r gt? (rtV (mcall f_count_states [.v (mvar 9), .v (mvar 5)])) 6)) (mret (mcon (.bool false))) mnext)) mnext))))))))))))
   (mret (mcon (.bool true))))
noncomputable def f_law : List PyData → FOut := bodyF 10 [.s] m_law

end Lk09

namespace Lk09
open PySem PySem.Spec L2 PL
theorem take_ok {p : PyData} {u : Int} (hp : Pot p) (hu : 0 < u) (hu2 : u < 18446744073709551616) :
    ∃ d p', f_l_take [p, .int u] = .ok (.v (.int d)) [p'] ∧ Pot p' ∧ 0 ≤ d ∧ d < u := by
  obtain ⟨g, s, rfl, hg, hg2, hs, hs2⟩ := hp
  have h : TrF (f_l_take [.list [.int g, .int s], .int u]) (fun r o => ∃ d p', r = .v (.int d) ∧ o = [p'] ∧ Pot p' ∧ 0 ≤ d ∧ d < u) noxF := by
    unfold f_l_take m_l_take
    rw [trF_body]
    simp only [tr_bnd, tr_lft, tr_con, tr_op2, tr_op2r, tr_op2b, tr_asB, tr_trB, tr_trBp, tr_and, tr_or, tr_not, tr_if, tr_andV, tr_orV, tr_notV, tr_neg, tr_chain, tr_nil, tr_cons, tr_tup, tr_lst, tr_pn, tr_ps, tr_sl, tr_c1, tr_c1p, tr_seqI, tr_rng1, tr_rng2, tr_rng3, tr_zip, tr_enum, tr_rtV, tr_rtO, tr_aNil, tr_aV, tr_call, tr_callT, ts_next, ts_break, ts_cont, ts_seq, ts_ret, ts_retO, ts_retN, ts_expr, ts_assign, as_name, as_nil, as_cons, as_tup, ts_own, ts_if, ts_for, ts_store, varK_v, varK_o, rtd_v, rtd_o, rto_o, tu_var, tu_op2l, tu_slp, getO_o, getS_s, getX_v, tu_aL, tu_aS, tu_take, tu_aug, tu_append, tu_pop, tu_lenS, tu_ixS, outA, scrA, isOA, isSA, outS_o, scrS_s, isO_o, isS_s, lok_gen, lix_nil, lix_v, lix_l, lix_s, sok_nil, sok_v, sok_l, sok_s, at_0, at_1, getV_v, getV_o, getL_o, add_ii, sub_ii, mul_ii, fdiv_ii, mod_ii, pow_ii, neg_i, cmp_ii, addI_ii, mulI_ii, eq_ii, ne_ii, eq_ss, ne_ss, asB_b, truth_b, truth_i, truth_l, truth_t, truth_n, asI_i, item_l, item_t, len_l, len_t, abs_i, int_i, int_b, tuple_l, tuple_t, list_l, list_t, max2_ii, min2_ii, seq_l, seq_t, slice_l, slice_t, rng1_i, rng2_i, zip_l, zip_t, enum_l, add_tt, add_ll, add_ss, repr_i, atI_0, atI_1, atI_2, ixN_0, ixN_1, ixN_2, ite_some, map_some, ex_and, ex_eq, bind_some, List.set_cons_zero, List.set_cons_succ, List.length_cons, List.length_nil, Option.some.injEq, decide_eq_true_eq, Bool.not_true, Bool.not_false, Bool.and_eq_true, Bool.or_eq_true, fillA, wbA, entry, entrySls, entrySl, List.replicate, List.cons_append, List.nil_append, trF_ok, List.append_nil, List.map_nil, List.map_cons, ownIx, and_assoc, exists_and_left, exists_eq_left', exists_eq_left, Rt.v.injEq, Rt.o.injEq, List.cons.injEq, PyData.int.injEq, PyData.list.injEq, PyData.tuple.injEq, and_true, true_and, List.all_cons, List.all_nil, List.nodup_cons, List.nodup_nil, decide_true, decide_false, Bool.and_true, Bool.true_and, List.mem_cons, List.not_mem_nil, not_false_eq_true, Nat.sub_self, Nat.reduceSub, Nat.reduceAdd, if_true, if_false, Bool.false_eq_true, reduceCtorEq, false_and, and_false, or_false, false_or, and_self, Nat.zero_add, exists_eq', exists_eq, Sl.val.injEq, Sl.own.injEq, exists_const]
    have hp (s' : Int) (h1 : 0 ≤ s') (h2 : s' < 2305843009213693951) (g' : Int) (h3 : 0 ≤ g') (h4 : g' ≤ g) : Pot (.list [.int g', .int s']) := ⟨g', s', rfl, h3, by omega, h1, h2⟩
    split
    · exact ⟨hu, fdOk_s hu (by omega), hp _ hs hs2 _ (Int.ediv_nonneg hg (by omega)) (Int.ediv_le_self _ hg), Int.emod_nonneg _ (by omega), Int.emod_lt_of_pos _ hu⟩
    · have := Int.emod_nonneg (s * 1181783497276652981 + 12345678910987) (b := 2305843009213693951) (by decide)
      have := Int.emod_lt_of_pos (s * 1181783497276652981 + 12345678910987) (b := 2305843009213693951) (by decide)
      exact ⟨mulOk_r (by decide), by decide, fdOk_s (by decide) (by decide), by decide, mulOk_r (by omega), by decide, fdOk_s (by decide) (by decide), hu,
        hp _ (by assumption) (by assumption) _ hg (Int.le_refl _), Int.emod_nonneg _ (by omega), Int.emod_lt_of_pos _ hu⟩
  obtain ⟨r, o, e, d, p', rfl, rfl, h1, h2, h3⟩ := trF_ex h
  exact ⟨d, p', e, h1, h2, h3⟩
theorem of_ok {p : PyData} {xs : List PyData} (hp : Pot p) (h0 : 0 < xs.length) (h1 : xs.length < 1000) :
    ∃ d p', f_l_of [p, .list xs] = .ok (.v d) [p'] ∧ Pot p' ∧ d ∈ xs := by
  have h : TrF (f_l_of [p, .list xs]) (fun r o => ∃ d p', r = .v d ∧ o = [p'] ∧ Pot p' ∧ d ∈ xs) noxF := by
    unfold f_l_of m_l_of
    rw [trF_body]
    simp only [tr_bnd, tr_lft, tr_con, tr_op2, tr_op2r, tr_op2b, tr_asB, tr_trB, tr_trBp, tr_and, tr_or, tr_not, tr_if, tr_andV, tr_orV, tr_notV, tr_neg, tr_chain, tr_nil, tr_cons, tr_tup, tr_lst, tr_pn, tr_ps, tr_sl, tr_c1, tr_c1p, tr_seqI, tr_rng1, tr_rng2, tr_rng3, tr_zip, tr_enum, tr_rtV, tr_rtO, tr_aNil, tr_aV, tr_call, tr_callT, ts_next, ts_break, ts_cont, ts_seq, ts_ret, ts_retO, ts_retN, ts_expr, ts_assign, as_name, as_nil, as_cons, as_tup, ts_own, ts_if, ts_for, ts_store, varK_v, varK_o, rtd_v, rtd_o, rto_o, tu_var, tu_op2l, tu_slp, getO_o, getS_s, getX_v, tu_aL, tu_aS, tu_take, tu_aug, tu_append, tu_pop, tu_lenS, tu_ixS, outA, scrA, isOA, isSA, outS_o, scrS_s, isO_o, isS_s, lok_gen, lix_nil, lix_v, lix_l, lix_s, sok_nil, sok_v, sok_l, sok_s, at_0, at_1, getV_v, getV_o, getL_o, add_ii, sub_ii, mul_ii, fdiv_ii, mod_ii, pow_ii, neg_i, cmp_ii, addI_ii, mulI_ii, eq_ii, ne_ii, eq_ss, ne_ss, asB_b, truth_b, truth_i, truth_l, truth_t, truth_n, asI_i, item_l, item_t, len_l, len_t, abs_i, int_i, int_b, tuple_l, tuple_t, list_l, list_t, max2_ii, min2_ii, seq_l, seq_t, slice_l, slice_t, rng1_i, rng2_i, zip_l, zip_t, enum_l, add_tt, add_ll, add_ss, repr_i, atI_0, atI_1, atI_2, ixN_0, ixN_1, ixN_2, ite_some, map_some, ex_and, ex_eq, bind_some, List.set_cons_zero, List.set_cons_succ, List.length_cons, List.length_nil, Option.some.injEq, decide_eq_true_eq, Bool.not_true, Bool.not_false, Bool.and_eq_true, Bool.or_eq_true, fillA, wbA, entry, entrySls, entrySl, List.replicate, List.cons_append, List.nil_append, trF_ok, List.append_nil, List.map_nil, List.map_cons, ownIx, and_assoc, exists_and_left, exists_eq_left', exists_eq_left, Rt.v.injEq, Rt.o.injEq, List.cons.injEq, PyData.int.injEq, PyData.list.injEq, PyData.tuple.injEq, and_true, true_and, List.all_cons, List.all_nil, List.nodup_cons, List.nodup_nil, decide_true, decide_false, Bool.and_true, Bool.true_and, List.mem_cons, List.not_mem_nil, not_false_eq_true, Nat.sub_self, Nat.reduceSub, Nat.reduceAdd, if_true, if_false, Bool.false_eq_true, reduceCtorEq, false_and, and_false, or_false, false_or, and_self, Nat.zero_add, exists_eq', exists_eq, Sl.val.injEq, Sl.own.injEq, exists_const]
    obtain ⟨d, p', e, h2, h3, h4⟩ := take_ok (u := xs.length) hp (by omega) (by omega)
    have h5 : d.toNat < xs.length := by omega
    have e2 : atI xs d = some (xs[d.toNat]) := by
      have := atI_nat (xs := xs) (j := d.toNat) (v := xs[d.toNat]) (List.getElem?_eq_getElem h5)
      rwa [Int.toNat_of_nonneg h3] at this
    simp only [e, e2, tr_bnd, tr_lft, tr_con, tr_op2, tr_op2r, tr_op2b, tr_asB, tr_trB, tr_trBp, tr_and, tr_or, tr_not, tr_if, tr_andV, tr_orV, tr_notV, tr_neg, tr_chain, tr_nil, tr_cons, tr_tup, tr_lst, tr_pn, tr_ps, tr_sl, tr_c1, tr_c1p, tr_seqI, tr_rng1, tr_rng2, tr_rng3, tr_zip, tr_enum, tr_rtV, tr_rtO, tr_aNil, tr_aV, tr_call, tr_callT, ts_next, ts_break, ts_cont, ts_seq, ts_ret, ts_retO, ts_retN, ts_expr, ts_assign, as_name, as_nil, as_cons, as_tup, ts_own, ts_if, ts_for, ts_store, varK_v, varK_o, rtd_v, rtd_o, rto_o, tu_var, tu_op2l, tu_slp, getO_o, getS_s, getX_v, tu_aL, tu_aS, tu_take, tu_aug, tu_append, tu_pop, tu_lenS, tu_ixS, outA, scrA, isOA, isSA, outS_o, scrS_s, isO_o, isS_s, lok_gen, lix_nil, lix_v, lix_l, lix_s, sok_nil, sok_v, sok_l, sok_s, at_0, at_1, getV_v, getV_o, getL_o, add_ii, sub_ii, mul_ii, fdiv_ii, mod_ii, pow_ii, neg_i, cmp_ii, addI_ii, mulI_ii, eq_ii, ne_ii, eq_ss, ne_ss, asB_b, truth_b, truth_i, truth_l, truth_t, truth_n, asI_i, item_l, item_t, len_l, len_t, abs_i, int_i, int_b, tuple_l, tuple_t, list_l, list_t, max2_ii, min2_ii, seq_l, seq_t, slice_l, slice_t, rng1_i, rng2_i, zip_l, zip_t, enum_l, add_tt, add_ll, add_ss, repr_i, atI_0, atI_1, atI_2, ixN_0, ixN_1, ixN_2, ite_some, map_some, ex_and, ex_eq, bind_some, List.set_cons_zero, List.set_cons_succ, List.length_cons, List.length_nil, Option.some.injEq, decide_eq_true_eq, Bool.not_true, Bool.not_false, Bool.and_eq_true, Bool.or_eq_true, fillA, wbA, entry, entrySls, entrySl, List.replicate, List.cons_append, List.nil_append, trF_ok, List.append_nil, List.map_nil, List.map_cons, ownIx, and_assoc, exists_and_left, exists_eq_left', exists_eq_left, Rt.v.injEq, Rt.o.injEq, List.cons.injEq, PyData.int.injEq, PyData.list.injEq, PyData.tuple.injEq, and_true, true_and, List.all_cons, List.all_nil, List.nodup_cons, List.nodup_nil, decide_true, decide_false, Bool.and_true, Bool.true_and, List.mem_cons, List.not_mem_nil, not_false_eq_true, Nat.sub_self, Nat.reduceSub, Nat.reduceAdd, if_true, if_false, Bool.false_eq_true, reduceCtorEq, false_and, and_false, or_false, false_or, and_self, Nat.zero_add, exists_eq', exists_eq, Sl.val.injEq, Sl.own.injEq, exists_const]
    exact ⟨h2, List.getElem_mem h5⟩
  obtain ⟨r, o, e, d, p', rfl, rfl, h1, h2⟩ := trF_ex h
  exact ⟨d, p', e, h1, h2⟩
theorem pot_ok {ns : List Int} {k : Int} (h0 : 0 ≤ k) (h1 : k < 1000) (hn : ns.length ≤ 63) :
    ∃ p, f_l_pot [.list (ns.map PyData.int), .int k] = .ok (.o p) [] ∧ Pot p := by
  have h : TrF (f_l_pot [.list (ns.map PyData.int), .int k]) (fun r o => ∃ p, r = .o p ∧ o = [] ∧ Pot p) noxF := by
    unfold f_l_pot m_l_pot
    rw [trF_body]
    simp only [tr_bnd, tr_lft, tr_con, tr_op2, tr_op2r, tr_op2b, tr_asB, tr_trB, tr_trBp, tr_and, tr_or, tr_not, tr_if, tr_andV, tr_orV, tr_notV, tr_neg, tr_chain, tr_nil, tr_cons, tr_tup, tr_lst, tr_pn, tr_ps, tr_sl, tr_c1, tr_c1p, tr_seqI, tr_rng1, tr_rng2, tr_rng3, tr_zip, tr_enum, tr_rtV, tr_rtO, tr_aNil, tr_aV, tr_call, tr_callT, ts_next, ts_break, ts_cont, ts_seq, ts_ret, ts_retO, ts_retN, ts_expr, ts_assign, as_name, as_nil, as_cons, as_tup, ts_own, ts_if, ts_for, ts_store, varK_v, varK_o, rtd_v, rtd_o, rto_o, tu_var, tu_op2l, tu_slp, getO_o, getS_s, getX_v, tu_aL, tu_aS, tu_take, tu_aug, tu_append, tu_pop, tu_lenS, tu_ixS, outA, scrA, isOA, isSA, outS_o, scrS_s, isO_o, isS_s, lok_gen, lix_nil, lix_v, lix_l, lix_s, sok_nil, sok_v, sok_l, sok_s, at_0, at_1, getV_v, getV_o, getL_o, add_ii, sub_ii, mul_ii, fdiv_ii, mod_ii, pow_ii, neg_i, cmp_ii, addI_ii, mulI_ii, eq_ii, ne_ii, eq_ss, ne_ss, asB_b, truth_b, truth_i, truth_l, truth_t, truth_n, asI_i, item_l, item_t, len_l, len_t, abs_i, int_i, int_b, tuple_l, tuple_t, list_l, list_t, max2_ii, min2_ii, seq_l, seq_t, slice_l, slice_t, rng1_i, rng2_i, zip_l, zip_t, enum_l, add_tt, add_ll, add_ss, repr_i, atI_0, atI_1, atI_2, ixN_0, ixN_1, ixN_2, ite_some, map_some, ex_and, ex_eq, bind_some, List.set_cons_zero, List.set_cons_succ, List.length_cons, List.length_nil, Option.some.injEq, decide_eq_true_eq, Bool.not_true, Bool.not_false, Bool.and_eq_true, Bool.or_eq_true, fillA, wbA, entry, entrySls, entrySl, List.replicate, List.cons_append, List.nil_append, trF_ok, List.append_nil, List.map_nil, List.map_cons, ownIx, and_assoc, exists_and_left, exists_eq_left', exists_eq_left, Rt.v.injEq, Rt.o.injEq, List.cons.injEq, PyData.int.injEq, PyData.list.injEq, PyData.tuple.injEq, and_true, true_and, List.all_cons, List.all_nil, List.nodup_cons, List.nodup_nil, decide_true, decide_false, Bool.and_true, Bool.true_and, List.mem_cons, List.not_mem_nil, not_false_eq_true, Nat.sub_self, Nat.reduceSub, Nat.reduceAdd, if_true, if_false, Bool.false_eq_true, reduceCtorEq, false_and, and_false, or_false, false_or, and_self, Nat.zero_add, exists_eq', exists_eq, Sl.val.injEq, Sl.own.injEq, exists_const, z900, o900, int_ten, scr_ints, pow18]
    have h2 := G900_pos
    have hk : (7919 * k).natAbs < 2 ^ 64 := by omega
    split
    · rename_i hlt
      have e2 : atI ns k = some (ns[k.toNat]'(by omega)) := by
        have := atI_nat (xs := ns) (j := k.toNat) (v := ns[k.toNat]'(by omega)) (List.getElem?_eq_getElem (by omega))
        rwa [Int.toNat_of_nonneg h0] at this
      simp only [e2, tr_bnd, tr_lft, tr_con, tr_op2, tr_op2r, tr_op2b, tr_asB, tr_trB, tr_trBp, tr_and, tr_or, tr_not, tr_if, tr_andV, tr_orV, tr_notV, tr_neg, tr_chain, tr_nil, tr_cons, tr_tup, tr_lst, tr_pn, tr_ps, tr_sl, tr_c1, tr_c1p, tr_seqI, tr_rng1, tr_rng2, tr_rng3, tr_zip, tr_enum, tr_rtV, tr_rtO, tr_aNil, tr_aV, tr_call, tr_callT, ts_next, ts_break, ts_cont, ts_seq, ts_ret, ts_retO, ts_retN, ts_expr, ts_assign, as_name, as_nil, as_cons, as_tup, ts_own, ts_if, ts_for, ts_store, varK_v, varK_o, rtd_v, rtd_o, rto_o, tu_var, tu_op2l, tu_slp, getO_o, getS_s, getX_v, tu_aL, tu_aS, tu_take, tu_aug, tu_append, tu_pop, tu_lenS, tu_ixS, outA, scrA, isOA, isSA, outS_o, scrS_s, isO_o, isS_s, lok_gen, lix_nil, lix_v, lix_l, lix_s, sok_nil, sok_v, sok_l, sok_s, at_0, at_1, getV_v, getV_o, getL_o, add_ii, sub_ii, mul_ii, fdiv_ii, mod_ii, pow_ii, neg_i, cmp_ii, addI_ii, mulI_ii, eq_ii, ne_ii, eq_ss, ne_ss, asB_b, truth_b, truth_i, truth_l, truth_t, truth_n, asI_i, item_l, item_t, len_l, len_t, abs_i, int_i, int_b, tuple_l, tuple_t, list_l, list_t, max2_ii, min2_ii, seq_l, seq_t, slice_l, slice_t, rng1_i, rng2_i, zip_l, zip_t, enum_l, add_tt, add_ll, add_ss, repr_i, atI_0, atI_1, atI_2, ixN_0, ixN_1, ixN_2, ite_some, map_some, ex_and, ex_eq, bind_some, List.set_cons_zero, List.set_cons_succ, List.length_cons, List.length_nil, Option.some.injEq, decide_eq_true_eq, Bool.not_true, Bool.not_false, Bool.and_eq_true, Bool.or_eq_true, fillA, wbA, entry, entrySls, entrySl, List.replicate, List.cons_append, List.nil_append, trF_ok, List.append_nil, List.map_nil, List.map_cons, ownIx, and_assoc, exists_and_left, exists_eq_left', exists_eq_left, Rt.v.injEq, Rt.o.injEq, List.cons.injEq, PyData.int.injEq, PyData.list.injEq, PyData.tuple.injEq, and_true, true_and, List.all_cons, List.all_nil, List.nodup_cons, List.nodup_nil, decide_true, decide_false, Bool.and_true, Bool.true_and, List.mem_cons, List.not_mem_nil, not_false_eq_true, Nat.sub_self, Nat.reduceSub, Nat.reduceAdd, if_true, if_false, Bool.false_eq_true, reduceCtorEq, false_and, and_false, or_false, false_or, and_self, Nat.zero_add, exists_eq', exists_eq, Sl.val.injEq, Sl.own.injEq, exists_const]
      and_intros
      all_goals first | exact pot_mk (k := 0) | exact len1900 | exact mulOk_l hk | (first | assumption | decide | omega | exact mulOk_if | exact mulOk_l (by first | decide | omega) | exact mulOk_r (by first | decide | omega) | exact fdOk_s (by first | decide | omega) (by first | decide | omega) | exact lenOk_of (by first | decide | omega) | exact rOk_of (by first | decide | omega) (by first | decide | omega))
    · and_intros
      all_goals first | exact pot_mk (k := 0) | exact len1900 | exact mulOk_l hk | (first | assumption | decide | omega | exact mulOk_if | exact mulOk_l (by first | decide | omega) | exact mulOk_r (by first | decide | omega) | exact fdOk_s (by first | decide | omega) (by first | decide | omega) | exact lenOk_of (by first | decide | omega) | exact rOk_of (by first | decide | omega) (by first | decide | omega))
  obtain ⟨r, o, e, p, rfl, rfl, h1⟩ := trF_ex h
  exact ⟨p, e, h1⟩
end Lk09

/-! the counts of states, in plain numbers -/
namespace Lk09
open PySem PySem.Spec L2 PL
/-- a chain from its first size by ratios -/
def chainOf (a : Int) : List Nat → List Int
  | [] => [a]
  | q :: qs => a :: chainOf (a * q) qs
def cntQ (m : Nat) : List Nat → Nat
  | [] => m
  | q :: qs => cntQ (1 + m ^ q) qs
def prodQ (qs : List Nat) : Nat := qs.foldr (· * ·) 1
theorem chainOf_len (a : Int) (qs : List Nat) : (chainOf a qs).length = qs.length + 1 := by
  induction qs generalizing a with
  | nil => rfl
  | cons q qs ih => simp [chainOf, ih]
theorem chainOf_snoc (a : Int) (qs : List Nat) (q : Nat) : chainOf a (qs ++ [q]) = chainOf a qs ++ [a * prodQ qs * q] := by
  induction qs generalizing a with
  | nil => simp [chainOf, prodQ]
  | cons p qs ih => simp [chainOf, ih, prodQ, Int.mul_assoc]
theorem chainOf_last (a : Int) (qs : List Nat) (h : chainOf a qs ≠ []) : (chainOf a qs).getLast h = a * prodQ qs := by
  induction qs generalizing a with
  | nil => simp [chainOf, prodQ]
  | cons q qs ih =>
    have h2 : chainOf (a * q) qs ≠ [] := by cases qs <;> simp [chainOf]
    simp only [chainOf]
    rw [List.getLast_cons h2, ih]
    simp [prodQ, Int.mul_assoc]
theorem chainOf_ne (a : Int) (qs : List Nat) : chainOf a qs ≠ [] := by cases qs <;> simp [chainOf]
theorem atI_lst {α : Type} {xs : List α} (h : xs ≠ []) : atI xs (-1) = some (xs.getLast h) := by
  have := atI_last xs.dropLast (xs.getLast h)
  rwa [List.dropLast_concat_getLast] at this
theorem chain_last {a : Int} {qs : List Nat} : atI ((chainOf a qs).map PyData.int) (-1) = some (.int (a * prodQ qs)) := by
  rw [atI_lst (by simpa using chainOf_ne a qs), List.getLast_map, chainOf_last]
theorem prodQ_snoc (qs : List Nat) (q : Nat) : prodQ (qs ++ [q]) = prodQ qs * q := by
  induction qs with
  | nil => simp [prodQ]
  | cons p qs ih => unfold prodQ at *; simp [ih, Nat.mul_assoc]
theorem prodQ_pos {qs : List Nat} (h : ∀ q ∈ qs, 2 ≤ q) : 0 < prodQ qs := by
  induction qs with
  | nil => simp [prodQ]
  | cons p qs ih =>
    have h1 := h p (by simp)
    have h2 := ih fun q z => h q (List.mem_cons_of_mem _ z)
    exact Nat.mul_pos (by omega) h2
theorem cntQ_snoc (m : Nat) (qs : List Nat) (q : Nat) : cntQ m (qs ++ [q]) = 1 + cntQ m qs ^ q := by
  induction qs generalizing m with
  | nil => rfl
  | cons p qs ih => exact ih _
theorem cntQ_mono {m n : Nat} (h : m ≤ n) (qs : List Nat) : cntQ m qs ≤ cntQ n qs := by
  induction qs generalizing m n with
  | nil => exact h
  | cons p qs ih => exact ih (Nat.add_le_add_left (Nat.pow_le_pow_left h p) 1)
theorem pow_succ_ge (m q : Nat) (h : 1 ≤ m) (hq : 2 ≤ q) : m ^ q + 2 ≤ (m + 1) ^ q := by
  induction q with
  | zero => omega
  | succ n ih =>
    by_cases hn : 2 ≤ n
    · have := ih hn
      rw [Nat.pow_succ, Nat.pow_succ, Nat.mul_add, Nat.mul_one]
      have h2 : m ^ n * m ≤ (m + 1) ^ n * m := Nat.mul_le_mul_right _ (by omega)
      have h3 : 2 ≤ (m + 1) ^ n := by omega
      omega
    · have : n = 1 := by omega
      subst this
      simp [Nat.pow_succ, Nat.mul_add, Nat.add_mul]
      omega
/-- a count is below four to the words -/
theorem cntQ_lt {m s : Nat} {qs : List Nat} (h : ∀ q ∈ qs, 2 ≤ q) (h1 : 1 ≤ m) (hm : m + 1 ≤ 4 ^ s) : cntQ m qs + 1 ≤ 4 ^ (s * prodQ qs) := by
  induction qs generalizing m s with
  | nil => simpa [cntQ, prodQ] using hm
  | cons q qs ih =>
    have hq := h q (by simp)
    have := ih (m := 1 + m ^ q) (s := s * q) (fun q z => h q (List.mem_cons_of_mem _ z)) (by omega) (by
      have h2 := pow_succ_ge m q h1 hq
      have h3 : (m + 1) ^ q ≤ (4 ^ s) ^ q := Nat.pow_le_pow_left hm q
      rw [Nat.pow_mul]
      omega)
    simpa [cntQ, prodQ, Nat.mul_assoc] using this
theorem cntQ_bound {qs : List Nat} (h : ∀ q ∈ qs, 2 ≤ q) : cntQ 2 qs < 2 ^ (2 * prodQ qs) := by
  have := cntQ_lt (m := 2) (s := 1) h (by decide) (by decide)
  rw [Nat.one_mul] at this
  rw [Nat.pow_mul]
  exact this
/-- a size more at the second place -/
theorem cntQ_fewer (p q : Nat) (qs : List Nat) : cntQ 2 (p * q :: qs) ≤ cntQ 2 (p :: q :: qs) := by
  refine cntQ_mono ?_ qs
  refine Nat.add_le_add_left ?_ 1
  rw [Nat.pow_mul]
  exact Nat.pow_le_pow_left (by omega) q
theorem chain_zip (a : Int) (qs : List Nat) (ha : 0 < a) (h : ∀ q ∈ qs, 2 ≤ q) {i : Nat} {d : PyData} (hd : (zipP ((chainOf a qs).map PyData.int) (((chainOf a qs).map PyData.int).drop 1))[i]? = some d) :
    ∃ s q, qs[i]? = some q ∧ 0 < s ∧ s ≤ a * prodQ qs ∧ d = .tuple [.int s, .int (s * (q : Nat))] := by
  induction qs generalizing a i with
  | nil => simp [chainOf, zipP] at hd
  | cons q qs ih =>
    have hq := h q (by simp)
    have e : chainOf a (q :: qs) = a :: chainOf (a * q) qs := rfl
    cases i with
    | zero =>
      have hpp : 0 < prodQ (q :: qs) := prodQ_pos h
      refine ⟨a, q, rfl, ha, (by
        have := Int.mul_le_mul_of_nonneg_left (a := 1) (b := (prodQ (q :: qs) : Int)) (c := a) (by omega) (by omega)
        omega), ?_⟩
      cases qs <;> simp [chainOf, zipP] at hd <;> exact hd.symm
    | succ i =>
      have hp : 0 < a * (q : Int) := Int.mul_pos ha (by omega)
      obtain ⟨s, q', e1, e2, e4, e3⟩ := ih (a * q) hp (fun q z => h q (List.mem_cons_of_mem _ z)) (i := i) (by
        rw [e] at hd
        simp only [List.map_cons, List.drop_succ_cons, List.drop_zero] at hd
        unfold zipP at *
        cases hc : chainOf (a * q) qs with
        | nil => exact absurd hc (chainOf_ne _ _)
        | cons b r => rw [hc] at hd; simpa using hd)
      exact ⟨s, q', by simpa using e1, e2, by unfold prodQ at *; simpa [Int.mul_assoc] using e4, e3⟩
theorem chain_zip_len (a : Int) (qs : List Nat) : (zipP ((chainOf a qs).map PyData.int) (((chainOf a qs).map PyData.int).drop 1)).length = qs.length := by
  unfold zipP
  simp [chainOf_len]
theorem cut_1n {α : Type} (xs : List α) : cut xs (some 1) none = xs.drop 1 := by
  unfold cut
  cases xs with
  | nil => rfl
  | cons x xs =>
    have e1 : HT.sIx (x :: xs).length 0 (some 1) = 1 := by
      show (if (1 : Int) < 0 then ((1 : Int) + ((x :: xs).length : Int)).toNat else min (1 : Int).toNat (x :: xs).length) = 1
      rw [if_neg (by decide)]; simp
    have e2 : HT.sIx (x :: xs).length (x :: xs).length none = (x :: xs).length := rfl
    rw [e1, e2]
    simp
end Lk09

namespace Lk09
open PySem PySem.Spec L2 PL
theorem power_ok {b e : Int} {n : Nat} (hb : b.natAbs < 2 ^ n) (hn : 0 < n) (he : e.toNat * n ≤ 900000) (hn2 : n ≤ 90000) (h1 : -(2 ^ 62) ≤ e) (h2 : e < 2 ^ 62) :
    f_power [.int b, .int e] = .ok (.v (.int (b ^ e.toNat))) [] := by
  apply trF_eq
  unfold f_power m_power
  rw [trF_body]
  simp only [tr_bnd, tr_lft, tr_con, tr_op2, tr_op2r, tr_op2b, tr_asB, tr_trB, tr_trBp, tr_and, tr_or, tr_not, tr_if, tr_andV, tr_orV, tr_notV, tr_neg, tr_chain, tr_nil, tr_cons, tr_tup, tr_lst, tr_pn, tr_ps, tr_sl, tr_c1, tr_c1p, tr_seqI, tr_rng1, tr_rng2, tr_rng3, tr_zip, tr_enum, tr_rtV, tr_rtO, tr_aNil, tr_aV, tr_call, tr_callT, ts_next, ts_break, ts_cont, ts_seq, ts_ret, ts_retO, ts_retN, ts_expr, ts_assign, as_name, as_nil, as_cons, as_tup, ts_own, ts_if, ts_for, ts_store, varK_v, varK_o, rtd_v, rtd_o, rto_o, tu_var, tu_op2l, tu_slp, getO_o, getS_s, getX_v, tu_aL, tu_aS, tu_take, tu_aug, tu_append, tu_pop, tu_lenS, tu_ixS, outA, scrA, isOA, isSA, outS_o, scrS_s, isO_o, isS_s, lok_gen, lix_nil, lix_v, lix_l, lix_s, sok_nil, sok_v, sok_l, sok_s, at_0, at_1, getV_v, getV_o, getL_o, add_ii, sub_ii, mul_ii, fdiv_ii, mod_ii, pow_ii, neg_i, cmp_ii, addI_ii, mulI_ii, eq_ii, ne_ii, eq_ss, ne_ss, asB_b, truth_b, truth_i, truth_l, truth_t, truth_n, asI_i, item_l, item_t, len_l, len_t, abs_i, int_i, int_b, tuple_l, tuple_t, list_l, list_t, max2_ii, min2_ii, seq_l, seq_t, slice_l, slice_t, rng1_i, rng2_i, zip_l, zip_t, enum_l, add_tt, add_ll, add_ss, repr_i, atI_0, atI_1, atI_2, ixN_0, ixN_1, ixN_2, ite_some, map_some, ex_and, ex_eq, bind_some, List.set_cons_zero, List.set_cons_succ, List.length_cons, List.length_nil, Option.some.injEq, decide_eq_true_eq, Bool.not_true, Bool.not_false, Bool.and_eq_true, Bool.or_eq_true, fillA, wbA, entry, entrySls, entrySl, List.replicate, List.cons_append, List.nil_append, trF_ok, List.append_nil, List.map_nil, List.map_cons, ownIx, and_assoc, exists_and_left, exists_eq_left', exists_eq_left, Rt.v.injEq, Rt.o.injEq, List.cons.injEq, PyData.int.injEq, PyData.list.injEq, PyData.tuple.injEq, and_true, true_and, List.all_cons, List.all_nil, List.nodup_cons, List.nodup_nil, decide_true, decide_false, Bool.and_true, Bool.true_and, List.mem_cons, List.not_mem_nil, not_false_eq_true, Nat.sub_self, Nat.reduceSub, Nat.reduceAdd, if_true, if_false, Bool.false_eq_true, reduceCtorEq, false_and, and_false, or_false, false_or, and_self, Nat.zero_add, exists_eq', exists_eq, Sl.val.injEq, Sl.own.injEq, exists_const]
  refine ⟨rOk_of h1 h2, ts_range (fun i r => ∃ x, r = [.val (.int b), .val (.int e), .val (.int (b ^ i)), x]) ⟨.emp, by rw [Int.pow_zero]⟩ (fun i r hi h => ?_) (fun r h => ?_)⟩
  · obtain ⟨x, rfl⟩ := h
    simp only [tr_bnd, tr_lft, tr_con, tr_op2, tr_op2r, tr_op2b, tr_asB, tr_trB, tr_trBp, tr_and, tr_or, tr_not, tr_if, tr_andV, tr_orV, tr_notV, tr_neg, tr_chain, tr_nil, tr_cons, tr_tup, tr_lst, tr_pn, tr_ps, tr_sl, tr_c1, tr_c1p, tr_seqI, tr_rng1, tr_rng2, tr_rng3, tr_zip, tr_enum, tr_rtV, tr_rtO, tr_aNil, tr_aV, tr_call, tr_callT, ts_next, ts_break, ts_cont, ts_seq, ts_ret, ts_retO, ts_retN, ts_expr, ts_assign, as_name, as_nil, as_cons, as_tup, ts_own, ts_if, ts_for, ts_store, varK_v, varK_o, rtd_v, rtd_o, rto_o, tu_var, tu_op2l, tu_slp, getO_o, getS_s, getX_v, tu_aL, tu_aS, tu_take, tu_aug, tu_append, tu_pop, tu_lenS, tu_ixS, outA, scrA, isOA, isSA, outS_o, scrS_s, isO_o, isS_s, lok_gen, lix_nil, lix_v, lix_l, lix_s, sok_nil, sok_v, sok_l, sok_s, at_0, at_1, getV_v, getV_o, getL_o, add_ii, sub_ii, mul_ii, fdiv_ii, mod_ii, pow_ii, neg_i, cmp_ii, addI_ii, mulI_ii, eq_ii, ne_ii, eq_ss, ne_ss, asB_b, truth_b, truth_i, truth_l, truth_t, truth_n, asI_i, item_l, item_t, len_l, len_t, abs_i, int_i, int_b, tuple_l, tuple_t, list_l, list_t, max2_ii, min2_ii, seq_l, seq_t, slice_l, slice_t, rng1_i, rng2_i, zip_l, zip_t, enum_l, add_tt, add_ll, add_ss, repr_i, atI_0, atI_1, atI_2, ixN_0, ixN_1, ixN_2, ite_some, map_some, ex_and, ex_eq, bind_some, List.set_cons_zero, List.set_cons_succ, List.length_cons, List.length_nil, Option.some.injEq, decide_eq_true_eq, Bool.not_true, Bool.not_false, Bool.and_eq_true, Bool.or_eq_true, fillA, wbA, entry, entrySls, entrySl, List.replicate, List.cons_append, List.nil_append, trF_ok, List.append_nil, List.map_nil, List.map_cons, ownIx, and_assoc, exists_and_left, exists_eq_left', exists_eq_left, Rt.v.injEq, Rt.o.injEq, List.cons.injEq, PyData.int.injEq, PyData.list.injEq, PyData.tuple.injEq, and_true, true_and, List.all_cons, List.all_nil, List.nodup_cons, List.nodup_nil, decide_true, decide_false, Bool.and_true, Bool.true_and, List.mem_cons, List.not_mem_nil, not_false_eq_true, Nat.sub_self, Nat.reduceSub, Nat.reduceAdd, if_true, if_false, Bool.false_eq_true, reduceCtorEq, false_and, and_false, or_false, false_or, and_self, Nat.zero_add, exists_eq', exists_eq, Sl.val.injEq, Sl.own.injEq, exists_const]
    refine ⟨?_, by rw [Int.pow_succ]⟩
    refine mulOk_log (n := i * n + 1) (m := n) ?_ hb (by omega) hn ?_
    · rw [Int.natAbs_pow]
      have h3 : b.natAbs ^ i ≤ (2 ^ n) ^ i := Nat.pow_le_pow_left (Nat.le_of_lt hb) i
      rw [← Nat.pow_mul] at h3
      rw [Nat.pow_succ, Nat.mul_comm i n]
      have h4 : 0 < 2 ^ (n * i) := Nat.pow_pos (by decide)
      omega
    · have : i * n ≤ e.toNat * n := Nat.mul_le_mul_right n (Nat.le_of_lt hi)
      omega
  · obtain ⟨x, rfl⟩ := h
    simp only [tr_bnd, tr_lft, tr_con, tr_op2, tr_op2r, tr_op2b, tr_asB, tr_trB, tr_trBp, tr_and, tr_or, tr_not, tr_if, tr_andV, tr_orV, tr_notV, tr_neg, tr_chain, tr_nil, tr_cons, tr_tup, tr_lst, tr_pn, tr_ps, tr_sl, tr_c1, tr_c1p, tr_seqI, tr_rng1, tr_rng2, tr_rng3, tr_zip, tr_enum, tr_rtV, tr_rtO, tr_aNil, tr_aV, tr_call, tr_callT, ts_next, ts_break, ts_cont, ts_seq, ts_ret, ts_retO, ts_retN, ts_expr, ts_assign, as_name, as_nil, as_cons, as_tup, ts_own, ts_if, ts_for, ts_store, varK_v, varK_o, rtd_v, rtd_o, rto_o, tu_var, tu_op2l, tu_slp, getO_o, getS_s, getX_v, tu_aL, tu_aS, tu_take, tu_aug, tu_append, tu_pop, tu_lenS, tu_ixS, outA, scrA, isOA, isSA, outS_o, scrS_s, isO_o, isS_s, lok_gen, lix_nil, lix_v, lix_l, lix_s, sok_nil, sok_v, sok_l, sok_s, at_0, at_1, getV_v, getV_o, getL_o, add_ii, sub_ii, mul_ii, fdiv_ii, mod_ii, pow_ii, neg_i, cmp_ii, addI_ii, mulI_ii, eq_ii, ne_ii, eq_ss, ne_ss, asB_b, truth_b, truth_i, truth_l, truth_t, truth_n, asI_i, item_l, item_t, len_l, len_t, abs_i, int_i, int_b, tuple_l, tuple_t, list_l, list_t, max2_ii, min2_ii, seq_l, seq_t, slice_l, slice_t, rng1_i, rng2_i, zip_l, zip_t, enum_l, add_tt, add_ll, add_ss, repr_i, atI_0, atI_1, atI_2, ixN_0, ixN_1, ixN_2, ite_some, map_some, ex_and, ex_eq, bind_some, List.set_cons_zero, List.set_cons_succ, List.length_cons, List.length_nil, Option.some.injEq, decide_eq_true_eq, Bool.not_true, Bool.not_false, Bool.and_eq_true, Bool.or_eq_true, fillA, wbA, entry, entrySls, entrySl, List.replicate, List.cons_append, List.nil_append, trF_ok, List.append_nil, List.map_nil, List.map_cons, ownIx, and_assoc, exists_and_left, exists_eq_left', exists_eq_left, Rt.v.injEq, Rt.o.injEq, List.cons.injEq, PyData.int.injEq, PyData.list.injEq, PyData.tuple.injEq, and_true, true_and, List.all_cons, List.all_nil, List.nodup_cons, List.nodup_nil, decide_true, decide_false, Bool.and_true, Bool.true_and, List.mem_cons, List.not_mem_nil, not_false_eq_true, Nat.sub_self, Nat.reduceSub, Nat.reduceAdd, if_true, if_false, Bool.false_eq_true, reduceCtorEq, false_and, and_false, or_false, false_or, and_self, Nat.zero_add, exists_eq', exists_eq, Sl.val.injEq, Sl.own.injEq, exists_const]
theorem cut_map {xs : List Int} : cut (xs.map PyData.int) (some 1) none = (xs.map PyData.int).drop 1 := cut_1n _
theorem prod_mem {qs : List Nat} (h : ∀ q ∈ qs, 2 ≤ q) {i q : Nat} (hi : qs[i]? = some q) : q * prodQ (qs.take i) ≤ prodQ qs := by
  have e := List.take_append_drop i qs
  have e2 : qs.drop i = q :: qs.drop (i + 1) := by
    rw [List.drop_eq_getElem_cons (List.getElem?_eq_some_iff.mp hi).1]
    rw [(List.getElem?_eq_some_iff.mp hi).2]
  have e3 : prodQ qs = prodQ (qs.take i) * prodQ (qs.drop i) := by
    conv => lhs; rw [← e]
    generalize qs.take i = l
    induction l with
    | nil => simp [prodQ]
    | cons p l ih => unfold prodQ at *; simp [ih, Nat.mul_assoc]
  rw [e3, e2]
  have h2 : 0 < prodQ (qs.drop (i + 1)) := prodQ_pos fun q z => h q (List.mem_of_mem_drop z)
  show q * prodQ (qs.take i) ≤ prodQ (qs.take i) * (q * prodQ (qs.drop (i + 1)))
  rw [Nat.mul_comm q, ← Nat.mul_assoc]
  exact Nat.le_mul_of_pos_right _ h2
theorem take_cnt {qs : List Nat} {i q : Nat} (hi : qs[i]? = some q) : cntQ 2 (qs.take (i + 1)) = 1 + cntQ 2 (qs.take i) ^ q := by
  rw [List.take_succ, hi]
  exact cntQ_snoc 2 _ q
theorem count_ok {qs : List Nat} {e : Int} (h : ∀ q ∈ qs, 2 ≤ q) (h0 : 0 ≤ e) (he : prodQ qs * e.toNat ≤ 100000) (h2 : e ≤ 100000) (h3 : prodQ qs ≤ 40000) :
    f_count_states [.tuple ((chainOf 1 qs).map PyData.int), .int e] = .ok (.v (.int ((cntQ 2 qs : Nat) ^ e.toNat : Int))) [] := by
  apply trF_eq
  unfold f_count_states m_count_states
  rw [trF_body]
  simp only [tr_bnd, tr_lft, tr_con, tr_op2, tr_op2r, tr_op2b, tr_asB, tr_trB, tr_trBp, tr_and, tr_or, tr_not, tr_if, tr_andV, tr_orV, tr_notV, tr_neg, tr_chain, tr_nil, tr_cons, tr_tup, tr_lst, tr_pn, tr_ps, tr_sl, tr_c1, tr_c1p, tr_seqI, tr_rng1, tr_rng2, tr_rng3, tr_zip, tr_enum, tr_rtV, tr_rtO, tr_aNil, tr_aV, tr_call, tr_callT, ts_next, ts_break, ts_cont, ts_seq, ts_ret, ts_retO, ts_retN, ts_expr, ts_assign, as_name, as_nil, as_cons, as_tup, ts_own, ts_if, ts_for, ts_store, varK_v, varK_o, rtd_v, rtd_o, rto_o, tu_var, tu_op2l, tu_slp, getO_o, getS_s, getX_v, tu_aL, tu_aS, tu_take, tu_aug, tu_append, tu_pop, tu_lenS, tu_ixS, outA, scrA, isOA, isSA, outS_o, scrS_s, isO_o, isS_s, lok_gen, lix_nil, lix_v, lix_l, lix_s, sok_nil, sok_v, sok_l, sok_s, at_0, at_1, getV_v, getV_o, getL_o, add_ii, sub_ii, mul_ii, fdiv_ii, mod_ii, pow_ii, neg_i, cmp_ii, addI_ii, mulI_ii, eq_ii, ne_ii, eq_ss, ne_ss, asB_b, truth_b, truth_i, truth_l, truth_t, truth_n, asI_i, item_l, item_t, len_l, len_t, abs_i, int_i, int_b, tuple_l, tuple_t, list_l, list_t, max2_ii, min2_ii, seq_l, seq_t, slice_l, slice_t, rng1_i, rng2_i, zip_l, zip_t, enum_l, add_tt, add_ll, add_ss, repr_i, atI_0, atI_1, atI_2, ixN_0, ixN_1, ixN_2, ite_some, map_some, ex_and, ex_eq, bind_some, List.set_cons_zero, List.set_cons_succ, List.length_cons, List.length_nil, Option.some.injEq, decide_eq_true_eq, Bool.not_true, Bool.not_false, Bool.and_eq_true, Bool.or_eq_true, fillA, wbA, entry, entrySls, entrySl, List.replicate, List.cons_append, List.nil_append, trF_ok, List.append_nil, List.map_nil, List.map_cons, ownIx, and_assoc, exists_and_left, exists_eq_left', exists_eq_left, Rt.v.injEq, Rt.o.injEq, List.cons.injEq, PyData.int.injEq, PyData.list.injEq, PyData.tuple.injEq, and_true, true_and, List.all_cons, List.all_nil, List.nodup_cons, List.nodup_nil, decide_true, decide_false, Bool.and_true, Bool.true_and, List.mem_cons, List.not_mem_nil, not_false_eq_true, Nat.sub_self, Nat.reduceSub, Nat.reduceAdd, if_true, if_false, Bool.false_eq_true, reduceCtorEq, false_and, and_false, or_false, false_or, and_self, Nat.zero_add, exists_eq', exists_eq, Sl.val.injEq, Sl.own.injEq, exists_const, cut_map]
  refine ts_forL (fun i r => ∃ x y, r = [.val (.tuple ((chainOf 1 qs).map PyData.int)), .val (.int e), .val (.int (cntQ 2 (qs.take i) : Nat)), x, y]) ⟨_, _, rfl⟩ (fun i d r hi h4 => ?_) (fun r h4 => ?_)
  · obtain ⟨x, y, rfl⟩ := h4
    obtain ⟨s, q, hq, hs, hs2, rfl⟩ := chain_zip 1 qs (by decide) h hi
    have hd : s * (q : Int) / s = q := Int.mul_ediv_cancel_left _ (by omega)
    have hm := prod_mem h hq
    have hp : 0 < prodQ (qs.take i) := prodQ_pos fun q z => h q (List.mem_of_mem_take z)
    have hq1 : q ≤ prodQ qs := Nat.le_trans (Nat.le_mul_of_pos_right q hp) hm
    have hb : ((cntQ 2 (qs.take i) : Nat) : Int).natAbs < 2 ^ (2 * prodQ (qs.take i)) := by
      rw [Int.natAbs_natCast]
      exact cntQ_bound fun q z => h q (List.mem_of_mem_take z)
    have hpw := power_ok (b := (cntQ 2 (qs.take i) : Nat)) (e := q) hb (by omega) (by rw [Int.toNat_natCast, ← Nat.mul_assoc, Nat.mul_comm q 2, Nat.mul_assoc]; omega) (by
      have : prodQ (qs.take i) ≤ q * prodQ (qs.take i) := Nat.le_mul_of_pos_left _ (by have := h q (List.mem_of_getElem? hq); omega)
      omega) (by omega) (by omega)
    simp only [tr_bnd, tr_lft, tr_con, tr_op2, tr_op2r, tr_op2b, tr_asB, tr_trB, tr_trBp, tr_and, tr_or, tr_not, tr_if, tr_andV, tr_orV, tr_notV, tr_neg, tr_chain, tr_nil, tr_cons, tr_tup, tr_lst, tr_pn, tr_ps, tr_sl, tr_c1, tr_c1p, tr_seqI, tr_rng1, tr_rng2, tr_rng3, tr_zip, tr_enum, tr_rtV, tr_rtO, tr_aNil, tr_aV, tr_call, tr_callT, ts_next, ts_break, ts_cont, ts_seq, ts_ret, ts_retO, ts_retN, ts_expr, ts_assign, as_name, as_nil, as_cons, as_tup, ts_own, ts_if, ts_for, ts_store, varK_v, varK_o, rtd_v, rtd_o, rto_o, tu_var, tu_op2l, tu_slp, getO_o, getS_s, getX_v, tu_aL, tu_aS, tu_take, tu_aug, tu_append, tu_pop, tu_lenS, tu_ixS, outA, scrA, isOA, isSA, outS_o, scrS_s, isO_o, isS_s, lok_gen, lix_nil, lix_v, lix_l, lix_s, sok_nil, sok_v, sok_l, sok_s, at_0, at_1, getV_v, getV_o, getL_o, add_ii, sub_ii, mul_ii, fdiv_ii, mod_ii, pow_ii, neg_i, cmp_ii, addI_ii, mulI_ii, eq_ii, ne_ii, eq_ss, ne_ss, asB_b, truth_b, truth_i, truth_l, truth_t, truth_n, asI_i, item_l, item_t, len_l, len_t, abs_i, int_i, int_b, tuple_l, tuple_t, list_l, list_t, max2_ii, min2_ii, seq_l, seq_t, slice_l, slice_t, rng1_i, rng2_i, zip_l, zip_t, enum_l, add_tt, add_ll, add_ss, repr_i, atI_0, atI_1, atI_2, ixN_0, ixN_1, ixN_2, ite_some, map_some, ex_and, ex_eq, bind_some, List.set_cons_zero, List.set_cons_succ, List.length_cons, List.length_nil, Option.some.injEq, decide_eq_true_eq, Bool.not_true, Bool.not_false, Bool.and_eq_true, Bool.or_eq_true, fillA, wbA, entry, entrySls, entrySl, List.replicate, List.cons_append, List.nil_append, trF_ok, List.append_nil, List.map_nil, List.map_cons, ownIx, and_assoc, exists_and_left, exists_eq_left', exists_eq_left, Rt.v.injEq, Rt.o.injEq, List.cons.injEq, PyData.int.injEq, PyData.list.injEq, PyData.tuple.injEq, and_true, true_and, List.all_cons, List.all_nil, List.nodup_cons, List.nodup_nil, decide_true, decide_false, Bool.and_true, Bool.true_and, List.mem_cons, List.not_mem_nil, not_false_eq_true, Nat.sub_self, Nat.reduceSub, Nat.reduceAdd, if_true, if_false, Bool.false_eq_true, reduceCtorEq, false_and, and_false, or_false, false_or, and_self, Nat.zero_add, exists_eq', exists_eq, Sl.val.injEq, Sl.own.injEq, exists_const, hd, hpw, take_cnt hq, Int.toNat_natCast]
    refine ⟨fdOk_s hs (by omega), ?_⟩
    simp
  · obtain ⟨x, y, rfl⟩ := h4
    have hpw := power_ok (b := (cntQ 2 qs : Nat)) (e := e) (n := 2 * prodQ qs) (by rw [Int.natAbs_natCast]; exact cntQ_bound h) (by have := prodQ_pos h; omega) (by rw [Nat.mul_comm, Nat.mul_assoc]; omega) (by omega) (by omega) (by omega)
    rw [chain_zip_len, List.take_length]
    simp only [hpw, tr_bnd, tr_lft, tr_con, tr_op2, tr_op2r, tr_op2b, tr_asB, tr_trB, tr_trBp, tr_and, tr_or, tr_not, tr_if, tr_andV, tr_orV, tr_notV, tr_neg, tr_chain, tr_nil, tr_cons, tr_tup, tr_lst, tr_pn, tr_ps, tr_sl, tr_c1, tr_c1p, tr_seqI, tr_rng1, tr_rng2, tr_rng3, tr_zip, tr_enum, tr_rtV, tr_rtO, tr_aNil, tr_aV, tr_call, tr_callT, ts_next, ts_break, ts_cont, ts_seq, ts_ret, ts_retO, ts_retN, ts_expr, ts_assign, as_name, as_nil, as_cons, as_tup, ts_own, ts_if, ts_for, ts_store, varK_v, varK_o, rtd_v, rtd_o, rto_o, tu_var, tu_op2l, tu_slp, getO_o, getS_s, getX_v, tu_aL, tu_aS, tu_take, tu_aug, tu_append, tu_pop, tu_lenS, tu_ixS, outA, scrA, isOA, isSA, outS_o, scrS_s, isO_o, isS_s, lok_gen, lix_nil, lix_v, lix_l, lix_s, sok_nil, sok_v, sok_l, sok_s, at_0, at_1, getV_v, getV_o, getL_o, add_ii, sub_ii, mul_ii, fdiv_ii, mod_ii, pow_ii, neg_i, cmp_ii, addI_ii, mulI_ii, eq_ii, ne_ii, eq_ss, ne_ss, asB_b, truth_b, truth_i, truth_l, truth_t, truth_n, asI_i, item_l, item_t, len_l, len_t, abs_i, int_i, int_b, tuple_l, tuple_t, list_l, list_t, max2_ii, min2_ii, seq_l, seq_t, slice_l, slice_t, rng1_i, rng2_i, zip_l, zip_t, enum_l, add_tt, add_ll, add_ss, repr_i, atI_0, atI_1, atI_2, ixN_0, ixN_1, ixN_2, ite_some, map_some, ex_and, ex_eq, bind_some, List.set_cons_zero, List.set_cons_succ, List.length_cons, List.length_nil, Option.some.injEq, decide_eq_true_eq, Bool.not_true, Bool.not_false, Bool.and_eq_true, Bool.or_eq_true, fillA, wbA, entry, entrySls, entrySl, List.replicate, List.cons_append, List.nil_append, trF_ok, List.append_nil, List.map_nil, List.map_cons, ownIx, and_assoc, exists_and_left, exists_eq_left', exists_eq_left, Rt.v.injEq, Rt.o.injEq, List.cons.injEq, PyData.int.injEq, PyData.list.injEq, PyData.tuple.injEq, and_true, true_and, List.all_cons, List.all_nil, List.nodup_cons, List.nodup_nil, decide_true, decide_false, Bool.and_true, Bool.true_and, List.mem_cons, List.not_mem_nil, not_false_eq_true, Nat.sub_self, Nat.reduceSub, Nat.reduceAdd, if_true, if_false, Bool.false_eq_true, reduceCtorEq, false_and, and_false, or_false, false_or, and_self, Nat.zero_add, exists_eq', exists_eq, Sl.val.injEq, Sl.own.injEq, exists_const]
end Lk09

namespace Lk09
open PySem PySem.Spec L2 PL
theorem counted_ok {qs : List Nat} {e : Int} (h : ∀ q ∈ qs, 2 ≤ q) (h0 : 0 ≤ e) (he : prodQ qs * e.toNat ≤ 100000) (h2 : e ≤ 100000) (h3 : prodQ qs ≤ 40000) :
    f_l_counted [.tuple ((chainOf 1 qs).map PyData.int), .int e] = .ok (.v (.int ((cntQ 2 qs : Nat) ^ e.toNat : Int))) [] := by
  have mb : ∀ (i k n : Nat) (b : Int), b.natAbs < 2 ^ n → 0 < n → i < k → k * n ≤ 900000 → n ≤ 90000 → mulOk (b ^ i) b = true := fun i k n b hb hn hi hk hn2 => by
    refine mulOk_log (n := i * n + 1) (m := n) ?_ hb (by omega) hn ?_
    · rw [Int.natAbs_pow]
      have h3 : b.natAbs ^ i ≤ (2 ^ n) ^ i := Nat.pow_le_pow_left (Nat.le_of_lt hb) i
      rw [← Nat.pow_mul] at h3
      rw [Nat.pow_succ, Nat.mul_comm i n]
      have h4 : 0 < 2 ^ (n * i) := Nat.pow_pos (by decide)
      omega
    · have : i * n ≤ k * n := Nat.mul_le_mul_right n (Nat.le_of_lt hi)
      omega
  apply trF_eq
  unfold f_l_counted m_l_counted
  rw [trF_body]
  simp only [tr_bnd, tr_lft, tr_con, tr_op2, tr_op2r, tr_op2b, tr_asB, tr_trB, tr_trBp, tr_and, tr_or, tr_not, tr_if, tr_andV, tr_orV, tr_notV, tr_neg, tr_chain, tr_nil, tr_cons, tr_tup, tr_lst, tr_pn, tr_ps, tr_sl, tr_c1, tr_c1p, tr_seqI, tr_rng1, tr_rng2, tr_rng3, tr_zip, tr_enum, tr_rtV, tr_rtO, tr_aNil, tr_aV, tr_call, tr_callT, ts_next, ts_break, ts_cont, ts_seq, ts_ret, ts_retO, ts_retN, ts_expr, ts_assign, as_name, as_nil, as_cons, as_tup, ts_own, ts_if, ts_for, ts_store, varK_v, varK_o, rtd_v, rtd_o, rto_o, tu_var, tu_op2l, tu_slp, getO_o, getS_s, getX_v, tu_aL, tu_aS, tu_take, tu_aug, tu_append, tu_pop, tu_lenS, tu_ixS, outA, scrA, isOA, isSA, outS_o, scrS_s, isO_o, isS_s, lok_gen, lix_nil, lix_v, lix_l, lix_s, sok_nil, sok_v, sok_l, sok_s, at_0, at_1, getV_v, getV_o, getL_o, add_ii, sub_ii, mul_ii, fdiv_ii, mod_ii, pow_ii, neg_i, cmp_ii, addI_ii, mulI_ii, eq_ii, ne_ii, eq_ss, ne_ss, asB_b, truth_b, truth_i, truth_l, truth_t, truth_n, asI_i, item_l, item_t, len_l, len_t, abs_i, int_i, int_b, tuple_l, tuple_t, list_l, list_t, max2_ii, min2_ii, seq_l, seq_t, slice_l, slice_t, rng1_i, rng2_i, zip_l, zip_t, enum_l, add_tt, add_ll, add_ss, repr_i, atI_0, atI_1, atI_2, ixN_0, ixN_1, ixN_2, ite_some, map_some, ex_and, ex_eq, bind_some, List.set_cons_zero, List.set_cons_succ, List.length_cons, List.length_nil, Option.some.injEq, decide_eq_true_eq, Bool.not_true, Bool.not_false, Bool.and_eq_true, Bool.or_eq_true, fillA, wbA, entry, entrySls, entrySl, List.replicate, List.cons_append, List.nil_append, trF_ok, List.append_nil, List.map_nil, List.map_cons, ownIx, and_assoc, exists_and_left, exists_eq_left', exists_eq_left, Rt.v.injEq, Rt.o.injEq, List.cons.injEq, PyData.int.injEq, PyData.list.injEq, PyData.tuple.injEq, and_true, true_and, List.all_cons, List.all_nil, List.nodup_cons, List.nodup_nil, decide_true, decide_false, Bool.and_true, Bool.true_and, List.mem_cons, List.not_mem_nil, not_false_eq_true, Nat.sub_self, Nat.reduceSub, Nat.reduceAdd, if_true, if_false, Bool.false_eq_true, reduceCtorEq, false_and, and_false, or_false, false_or, and_self, Nat.zero_add, exists_eq', exists_eq, Sl.val.injEq, Sl.own.injEq, exists_const, cut_map]
  refine ts_forL (fun i r => ∃ x y z w v, r = [.val (.tuple ((chainOf 1 qs).map PyData.int)), .val (.int e), .val (.int (cntQ 2 (qs.take i) : Nat)), x, y, z, w, v]) ⟨_, _, _, _, _, rfl⟩ (fun i d r hi h4 => ?_) (fun r h4 => ?_)
  · obtain ⟨x, y, z, w, v, rfl⟩ := h4
    obtain ⟨s, q, hq, hs, hs2, rfl⟩ := chain_zip 1 qs (by decide) h hi
    have hd : s * (q : Int) / s = q := Int.mul_ediv_cancel_left _ (by omega)
    have hm := prod_mem h hq
    have hp : 0 < prodQ (qs.take i) := prodQ_pos fun q z => h q (List.mem_of_mem_take z)
    have hq1 : q ≤ prodQ qs := Nat.le_trans (Nat.le_mul_of_pos_right q hp) hm
    have hb : ((cntQ 2 (qs.take i) : Nat) : Int).natAbs < 2 ^ (2 * prodQ (qs.take i)) := by
      rw [Int.natAbs_natCast]
      exact cntQ_bound fun q z => h q (List.mem_of_mem_take z)
    simp only [tr_bnd, tr_lft, tr_con, tr_op2, tr_op2r, tr_op2b, tr_asB, tr_trB, tr_trBp, tr_and, tr_or, tr_not, tr_if, tr_andV, tr_orV, tr_notV, tr_neg, tr_chain, tr_nil, tr_cons, tr_tup, tr_lst, tr_pn, tr_ps, tr_sl, tr_c1, tr_c1p, tr_seqI, tr_rng1, tr_rng2, tr_rng3, tr_zip, tr_enum, tr_rtV, tr_rtO, tr_aNil, tr_aV, tr_call, tr_callT, ts_next, ts_break, ts_cont, ts_seq, ts_ret, ts_retO, ts_retN, ts_expr, ts_assign, as_name, as_nil, as_cons, as_tup, ts_own, ts_if, ts_for, ts_store, varK_v, varK_o, rtd_v, rtd_o, rto_o, tu_var, tu_op2l, tu_slp, getO_o, getS_s, getX_v, tu_aL, tu_aS, tu_take, tu_aug, tu_append, tu_pop, tu_lenS, tu_ixS, outA, scrA, isOA, isSA, outS_o, scrS_s, isO_o, isS_s, lok_gen, lix_nil, lix_v, lix_l, lix_s, sok_nil, sok_v, sok_l, sok_s, at_0, at_1, getV_v, getV_o, getL_o, add_ii, sub_ii, mul_ii, fdiv_ii, mod_ii, pow_ii, neg_i, cmp_ii, addI_ii, mulI_ii, eq_ii, ne_ii, eq_ss, ne_ss, asB_b, truth_b, truth_i, truth_l, truth_t, truth_n, asI_i, item_l, item_t, len_l, len_t, abs_i, int_i, int_b, tuple_l, tuple_t, list_l, list_t, max2_ii, min2_ii, seq_l, seq_t, slice_l, slice_t, rng1_i, rng2_i, zip_l, zip_t, enum_l, add_tt, add_ll, add_ss, repr_i, atI_0, atI_1, atI_2, ixN_0, ixN_1, ixN_2, ite_some, map_some, ex_and, ex_eq, bind_some, List.set_cons_zero, List.set_cons_succ, List.length_cons, List.length_nil, Option.some.injEq, decide_eq_true_eq, Bool.not_true, Bool.not_false, Bool.and_eq_true, Bool.or_eq_true, fillA, wbA, entry, entrySls, entrySl, List.replicate, List.cons_append, List.nil_append, trF_ok, List.append_nil, List.map_nil, List.map_cons, ownIx, and_assoc, exists_and_left, exists_eq_left', exists_eq_left, Rt.v.injEq, Rt.o.injEq, List.cons.injEq, PyData.int.injEq, PyData.list.injEq, PyData.tuple.injEq, and_true, true_and, List.all_cons, List.all_nil, List.nodup_cons, List.nodup_nil, decide_true, decide_false, Bool.and_true, Bool.true_and, List.mem_cons, List.not_mem_nil, not_false_eq_true, Nat.sub_self, Nat.reduceSub, Nat.reduceAdd, if_true, if_false, Bool.false_eq_true, reduceCtorEq, false_and, and_false, or_false, false_or, and_self, Nat.zero_add, exists_eq', exists_eq, Sl.val.injEq, Sl.own.injEq, exists_const, hd, take_cnt hq]
    refine ⟨fdOk_s hs (by omega), rOk_of (by omega) (by omega), ?_⟩
    rw [Int.toNat_natCast]
    refine ts_range (fun j r => ∃ w, r = [.val (.tuple ((chainOf 1 qs).map PyData.int)), .val (.int e), .val (.int (cntQ 2 (qs.take i) : Nat)), .val (.int s), .val (.int (s * (q : Nat))), .val (.int ((cntQ 2 (qs.take i) : Nat) ^ j : Int)), w, v]) ⟨w, by rw [Int.pow_zero]⟩ (fun j r hj h5 => ?_) (fun r h5 => ?_)
    · obtain ⟨w, rfl⟩ := h5
      simp only [tr_bnd, tr_lft, tr_con, tr_op2, tr_op2r, tr_op2b, tr_asB, tr_trB, tr_trBp, tr_and, tr_or, tr_not, tr_if, tr_andV, tr_orV, tr_notV, tr_neg, tr_chain, tr_nil, tr_cons, tr_tup, tr_lst, tr_pn, tr_ps, tr_sl, tr_c1, tr_c1p, tr_seqI, tr_rng1, tr_rng2, tr_rng3, tr_zip, tr_enum, tr_rtV, tr_rtO, tr_aNil, tr_aV, tr_call, tr_callT, ts_next, ts_break, ts_cont, ts_seq, ts_ret, ts_retO, ts_retN, ts_expr, ts_assign, as_name, as_nil, as_cons, as_tup, ts_own, ts_if, ts_for, ts_store, varK_v, varK_o, rtd_v, rtd_o, rto_o, tu_var, tu_op2l, tu_slp, getO_o, getS_s, getX_v, tu_aL, tu_aS, tu_take, tu_aug, tu_append, tu_pop, tu_lenS, tu_ixS, outA, scrA, isOA, isSA, outS_o, scrS_s, isO_o, isS_s, lok_gen, lix_nil, lix_v, lix_l, lix_s, sok_nil, sok_v, sok_l, sok_s, at_0, at_1, getV_v, getV_o, getL_o, add_ii, sub_ii, mul_ii, fdiv_ii, mod_ii, pow_ii, neg_i, cmp_ii, addI_ii, mulI_ii, eq_ii, ne_ii, eq_ss, ne_ss, asB_b, truth_b, truth_i, truth_l, truth_t, truth_n, asI_i, item_l, item_t, len_l, len_t, abs_i, int_i, int_b, tuple_l, tuple_t, list_l, list_t, max2_ii, min2_ii, seq_l, seq_t, slice_l, slice_t, rng1_i, rng2_i, zip_l, zip_t, enum_l, add_tt, add_ll, add_ss, repr_i, atI_0, atI_1, atI_2, ixN_0, ixN_1, ixN_2, ite_some, map_some, ex_and, ex_eq, bind_some, List.set_cons_zero, List.set_cons_succ, List.length_cons, List.length_nil, Option.some.injEq, decide_eq_true_eq, Bool.not_true, Bool.not_false, Bool.and_eq_true, Bool.or_eq_true, fillA, wbA, entry, entrySls, entrySl, List.replicate, List.cons_append, List.nil_append, trF_ok, List.append_nil, List.map_nil, List.map_cons, ownIx, and_assoc, exists_and_left, exists_eq_left', exists_eq_left, Rt.v.injEq, Rt.o.injEq, List.cons.injEq, PyData.int.injEq, PyData.list.injEq, PyData.tuple.injEq, and_true, true_and, List.all_cons, List.all_nil, List.nodup_cons, List.nodup_nil, decide_true, decide_false, Bool.and_true, Bool.true_and, List.mem_cons, List.not_mem_nil, not_false_eq_true, Nat.sub_self, Nat.reduceSub, Nat.reduceAdd, if_true, if_false, Bool.false_eq_true, reduceCtorEq, false_and, and_false, or_false, false_or, and_self, Nat.zero_add, exists_eq', exists_eq, Sl.val.injEq, Sl.own.injEq, exists_const]
      refine ⟨mb j q _ _ hb (by omega) hj ?_ ?_, by rw [Int.pow_succ]⟩
      · rw [← Nat.mul_assoc, Nat.mul_comm q 2, Nat.mul_assoc]; omega
      · have : prodQ (qs.take i) ≤ q * prodQ (qs.take i) := Nat.le_mul_of_pos_left _ (by have := h q (List.mem_of_getElem? hq); omega)
        omega
    · obtain ⟨w, rfl⟩ := h5
      simp only [tr_bnd, tr_lft, tr_con, tr_op2, tr_op2r, tr_op2b, tr_asB, tr_trB, tr_trBp, tr_and, tr_or, tr_not, tr_if, tr_andV, tr_orV, tr_notV, tr_neg, tr_chain, tr_nil, tr_cons, tr_tup, tr_lst, tr_pn, tr_ps, tr_sl, tr_c1, tr_c1p, tr_seqI, tr_rng1, tr_rng2, tr_rng3, tr_zip, tr_enum, tr_rtV, tr_rtO, tr_aNil, tr_aV, tr_call, tr_callT, ts_next, ts_break, ts_cont, ts_seq, ts_ret, ts_retO, ts_retN, ts_expr, ts_assign, as_name, as_nil, as_cons, as_tup, ts_own, ts_if, ts_for, ts_store, varK_v, varK_o, rtd_v, rtd_o, rto_o, tu_var, tu_op2l, tu_slp, getO_o, getS_s, getX_v, tu_aL, tu_aS, tu_take, tu_aug, tu_append, tu_pop, tu_lenS, tu_ixS, outA, scrA, isOA, isSA, outS_o, scrS_s, isO_o, isS_s, lok_gen, lix_nil, lix_v, lix_l, lix_s, sok_nil, sok_v, sok_l, sok_s, at_0, at_1, getV_v, getV_o, getL_o, add_ii, sub_ii, mul_ii, fdiv_ii, mod_ii, pow_ii, neg_i, cmp_ii, addI_ii, mulI_ii, eq_ii, ne_ii, eq_ss, ne_ss, asB_b, truth_b, truth_i, truth_l, truth_t, truth_n, asI_i, item_l, item_t, len_l, len_t, abs_i, int_i, int_b, tuple_l, tuple_t, list_l, list_t, max2_ii, min2_ii, seq_l, seq_t, slice_l, slice_t, rng1_i, rng2_i, zip_l, zip_t, enum_l, add_tt, add_ll, add_ss, repr_i, atI_0, atI_1, atI_2, ixN_0, ixN_1, ixN_2, ite_some, map_some, ex_and, ex_eq, bind_some, List.set_cons_zero, List.set_cons_succ, List.length_cons, List.length_nil, Option.some.injEq, decide_eq_true_eq, Bool.not_true, Bool.not_false, Bool.and_eq_true, Bool.or_eq_true, fillA, wbA, entry, entrySls, entrySl, List.replicate, List.cons_append, List.nil_append, trF_ok, List.append_nil, List.map_nil, List.map_cons, ownIx, and_assoc, exists_and_left, exists_eq_left', exists_eq_left, Rt.v.injEq, Rt.o.injEq, List.cons.injEq, PyData.int.injEq, PyData.list.injEq, PyData.tuple.injEq, and_true, true_and, List.all_cons, List.all_nil, List.nodup_cons, List.nodup_nil, decide_true, decide_false, Bool.and_true, Bool.true_and, List.mem_cons, List.not_mem_nil, not_false_eq_true, Nat.sub_self, Nat.reduceSub, Nat.reduceAdd, if_true, if_false, Bool.false_eq_true, reduceCtorEq, false_and, and_false, or_false, false_or, and_self, Nat.zero_add, exists_eq', exists_eq, Sl.val.injEq, Sl.own.injEq, exists_const]
      simp [Int.add_comm]
  · obtain ⟨x, y, z, w, v, rfl⟩ := h4
    simp only [tr_bnd, tr_lft, tr_con, tr_op2, tr_op2r, tr_op2b, tr_asB, tr_trB, tr_trBp, tr_and, tr_or, tr_not, tr_if, tr_andV, tr_orV, tr_notV, tr_neg, tr_chain, tr_nil, tr_cons, tr_tup, tr_lst, tr_pn, tr_ps, tr_sl, tr_c1, tr_c1p, tr_seqI, tr_rng1, tr_rng2, tr_rng3, tr_zip, tr_enum, tr_rtV, tr_rtO, tr_aNil, tr_aV, tr_call, tr_callT, ts_next, ts_break, ts_cont, ts_seq, ts_ret, ts_retO, ts_retN, ts_expr, ts_assign, as_name, as_nil, as_cons, as_tup, ts_own, ts_if, ts_for, ts_store, varK_v, varK_o, rtd_v, rtd_o, rto_o, tu_var, tu_op2l, tu_slp, getO_o, getS_s, getX_v, tu_aL, tu_aS, tu_take, tu_aug, tu_append, tu_pop, tu_lenS, tu_ixS, outA, scrA, isOA, isSA, outS_o, scrS_s, isO_o, isS_s, lok_gen, lix_nil, lix_v, lix_l, lix_s, sok_nil, sok_v, sok_l, sok_s, at_0, at_1, getV_v, getV_o, getL_o, add_ii, sub_ii, mul_ii, fdiv_ii, mod_ii, pow_ii, neg_i, cmp_ii, addI_ii, mulI_ii, eq_ii, ne_ii, eq_ss, ne_ss, asB_b, truth_b, truth_i, truth_l, truth_t, truth_n, asI_i, item_l, item_t, len_l, len_t, abs_i, int_i, int_b, tuple_l, tuple_t, list_l, list_t, max2_ii, min2_ii, seq_l, seq_t, slice_l, slice_t, rng1_i, rng2_i, zip_l, zip_t, enum_l, add_tt, add_ll, add_ss, repr_i, atI_0, atI_1, atI_2, ixN_0, ixN_1, ixN_2, ite_some, map_some, ex_and, ex_eq, bind_some, List.set_cons_zero, List.set_cons_succ, List.length_cons, List.length_nil, Option.some.injEq, decide_eq_true_eq, Bool.not_true, Bool.not_false, Bool.and_eq_true, Bool.or_eq_true, fillA, wbA, entry, entrySls, entrySl, List.replicate, List.cons_append, List.nil_append, trF_ok, List.append_nil, List.map_nil, List.map_cons, ownIx, and_assoc, exists_and_left, exists_eq_left', exists_eq_left, Rt.v.injEq, Rt.o.injEq, List.cons.injEq, PyData.int.injEq, PyData.list.injEq, PyData.tuple.injEq, and_true, true_and, List.all_cons, List.all_nil, List.nodup_cons, List.nodup_nil, decide_true, decide_false, Bool.and_true, Bool.true_and, List.mem_cons, List.not_mem_nil, not_false_eq_true, Nat.sub_self, Nat.reduceSub, Nat.reduceAdd, if_true, if_false, Bool.false_eq_true, reduceCtorEq, false_and, and_false, or_false, false_or, and_self, Nat.zero_add, exists_eq', exists_eq, Sl.val.injEq, Sl.own.injEq, exists_const]
    rw [chain_zip_len, List.take_length]
    refine ⟨rOk_of (by omega) (by omega), ?_⟩
    refine ts_range (fun j r => ∃ w, r = [.val (.tuple ((chainOf 1 qs).map PyData.int)), .val (.int e), .val (.int (cntQ 2 qs : Nat)), x, y, z, w, .val (.int ((cntQ 2 qs : Nat) ^ j : Int))]) ⟨w, by rw [Int.pow_zero]⟩ (fun j r hj h5 => ?_) (fun r h5 => ?_)
    · obtain ⟨w, rfl⟩ := h5
      simp only [tr_bnd, tr_lft, tr_con, tr_op2, tr_op2r, tr_op2b, tr_asB, tr_trB, tr_trBp, tr_and, tr_or, tr_not, tr_if, tr_andV, tr_orV, tr_notV, tr_neg, tr_chain, tr_nil, tr_cons, tr_tup, tr_lst, tr_pn, tr_ps, tr_sl, tr_c1, tr_c1p, tr_seqI, tr_rng1, tr_rng2, tr_rng3, tr_zip, tr_enum, tr_rtV, tr_rtO, tr_aNil, tr_aV, tr_call, tr_callT, ts_next, ts_break, ts_cont, ts_seq, ts_ret, ts_retO, ts_retN, ts_expr, ts_assign, as_name, as_nil, as_cons, as_tup, ts_own, ts_if, ts_for, ts_store, varK_v, varK_o, rtd_v, rtd_o, rto_o, tu_var, tu_op2l, tu_slp, getO_o, getS_s, getX_v, tu_aL, tu_aS, tu_take, tu_aug, tu_append, tu_pop, tu_lenS, tu_ixS, outA, scrA, isOA, isSA, outS_o, scrS_s, isO_o, isS_s, lok_gen, lix_nil, lix_v, lix_l, lix_s, sok_nil, sok_v, sok_l, sok_s, at_0, at_1, getV_v, getV_o, getL_o, add_ii, sub_ii, mul_ii, fdiv_ii, mod_ii, pow_ii, neg_i, cmp_ii, addI_ii, mulI_ii, eq_ii, ne_ii, eq_ss, ne_ss, asB_b, truth_b, truth_i, truth_l, truth_t, truth_n, asI_i, item_l, item_t, len_l, len_t, abs_i, int_i, int_b, tuple_l, tuple_t, list_l, list_t, max2_ii, min2_ii, seq_l, seq_t, slice_l, slice_t, rng1_i, rng2_i, zip_l, zip_t, enum_l, add_tt, add_ll, add_ss, repr_i, atI_0, atI_1, atI_2, ixN_0, ixN_1, ixN_2, ite_some, map_some, ex_and, ex_eq, bind_some, List.set_cons_zero, List.set_cons_succ, List.length_cons, List.length_nil, Option.some.injEq, decide_eq_true_eq, Bool.not_true, Bool.not_false, Bool.and_eq_true, Bool.or_eq_true, fillA, wbA, entry, entrySls, entrySl, List.replicate, List.cons_append, List.nil_append, trF_ok, List.append_nil, List.map_nil, List.map_cons, ownIx, and_assoc, exists_and_left, exists_eq_left', exists_eq_left, Rt.v.injEq, Rt.o.injEq, List.cons.injEq, PyData.int.injEq, PyData.list.injEq, PyData.tuple.injEq, and_true, true_and, List.all_cons, List.all_nil, List.nodup_cons, List.nodup_nil, decide_true, decide_false, Bool.and_true, Bool.true_and, List.mem_cons, List.not_mem_nil, not_false_eq_true, Nat.sub_self, Nat.reduceSub, Nat.reduceAdd, if_true, if_false, Bool.false_eq_true, reduceCtorEq, false_and, and_false, or_false, false_or, and_self, Nat.zero_add, exists_eq', exists_eq, Sl.val.injEq, Sl.own.injEq, exists_const]
      refine ⟨mb j e.toNat (2 * prodQ qs) _ (by rw [Int.natAbs_natCast]; exact cntQ_bound h) (by have := prodQ_pos h; omega) hj ?_ ?_, by rw [Int.pow_succ]⟩
      · rw [Nat.mul_comm, Nat.mul_assoc]; omega
      · omega
    · obtain ⟨w, rfl⟩ := h5
      simp only [tr_bnd, tr_lft, tr_con, tr_op2, tr_op2r, tr_op2b, tr_asB, tr_trB, tr_trBp, tr_and, tr_or, tr_not, tr_if, tr_andV, tr_orV, tr_notV, tr_neg, tr_chain, tr_nil, tr_cons, tr_tup, tr_lst, tr_pn, tr_ps, tr_sl, tr_c1, tr_c1p, tr_seqI, tr_rng1, tr_rng2, tr_rng3, tr_zip, tr_enum, tr_rtV, tr_rtO, tr_aNil, tr_aV, tr_call, tr_callT, ts_next, ts_break, ts_cont, ts_seq, ts_ret, ts_retO, ts_retN, ts_expr, ts_assign, as_name, as_nil, as_cons, as_tup, ts_own, ts_if, ts_for, ts_store, varK_v, varK_o, rtd_v, rtd_o, rto_o, tu_var, tu_op2l, tu_slp, getO_o, getS_s, getX_v, tu_aL, tu_aS, tu_take, tu_aug, tu_append, tu_pop, tu_lenS, tu_ixS, outA, scrA, isOA, isSA, outS_o, scrS_s, isO_o, isS_s, lok_gen, lix_nil, lix_v, lix_l, lix_s, sok_nil, sok_v, sok_l, sok_s, at_0, at_1, getV_v, getV_o, getL_o, add_ii, sub_ii, mul_ii, fdiv_ii, mod_ii, pow_ii, neg_i, cmp_ii, addI_ii, mulI_ii, eq_ii, ne_ii, eq_ss, ne_ss, asB_b, truth_b, truth_i, truth_l, truth_t, truth_n, asI_i, item_l, item_t, len_l, len_t, abs_i, int_i, int_b, tuple_l, tuple_t, list_l, list_t, max2_ii, min2_ii, seq_l, seq_t, slice_l, slice_t, rng1_i, rng2_i, zip_l, zip_t, enum_l, add_tt, add_ll, add_ss, repr_i, atI_0, atI_1, atI_2, ixN_0, ixN_1, ixN_2, ite_some, map_some, ex_and, ex_eq, bind_some, List.set_cons_zero, List.set_cons_succ, List.length_cons, List.length_nil, Option.some.injEq, decide_eq_true_eq, Bool.not_true, Bool.not_false, Bool.and_eq_true, Bool.or_eq_true, fillA, wbA, entry, entrySls, entrySl, List.replicate, List.cons_append, List.nil_append, trF_ok, List.append_nil, List.map_nil, List.map_cons, ownIx, and_assoc, exists_and_left, exists_eq_left', exists_eq_left, Rt.v.injEq, Rt.o.injEq, List.cons.injEq, PyData.int.injEq, PyData.list.injEq, PyData.tuple.injEq, and_true, true_and, List.all_cons, List.all_nil, List.nodup_cons, List.nodup_nil, decide_true, decide_false, Bool.and_true, Bool.true_and, List.mem_cons, List.not_mem_nil, not_false_eq_true, Nat.sub_self, Nat.reduceSub, Nat.reduceAdd, if_true, if_false, Bool.false_eq_true, reduceCtorEq, false_and, and_false, or_false, false_or, and_self, Nat.zero_add, exists_eq', exists_eq, Sl.val.injEq, Sl.own.injEq, exists_const]
theorem links_ok {p : PyData} {most : Int} (hp : Pot p) (h1 : 1 ≤ most) (h2 : most ≤ 1000000000) :
    ∃ qs p', f_l_links [p, .int most] = .ok (.v (.tuple ((chainOf 1 qs).map PyData.int))) [p'] ∧ Pot p' ∧ (∀ q ∈ qs, 2 ≤ q) ∧ (prodQ qs : Int) ≤ most ∧ qs.length ≤ 11 := by
  have h : TrF (f_l_links [p, .int most]) (fun r o => ∃ qs p', r = .v (.tuple ((chainOf 1 qs).map PyData.int)) ∧ o = [p'] ∧ Pot p' ∧ (∀ q ∈ qs, 2 ≤ q) ∧ (prodQ qs : Int) ≤ most ∧ qs.length ≤ 11) noxF := by
    unfold f_l_links m_l_links
    rw [trF_body]
    simp only [tr_bnd, tr_lft, tr_con, tr_op2, tr_op2r, tr_op2b, tr_asB, tr_trB, tr_trBp, tr_and, tr_or, tr_not, tr_if, tr_andV, tr_orV, tr_notV, tr_neg, tr_chain, tr_nil, tr_cons, tr_tup, tr_lst, tr_pn, tr_ps, tr_sl, tr_c1, tr_c1p, tr_seqI, tr_rng1, tr_rng2, tr_rng3, tr_zip, tr_enum, tr_rtV, tr_rtO, tr_aNil, tr_aV, tr_call, tr_callT, ts_next, ts_break, ts_cont, ts_seq, ts_ret, ts_retO, ts_retN, ts_expr, ts_assign, as_name, as_nil, as_cons, as_tup, ts_own, ts_if, ts_for, ts_store, varK_v, varK_o, rtd_v, rtd_o, rto_o, tu_var, tu_op2l, tu_slp, getO_o, getS_s, getX_v, tu_aL, tu_aS, tu_take, tu_aug, tu_append, tu_pop, tu_lenS, tu_ixS, outA, scrA, isOA, isSA, outS_o, scrS_s, isO_o, isS_s, lok_gen, lix_nil, lix_v, lix_l, lix_s, sok_nil, sok_v, sok_l, sok_s, at_0, at_1, getV_v, getV_o, getL_o, add_ii, sub_ii, mul_ii, fdiv_ii, mod_ii, pow_ii, neg_i, cmp_ii, addI_ii, mulI_ii, eq_ii, ne_ii, eq_ss, ne_ss, asB_b, truth_b, truth_i, truth_l, truth_t, truth_n, asI_i, item_l, item_t, len_l, len_t, abs_i, int_i, int_b, tuple_l, tuple_t, list_l, list_t, max2_ii, min2_ii, seq_l, seq_t, slice_l, slice_t, rng1_i, rng2_i, zip_l, zip_t, enum_l, add_tt, add_ll, add_ss, repr_i, atI_0, atI_1, atI_2, ixN_0, ixN_1, ixN_2, ite_some, map_some, ex_and, ex_eq, bind_some, List.set_cons_zero, List.set_cons_succ, List.length_cons, List.length_nil, Option.some.injEq, decide_eq_true_eq, Bool.not_true, Bool.not_false, Bool.and_eq_true, Bool.or_eq_true, fillA, wbA, entry, entrySls, entrySl, List.replicate, List.cons_append, List.nil_append, trF_ok, List.append_nil, List.map_nil, List.map_cons, ownIx, and_assoc, exists_and_left, exists_eq_left', exists_eq_left, Rt.v.injEq, Rt.o.injEq, List.cons.injEq, PyData.int.injEq, PyData.list.injEq, PyData.tuple.injEq, and_true, true_and, List.all_cons, List.all_nil, List.nodup_cons, List.nodup_nil, decide_true, decide_false, Bool.and_true, Bool.true_and, List.mem_cons, List.not_mem_nil, not_false_eq_true, Nat.sub_self, Nat.reduceSub, Nat.reduceAdd, if_true, if_false, Bool.false_eq_true, reduceCtorEq, false_and, and_false, or_false, false_or, and_self, Nat.zero_add, exists_eq', exists_eq, Sl.val.injEq, Sl.own.injEq, exists_const]
    obtain ⟨d, p1, e1, hp1, hd0, hd1⟩ := take_ok (u := 6) hp (by decide) (by decide)
    simp only [tr_bnd, tr_lft, tr_con, tr_op2, tr_op2r, tr_op2b, tr_asB, tr_trB, tr_trBp, tr_and, tr_or, tr_not, tr_if, tr_andV, tr_orV, tr_notV, tr_neg, tr_chain, tr_nil, tr_cons, tr_tup, tr_lst, tr_pn, tr_ps, tr_sl, tr_c1, tr_c1p, tr_seqI, tr_rng1, tr_rng2, tr_rng3, tr_zip, tr_enum, tr_rtV, tr_rtO, tr_aNil, tr_aV, tr_call, tr_callT, ts_next, ts_break, ts_cont, ts_seq, ts_ret, ts_retO, ts_retN, ts_expr, ts_assign, as_name, as_nil, as_cons, as_tup, ts_own, ts_if, ts_for, ts_store, varK_v, varK_o, rtd_v, rtd_o, rto_o, tu_var, tu_op2l, tu_slp, getO_o, getS_s, getX_v, tu_aL, tu_aS, tu_take, tu_aug, tu_append, tu_pop, tu_lenS, tu_ixS, outA, scrA, isOA, isSA, outS_o, scrS_s, isO_o, isS_s, lok_gen, lix_nil, lix_v, lix_l, lix_s, sok_nil, sok_v, sok_l, sok_s, at_0, at_1, getV_v, getV_o, getL_o, add_ii, sub_ii, mul_ii, fdiv_ii, mod_ii, pow_ii, neg_i, cmp_ii, addI_ii, mulI_ii, eq_ii, ne_ii, eq_ss, ne_ss, asB_b, truth_b, truth_i, truth_l, truth_t, truth_n, asI_i, item_l, item_t, len_l, len_t, abs_i, int_i, int_b, tuple_l, tuple_t, list_l, list_t, max2_ii, min2_ii, seq_l, seq_t, slice_l, slice_t, rng1_i, rng2_i, zip_l, zip_t, enum_l, add_tt, add_ll, add_ss, repr_i, atI_0, atI_1, atI_2, ixN_0, ixN_1, ixN_2, ite_some, map_some, ex_and, ex_eq, bind_some, List.set_cons_zero, List.set_cons_succ, List.length_cons, List.length_nil, Option.some.injEq, decide_eq_true_eq, Bool.not_true, Bool.not_false, Bool.and_eq_true, Bool.or_eq_true, fillA, wbA, entry, entrySls, entrySl, List.replicate, List.cons_append, List.nil_append, trF_ok, List.append_nil, List.map_nil, List.map_cons, ownIx, and_assoc, exists_and_left, exists_eq_left', exists_eq_left, Rt.v.injEq, Rt.o.injEq, List.cons.injEq, PyData.int.injEq, PyData.list.injEq, PyData.tuple.injEq, and_true, true_and, List.all_cons, List.all_nil, List.nodup_cons, List.nodup_nil, decide_true, decide_false, Bool.and_true, Bool.true_and, List.mem_cons, List.not_mem_nil, not_false_eq_true, Nat.sub_self, Nat.reduceSub, Nat.reduceAdd, if_true, if_false, Bool.false_eq_true, reduceCtorEq, false_and, and_false, or_false, false_or, and_self, Nat.zero_add, exists_eq', exists_eq, Sl.val.injEq, Sl.own.injEq, exists_const, e1]
    refine ⟨lenOk_of (by decide), rOk_of (by omega) (by omega), ?_⟩
    refine ts_range (fun i r => ∃ p qs x y, Pot p ∧ (∀ q ∈ qs, 2 ≤ q) ∧ (prodQ qs : Int) ≤ most ∧ qs.length ≤ 11 ∧ r = [.own p, .val (.int most), .own (.list ((chainOf 1 qs).map PyData.int)), x, y]) ⟨p1, [], _, _, hp1, by simp, by simpa [prodQ] using h1, by decide, rfl⟩ (fun i r hi h4 => ?_) (fun r h4 => ?_)
    · obtain ⟨p, qs, x, y, hp, hq, hm, hl, rfl⟩ := h4
      obtain ⟨d2, p2, e2, hp2, hd2, hd3⟩ := take_ok (u := 5) hp (by decide) (by decide)
      simp only [tr_bnd, tr_lft, tr_con, tr_op2, tr_op2r, tr_op2b, tr_asB, tr_trB, tr_trBp, tr_and, tr_or, tr_not, tr_if, tr_andV, tr_orV, tr_notV, tr_neg, tr_chain, tr_nil, tr_cons, tr_tup, tr_lst, tr_pn, tr_ps, tr_sl, tr_c1, tr_c1p, tr_seqI, tr_rng1, tr_rng2, tr_rng3, tr_zip, tr_enum, tr_rtV, tr_rtO, tr_aNil, tr_aV, tr_call, tr_callT, ts_next, ts_break, ts_cont, ts_seq, ts_ret, ts_retO, ts_retN, ts_expr, ts_assign, as_name, as_nil, as_cons, as_tup, ts_own, ts_if, ts_for, ts_store, varK_v, varK_o, rtd_v, rtd_o, rto_o, tu_var, tu_op2l, tu_slp, getO_o, getS_s, getX_v, tu_aL, tu_aS, tu_take, tu_aug, tu_append, tu_pop, tu_lenS, tu_ixS, outA, scrA, isOA, isSA, outS_o, scrS_s, isO_o, isS_s, lok_gen, lix_nil, lix_v, lix_l, lix_s, sok_nil, sok_v, sok_l, sok_s, at_0, at_1, getV_v, getV_o, getL_o, add_ii, sub_ii, mul_ii, fdiv_ii, mod_ii, pow_ii, neg_i, cmp_ii, addI_ii, mulI_ii, eq_ii, ne_ii, eq_ss, ne_ss, asB_b, truth_b, truth_i, truth_l, truth_t, truth_n, asI_i, item_l, item_t, len_l, len_t, abs_i, int_i, int_b, tuple_l, tuple_t, list_l, list_t, max2_ii, min2_ii, seq_l, seq_t, slice_l, slice_t, rng1_i, rng2_i, zip_l, zip_t, enum_l, add_tt, add_ll, add_ss, repr_i, atI_0, atI_1, atI_2, ixN_0, ixN_1, ixN_2, ite_some, map_some, ex_and, ex_eq, bind_some, List.set_cons_zero, List.set_cons_succ, List.length_cons, List.length_nil, Option.some.injEq, decide_eq_true_eq, Bool.not_true, Bool.not_false, Bool.and_eq_true, Bool.or_eq_true, fillA, wbA, entry, entrySls, entrySl, List.replicate, List.cons_append, List.nil_append, trF_ok, List.append_nil, List.map_nil, List.map_cons, ownIx, and_assoc, exists_and_left, exists_eq_left', exists_eq_left, Rt.v.injEq, Rt.o.injEq, List.cons.injEq, PyData.int.injEq, PyData.list.injEq, PyData.tuple.injEq, and_true, true_and, List.all_cons, List.all_nil, List.nodup_cons, List.nodup_nil, decide_true, decide_false, Bool.and_true, Bool.true_and, List.mem_cons, List.not_mem_nil, not_false_eq_true, Nat.sub_self, Nat.reduceSub, Nat.reduceAdd, if_true, if_false, Bool.false_eq_true, reduceCtorEq, false_and, and_false, or_false, false_or, and_self, Nat.zero_add, exists_eq', exists_eq, Sl.val.injEq, Sl.own.injEq, exists_const, e2]
      obtain ⟨d4, p4, e4, hp4, hd4⟩ := of_ok (xs := [.int 2, .int 2, .int 2, .int 3, .int 4, .int (2 + d2)]) hp2 (by simp) (by simp)
      obtain ⟨k, hk, hk2, rfl⟩ : ∃ k : Nat, 2 ≤ k ∧ k ≤ 6 ∧ d4 = .int k := by
        simp only [List.mem_cons, List.not_mem_nil, or_false] at hd4
        rcases hd4 with rfl | rfl | rfl | rfl | rfl | rfl
        · exact ⟨2, by decide, by decide, rfl⟩
        · exact ⟨2, by decide, by decide, rfl⟩
        · exact ⟨2, by decide, by decide, rfl⟩
        · exact ⟨3, by decide, by decide, rfl⟩
        · exact ⟨4, by decide, by decide, rfl⟩
        · exact ⟨(2 + d2).toNat, by omega, by omega, by rw [Int.toNat_of_nonneg (by omega)]⟩
      simp only [tr_bnd, tr_lft, tr_con, tr_op2, tr_op2r, tr_op2b, tr_asB, tr_trB, tr_trBp, tr_and, tr_or, tr_not, tr_if, tr_andV, tr_orV, tr_notV, tr_neg, tr_chain, tr_nil, tr_cons, tr_tup, tr_lst, tr_pn, tr_ps, tr_sl, tr_c1, tr_c1p, tr_seqI, tr_rng1, tr_rng2, tr_rng3, tr_zip, tr_enum, tr_rtV, tr_rtO, tr_aNil, tr_aV, tr_call, tr_callT, ts_next, ts_break, ts_cont, ts_seq, ts_ret, ts_retO, ts_retN, ts_expr, ts_assign, as_name, as_nil, as_cons, as_tup, ts_own, ts_if, ts_for, ts_store, varK_v, varK_o, rtd_v, rtd_o, rto_o, tu_var, tu_op2l, tu_slp, getO_o, getS_s, getX_v, tu_aL, tu_aS, tu_take, tu_aug, tu_append, tu_pop, tu_lenS, tu_ixS, outA, scrA, isOA, isSA, outS_o, scrS_s, isO_o, isS_s, lok_gen, lix_nil, lix_v, lix_l, lix_s, sok_nil, sok_v, sok_l, sok_s, at_0, at_1, getV_v, getV_o, getL_o, add_ii, sub_ii, mul_ii, fdiv_ii, mod_ii, pow_ii, neg_i, cmp_ii, addI_ii, mulI_ii, eq_ii, ne_ii, eq_ss, ne_ss, asB_b, truth_b, truth_i, truth_l, truth_t, truth_n, asI_i, item_l, item_t, len_l, len_t, abs_i, int_i, int_b, tuple_l, tuple_t, list_l, list_t, max2_ii, min2_ii, seq_l, seq_t, slice_l, slice_t, rng1_i, rng2_i, zip_l, zip_t, enum_l, add_tt, add_ll, add_ss, repr_i, atI_0, atI_1, atI_2, ixN_0, ixN_1, ixN_2, ite_some, map_some, ex_and, ex_eq, bind_some, List.set_cons_zero, List.set_cons_succ, List.length_cons, List.length_nil, Option.some.injEq, decide_eq_true_eq, Bool.not_true, Bool.not_false, Bool.and_eq_true, Bool.or_eq_true, fillA, wbA, entry, entrySls, entrySl, List.replicate, List.cons_append, List.nil_append, trF_ok, List.append_nil, List.map_nil, List.map_cons, ownIx, and_assoc, exists_and_left, exists_eq_left', exists_eq_left, Rt.v.injEq, Rt.o.injEq, List.cons.injEq, PyData.int.injEq, PyData.list.injEq, PyData.tuple.injEq, and_true, true_and, List.all_cons, List.all_nil, List.nodup_cons, List.nodup_nil, decide_true, decide_false, Bool.and_true, Bool.true_and, List.mem_cons, List.not_mem_nil, not_false_eq_true, Nat.sub_self, Nat.reduceSub, Nat.reduceAdd, if_true, if_false, Bool.false_eq_true, reduceCtorEq, false_and, and_false, or_false, false_or, and_self, Nat.zero_add, exists_eq', exists_eq, Sl.val.injEq, Sl.own.injEq, exists_const, e4, chain_last]
      have ha : ∀ k : Nat, (1 : Int) * (prodQ qs : Int) * (k : Int) = ((prodQ qs * k : Nat) : Int) := fun k => by rw [Int.one_mul, Int.natCast_mul]
      refine ⟨lenOk_of (by decide), mulOk_r (by omega), ?_⟩
      have stay : ∃ p, Pot p ∧ ∃ x : List Nat, (∀ q ∈ x, 2 ≤ q) ∧ (prodQ x : Int) ≤ most ∧ x.length ≤ 11 ∧ p4 = p ∧ List.map PyData.int (chainOf 1 qs) = List.map PyData.int (chainOf 1 x) := ⟨p4, hp4, qs, hq, hm, hl, rfl, rfl⟩
      split
      · split
        · rename_i h5 h6
          rw [ha] at h5
          rw [List.length_map, chainOf_len] at h6
          refine ⟨mulOk_r (by omega), lenOk_of (by rw [List.length_map, chainOf_len]; omega), p4, hp4, qs ++ [k], ?_, ?_, ?_, rfl, ?_⟩
          · intro q hq2
            rcases List.mem_append.mp hq2 with z | z
            · exact hq q z
            · rw [List.mem_singleton.mp z]; exact hk
          · rw [prodQ_snoc]; exact h5
          · simp; omega
          · rw [chainOf_snoc]; simp
        · exact stay
      · exact stay
    · obtain ⟨p, qs, x, y, hp, hq, hm, hl, rfl⟩ := h4
      simp only [tr_bnd, tr_lft, tr_con, tr_op2, tr_op2r, tr_op2b, tr_asB, tr_trB, tr_trBp, tr_and, tr_or, tr_not, tr_if, tr_andV, tr_orV, tr_notV, tr_neg, tr_chain, tr_nil, tr_cons, tr_tup, tr_lst, tr_pn, tr_ps, tr_sl, tr_c1, tr_c1p, tr_seqI, tr_rng1, tr_rng2, tr_rng3, tr_zip, tr_enum, tr_rtV, tr_rtO, tr_aNil, tr_aV, tr_call, tr_callT, ts_next, ts_break, ts_cont, ts_seq, ts_ret, ts_retO, ts_retN, ts_expr, ts_assign, as_name, as_nil, as_cons, as_tup, ts_own, ts_if, ts_for, ts_store, varK_v, varK_o, rtd_v, rtd_o, rto_o, tu_var, tu_op2l, tu_slp, getO_o, getS_s, getX_v, tu_aL, tu_aS, tu_take, tu_aug, tu_append, tu_pop, tu_lenS, tu_ixS, outA, scrA, isOA, isSA, outS_o, scrS_s, isO_o, isS_s, lok_gen, lix_nil, lix_v, lix_l, lix_s, sok_nil, sok_v, sok_l, sok_s, at_0, at_1, getV_v, getV_o, getL_o, add_ii, sub_ii, mul_ii, fdiv_ii, mod_ii, pow_ii, neg_i, cmp_ii, addI_ii, mulI_ii, eq_ii, ne_ii, eq_ss, ne_ss, asB_b, truth_b, truth_i, truth_l, truth_t, truth_n, asI_i, item_l, item_t, len_l, len_t, abs_i, int_i, int_b, tuple_l, tuple_t, list_l, list_t, max2_ii, min2_ii, seq_l, seq_t, slice_l, slice_t, rng1_i, rng2_i, zip_l, zip_t, enum_l, add_tt, add_ll, add_ss, repr_i, atI_0, atI_1, atI_2, ixN_0, ixN_1, ixN_2, ite_some, map_some, ex_and, ex_eq, bind_some, List.set_cons_zero, List.set_cons_succ, List.length_cons, List.length_nil, Option.some.injEq, decide_eq_true_eq, Bool.not_true, Bool.not_false, Bool.and_eq_true, Bool.or_eq_true, fillA, wbA, entry, entrySls, entrySl, List.replicate, List.cons_append, List.nil_append, trF_ok, List.append_nil, List.map_nil, List.map_cons, ownIx, and_assoc, exists_and_left, exists_eq_left', exists_eq_left, Rt.v.injEq, Rt.o.injEq, List.cons.injEq, PyData.int.injEq, PyData.list.injEq, PyData.tuple.injEq, and_true, true_and, List.all_cons, List.all_nil, List.nodup_cons, List.nodup_nil, decide_true, decide_false, Bool.and_true, Bool.true_and, List.mem_cons, List.not_mem_nil, not_false_eq_true, Nat.sub_self, Nat.reduceSub, Nat.reduceAdd, if_true, if_false, Bool.false_eq_true, reduceCtorEq, false_and, and_false, or_false, false_or, and_self, Nat.zero_add, exists_eq', exists_eq, Sl.val.injEq, Sl.own.injEq, exists_const]
      exact ⟨qs, rfl, hp, hq, hm, hl⟩
  obtain ⟨r, o, e, qs, p', rfl, rfl, h1⟩ := trF_ex h
  exact ⟨qs, p', e, h1⟩
end Lk09

namespace Lk09
open PySem PySem.Spec L2 PL
theorem law_true (ns : List Int) (hn : ns.length ≤ 63) : f_law [.list (ns.map PyData.int)] = .ok (.v (.bool true)) [] := by
  apply trF_eq
  unfold f_law m_law
  rw [trF_body]
  simp only [tr_bnd, tr_lft, tr_con, tr_op2, tr_op2r, tr_op2b, tr_asB, tr_trB, tr_trBp, tr_and, tr_or, tr_not, tr_if, tr_andV, tr_orV, tr_notV, tr_neg, tr_chain, tr_nil, tr_cons, tr_tup, tr_lst, tr_pn, tr_ps, tr_sl, tr_c1, tr_c1p, tr_seqI, tr_rng1, tr_rng2, tr_rng3, tr_zip, tr_enum, tr_rtV, tr_rtO, tr_aNil, tr_aV, tr_call, tr_callT, ts_next, ts_break, ts_cont, ts_seq, ts_ret, ts_retO, ts_retN, ts_expr, ts_assign, as_name, as_nil, as_cons, as_tup, ts_own, ts_if, ts_for, ts_store, varK_v, varK_o, rtd_v, rtd_o, rto_o, tu_var, tu_op2l, tu_slp, getO_o, getS_s, getX_v, tu_aL, tu_aS, tu_take, tu_aug, tu_append, tu_pop, tu_lenS, tu_ixS, outA, scrA, isOA, isSA, outS_o, scrS_s, isO_o, isS_s, lok_gen, lix_nil, lix_v, lix_l, lix_s, sok_nil, sok_v, sok_l, sok_s, at_0, at_1, getV_v, getV_o, getL_o, add_ii, sub_ii, mul_ii, fdiv_ii, mod_ii, pow_ii, neg_i, cmp_ii, addI_ii, mulI_ii, eq_ii, ne_ii, eq_ss, ne_ss, asB_b, truth_b, truth_i, truth_l, truth_t, truth_n, asI_i, item_l, item_t, len_l, len_t, abs_i, int_i, int_b, tuple_l, tuple_t, list_l, list_t, max2_ii, min2_ii, seq_l, seq_t, slice_l, slice_t, rng1_i, rng2_i, zip_l, zip_t, enum_l, add_tt, add_ll, add_ss, repr_i, atI_0, atI_1, atI_2, ixN_0, ixN_1, ixN_2, ite_some, map_some, ex_and, ex_eq, bind_some, List.set_cons_zero, List.set_cons_succ, List.length_cons, List.length_nil, Option.some.injEq, decide_eq_true_eq, Bool.not_true, Bool.not_false, Bool.and_eq_true, Bool.or_eq_true, fillA, wbA, entry, entrySls, entrySl, List.replicate, List.cons_append, List.nil_append, trF_ok, List.append_nil, List.map_nil, List.map_cons, ownIx, and_assoc, exists_and_left, exists_eq_left', exists_eq_left, Rt.v.injEq, Rt.o.injEq, List.cons.injEq, PyData.int.injEq, PyData.list.injEq, PyData.tuple.injEq, and_true, true_and, List.all_cons, List.all_nil, List.nodup_cons, List.nodup_nil, decide_true, decide_false, Bool.and_true, Bool.true_and, List.mem_cons, List.not_mem_nil, not_false_eq_true, Nat.sub_self, Nat.reduceSub, Nat.reduceAdd, if_true, if_false, Bool.false_eq_true, reduceCtorEq, false_and, and_false, or_false, false_or, and_self, Nat.zero_add, exists_eq', exists_eq, Sl.val.injEq, Sl.own.injEq, exists_const, scr_ints]
  refine ⟨rOk_of (by split <;> split <;> omega) (by split <;> split <;> omega), ?_⟩
  refine ts_range (fun i r => ∃ a b c d e f g h j, r = [.scr ns, a, b, c, d, e, f, g, h, j]) ⟨_, _, _, _, _, _, _, _, _, rfl⟩ (fun i r hi h4 => ?_) (fun r h4 => ?_)
  · obtain ⟨a, b, c, d, e, f, g, h, j, rfl⟩ := h4
    have hi3 : i < 3 := by
      split at hi <;> split at hi <;> omega
    obtain ⟨p, ep, hp⟩ := pot_ok (ns := ns) (k := 0 + (i : Int)) (by omega) (by omega) hn
    simp only [tr_bnd, tr_lft, tr_con, tr_op2, tr_op2r, tr_op2b, tr_asB, tr_trB, tr_trBp, tr_and, tr_or, tr_not, tr_if, tr_andV, tr_orV, tr_notV, tr_neg, tr_chain, tr_nil, tr_cons, tr_tup, tr_lst, tr_pn, tr_ps, tr_sl, tr_c1, tr_c1p, tr_seqI, tr_rng1, tr_rng2, tr_rng3, tr_zip, tr_enum, tr_rtV, tr_rtO, tr_aNil, tr_aV, tr_call, tr_callT, ts_next, ts_break, ts_cont, ts_seq, ts_ret, ts_retO, ts_retN, ts_expr, ts_assign, as_name, as_nil, as_cons, as_tup, ts_own, ts_if, ts_for, ts_store, varK_v, varK_o, rtd_v, rtd_o, rto_o, tu_var, tu_op2l, tu_slp, getO_o, getS_s, getX_v, tu_aL, tu_aS, tu_take, tu_aug, tu_append, tu_pop, tu_lenS, tu_ixS, outA, scrA, isOA, isSA, outS_o, scrS_s, isO_o, isS_s, lok_gen, lix_nil, lix_v, lix_l, lix_s, sok_nil, sok_v, sok_l, sok_s, at_0, at_1, getV_v, getV_o, getL_o, add_ii, sub_ii, mul_ii, fdiv_ii, mod_ii, pow_ii, neg_i, cmp_ii, addI_ii, mulI_ii, eq_ii, ne_ii, eq_ss, ne_ss, asB_b, truth_b, truth_i, truth_l, truth_t, truth_n, asI_i, item_l, item_t, len_l, len_t, abs_i, int_i, int_b, tuple_l, tuple_t, list_l, list_t, max2_ii, min2_ii, seq_l, seq_t, slice_l, slice_t, rng1_i, rng2_i, zip_l, zip_t, enum_l, add_tt, add_ll, add_ss, repr_i, atI_0, atI_1, atI_2, ixN_0, ixN_1, ixN_2, ite_some, map_some, ex_and, ex_eq, bind_some, List.set_cons_zero, List.set_cons_succ, List.length_cons, List.length_nil, Option.some.injEq, decide_eq_true_eq, Bool.not_true, Bool.not_false, Bool.and_eq_true, Bool.or_eq_true, fillA, wbA, entry, entrySls, entrySl, List.replicate, List.cons_append, List.nil_append, trF_ok, List.append_nil, List.map_nil, List.map_cons, ownIx, and_assoc, exists_and_left, exists_eq_left', exists_eq_left, Rt.v.injEq, Rt.o.injEq, List.cons.injEq, PyData.int.injEq, PyData.list.injEq, PyData.tuple.injEq, and_true, true_and, List.all_cons, List.all_nil, List.nodup_cons, List.nodup_nil, decide_true, decide_false, Bool.and_true, Bool.true_and, List.mem_cons, List.not_mem_nil, not_false_eq_true, Nat.sub_self, Nat.reduceSub, Nat.reduceAdd, if_true, if_false, Bool.false_eq_true, reduceCtorEq, false_and, and_false, or_false, false_or, and_self, Nat.zero_add, exists_eq', exists_eq, Sl.val.injEq, Sl.own.injEq, exists_const, ep]
    refine ⟨rOk_of (by omega) (by omega), ?_⟩
    refine ts_range (fun i r => ∃ a p c d e f g h j, Pot p ∧ r = [.scr ns, a, .own p, c, d, e, f, g, h, j]) ⟨_, _, _, _, _, _, _, _, _, hp, rfl⟩ (fun i r hi h4 => ?_) (fun r h4 => ?_)
    · clear hp ep p hi hi3
      obtain ⟨a, p, c, d, e, f, g, h, j, hp, rfl⟩ := h4
      obtain ⟨qs, p1, e1, hp1, hq, hm, hl⟩ := links_ok (most := 200) hp (by decide) (by decide)
      have hq0 : 0 < prodQ qs := prodQ_pos hq
      have hdv : (10 : Int) ≤ 2000 / (1 * (prodQ qs : Int)) := Int.le_ediv_of_mul_le (by omega) (by omega)
      have hdw : (1 * (prodQ qs : Int)) * (2000 / (1 * (prodQ qs : Int))) ≤ 2000 := Int.mul_ediv_self_le (by omega)
      generalize hU : (if 2000 / (1 * (prodQ qs : Int)) < 80 then 2000 / (1 * (prodQ qs : Int)) else 80) = U
      have hU1 : 10 ≤ U := by rw [← hU]; split <;> omega
      have hU2 : U ≤ 80 := by rw [← hU]; split <;> omega
      obtain ⟨d1, p2, e2, hp2, hd0, hd1⟩ := take_ok (u := U) hp1 (by omega) (by omega)
      have hw : prodQ qs * d1.toNat ≤ 2000 := by
        have h1 : (prodQ qs : Int) * d1 ≤ (prodQ qs : Int) * (2000 / (1 * (prodQ qs : Int))) := Int.mul_le_mul_of_nonneg_left (by rw [← hU] at hd1; split at hd1 <;> omega) (by omega)
        have h2 : ((prodQ qs * d1.toNat : Nat) : Int) = (prodQ qs : Int) * d1 := by rw [Int.natCast_mul, Int.toNat_of_nonneg hd0]
        rw [Int.one_mul] at hdw h1
        omega
      have hw1 : prodQ qs * (d1 + 1).toNat ≤ 2200 := by
        have : (d1 + 1).toNat = d1.toNat + 1 := by omega
        rw [this, Nat.mul_add]; omega
      have c1 := count_ok (qs := qs) (e := d1) hq hd0 (by omega) (by omega) (by omega)
      have c2 := counted_ok (qs := qs) (e := d1) hq hd0 (by omega) (by omega) (by omega)
      have c3 := count_ok (qs := qs) (e := 0) hq (by decide) (by simp) (by omega) (by omega)
      have c4 := count_ok (qs := qs) (e := d1 + 1) hq (by omega) (by omega) (by omega) (by omega)
      have c5 := count_ok (qs := qs) (e := 1) hq (by decide) (by simp; omega) (by omega) (by omega)
      have hlog : ((cntQ 2 qs : Nat) ^ d1.toNat : Int).natAbs.log2 < 12900 := by
        refine log2_lt (by decide) ?_
        rw [Int.natAbs_pow, Int.natAbs_natCast]
        have h1 : cntQ 2 qs ^ d1.toNat ≤ (2 ^ (2 * prodQ qs)) ^ d1.toNat := Nat.pow_le_pow_left (Nat.le_of_lt (cntQ_bound hq)) _
        rw [← Nat.pow_mul] at h1
        refine Nat.lt_of_le_of_lt h1 (Nat.pow_lt_pow_right (by decide) ?_)
        rw [Nat.mul_assoc]; omega
      obtain ⟨d2, p3, e3, hp3, hd2, hd3⟩ := take_ok (u := 4) hp2 (by decide) (by decide)
      obtain ⟨q, hqe, hq2, hq5⟩ : ∃ q : Nat, 2 + d2 = (q : Int) ∧ 2 ≤ q ∧ q ≤ 5 := ⟨(2 + d2).toNat, by omega, by omega, by omega⟩
      have hqs : ∀ q' ∈ qs ++ [q], 2 ≤ q' := fun q' z => by
        rcases List.mem_append.mp z with z | z
        · exact hq q' z
        · rw [List.mem_singleton.mp z]; exact hq2
      have hpq : prodQ qs * q ≤ 200 * 5 := Nat.mul_le_mul (by omega) hq5
      have c6 := count_ok (qs := qs ++ [q]) (e := 1) hqs (by decide) (by rw [prodQ_snoc]; simp; omega) (by omega) (by rw [prodQ_snoc]; omega)
      have c7 := count_ok (qs := qs) (e := (q : Int)) hq (by omega) (by rw [Int.toNat_natCast]; omega) (by omega) (by omega)
      have c8 : List.map PyData.int (chainOf 1 qs) ++ [PyData.int (1 * (prodQ qs : Int) * (q : Int))] = List.map PyData.int (chainOf 1 (qs ++ [q])) := by rw [chainOf_snoc]; simp
      simp only [tr_bnd, tr_lft, tr_con, tr_op2, tr_op2r, tr_op2b, tr_asB, tr_trB, tr_trBp, tr_and, tr_or, tr_not, tr_if, tr_andV, tr_orV, tr_notV, tr_neg, tr_chain, tr_nil, tr_cons, tr_tup, tr_lst, tr_pn, tr_ps, tr_sl, tr_c1, tr_c1p, tr_seqI, tr_rng1, tr_rng2, tr_rng3, tr_zip, tr_enum, tr_rtV, tr_rtO, tr_aNil, tr_aV, tr_call, tr_callT, ts_next, ts_break, ts_cont, ts_seq, ts_ret, ts_retO, ts_retN, ts_expr, ts_assign, as_name, as_nil, as_cons, as_tup, ts_own, ts_if, ts_for, ts_store, varK_v, varK_o, rtd_v, rtd_o, rto_o, tu_var, tu_op2l, tu_slp, getO_o, getS_s, getX_v, tu_aL, tu_aS, tu_take, tu_aug, tu_append, tu_pop, tu_lenS, tu_ixS, outA, scrA, isOA, isSA, outS_o, scrS_s, isO_o, isS_s, lok_gen, lix_nil, lix_v, lix_l, lix_s, sok_nil, sok_v, sok_l, sok_s, at_0, at_1, getV_v, getV_o, getL_o, add_ii, sub_ii, mul_ii, fdiv_ii, mod_ii, pow_ii, neg_i, cmp_ii, addI_ii, mulI_ii, eq_ii, ne_ii, eq_ss, ne_ss, asB_b, truth_b, truth_i, truth_l, truth_t, truth_n, asI_i, item_l, item_t, len_l, len_t, abs_i, int_i, int_b, tuple_l, tuple_t, list_l, list_t, max2_ii, min2_ii, seq_l, seq_t, slice_l, slice_t, rng1_i, rng2_i, zip_l, zip_t, enum_l, add_tt, add_ll, add_ss, repr_i, atI_0, atI_1, atI_2, ixN_0, ixN_1, ixN_2, ite_some, map_some, ex_and, ex_eq, bind_some, List.set_cons_zero, List.set_cons_succ, List.length_cons, List.length_nil, Option.some.injEq, decide_eq_true_eq, Bool.not_true, Bool.not_false, Bool.and_eq_true, Bool.or_eq_true, fillA, wbA, entry, entrySls, entrySl, List.replicate, List.cons_append, List.nil_append, trF_ok, List.append_nil, List.map_nil, List.map_cons, ownIx, and_assoc, exists_and_left, exists_eq_left', exists_eq_left, Rt.v.injEq, Rt.o.injEq, List.cons.injEq, PyData.int.injEq, PyData.list.injEq, PyData.tuple.injEq, and_true, true_and, List.all_cons, List.all_nil, List.nodup_cons, List.nodup_nil, decide_true, decide_false, Bool.and_true, Bool.true_and, List.mem_cons, List.not_mem_nil, not_false_eq_true, Nat.sub_self, Nat.reduceSub, Nat.reduceAdd, if_true, if_false, Bool.false_eq_true, reduceCtorEq, false_and, and_false, or_false, false_or, and_self, Nat.zero_add, exists_eq', exists_eq, Sl.val.injEq, Sl.own.injEq, exists_const, e1, chain_last, hU, e2, c1, c2, c3, c4, c5, e3, hqe, c7, c8, c6]
      have pw1 : ∀ x : Int, x ^ Int.toNat 1 = x := fun x => by show x ^ 1 = x; rw [Int.pow_succ, Int.pow_zero, Int.one_mul]
      have j1 : ((cntQ 2 qs : Nat) : Int) ^ Int.toNat 0 = 1 := by simp
      have j2 : ((cntQ 2 qs : Nat) : Int) ^ (d1 + 1).toNat = ((cntQ 2 qs : Nat) : Int) ^ d1.toNat * ((cntQ 2 qs : Nat) : Int) ^ Int.toNat 1 := by
        have : (d1 + 1).toNat = d1.toNat + 1 := by omega
        rw [this, Int.pow_succ, pw1]
      have j3 : ((cntQ 2 (qs ++ [q]) : Nat) : Int) ^ Int.toNat 1 = ((cntQ 2 qs : Nat) : Int) ^ (q : Int).toNat + 1 := by
        rw [cntQ_snoc, pw1, Int.natCast_add, Int.natCast_pow, Int.toNat_natCast, Int.add_comm]; rfl
      have fin : ∃ a_1 p, Pot p ∧ a = a_1 ∧ p3 = p := ⟨_, _, hp3, rfl, rfl⟩
      refine ⟨fdOk_s (by omega) (by omega), hlog, hlog, ?_⟩
      rw [if_neg (by rw [j1]; simp)]
      refine ⟨?_, ?_⟩
      · refine mulOk_log (n := 2 * prodQ qs * d1.toNat + 1) (m := 2 * prodQ qs) ?_ ?_ (by omega) (by omega) (by rw [Nat.mul_assoc]; omega)
        · rw [Int.natAbs_pow, Int.natAbs_natCast]
          have h1 : cntQ 2 qs ^ d1.toNat ≤ (2 ^ (2 * prodQ qs)) ^ d1.toNat := Nat.pow_le_pow_left (Nat.le_of_lt (cntQ_bound hq)) _
          rw [← Nat.pow_mul] at h1
          exact Nat.lt_of_le_of_lt h1 (Nat.pow_lt_pow_right (by decide) (Nat.lt_succ_self _))
        · rw [Int.natAbs_pow, Int.natAbs_natCast]
          simpa using cntQ_bound hq
      rw [if_neg (by rw [j2]; simp)]
      refine ⟨mulOk_r (by omega), lenOk_of (by decide), lenOk_of (by rw [List.length_map, chainOf_len]; omega), ?_⟩
      rw [if_neg (by rw [j3]; simp)]
      split
      · rename_i h6
        rw [List.length_map, chainOf_len] at h6
        obtain ⟨q1, q2, rest, rfl⟩ : ∃ q1 q2 rest, qs = q1 :: q2 :: rest := by
          cases qs with
          | nil => simp at h6
          | cons q1 qs => cases qs with
            | nil => simp at h6
            | cons q2 rest => exact ⟨q1, q2, rest, rfl⟩
        have g1 := hq q1 (by simp)
        have g2 := hq q2 (by simp)
        have pe : prodQ (q1 * q2 :: rest) = prodQ (q1 :: q2 :: rest) := by simp [prodQ, Nat.mul_assoc]
        have gq : ∀ q ∈ q1 * q2 :: rest, 2 ≤ q := fun q z => by
          rcases List.mem_cons.mp z with rfl | z
          · exact Nat.le_trans g1 (Nat.le_mul_of_pos_right _ (by omega))
          · exact hq q (by simp [z])
        have c9 := count_ok (qs := q1 * q2 :: rest) (e := d1) gq hd0 (by rw [pe]; omega) (by omega) (by rw [pe]; omega)
        have e9 : cut (List.map PyData.int (chainOf 1 (q1 :: q2 :: rest))) none (some 1) ++ cut (List.map PyData.int (chainOf 1 (q1 :: q2 :: rest))) (some 2) none = List.map PyData.int (chainOf 1 (q1 * q2 :: rest)) := by
          have s2 : HT.sIx ((rest.length + 1 + 1) + 1) 0 (some 2) = 2 := by
            show (if (2 : Int) < 0 then ((2 : Int) + (((rest.length + 1 + 1) + 1 : Nat) : Int)).toNat else min (2 : Int).toNat ((rest.length + 1 + 1) + 1)) = 2
            rw [if_neg (by decide)]
            have : (2 : Int).toNat = 2 := rfl
            rw [this]; omega
          have s1 : HT.sIx ((rest.length + 1 + 1) + 1) ((rest.length + 1 + 1) + 1) (some 1) = 1 := by
            show (if (1 : Int) < 0 then ((1 : Int) + (((rest.length + 1 + 1) + 1 : Nat) : Int)).toNat else min (1 : Int).toNat ((rest.length + 1 + 1) + 1)) = 1
            rw [if_neg (by decide)]
            have : (1 : Int).toNat = 1 := rfl
            rw [this]; omega
          have s3 : HT.sIx ((rest.length + 1 + 1) + 1) 0 none = 0 := rfl
          have s4 : HT.sIx ((rest.length + 1 + 1) + 1) ((rest.length + 1 + 1) + 1) none = (rest.length + 1 + 1) + 1 := rfl
          unfold cut
          simp only [List.length_map, chainOf_len, List.length_cons, s1, s2, s3, s4]
          simp only [chainOf, List.map_cons, Int.one_mul]
          simp [List.take_of_length_le, chainOf_len]
        have l9 : (cut (List.map PyData.int (chainOf 1 (q1 :: q2 :: rest))) none (some 1)).length + (cut (List.map PyData.int (chainOf 1 (q1 :: q2 :: rest))) (some 2) none).length ≤ 100 := by
          rw [← List.length_append, e9, List.length_map, chainOf_len]
          simp only [List.length_cons] at hl ⊢
          omega
        have m9 : ¬ ((cntQ 2 (q1 :: q2 :: rest) : Nat) : Int) ^ d1.toNat < ((cntQ 2 (q1 * q2 :: rest) : Nat) : Int) ^ d1.toNat := by
          have := Nat.pow_le_pow_left (cntQ_fewer q1 q2 rest) d1.toNat
          have h1 : ((cntQ 2 (q1 * q2 :: rest) ^ d1.toNat : Nat) : Int) ≤ ((cntQ 2 (q1 :: q2 :: rest) ^ d1.toNat : Nat) : Int) := by exact_mod_cast this
          rw [Int.natCast_pow, Int.natCast_pow] at h1
          omega
        refine ⟨lenOk_of (by omega), ?_⟩
        simp only [e9, c9, tr_bnd, tr_lft, tr_con, tr_op2, tr_op2r, tr_op2b, tr_asB, tr_trB, tr_trBp, tr_and, tr_or, tr_not, tr_if, tr_andV, tr_orV, tr_notV, tr_neg, tr_chain, tr_nil, tr_cons, tr_tup, tr_lst, tr_pn, tr_ps, tr_sl, tr_c1, tr_c1p, tr_seqI, tr_rng1, tr_rng2, tr_rng3, tr_zip, tr_enum, tr_rtV, tr_rtO, tr_aNil, tr_aV, tr_call, tr_callT, ts_next, ts_break, ts_cont, ts_seq, ts_ret, ts_retO, ts_retN, ts_expr, ts_assign, as_name, as_nil, as_cons, as_tup, ts_own, ts_if, ts_for, ts_store, varK_v, varK_o, rtd_v, rtd_o, rto_o, tu_var, tu_op2l, tu_slp, getO_o, getS_s, getX_v, tu_aL, tu_aS, tu_take, tu_aug, tu_append, tu_pop, tu_lenS, tu_ixS, outA, scrA, isOA, isSA, outS_o, scrS_s, isO_o, isS_s, lok_gen, lix_nil, lix_v, lix_l, lix_s, sok_nil, sok_v, sok_l, sok_s, at_0, at_1, getV_v, getV_o, getL_o, add_ii, sub_ii, mul_ii, fdiv_ii, mod_ii, pow_ii, neg_i, cmp_ii, addI_ii, mulI_ii, eq_ii, ne_ii, eq_ss, ne_ss, asB_b, truth_b, truth_i, truth_l, truth_t, truth_n, asI_i, item_l, item_t, len_l, len_t, abs_i, int_i, int_b, tuple_l, tuple_t, list_l, list_t, max2_ii, min2_ii, seq_l, seq_t, slice_l, slice_t, rng1_i, rng2_i, zip_l, zip_t, enum_l, add_tt, add_ll, add_ss, repr_i, atI_0, atI_1, atI_2, ixN_0, ixN_1, ixN_2, ite_some, map_some, ex_and, ex_eq, bind_some, List.set_cons_zero, List.set_cons_succ, List.length_cons, List.length_nil, Option.some.injEq, decide_eq_true_eq, Bool.not_true, Bool.not_false, Bool.and_eq_true, Bool.or_eq_true, fillA, wbA, entry, entrySls, entrySl, List.replicate, List.cons_append, List.nil_append, trF_ok, List.append_nil, List.map_nil, List.map_cons, ownIx, and_assoc, exists_and_left, exists_eq_left', exists_eq_left, Rt.v.injEq, Rt.o.injEq, List.cons.injEq, PyData.int.injEq, PyData.list.injEq, PyData.tuple.injEq, and_true, true_and, List.all_cons, List.all_nil, List.nodup_cons, List.nodup_nil, decide_true, decide_false, Bool.and_true, Bool.true_and, List.mem_cons, List.not_mem_nil, not_false_eq_true, Nat.sub_self, Nat.reduceSub, Nat.reduceAdd, if_true, if_false, Bool.false_eq_true, reduceCtorEq, false_and, and_false, or_false, false_or, and_self, Nat.zero_add, exists_eq', exists_eq, Sl.val.injEq, Sl.own.injEq, exists_const]
        rw [if_neg m9]
        exact fin
      · exact fin
    · obtain ⟨a, p, c, d, e, f, g, h, j, hp, rfl⟩ := h4
      simp only [tr_bnd, tr_lft, tr_con, tr_op2, tr_op2r, tr_op2b, tr_asB, tr_trB, tr_trBp, tr_and, tr_or, tr_not, tr_if, tr_andV, tr_orV, tr_notV, tr_neg, tr_chain, tr_nil, tr_cons, tr_tup, tr_lst, tr_pn, tr_ps, tr_sl, tr_c1, tr_c1p, tr_seqI, tr_rng1, tr_rng2, tr_rng3, tr_zip, tr_enum, tr_rtV, tr_rtO, tr_aNil, tr_aV, tr_call, tr_callT, ts_next, ts_break, ts_cont, ts_seq, ts_ret, ts_retO, ts_retN, ts_expr, ts_assign, as_name, as_nil, as_cons, as_tup, ts_own, ts_if, ts_for, ts_store, varK_v, varK_o, rtd_v, rtd_o, rto_o, tu_var, tu_op2l, tu_slp, getO_o, getS_s, getX_v, tu_aL, tu_aS, tu_take, tu_aug, tu_append, tu_pop, tu_lenS, tu_ixS, outA, scrA, isOA, isSA, outS_o, scrS_s, isO_o, isS_s, lok_gen, lix_nil, lix_v, lix_l, lix_s, sok_nil, sok_v, sok_l, sok_s, at_0, at_1, getV_v, getV_o, getL_o, add_ii, sub_ii, mul_ii, fdiv_ii, mod_ii, pow_ii, neg_i, cmp_ii, addI_ii, mulI_ii, eq_ii, ne_ii, eq_ss, ne_ss, asB_b, truth_b, truth_i, truth_l, truth_t, truth_n, asI_i, item_l, item_t, len_l, len_t, abs_i, int_i, int_b, tuple_l, tuple_t, list_l, list_t, max2_ii, min2_ii, seq_l, seq_t, slice_l, slice_t, rng1_i, rng2_i, zip_l, zip_t, enum_l, add_tt, add_ll, add_ss, repr_i, atI_0, atI_1, atI_2, ixN_0, ixN_1, ixN_2, ite_some, map_some, ex_and, ex_eq, bind_some, List.set_cons_zero, List.set_cons_succ, List.length_cons, List.length_nil, Option.some.injEq, decide_eq_true_eq, Bool.not_true, Bool.not_false, Bool.and_eq_true, Bool.or_eq_true, fillA, wbA, entry, entrySls, entrySl, List.replicate, List.cons_append, List.nil_append, trF_ok, List.append_nil, List.map_nil, List.map_cons, ownIx, and_assoc, exists_and_left, exists_eq_left', exists_eq_left, Rt.v.injEq, Rt.o.injEq, List.cons.injEq, PyData.int.injEq, PyData.list.injEq, PyData.tuple.injEq, and_true, true_and, List.all_cons, List.all_nil, List.nodup_cons, List.nodup_nil, decide_true, decide_false, Bool.and_true, Bool.true_and, List.mem_cons, List.not_mem_nil, not_false_eq_true, Nat.sub_self, Nat.reduceSub, Nat.reduceAdd, if_true, if_false, Bool.false_eq_true, reduceCtorEq, false_and, and_false, or_false, false_or, and_self, Nat.zero_add, exists_eq', exists_eq, Sl.val.injEq, Sl.own.injEq, exists_const]
  · obtain ⟨a, b, c, d, e, f, g, h, j, rfl⟩ := h4
    simp only [tr_bnd, tr_lft, tr_con, tr_op2, tr_op2r, tr_op2b, tr_asB, tr_trB, tr_trBp, tr_and, tr_or, tr_not, tr_if, tr_andV, tr_orV, tr_notV, tr_neg, tr_chain, tr_nil, tr_cons, tr_tup, tr_lst, tr_pn, tr_ps, tr_sl, tr_c1, tr_c1p, tr_seqI, tr_rng1, tr_rng2, tr_rng3, tr_zip, tr_enum, tr_rtV, tr_rtO, tr_aNil, tr_aV, tr_call, tr_callT, ts_next, ts_break, ts_cont, ts_seq, ts_ret, ts_retO, ts_retN, ts_expr, ts_assign, as_name, as_nil, as_cons, as_tup, ts_own, ts_if, ts_for, ts_store, varK_v, varK_o, rtd_v, rtd_o, rto_o, tu_var, tu_op2l, tu_slp, getO_o, getS_s, getX_v, tu_aL, tu_aS, tu_take, tu_aug, tu_append, tu_pop, tu_lenS, tu_ixS, outA, scrA, isOA, isSA, outS_o, scrS_s, isO_o, isS_s, lok_gen, lix_nil, lix_v, lix_l, lix_s, sok_nil, sok_v, sok_l, sok_s, at_0, at_1, getV_v, getV_o, getL_o, add_ii, sub_ii, mul_ii, fdiv_ii, mod_ii, pow_ii, neg_i, cmp_ii, addI_ii, mulI_ii, eq_ii, ne_ii, eq_ss, ne_ss, asB_b, truth_b, truth_i, truth_l, truth_t, truth_n, asI_i, item_l, item_t, len_l, len_t, abs_i, int_i, int_b, tuple_l, tuple_t, list_l, list_t, max2_ii, min2_ii, seq_l, seq_t, slice_l, slice_t, rng1_i, rng2_i, zip_l, zip_t, enum_l, add_tt, add_ll, add_ss, repr_i, atI_0, atI_1, atI_2, ixN_0, ixN_1, ixN_2, ite_some, map_some, ex_and, ex_eq, bind_some, List.set_cons_zero, List.set_cons_succ, List.length_cons, List.length_nil, Option.some.injEq, decide_eq_true_eq, Bool.not_true, Bool.not_false, Bool.and_eq_true, Bool.or_eq_true, fillA, wbA, entry, entrySls, entrySl, List.replicate, List.cons_append, List.nil_append, trF_ok, List.append_nil, List.map_nil, List.map_cons, ownIx, and_assoc, exists_and_left, exists_eq_left', exists_eq_left, Rt.v.injEq, Rt.o.injEq, List.cons.injEq, PyData.int.injEq, PyData.list.injEq, PyData.tuple.injEq, and_true, true_and, List.all_cons, List.all_nil, List.nodup_cons, List.nodup_nil, decide_true, decide_false, Bool.and_true, Bool.true_and, List.mem_cons, List.not_mem_nil, not_false_eq_true, Nat.sub_self, Nat.reduceSub, Nat.reduceAdd, if_true, if_false, Bool.false_eq_true, reduceCtorEq, false_and, and_false, or_false, false_or, and_self, Nat.zero_add, exists_eq', exists_eq, Sl.val.injEq, Sl.own.injEq, exists_const]
end Lk09

/-! the walk of the law k09, printed by gen.py -/
namespace Lk09
open PySem PySem.Spec PL L2
open PyProof.Rows hiding St

def topS (i : Nat) : Stmt := PySem.Challenge.pw_pinnedheap_k09_whole_counts_of_states.main.body.getD i (.Pass ⟨0, 0, 0, 0⟩)
abbrev s_l_pot : Stmt := topS 4
abbrev N_l_pot : List Str := ["_law_script", "_law_k", "_law_cell", "_law_great"]
theorem sc_l_pot : FnScope N_l_pot ["_law_script", "_law_k"] (defScope s_l_pot) := ⟨rfl, rfl, rfl, by decide +kernel, rfl, by decide +kernel, by decide +kernel⟩
abbrev s_l_take : Stmt := topS 5
abbrev N_l_take : List Str := ["_law_pot_here", "_law_upto", "_law_digit"]
theorem sc_l_take : FnScope N_l_take ["_law_pot_here", "_law_upto"] (defScope s_l_take) := ⟨rfl, rfl, rfl, by decide +kernel, rfl, by decide +kernel, by decide +kernel⟩
abbrev s_l_of : Stmt := topS 6
abbrev N_l_of : List Str := ["_law_pot_here", "_law_some"]
theorem sc_l_of : FnScope N_l_of ["_law_pot_here", "_law_some"] (defScope s_l_of) := ⟨rfl, rfl, rfl, by decide +kernel, rfl, by decide +kernel, by decide +kernel⟩
abbrev s_l_links : Stmt := topS 7
abbrev N_l_links : List Str := ["_law_pot_here", "_law_most", "_law_found", "_law_turn", "_law_ratio"]
theorem sc_l_links : FnScope N_l_links ["_law_pot_here", "_law_most"] (defScope s_l_links) := ⟨rfl, rfl, rfl, by decide +kernel, rfl, by decide +kernel, by decide +kernel⟩
abbrev s_power : Stmt := topS 1
abbrev N_power : List Str := ["base", "exponent", "found", "turn"]
theorem sc_power : FnScope N_power ["base", "exponent"] (defScope s_power) := ⟨rfl, rfl, rfl, by decide +kernel, rfl, by decide +kernel, by decide +kernel⟩
abbrev s_count_states : Stmt := topS 2
abbrev N_count_states : List Str := ["chain", "pages", "many", "size", "larger"]
theorem sc_count_states : FnScope N_count_states ["chain", "pages"] (defScope s_count_states) := ⟨rfl, rfl, rfl, by decide +kernel, rfl, by decide +kernel, by decide +kernel⟩
abbrev s_l_counted : Stmt := topS 8
abbrev N_l_counted : List Str := ["_law_links_here", "_law_many", "_law_one", "_law_smaller", "_law_size", "_law_product", "_law_turn", "_law_found"]
theorem sc_l_counted : FnScope N_l_counted ["_law_links_here", "_law_many"] (defScope s_l_counted) := ⟨rfl, rfl, rfl, by decide +kernel, rfl, by decide +kernel, by decide +kernel⟩
abbrev s_law : Stmt := topS 9
abbrev N_law : List Str := ["_law_script", "_law_k", "_law_pot_here", "_law_turn", "_law_links_here", "_law_many", "_law_found", "_law_ratio", "_law_longer_links", "_law_fewer"]
theorem sc_law : FnScope N_law ["_law_script"] (defScope s_law) := ⟨rfl, rfl, rfl, by decide +kernel, rfl, by decide +kernel, by decide +kernel⟩
structure Txt (K : PySem.W.Frag) (mg : Str → Option Value) where
  a_l_pot : Addr
  d_l_pot : FuncData
  F_l_pot : Fun K "_law_pot" "_law_pot" s_l_pot a_l_pot d_l_pot
  g_l_pot : mg "_law_pot" = some (.ref a_l_pot)
  b_l_pot : Binds K d_l_pot ["_law_script", "_law_k"] []
  a_l_take : Addr
  d_l_take : FuncData
  F_l_take : Fun K "_law_take" "_law_take" s_l_take a_l_take d_l_take
  g_l_take : mg "_law_take" = some (.ref a_l_take)
  b_l_take : Binds K d_l_take ["_law_pot_here", "_law_upto"] []
  a_l_of : Addr
  d_l_of : FuncData
  F_l_of : Fun K "_law_of" "_law_of" s_l_of a_l_of d_l_of
  g_l_of : mg "_law_of" = some (.ref a_l_of)
  b_l_of : Binds K d_l_of ["_law_pot_here", "_law_some"] []
  a_l_links : Addr
  d_l_links : FuncData
  F_l_links : Fun K "_law_links" "_law_links" s_l_links a_l_links d_l_links
  g_l_links : mg "_law_links" = some (.ref a_l_links)
  b_l_links : Binds K d_l_links ["_law_pot_here", "_law_most"] []
  a_power : Addr
  d_power : FuncData
  F_power : Fun K "power" "power" s_power a_power d_power
  g_power : mg "power" = some (.ref a_power)
  b_power : Binds K d_power ["base", "exponent"] []
  a_count_states : Addr
  d_count_states : FuncData
  F_count_states : Fun K "count_states" "count_states" s_count_states a_count_states d_count_states
  g_count_states : mg "count_states" = some (.ref a_count_states)
  b_count_states : Binds K d_count_states ["chain", "pages"] []
  a_l_counted : Addr
  d_l_counted : FuncData
  F_l_counted : Fun K "_law_counted" "_law_counted" s_l_counted a_l_counted d_l_counted
  g_l_counted : mg "_law_counted" = some (.ref a_l_counted)
  b_l_counted : Binds K d_l_counted ["_law_links_here", "_law_many"] []
  a_law : Addr
  d_law : FuncData
  F_law : Fun K "law" "law" s_law a_law d_law
  g_law : mg "law" = some (.ref a_law)
  b_law : Binds K d_law ["_law_script"] []
  n_abs : mg "abs" = none
  n_int : mg "int" = none
  n_len : mg "len" = none
  n_max : mg "max" = none
  n_min : mg "min" = none
  n_range : mg "range" = none
  n_repr : mg "repr" = none
  n_tuple : mg "tuple" = none
  n_zip : mg "zip" = none
  nd : NoDg K
section
variable {P : Program} {w : World} {K : PySem.W.Frag} {mg : Str → Option Value} {base : Heap} {RX : RXT} (T : Txt K mg)
theorem ok_l_pot : FnG P w K mg base 1 T.a_l_pot T.d_l_pot ["_law_script", "_law_k"] (spF K RX [.s, .v] f_l_pot) :=
  fn_pure (N := N_l_pot) (m := m_l_pot) (k := 0) T.F_l_pot sc_l_pot rfl (by decide) (fun cdv A outer s H E hr hg => ⟨_, (pss_cons (ps_set (i := 2) sc_l_pot.nd rfl (by first | exact Or.inl rfl | exact Or.inr rfl) (pe_op opr_add (pe_op opr_mul pe_int (pv 1)) (pe_callB cr_len (by rfl) T.n_len bt_len (pa_cons (pv 0) pa_nil))))
   (pss_cons (ps_if (pt_cmpR op_lt (pv 1) (pe_callB cr_len (by rfl) T.n_len bt_len (pa_cons (pv 0) pa_nil)) (nomark _)) (pss_one (ps_set (i := 2) sc_l_pot.nd rfl (by first | exact Or.inl rfl | exact Or.inr rfl) (pe_ix ix_seq (pv 0) (pv 1) (fun _ _ => rfl)))) pss_nil)
   (pss_cons (ps_set (i := 3) sc_l_pot.nd rfl (by first | exact Or.inl rfl | exact Or.inr rfl) (pe_op opr_mul (pe_op op_mod (pe_callB call_abs (by rfl) T.n_abs bt_abs (pa_cons (pv 2) pa_nil)) (pe_callTy (cr_int T.nd) (by rfl) T.n_int bt_int (pa_cons (pe_op opr_add pe_str (pe_op opr_mul pe_str pe_int)) pa_nil))) (pe_callTy (cr_int T.nd) (by rfl) T.n_int bt_int (pa_cons (pe_cmpR op_ge (pe_callB call_abs (by rfl) T.n_abs bt_abs (pa_cons (pv 2) pa_nil)) (pe_op opr_pow pe_int pe_int) (nomark _)) pa_nil))))
   (pss_one (ps_ret (pe_lst (pa_cons (pv 3) (pa_cons (pe_op op_mod (pe_op opr_mul (pe_op opr_add (pe_op opr_add (pe_op op_mod (pv 2) pe_int) (pe_op opr_mul (pe_op opr_mul pe_int (pv 1)) (pv 1))) pe_int) pe_int) pe_int) pa_nil)))))))),
   (rs_seq (rs_assign (rf_op2 of_add (rf_op2r of_mul (rf_con fun _ _ => Rep.int _)) rf_lenS) (rg_name (nps (by decide))))
   (rs_seq (rs_if (rf_tTest (rf_op2l (of_cmpI _) rf_lenS)) (rs_assign (rf_ixS (rf_var (nps (by decide)))) (rg_name (nps (by decide)))) rs_next)
   (rs_seq (rs_assign (rf_op2 of_mul (rf_op2 of_mod (rf_c1p c1_abs) (rf_c1 c1_int (rf_op2 of_add (rf_con fun _ _ => Rep.str _) (rf_op2 of_mul (rf_con fun _ _ => Rep.str _) (rf_con fun _ _ => Rep.int _))))) (rf_c1 c1_int (rf_op2 (of_cmpI _) (rf_c1p c1_abs) (rf_op2 of_pow (rf_con fun _ _ => Rep.int _) (rf_con fun _ _ => Rep.int _))))) (rg_name (nps (by decide))))
   (rs_retO (rf_lst (rf_cons (rf_var (nps (by decide))) (rf_cons (rf_op2 of_mod (rf_op2 of_mul (rf_op2 of_add (rf_op2 of_add (rf_op2l of_mod (rf_con fun _ _ => Rep.int _)) (rf_op2r of_mul (rf_op2r of_mul (rf_con fun _ _ => Rep.int _)))) (rf_con fun _ _ => Rep.int _)) (rf_con fun _ _ => Rep.int _)) (rf_con fun _ _ => Rep.int _)) rf_nil)))))))⟩)
theorem ok_l_take : FnG P w K mg base 1 T.a_l_take T.d_l_take ["_law_pot_here", "_law_upto"] (spF K RX [.o, .v] f_l_take) :=
  fn_pure (N := N_l_take) (m := m_l_take) (k := 0) T.F_l_take sc_l_take rfl (by decide) (fun cdv A outer s H E hr hg => ⟨_, (pss_cons (ps_if (pt_cmpR op_gt (pe_ix ix_seq (pv 0) pe_int (fun _ _ => rfl)) pe_int (nomark _)) (pss_cons (ps_set (i := 2) sc_l_take.nd rfl (by first | exact Or.inl rfl | exact Or.inr rfl) (pe_op op_mod (pe_ix ix_seq (pv 0) pe_int (fun _ _ => rfl)) (pv 1)))
   (pss_cons (ps_asg (pe_op op_fdivW (pe_ix ix_seq (pv 0) pe_int (fun _ _ => rfl)) (pv 1)) (pg_sub (pv 0) pe_int set_list))
   (pss_one (ps_ret (pv 2))))) pss_nil)
   (pss_cons (ps_asg (pe_op op_mod (pe_op opr_add (pe_op opr_mul (pe_ix ix_seq (pv 0) pe_int (fun _ _ => rfl)) pe_int) pe_int) pe_int) (pg_sub (pv 0) pe_int set_list))
   (pss_one (ps_ret (pe_op op_mod (pe_op op_fdivW (pe_op op_mod (pe_op opr_mul (pe_op op_fdivW (pe_ix ix_seq (pv 0) pe_int (fun _ _ => rfl)) pe_int) (pe_op opr_add (pe_op op_mod (pe_ix ix_seq (pv 0) pe_int (fun _ _ => rfl)) pe_int) pe_int)) pe_int) pe_int) (pv 1)))))),
   (rs_seq (rs_if (rf_tTest (rf_op2 (of_cmpI _) (rf_op2l of_item (rf_con fun _ _ => Rep.int _)) (rf_con fun _ _ => Rep.int _))) (rs_seq (rs_assign (rf_op2r of_mod (rf_op2l of_item (rf_con fun _ _ => Rep.int _))) (rg_name (nps (by decide))))
   (rs_seq (rs_store (rf_op2r of_fdiv (rf_op2l of_item (rf_con fun _ _ => Rep.int _))) (rf_con fun _ _ => Rep.int _))
   (rs_ret (rf_var (nps (by decide)))))) rs_next)
   (rs_seq (rs_store (rf_op2 of_mod (rf_op2 of_add (rf_op2 of_mul (rf_op2l of_item (rf_con fun _ _ => Rep.int _)) (rf_con fun _ _ => Rep.int _)) (rf_con fun _ _ => Rep.int _)) (rf_con fun _ _ => Rep.int _)) (rf_con fun _ _ => Rep.int _))
   (rs_ret (rf_op2r of_mod (rf_op2 of_fdiv (rf_op2 of_mod (rf_op2 of_mul (rf_op2 of_fdiv (rf_op2l of_item (rf_con fun _ _ => Rep.int _)) (rf_con fun _ _ => Rep.int _)) (rf_op2 of_add (rf_op2 of_mod (rf_op2l of_item (rf_con fun _ _ => Rep.int _)) (rf_con fun _ _ => Rep.int _)) (rf_con fun _ _ => Rep.int _))) (rf_con fun _ _ => Rep.int _)) (rf_con fun _ _ => Rep.int _))))))⟩)
theorem ok_l_of : FnG P w K mg base 2 T.a_l_of T.d_l_of ["_law_pot_here", "_law_some"] (spF K RX [.o, .v] f_l_of) :=
  fn_pure (N := N_l_of) (m := m_l_of) (k := 1) T.F_l_of sc_l_of rfl (by decide) (fun cdv A outer s H E hr hg => ⟨_, (pss_one (ps_ret (pe_ix ix_seq (pv 1) (pe_callG (ok_l_take T) hr hg (by rfl) T.g_l_take T.F_l_take.kp T.b_l_take .nil (takes_of rfl rfl rfl rfl) (pa_cons (pv 0) (pa_cons (pe_callB cr_len (by rfl) T.n_len bt_len (pa_cons (pv 1) pa_nil)) pa_nil))) (fun _ _ => rfl)))),
   (rs_ret (rf_op2l of_item (rf_rtV (rf_call rfl (rf_alend (rf_acons (rf_c1p c1_len) rf_anil))))))⟩)
theorem ok_l_links : FnG P w K mg base 3 T.a_l_links T.d_l_links ["_law_pot_here", "_law_most"] (spF K RX [.o, .v] f_l_links) :=
  fn_pure (N := N_l_links) (m := m_l_links) (k := 2) T.F_l_links sc_l_links rfl (by decide) (fun cdv A outer s H E hr hg => ⟨_, (pss_cons (ps_set (i := 2) sc_l_links.nd rfl (by first | exact Or.inl rfl | exact Or.inr rfl) (pe_lst (pa_cons pe_int pa_nil)))
   (pss_cons (ps_for (passes_of rfl) rfl (pi_range1 (by rfl) T.n_range (pa_cons (pe_callG (ok_l_take T) (hr.mono (by decide)) hg (by rfl) T.g_l_take T.F_l_take.kp T.b_l_take .nil (takes_of rfl rfl rfl rfl) (pa_cons (pv 0) (pa_cons pe_int pa_nil))) pa_nil)) (pg_name (i := 3) sc_l_links.nd rfl (by first | exact Or.inl rfl | exact Or.inr rfl)) (pss_cons (ps_set (i := 4) sc_l_links.nd rfl (by first | exact Or.inl rfl | exact Or.inr rfl) (pe_callG (ok_l_of T) hr hg (by rfl) T.g_l_of T.F_l_of.kp T.b_l_of .nil (takes_of rfl rfl rfl rfl) (pa_cons (pv 0) (pa_cons (pe_lst (pa_cons pe_int (pa_cons pe_int (pa_cons pe_int (pa_cons pe_int (pa_cons pe_int (pa_cons (pe_op opr_add pe_int (pe_callG (ok_l_take T) (hr.mono (by decide)) hg (by rfl) T.g_l_take T.F_l_take.kp T.b_l_take .nil (takes_of rfl rfl rfl rfl) (pa_cons (pv 0) (pa_cons pe_int pa_nil)))) pa_nil))))))) pa_nil))))
   (pss_one (ps_if (PW.pt (pw_and (pt_cmpR op_le (pe_op opr_mul (pe_ix ix_seq (pv 2) (pe_un un_neg pe_int) (fun _ _ => rfl)) (pv 4)) (pv 1) (nomark _)) (pw_and1 (pt_cmpR op_lt (pe_callB cr_len (by rfl) T.n_len bt_len (pa_cons (pv 2) pa_nil)) pe_int (nomark _))))) (pss_one (ps_expr (pe_bm PySem.F.plainAttrs_list PySem.F.slot_list_append PySem.F.type_list_append mt_append (pv 2) (pa_cons (pe_op opr_mul (pe_ix ix_seq (pv 2) (pe_un un_neg pe_int) (fun _ _ => rfl)) (pv 4)) pa_nil)))) pss_nil))))
   (pss_one (ps_ret (pe_callTy call_tuple_of (by rfl) T.n_tuple bt_tuple (pa_cons (pv 2) pa_nil)))))),
   (rs_seq (rs_own (nps (by decide)) (rf_lst (rf_cons (rf_con fun _ _ => Rep.int _) rf_nil)))
   (rs_seq (rs_for (rf_rng1 (rf_rtV (rf_call rfl (rf_alend (rf_acons (rf_con fun _ _ => Rep.int _) rf_anil))))) (rg_name (nps (by decide))) (rs_seq (rs_assign (rf_rtV (rf_call rfl (rf_alend (rf_acons (rf_lst (rf_cons (rf_con fun _ _ => Rep.int _) (rf_cons (rf_con fun _ _ => Rep.int _) (rf_cons (rf_con fun _ _ => Rep.int _) (rf_cons (rf_con fun _ _ => Rep.int _) (rf_cons (rf_con fun _ _ => Rep.int _) (rf_cons (rf_op2 of_add (rf_con fun _ _ => Rep.int _) (rf_rtV (rf_call rfl (rf_alend (rf_acons (rf_con fun _ _ => Rep.int _) rf_anil))))) rf_nil))))))).frz rf_anil)))) (rg_name (nps (by decide))))
   (rs_if (rf_and (rf_tTest (rf_op2r (of_cmpI _) (rf_op2r of_mul (rf_op2l of_item (rf_neg (rf_con fun _ _ => Rep.int _)))))) (rf_tTest (rf_op2 (of_cmpI _) (rf_c1p c1_len) (rf_con fun _ _ => Rep.int _)))) (rs_append (rf_op2r of_mul (rf_op2l of_item (rf_neg (rf_con fun _ _ => Rep.int _))))) rs_next)))
   (rs_ret (rf_c1p c1_tuple))))⟩)
theorem ok_power : FnG P w K mg base 1 T.a_power T.d_power ["base", "exponent"] (spF K RX [.v, .v] f_power) :=
  fn_pure (N := N_power) (m := m_power) (k := 0) T.F_power sc_power rfl (by decide) (fun cdv A outer s H E hr hg => ⟨_, (pss_cons (ps_set (i := 2) sc_power.nd rfl (by first | exact Or.inl rfl | exact Or.inr rfl) pe_int)
   (pss_cons (ps_for (passes_of rfl) rfl (pi_range1 (by rfl) T.n_range (pa_cons (pv 1) pa_nil)) (pg_name (i := 3) sc_power.nd rfl (by first | exact Or.inl rfl | exact Or.inr rfl)) (pss_one (ps_aug (i := 2) sc_power.nd rfl (by first | exact Or.inl rfl | exact Or.inr rfl) (pv 0) ip_mulI)))
   (pss_one (ps_ret (pv 2))))),
   (rs_seq (rs_assign (rf_con fun _ _ => Rep.int _) (rg_name (nps (by decide))))
   (rs_seq (rs_for (rf_rng1 (rf_var (nps (by decide)))) (rg_name (nps (by decide))) (rs_aug (nps (by decide)) of_mulI (rf_var (nps (by decide)))))
   (rs_ret (rf_var (nps (by decide))))))⟩)
theorem ok_count_states : FnG P w K mg base 2 T.a_count_states T.d_count_states ["chain", "pages"] (spF K RX [.v, .v] f_count_states) :=
  fn_pure (N := N_count_states) (m := m_count_states) (k := 1) T.F_count_states sc_count_states rfl (by decide) (fun cdv A outer s H E hr hg => ⟨_, (pss_cons (ps_set (i := 2) sc_count_states.nd rfl (by first | exact Or.inl rfl | exact Or.inr rfl) pe_int)
   (pss_cons (ps_for (passes_of rfl) rfl (RZ.pi_zipA (by rfl) T.n_zip (pa_cons (pv 0) (pa_cons (pe_slice slr_any (pv 0) (po_some pe_int) po_none) pa_nil))) (pg_tup rfl (pgs_cons (pg_name (i := 3) sc_count_states.nd rfl (by first | exact Or.inl rfl | exact Or.inr rfl)) (pgs_cons (pg_name (i := 4) sc_count_states.nd rfl (by first | exact Or.inl rfl | exact Or.inr rfl)) pgs_nil))) (pss_one (ps_set (i := 2) sc_count_states.nd rfl (by first | exact Or.inl rfl | exact Or.inr rfl) (pe_op opr_add pe_int (pe_callG (ok_power T) hr hg (by rfl) T.g_power T.F_power.kp T.b_power .nil (takes_of rfl rfl rfl rfl) (pa_cons (pv 2) (pa_cons (pe_op op_fdivW (pv 4) (pv 3)) pa_nil)))))))
   (pss_one (ps_ret (pe_callG (ok_power T) hr hg (by rfl) T.g_power T.F_power.kp T.b_power .nil (takes_of rfl rfl rfl rfl) (pa_cons (pv 2) (pa_cons (pv 1) pa_nil))))))),
   (rs_seq (rs_assign (rf_con fun _ _ => Rep.int _) (rg_name (nps (by decide))))
   (rs_seq (rs_for (rf_zip (rf_var (nps (by decide))) (rf_slp (rf_ps (rf_con fun _ _ => Rep.int _)) rf_pn)) (rg_tup (rgs_cons (rg_name (nps (by decide))) (rgs_cons (rg_name (nps (by decide))) rgs_nil))) (rs_assign (rf_op2 of_add (rf_con fun _ _ => Rep.int _) (rf_rtV (rf_call rfl (rf_acons (rf_var (nps (by decide))) (rf_acons (rf_op2b of_fdiv) rf_anil))))) (rg_name (nps (by decide)))))
   (rs_ret (rf_rtV (rf_call rfl (rf_acons (rf_var (nps (by decide))) (rf_acons (rf_var (nps (by decide))) rf_anil)))))))⟩)
theorem ok_l_counted : FnG P w K mg base 1 T.a_l_counted T.d_l_counted ["_law_links_here", "_law_many"] (spF K RX [.v, .v] f_l_counted) :=
  fn_pure (N := N_l_counted) (m := m_l_counted) (k := 0) T.F_l_counted sc_l_counted rfl (by decide) (fun cdv A outer s H E hr hg => ⟨_, (pss_cons (ps_set (i := 2) sc_l_counted.nd rfl (by first | exact Or.inl rfl | exact Or.inr rfl) pe_int)
   (pss_cons (ps_for (passes_of rfl) rfl (RZ.pi_zipA (by rfl) T.n_zip (pa_cons (pv 0) (pa_cons (pe_slice slr_any (pv 0) (po_some pe_int) po_none) pa_nil))) (pg_tup rfl (pgs_cons (pg_name (i := 3) sc_l_counted.nd rfl (by first | exact Or.inl rfl | exact Or.inr rfl)) (pgs_cons (pg_name (i := 4) sc_l_counted.nd rfl (by first | exact Or.inl rfl | exact Or.inr rfl)) pgs_nil))) (pss_cons (ps_set (i := 5) sc_l_counted.nd rfl (by first | exact Or.inl rfl | exact Or.inr rfl) pe_int)
   (pss_cons (ps_for (passes_of rfl) rfl (pi_range1 (by rfl) T.n_range (pa_cons (pe_op op_fdivW (pv 4) (pv 3)) pa_nil)) (pg_name (i := 6) sc_l_counted.nd rfl (by first | exact Or.inl rfl | exact Or.inr rfl)) (pss_one (ps_set (i := 5) sc_l_counted.nd rfl (by first | exact Or.inl rfl | exact Or.inr rfl) (pe_op opr_mul (pv 5) (pv 2)))))
   (pss_one (ps_set (i := 2) sc_l_counted.nd rfl (by first | exact Or.inl rfl | exact Or.inr rfl) (pe_op opr_add (pv 5) pe_int))))))
   (pss_cons (ps_set (i := 7) sc_l_counted.nd rfl (by first | exact Or.inl rfl | exact Or.inr rfl) pe_int)
   (pss_cons (ps_for (passes_of rfl) rfl (pi_range1 (by rfl) T.n_range (pa_cons (pv 1) pa_nil)) (pg_name (i := 6) sc_l_counted.nd rfl (by first | exact Or.inl rfl | exact Or.inr rfl)) (pss_one (ps_set (i := 7) sc_l_counted.nd rfl (by first | exact Or.inl rfl | exact Or.inr rfl) (pe_op opr_mul (pv 7) (pv 2)))))
   (pss_one (ps_ret (pv 7))))))),
   (rs_seq (rs_assign (rf_con fun _ _ => Rep.int _) (rg_name (nps (by decide))))
   (rs_seq (rs_for (rf_zip (rf_var (nps (by decide))) (rf_slp (rf_ps (rf_con fun _ _ => Rep.int _)) rf_pn)) (rg_tup (rgs_cons (rg_name (nps (by decide))) (rgs_cons (rg_name (nps (by decide))) rgs_nil))) (rs_seq (rs_assign (rf_con fun _ _ => Rep.int _) (rg_name (nps (by decide))))
   (rs_seq (rs_for (rf_rng1 (rf_op2b of_fdiv)) (rg_name (nps (by decide))) (rs_assign (rf_op2b of_mul) (rg_name (nps (by decide)))))
   (rs_assign (rf_op2l of_add (rf_con fun _ _ => Rep.int _)) (rg_name (nps (by decide)))))))
   (rs_seq (rs_assign (rf_con fun _ _ => Rep.int _) (rg_name (nps (by decide))))
   (rs_seq (rs_for (rf_rng1 (rf_var (nps (by decide)))) (rg_name (nps (by decide))) (rs_assign (rf_op2b of_mul) (rg_name (nps (by decide)))))
   (rs_ret (rf_var (nps (by decide))))))))⟩)
theorem ok_law : FnG P w K mg base 4 T.a_law T.d_law ["_law_script"] (spF K RX [.s] f_law) :=
  fn_pure (N := N_law) (m := m_law) (k := 3) T.F_law sc_law rfl (by decide) (fun cdv A outer s H E hr hg => ⟨_, (pss_cons (ps_for (passes_of rfl) rfl (pi_range1 (by rfl) T.n_range (pa_cons (pe_callB (call_max2 rfl) (by rfl) T.n_max bt_max (pa_cons pe_int (pa_cons (pe_callB (call_min2 rfl) (by rfl) T.n_min bt_min (pa_cons pe_int (pa_cons (pe_callB cr_len (by rfl) T.n_len bt_len (pa_cons (pv 0) pa_nil)) pa_nil))) pa_nil))) pa_nil)) (pg_name (i := 1) sc_law.nd rfl (by first | exact Or.inl rfl | exact Or.inr rfl)) (pss_cons (ps_set (i := 2) sc_law.nd rfl (by first | exact Or.inl rfl | exact Or.inr rfl) (pe_callG (ok_l_pot T) (hr.mono (by decide)) hg (by rfl) T.g_l_pot T.F_l_pot.kp T.b_l_pot .nil (takes_of rfl rfl rfl rfl) (pa_cons (pv 0) (pa_cons (pv 1) pa_nil))))
   (pss_one (ps_for (passes_of rfl) rfl (pi_range1 (by rfl) T.n_range (pa_cons pe_int pa_nil)) (pg_name (i := 3) sc_law.nd rfl (by first | exact Or.inl rfl | exact Or.inr rfl)) (pss_cons (ps_set (i := 4) sc_law.nd rfl (by first | exact Or.inl rfl | exact Or.inr rfl) (pe_callG (ok_l_links T) hr hg (by rfl) T.g_l_links T.F_l_links.kp T.b_l_links .nil (takes_of rfl rfl rfl rfl) (pa_cons (pv 2) (pa_cons pe_int pa_nil))))
   (pss_cons (ps_set (i := 5) sc_law.nd rfl (by first | exact Or.inl rfl | exact Or.inr rfl) (pe_callG (ok_l_take T) (hr.mono (by decide)) hg (by rfl) T.g_l_take T.F_l_take.kp T.b_l_take .nil (takes_of rfl rfl rfl rfl) (pa_cons (pv 2) (pa_cons (pe_callB (call_min2 rfl) (by rfl) T.n_min bt_min (pa_cons pe_int (pa_cons (pe_op op_fdivW pe_int (pe_ix ix_seq (pv 4) (pe_un un_neg pe_int) (fun _ _ => rfl))) pa_nil))) pa_nil))))
   (pss_cons (ps_set (i := 6) sc_law.nd rfl (by first | exact Or.inl rfl | exact Or.inr rfl) (pe_callG (ok_count_states T) (hr.mono (by decide)) hg (by rfl) T.g_count_states T.F_count_states.kp T.b_count_states .nil (takes_of rfl rfl rfl rfl) (pa_cons (pv 4) (pa_cons (pv 5) pa_nil))))
   (pss_cons (ps_if (PW.pt (pw_or (pt_cmpR (opr_ne hr.units) (pe_callB (cr_repr T.nd hg hr.units) (by rfl) T.n_repr bt_repr (pa_cons (pv 6) pa_nil)) (pe_callB (cr_repr T.nd hg hr.units) (by rfl) T.n_repr bt_repr (pa_cons (pe_callG (ok_l_counted T) (hr.mono (by decide)) hg (by rfl) T.g_l_counted T.F_l_counted.kp T.b_l_counted .nil (takes_of rfl rfl rfl rfl) (pa_cons (pv 4) (pa_cons (pv 5) pa_nil))) pa_nil)) (nomark _)) (pw_or1 (pt_cmpR (opr_ne hr.units) (pe_callG (ok_count_states T) (hr.mono (by decide)) hg (by rfl) T.g_count_states T.F_count_states.kp T.b_count_states .nil (takes_of rfl rfl rfl rfl) (pa_cons (pv 4) (pa_cons pe_int pa_nil))) pe_int (nomark _))))) (pss_one (ps_ret pe_bl)) pss_nil)
   (pss_cons (ps_if (pt_cmpR (opr_ne hr.units) (pe_callG (ok_count_states T) (hr.mono (by decide)) hg (by rfl) T.g_count_states T.F_count_states.kp T.b_count_states .nil (takes_of rfl rfl rfl rfl) (pa_cons (pv 4) (pa_cons (pe_op opr_add (pv 5) pe_int) pa_nil))) (pe_op opr_mul (pv 6) (pe_callG (ok_count_states T) (hr.mono (by decide)) hg (by rfl) T.g_count_states T.F_count_states.kp T.b_count_states .nil (takes_of rfl rfl rfl rfl) (pa_cons (pv 4) (pa_cons pe_int pa_nil)))) (nomark _)) (pss_one (ps_ret pe_bl)) pss_nil)
   (pss_cons (ps_set (i := 7) sc_law.nd rfl (by first | exact Or.inl rfl | exact Or.inr rfl) (pe_op opr_add pe_int (pe_callG (ok_l_take T) (hr.mono (by decide)) hg (by rfl) T.g_l_take T.F_l_take.kp T.b_l_take .nil (takes_of rfl rfl rfl rfl) (pa_cons (pv 2) (pa_cons pe_int pa_nil)))))
   (pss_cons (ps_set (i := 8) sc_law.nd rfl (by first | exact Or.inl rfl | exact Or.inr rfl) (pe_op opr_add (pv 4) (pe_tup (pa_cons (pe_op opr_mul (pe_ix ix_seq (pv 4) (pe_un un_neg pe_int) (fun _ _ => rfl)) (pv 7)) pa_nil))))
   (pss_cons (ps_if (pt_cmpR (opr_ne hr.units) (pe_callG (ok_count_states T) (hr.mono (by decide)) hg (by rfl) T.g_count_states T.F_count_states.kp T.b_count_states .nil (takes_of rfl rfl rfl rfl) (pa_cons (pv 8) (pa_cons pe_int pa_nil))) (pe_op opr_add (pe_callG (ok_count_states T) (hr.mono (by decide)) hg (by rfl) T.g_count_states T.F_count_states.kp T.b_count_states .nil (takes_of rfl rfl rfl rfl) (pa_cons (pv 4) (pa_cons (pv 7) pa_nil))) pe_int) (nomark _)) (pss_one (ps_ret pe_bl)) pss_nil)
   (pss_one (ps_if (pt_cmpR op_gt (pe_callB cr_len (by rfl) T.n_len bt_len (pa_cons (pv 4) pa_nil)) pe_int (nomark _)) (pss_cons (ps_set (i := 9) sc_law.nd rfl (by first | exact Or.inl rfl | exact Or.inr rfl) (pe_op opr_add (pe_slice slr_any (pv 4) po_none (po_some pe_int)) (pe_slice slr_any (pv 4) (po_some pe_int) po_none)))
   (pss_one (ps_if (pt_cmpR op_gt (pe_callG (ok_count_states T) (hr.mono (by decide)) hg (by rfl) T.g_count_states T.F_count_states.kp T.b_count_states .nil (takes_of rfl rfl rfl rfl) (pa_cons (pv 9) (pa_cons (pv 5) pa_nil))) (pv 6) (nomark _)) (pss_one (ps_ret pe_bl)) pss_nil))) pss_nil))))))))))))))
   (pss_one (ps_ret pe_bl))),
   (rs_seq (rs_for (rf_rng1 (rf_c2 c2_max (rf_con fun _ _ => Rep.int _) (rf_c2 c2_min (rf_con fun _ _ => Rep.int _) rf_lenS))) (rg_name (nps (by decide))) (rs_seq (rs_own (nps (by decide)) (rf_rtO (rf_call rfl (rf_ascr (rf_acons (rf_var (nps (by decide))) rf_anil)))))
   (rs_for (rf_rng1 (rf_con fun _ _ => Rep.int _)) (rg_name (nps (by decide))) (rs_seq (rs_assign (rf_rtV (rf_call rfl (rf_alend (rf_acons (rf_con fun _ _ => Rep.int _) rf_anil)))) (rg_name (nps (by decide))))
   (rs_seq (rs_assign (rf_rtV (rf_call rfl (rf_alend (rf_acons (rf_c2 c2_min (rf_con fun _ _ => Rep.int _) (rf_op2 of_fdiv (rf_con fun _ _ => Rep.int _) (rf_op2l of_item (rf_neg (rf_con fun _ _ => Rep.int _))))) rf_anil)))) (rg_name (nps (by decide))))
   (rs_seq (rs_assign (rf_rtV (rf_call rfl (rf_acons (rf_var (nps (by decide))) (rf_acons (rf_var (nps (by decide))) rf_anil)))) (rg_name (nps (by decide))))
   (rs_seq (rs_if (rf_or (rf_tTest (rf_op2 of_ne (rf_c1p c1_repr) (rf_c1 c1_repr (rf_rtV (rf_call rfl (rf_acons (rf_var (nps (by decide))) (rf_acons (rf_var (nps (by decide))) rf_anil))))))) (rf_tTest (rf_op2 of_ne (rf_rtV (rf_call rfl (rf_acons (rf_var (nps (by decide))) (rf_acons (rf_con fun _ _ => Rep.int _) rf_anil)))) (rf_con fun _ _ => Rep.int _)))) (rs_ret (rf_con fun _ _ => Rep.bl _)) rs_next)
   (rs_seq (rs_if (rf_tTest (rf_op2 of_ne (rf_rtV (rf_call rfl (rf_acons (rf_var (nps (by decide))) (rf_acons (rf_op2l of_add (rf_con fun _ _ => Rep.int _)) rf_anil)))) (rf_op2l of_mul (rf_rtV (rf_call rfl (rf_acons (rf_var (nps (by decide))) (rf_acons (rf_con fun _ _ => Rep.int _) rf_anil))))))) (rs_ret (rf_con fun _ _ => Rep.bl _)) rs_next)
   (rs_seq (rs_assign (rf_op2 of_add (rf_con fun _ _ => Rep.int _) (rf_rtV (rf_call rfl (rf_alend (rf_acons (rf_con fun _ _ => Rep.int _) rf_anil))))) (rg_name (nps (by decide))))
   (rs_seq (rs_assign (rf_op2l of_add (rf_tup (rf_cons (rf_op2r of_mul (rf_op2l of_item (rf_neg (rf_con fun _ _ => Rep.int _)))) rf_nil))) (rg_name (nps (by decide))))
   (rs_seq (rs_if (rf_tTest (rf_op2 of_ne (rf_rtV (rf_call rfl (rf_acons (rf_var (nps (by decide))) (rf_acons (rf_con fun _ _ => Rep.int _) rf_anil)))) (rf_op2 of_add (rf_rtV (rf_call rfl (rf_acons (rf_var (nps (by decide))) (rf_acons (rf_var (nps (by decide))) rf_anil)))) (rf_con fun _ _ => Rep.int _)))) (rs_ret (rf_con fun _ _ => Rep.bl _)) rs_next)
   (rs_if (rf_tTest (rf_op2 (of_cmpI _) (rf_c1p c1_len) (rf_con fun _ _ => Rep.int _))) (rs_seq (rs_assign (rf_op2 of_add (rf_slp rf_pn (rf_ps (rf_con fun _ _ => Rep.int _))) (rf_slp (rf_ps (rf_con fun _ _ => Rep.int _)) rf_pn)) (rg_name (nps (by decide))))
   (rs_if (rf_tTest (rf_op2r (of_cmpI _) (rf_rtV (rf_call rfl (rf_acons (rf_var (nps (by decide))) (rf_acons (rf_var (nps (by decide))) rf_anil)))))) (rs_ret (rf_con fun _ _ => Rep.bl _)) rs_next)) rs_next))))))))))))
   (rs_ret (rf_con fun _ _ => Rep.bl _)))⟩)
end
theorem all_mk {l : PySem.W.OpenLaw} {w : World} {K : PySem.W.Frag} {h : Heap} {mg : Str → Option Value} {fa : Addr} {RX : RXT} (X : K.In h) (G : h.Ns mainGlobals mg) (hfa : mg "law" = some (.ref fa))
    {f0 f1 f2 f3 f4 f5 f6 f7 : Addr} {od0 an0 od1 an1 od2 an2 od3 an3 od4 an4 od5 an5 od6 an6 od7 an7 : Option Addr} {sl0 sl1 sl2 sl3 sl4 sl5 sl6 sl7 : Array (Option Value)} {oc0 kV0 dc0 pm0 cd0 ct0 oc1 kV1 dc1 pm1 cd1 ct1 oc2 kV2 dc2 pm2 cd2 ct2 oc3 kV3 dc3 pm3 cd3 ct3 oc4 kV4 dc4 pm4 cd4 ct4 oc5 kV5 dc5 pm5 cd5 ct5 oc6 kV6 dc6 pm6 cd6 ct6 oc7 kV7 dc7 pm7 cd7 ct7 : Value}
        (a0 : PySem.W.nsIn K mainGlobals "_law_pot" = some (some (.ref f0))) (l0 : K.lookup f0 = some ⟨oc0, od0, .func (PySem.W.fnOf "_law_pot" "_law_pot" (defArgs s_l_pot) (defBody s_l_pot) (defScope s_l_pot) .none kV0 dc0 pm0 an0 cd0 ct0), sl0⟩) (c0 : PySem.W.codeIn K cd0 "_law_pot" = true) (k0 : PySem.W.keepIn K (.ref f0) = true)
    (a1 : PySem.W.nsIn K mainGlobals "_law_take" = some (some (.ref f1))) (l1 : K.lookup f1 = some ⟨oc1, od1, .func (PySem.W.fnOf "_law_take" "_law_take" (defArgs s_l_take) (defBody s_l_take) (defScope s_l_take) .none kV1 dc1 pm1 an1 cd1 ct1), sl1⟩) (c1 : PySem.W.codeIn K cd1 "_law_take" = true) (k1 : PySem.W.keepIn K (.ref f1) = true)
    (a2 : PySem.W.nsIn K mainGlobals "_law_of" = some (some (.ref f2))) (l2 : K.lookup f2 = some ⟨oc2, od2, .func (PySem.W.fnOf "_law_of" "_law_of" (defArgs s_l_of) (defBody s_l_of) (defScope s_l_of) .none kV2 dc2 pm2 an2 cd2 ct2), sl2⟩) (c2 : PySem.W.codeIn K cd2 "_law_of" = true) (k2 : PySem.W.keepIn K (.ref f2) = true)
    (a3 : PySem.W.nsIn K mainGlobals "_law_links" = some (some (.ref f3))) (l3 : K.lookup f3 = some ⟨oc3, od3, .func (PySem.W.fnOf "_law_links" "_law_links" (defArgs s_l_links) (defBody s_l_links) (defScope s_l_links) .none kV3 dc3 pm3 an3 cd3 ct3), sl3⟩) (c3 : PySem.W.codeIn K cd3 "_law_links" = true) (k3 : PySem.W.keepIn K (.ref f3) = true)
    (a4 : PySem.W.nsIn K mainGlobals "power" = some (some (.ref f4))) (l4 : K.lookup f4 = some ⟨oc4, od4, .func (PySem.W.fnOf "power" "power" (defArgs s_power) (defBody s_power) (defScope s_power) .none kV4 dc4 pm4 an4 cd4 ct4), sl4⟩) (c4 : PySem.W.codeIn K cd4 "power" = true) (k4 : PySem.W.keepIn K (.ref f4) = true)
    (a5 : PySem.W.nsIn K mainGlobals "count_states" = some (some (.ref f5))) (l5 : K.lookup f5 = some ⟨oc5, od5, .func (PySem.W.fnOf "count_states" "count_states" (defArgs s_count_states) (defBody s_count_states) (defScope s_count_states) .none kV5 dc5 pm5 an5 cd5 ct5), sl5⟩) (c5 : PySem.W.codeIn K cd5 "count_states" = true) (k5 : PySem.W.keepIn K (.ref f5) = true)
    (a6 : PySem.W.nsIn K mainGlobals "_law_counted" = some (some (.ref f6))) (l6 : K.lookup f6 = some ⟨oc6, od6, .func (PySem.W.fnOf "_law_counted" "_law_counted" (defArgs s_l_counted) (defBody s_l_counted) (defScope s_l_counted) .none kV6 dc6 pm6 an6 cd6 ct6), sl6⟩) (c6 : PySem.W.codeIn K cd6 "_law_counted" = true) (k6 : PySem.W.keepIn K (.ref f6) = true)
    (a7 : PySem.W.nsIn K mainGlobals "law" = some (some (.ref f7))) (l7 : K.lookup f7 = some ⟨oc7, od7, .func (PySem.W.fnOf "law" "law" (defArgs s_law) (defBody s_law) (defScope s_law) .none kV7 dc7 pm7 an7 cd7 ct7), sl7⟩) (c7 : PySem.W.codeIn K cd7 "law" = true) (k7 : PySem.W.keepIn K (.ref f7) = true)
    (z_abs : PySem.W.nsIn K mainGlobals "abs" = some none)
    (z_int : PySem.W.nsIn K mainGlobals "int" = some none)
    (z_len : PySem.W.nsIn K mainGlobals "len" = some none)
    (z_max : PySem.W.nsIn K mainGlobals "max" = some none)
    (z_min : PySem.W.nsIn K mainGlobals "min" = some none)
    (z_range : PySem.W.nsIn K mainGlobals "range" = some none)
    (z_repr : PySem.W.nsIn K mainGlobals "repr" = some none)
    (z_tuple : PySem.W.nsIn K mainGlobals "tuple" = some none)
    (z_zip : PySem.W.nsIn K mainGlobals "zip" = some none)
    (z_nd : PySem.W.nsIn K cStatics "sys.int_max_str_digits" = some none) :
    ∃ fd : FuncData, (∀ (s : Shared) (v : Value), BindsTo s fd ⟨[v], []⟩ [("_law_script", v)]) ∧ ∀ base : Heap, K.In base → base.Ns mainGlobals mg → FnG l.prog w K mg base 4 fa fd ["_law_script"] (spF K RX [.s] f_law) := by
  have e := hfa.symm.trans (PySem.W.mg_of X G a7)
  cases e
  let T : Txt K mg := { a_l_pot := _, d_l_pot := _, F_l_pot := fun_mk (st := s_l_pot) l0 c0 k0, g_l_pot := PySem.W.mg_of X G a0, b_l_pot := (fun_mk (st := s_l_pot) l0 c0 k0).binds (ps := ["_law_script", "_law_k"]) (fun _ _ _ _ _ _ us hl => match us, hl with | [_, _], _ => rfl), a_l_take := _, d_l_take := _, F_l_take := fun_mk (st := s_l_take) l1 c1 k1, g_l_take := PySem.W.mg_of X G a1, b_l_take := (fun_mk (st := s_l_take) l1 c1 k1).binds (ps := ["_law_pot_here", "_law_upto"]) (fun _ _ _ _ _ _ us hl => match us, hl with | [_, _], _ => rfl), a_l_of := _, d_l_of := _, F_l_of := fun_mk (st := s_l_of) l2 c2 k2, g_l_of := PySem.W.mg_of X G a2, b_l_of := (fun_mk (st := s_l_of) l2 c2 k2).binds (ps := ["_law_pot_here", "_law_some"]) (fun _ _ _ _ _ _ us hl => match us, hl with | [_, _], _ => rfl), a_l_links := _, d_l_links := _, F_l_links := fun_mk (st := s_l_links) l3 c3 k3, g_l_links := PySem.W.mg_of X G a3, b_l_links := (fun_mk (st := s_l_links) l3 c3 k3).binds (ps := ["_law_pot_here", "_law_most"]) (fun _ _ _ _ _ _ us hl => match us, hl with | [_, _], _ => rfl), a_power := _, d_power := _, F_power := fun_mk (st := s_power) l4 c4 k4, g_power := PySem.W.mg_of X G a4, b_power := (fun_mk (st := s_power) l4 c4 k4).binds (ps := ["base", "exponent"]) (fun _ _ _ _ _ _ us hl => match us, hl with | [_, _], _ => rfl), a_count_states := _, d_count_states := _, F_count_states := fun_mk (st := s_count_states) l5 c5 k5, g_count_states := PySem.W.mg_of X G a5, b_count_states := (fun_mk (st := s_count_states) l5 c5 k5).binds (ps := ["chain", "pages"]) (fun _ _ _ _ _ _ us hl => match us, hl with | [_, _], _ => rfl), a_l_counted := _, d_l_counted := _, F_l_counted := fun_mk (st := s_l_counted) l6 c6 k6, g_l_counted := PySem.W.mg_of X G a6, b_l_counted := (fun_mk (st := s_l_counted) l6 c6 k6).binds (ps := ["_law_links_here", "_law_many"]) (fun _ _ _ _ _ _ us hl => match us, hl with | [_, _], _ => rfl), a_law := _, d_law := _, F_law := fun_mk (st := s_law) l7 c7 k7, g_law := PySem.W.mg_of X G a7, b_law := (fun_mk (st := s_law) l7 c7 k7).binds (ps := ["_law_script"]) (fun _ _ _ _ _ _ us hl => match us, hl with | [_], _ => rfl), n_abs := PySem.W.mg_none_of X G z_abs, n_int := PySem.W.mg_none_of X G z_int, n_len := PySem.W.mg_none_of X G z_len, n_max := PySem.W.mg_none_of X G z_max, n_min := PySem.W.mg_none_of X G z_min, n_range := PySem.W.mg_none_of X G z_range, n_repr := PySem.W.mg_none_of X G z_repr, n_tuple := PySem.W.mg_none_of X G z_tuple, n_zip := PySem.W.mg_none_of X G z_zip, nd := z_nd }
  exact ⟨_, fun s v => .of_eq rfl, fun base _ _ => ok_law (base := base) (RX := RX) T⟩
end Lk09
open PySem PySem.W PyProof.Rows

set_option maxHeartbeats 0 in
theorem PySem.Challenge.cw_pinnedheap_k09_whole_counts_of_states_holds : PySem.Challenge.rw_pinnedheap_k09_whole_counts_of_states.Holds := by
  w_on; o_law; k_head; (case hw => w_witness2)
  k_fill
  refine PL.walk_ofG (l := PySem.Challenge.rw_pinnedheap_k09_whole_counts_of_states) (n := 63) (k := 4) (x := "_law_script") (sp := fun w => PL.spF _ (fun _ _ _ _ _ => False) [.s] Lk09.f_law) rfl (by decide) rfl ⟨rfl, by decide, by decide⟩ (fun w h Y => PySem.W.kIn_of Y) ?F (fun w H a ns hl hS => PL.law_end (Lk09.law_true ns hl) hS)
  case F =>
    intro w mg fa h KX G hmg
    refine' Lk09.all_mk KX G hmg ?a0 ?l0 ?c0 ?k0 ?a1 ?l1 ?c1 ?k1 ?a2 ?l2 ?c2 ?k2 ?a3 ?l3 ?c3 ?k3 ?a4 ?l4 ?c4 ?k4 ?a5 ?l5 ?c5 ?k5 ?a6 ?l6 ?c6 ?k6 ?a7 ?l7 ?c7 ?k7 ?z_abs ?z_int ?z_len ?z_max ?z_min ?z_range ?z_repr ?z_tuple ?z_zip ?z_nd
    (case a0 => k_is); (case l0 => k_is); (case c0 => k_is); (case k0 => k_is); (case a1 => k_is); (case l1 => k_is); (case c1 => k_is); (case k1 => k_is); (case a2 => k_is); (case l2 => k_is); (case c2 => k_is); (case k2 => k_is); (case a3 => k_is); (case l3 => k_is); (case c3 => k_is); (case k3 => k_is); (case a4 => k_is); (case l4 => k_is); (case c4 => k_is); (case k4 => k_is); (case a5 => k_is); (case l5 => k_is); (case c5 => k_is); (case k5 => k_is); (case a6 => k_is); (case l6 => k_is); (case c6 => k_is); (case k6 => k_is); (case a7 => k_is); (case l7 => k_is); (case c7 => k_is); (case k7 => k_is); (case z_abs => k_is); (case z_int => k_is); (case z_len => k_is); (case z_max => k_is); (case z_min => k_is); (case z_range => k_is); (case z_repr => k_is); (case z_tuple => k_is); (case z_zip => k_is); (case z_nd => k_is)

