import PyProof.Rows.All
import HandS.ForMost
import HandS.Exc
import HandS.TryOnly
import HandS.ExcOwn
import HandS.WordsExc
import HandS.CallSlots
import HandS.Wide
import HandS.TupAny
import HandS.Zip
import HandS.Text
import HandS.SortInts
import HandS.Deep
import HandS.Conv
import HandS.TupMul
import HandS.Comp
import PyProof.TupleOfSeq
import HandS.SortRule
import KE.KIntText
import PyProof.StrHeap
import PyProof.Rows.StrOr
import HandS.Strs
import HandS.Style
import KE.IntTextLaws
import PyProof.ReprLen
import HandS.Defaults
import HandS.IsInst
import KE.KRevSl
import HandS.Small
import HandS.SetFor
import HandS.TupSets
import KE.KDictList
import HandS.SetBool
import OpenK.AllK
import PySem.Challenge.RW_pinnedheap_k16_whole_states_moved_by_pag
set_option Elab.async false
set_option linter.all false
set_option autoImplicit false
set_option maxRecDepth 100000
set_option maxHeartbeats  4000000

/-! PL0: defs whose callers know that no repr runs below them (FnG); their calls; the end of a law. -/
namespace PL
open PySem PySem.Spec L2
open PyProof.Rows hiding St

/-- a def's promise where no guarded built-in runs below -/
structure FnG (P : Program) (w : World) (K : PySem.W.Frag) (mg : Str → Option Value) (base : Heap) (k : Nat) (f : Addr) (fd : FuncData) (ps : List Str) (sp : Sp) : Prop where
  size : ∀ vs H Q E, sp vs H Q E → vs.length = ps.length
  go : ∀ (A : Around) (stk : List PySem.Env) (s : Shared) (H : Hp) (args : Args) (us : List Value) (vs : List V) (Q : VK) (E : XK), Room k A → A.guards = some [] →
    Env0 P w K mg base A stk s H → BindsTo s fd args (ps.zip us) → Vals vs us → sp vs H Q E → codeAny (model P w) A (.call (.ref f) args) (CR (L2.CX P w) stk P w H s Q E) s
section
variable {P : Program} {w : World} {K : PySem.W.Frag} {mg : Str → Option Value} {base : Heap}
theorem FnG.up {j k : Nat} {f : Addr} {fd : FuncData} {ps : List Str} {sp : Sp} (F : FnG P w K mg base j f fd ps sp) (h : j ≤ k) : FnG P w K mg base k f fd ps sp :=
  ⟨F.size, fun A stk s H args us vs Q E hr => F.go A stk s H args us vs Q E (hr.mono h)⟩
theorem FnG.weaker {k : Nat} {f : Addr} {fd : FuncData} {ps : List Str} {sp sp' : Sp} (F : FnG P w K mg base k f fd ps sp) (h : ∀ vs H Q E, sp' vs H Q E → sp vs H Q E) : FnG P w K mg base k f fd ps sp' :=
  ⟨fun vs H Q E q => F.size vs H Q E (h _ _ _ _ q), fun A stk s H args us vs Q E hr hg he hb hv hs => F.go A stk s H args us vs Q E hr hg he hb hv (h _ _ _ _ hs)⟩
/-- from the body's walk -/
theorem fnG_of {x qual : Str} {st : Stmt} {f : Addr} {fd : FuncData} {N ps : List Str} {k : Nat} {sp : Sp} (F : Fun K x qual st f fd) (S : FnScope N ps (defScope st)) (size : ∀ vs H Q E, sp vs H Q E → vs.length = ps.length)
    (walk : ∀ (cdv : Value) (A : Around) (stk : List PySem.Env) (s : Shared) (H : Hp) (vs : List V) (Q : VK) (E : XK), Room k (A.deeper (envOfC qual (defScope st) s.heap.objs.size f cdv)) → (A.deeper (envOfC qual (defScope st) s.heap.objs.size f cdv)).guards = some [] → sp vs H Q E →
      ∃ t, PSs (cxOf (L2.CX P w) P w K mg base N qual (defScope st) f cdv A stk s H E) (defBody st) t ∧ t { nx := fun _ H' => Q .non H', rt := Q } (L2.start N vs) H) : FnG P w K mg base (k + 1) f fd ps sp := by
  obtain ⟨oc, od, kV, doc, pm, an, cdv, ct, osl, rfl, lk, hcd⟩ := F.ex
  refine ⟨size, fun A stk s H args us vs Q E hr hg e0 hb r hsp => ?_⟩
  have kept : ∀ (b : Addr) (o : Obj), base.get? b = some o → s.heap.get? b = some o := fun b o q => (e0.bs b o q).1
  have inK := e0.mod.kin.keeps kept
  have noL := e0.mod.nolimit.keeps kept
  have pars : ∀ y ∈ ps.zip us, (defScope st).names.lookup y.1 = some .local ∨ ((defScope st).names.lookup y.1 = some .cell ∧ ((cellsFrom (s.heap.objs.size + 1) (defScope st).names []).lookup y.1).isSome = true) := by
    rintro ⟨n, v⟩ hy
    rcases S.par n (List.of_mem_zip hy).1 with q | q
    · exact Or.inl q
    · exact Or.inr ⟨q, PySem.W.cellsFrom_some _ _ _ (Or.inl q)⟩
  refine codeAny_call_function hr.depth (inK _ _ lk) rfl S.co S.gen rfl (PySem.W.codeRec_of inK hcd) (hb _ _ _ _ (wpAny_newFunctionEnv_cells S.kind pars ?_))
  rintro env rfl s1 x
  refine ⟨noL.keeps x.toInCall.keep, codeAny_func ?_⟩
  obtain ⟨t, ht, hq⟩ := walk cdv A stk s H vs Q E (hr.deeper _) hg hsp
  have I0 := inv_start (CX := L2.CX P w) (E := E) (f := f) (cd := cdv) (qual := qual) S hr.hd e0 (size _ _ _ _ hsp) r x
  refine wpAny_mono (ht.run [] s1 (L2.start N vs) H _ I0 hq) (fun fl s' hs => ?_) fun e s' hs => hs
  have leave : ∀ (σ' : L2.St) (H' : Hp) (v : V) (u : Value), Inv (cxOf (L2.CX P w) P w K mg base N qual (defScope st) f cdv A stk s H E) [] σ' H' s' → RelV v u → Q v H' → CE stk P w H s Q u s' :=
    fun _ H' v _ J rv q => ⟨v, H', J.os, J.bare, J.base, J.hok, rv, q⟩
  cases fl with
  | ret u => obtain ⟨v, σ', H', J, rv, q⟩ := hs; exact leave σ' H' v u J rv q
  | next => obtain ⟨σ', H', J, q⟩ := hs; exact leave σ' H' .non .none J rfl q
  | brk => obtain ⟨_, _, _, q⟩ := hs; exact q.elim
  | cont => obtain ⟨_, _, _, q⟩ := hs; exact q.elim
end
section
variable {X : Cx} {k : Nat} {f : Addr} {fd : FuncData} {ps : List Str} {sp : Sp} {dvs : List V} {ds : List Value} {W : WX} {x : Str} {p pos : Pos} {e : Expr} {es : List Expr} {t : TA}
/-- the callee runs, from a body -/
theorem FnG.call {pins : List (Addr × Obj)} {σ : L2.St} {H : Hp} {s : Shared} {Q : VK} {us : List Value} {vs : List V} (F : FnG X.prog X.w X.K X.mg X.base k f fd ps sp) (hr : Room k X.A) (hg : X.A.guards = some []) (hb : Binds X.K fd ps ds) (hd : Vals dvs ds) (tk : Takes X W)
    (I : Inv X pins σ H s) (r : Vals vs us) (h : sp (vs ++ dvs) H Q (WE W σ)) : wpAny (model X.prog X.w) X.A (call (.ref f) us) (EP X pins σ Q) X.xe s := by
  have both := r.append hd
  have n2 : (us ++ ds).length = ps.length := both.length.symm.trans (F.size _ _ _ _ h)
  refine wpAny_call (codeAny_mono (F.go X.A X.stack s H ⟨us, []⟩ (us ++ ds) (vs ++ dvs) Q (WE W σ) hr hg I.env0 (hb s us I.kIn n2) both h) ?_)
  rintro (err | fl) s' q
  · exact passAt tk σ pins H s err s' I q
  · cases fl <;> first | exact I.after q | exact False.elim q
theorem pe_callG (F : FnG X.prog X.w X.K X.mg X.base k f fd ps sp) (hr : Room k X.A) (hg : X.A.guards = some []) (gl : Gl X x) (hm : X.mg x = some (.ref f)) (hk : PySem.W.keepIn X.K (.ref f) = true) (hb : Binds X.K fd ps ds) (hd : Vals dvs ds) (tk : Takes X W)
    (ha : PA X (e :: es) t) (hdb : (x == ("__debug__" : Str)) = false := by decide) (he : starEach (e :: es) X.env = (false, eval e X.env) :: starEach es X.env := by rfl) (hpl : (backTo pos (starEach es X.env)).any (·.1) = false := by rfl) :
    PE X (.Call (.Name x p) (e :: es) [] pos) (tCallSD sp dvs (fun σ => WE W σ) t) :=
  ⟨fun pins s σ H Q I h => wpAny_Call_Name_kw (ld_glob I gl hm (PySem.W.callWith_K (h₀ := X.base) I.ok.mod.kin hk
    (thn (ha.run pos pins s σ H _ I h) fun us s1 ⟨vs, H1, I1, r, q⟩ => ⟨I1.kIn, F.call hr hg hb hd tk I1 r q⟩) he hpl) hdb)⟩
theorem pe_callG0 (F : FnG X.prog X.w X.K X.mg X.base k f fd ps sp) (hr : Room k X.A) (hg : X.A.guards = some []) (gl : Gl X x) (hm : X.mg x = some (.ref f)) (hk : PySem.W.keepIn X.K (.ref f) = true) (hb : Binds X.K fd ps ds) (hd : Vals dvs ds) (tk : Takes X W)
    (hdb : (x == ("__debug__" : Str)) = false := by decide) : PE X (.Call (.Name x p) [] [] pos) (tCallSD sp dvs (fun σ => WE W σ) tNil) :=
  ⟨fun pins s σ H Q I h => wpAny_Call_Name_kw (ld_glob I gl hm (PySem.W.callWith_K0 I.kIn hk (F.call (us := []) hr hg hb hd tk I .nil h)) hdb)⟩
end

/-! ### the end of a law -/
section
variable {P : Program} {w : World} {K : PySem.W.Frag} {mg mb : Str → Option Value}
/-- the law's call behind the top; H0: what is tracked there (the script alone, or nothing) -/
theorem top_core {k : Nat} {fa a : Addr} {fd : FuncData} {x : Str} {sp : Sp} {z : Shared} {vs : List Value} {H0 : Hp}
    (inK : K.In z.heap) (gs : z.heap.Ns mainGlobals mg) (bs : z.heap.Ns builtinsNs mb) (bb : ∀ x : Str, x ≠ "__name__" → mb x = bootBuiltins x) (noL : z.heap.NoLimit) (ng : z.gens = #[])
    (ha : z.heap.get? a = some { cls := .type "list", data := .seq vs.toArray }) (hr : Room k callerA)
    (F : ∀ base : Heap, K.In base → base.Ns mainGlobals mg → FnG P w K mg base k fa fd [x] sp) (hbind : ∀ (s : Shared) (u : Value), BindsTo s fd ⟨[u], []⟩ [(x, u)])
    (fz : ∀ b u, H0 b = some u → b = a ∧ ∃ o xs, u = .frz o (.lst xs)) (out : ∀ u, H0 a = some u → K.lookup a = none) (ok : HOk P w H0 z.heap)
    (hsp : sp [.ref a] H0 (fun v _ => v = .bl true) fun _ _ _ => False) :
    codeAny (model P w) callerA (.call (.ref fa) ⟨[.ref a], []⟩) (fun r s' => r = .ok (.ret (.bool true)) ∧ OldK z.heap s'.heap ∧ s'.os = z.os ∧ AllBare s'.gens) z := by
  have free : ∀ b o, z.heap.get? b = some o → b ≠ a → (hidT z.heap H0).get? b = some o := fun b o e ne => hidT_get e (by
    cases q : H0 b with
    | none => rfl
    | some u => exact absurd (fz b u q).1 ne)
  have ns : ∀ {b : Addr} {m : Str → Option Value}, z.heap.Ns b m → (hidT z.heap H0).Ns b m := fun {b m} n => by
    obtain ⟨o, es, ep, e, d, r⟩ := n
    refine ⟨o, es, ep, free b o e fun q => ?_, d, r⟩
    rw [q, ha] at e
    cases e
    exact (by simp at d)
  have kin : K.In (hidT z.heap H0) := fun b o e => by
    have e1 := inK b o e
    cases q : H0 b with
    | none => exact hidT_get e1 q
    | some u =>
      have e2 := (fz b u q).1
      subst e2
      rw [out u q] at e
      cases e
  obtain ⟨mc, c1, c2⟩ := noL
  have md : Mod K mg (hidT z.heap H0) := ⟨kin, ns gs, ⟨mb, ns bs, bb⟩, ⟨mc, ns c1, c2⟩⟩
  have e0 : Env0 P w K mg (hidT z.heap H0) callerA [] z H0 :=
    ⟨rfl, md, fun _ _ e => of_hidT e, Nat.le_of_eq (hidT_size _ _), trivial, fun b hb => absurd (show b ∈ ([] : List Addr) from hb) List.not_mem_nil, ok, .of_eq ng⟩
  refine codeAny_mono ((F _ kin (ns gs)).go callerA [] z H0 ⟨[.ref a], []⟩ [.ref a] [.ref a] _ _ hr rfl e0 (hbind z (.ref a)) (.cons rfl .nil) hsp) ?_
  rintro (err | fl) s' h
  · obtain ⟨_, _, _, _, _, _, _, _, _, _, _, _, no⟩ := h
    exact no.elim
  · cases fl <;> first | exact False.elim h | skip
    obtain ⟨v, H', os, bare, un, ok', r', q⟩ := h
    obtain rfl : v = .bl true := q
    cases r'
    refine ⟨rfl, OldK.of_keep fun b o e => ?_, os, bare⟩
    cases q : H0 b with
    | none => exact un.keep b o e q (fun hb => absurd (show b ∈ ([] : List Addr) from hb) List.not_mem_nil) List.not_mem_nil
    | some u =>
      obtain ⟨rfl, ob, xs, rfl⟩ := fz b u q
      have e1 := (ok b _ q).1
      have e2 := (ok' b _ (un.frzs b ob _ q)).1
      rw [e1] at e
      cases e
      exact e2
theorem walk_ofG {l : PySem.W.OpenLaw} {n k : Nat} {q : Program} {loose : List Str} {XP : (Str → Option Value) → Heap → Prop} {YP : World → Heap → Prop} {d : DefRec} {KK : Params → PySem.W.Frag} {sp : World → Sp} {x : Str}
    (hn : l.most = some n) (hn2 : n ≤ sizeLine) (hdf : d.params.defaults = []) (hr : Room k callerA)
    (hY : ∀ (w : World) (h : Heap), YP w h → (KK w.params).In h)
    (F : ∀ (w : World) (mg : Str → Option Value) (fa : Addr) (h : Heap), (KK w.params).In h → h.Ns mainGlobals mg → mg d.name = some (.ref fa) →
      ∃ fd : FuncData, (∀ (s : Shared) (u : Value), BindsTo s fd ⟨[u], []⟩ [(x, u)]) ∧
        ∀ base : Heap, (KK w.params).In base → base.Ns mainGlobals mg → FnG l.prog w (KK w.params) mg base k fa fd [x] (sp w))
    (hsp : ∀ (w : World) (H : Hp) (a : Addr) (ns : List Int), ns.length ≤ n → SqL (KK w.params) H a (ns.map V.int) → sp w [.ref a] H (fun v _ => v = .bl true) fun _ _ _ => False) :
    PySem.W.WalkO q loose XP YP l.row.toRowW d [] (fun f vs => PySem.call f vs) := by
  refine Att.attach_call hn hdf fun w s0 z mg mb fa o pm cd doc a vs ns G Y ho hd hcd hmg hobj hints hlen hg => ?_
  have inK := hY w _ Y
  obtain ⟨fd, hb, hF⟩ := F w mg fa _ inK G.T.g hmg
  have rv := L2.vals_ints hints
  have hl : ns.length ≤ sizeLine := Nat.le_trans hlen hn2
  cases hk : (KK w.params).lookup a with
  | some oa =>
    have e := inK a oa hk
    rw [hobj] at e
    cases e
    refine top_core (H0 := fun _ => none) inK G.T.g G.T.b G.T.builtins G.T.nolimit hg hobj hr hF hb (fun b u z => by cases z) (fun u z => by cases z) (fun b u z => by cases z) (hsp w _ a ns hlen (.inr ⟨_, vs.toArray, _, hk, rfl, rfl, rfl, ?_, by simpa using rv⟩))
    rw [List.size_toArray, hints.length]; exact hl
  | none =>
    have at1 : ∀ b u, (if b = a then some (HO.frz { cls := .type "list", data := .seq vs.toArray } (.lst (ns.map V.int))) else none) = some u → b = a ∧ u = HO.frz { cls := .type "list", data := .seq vs.toArray } (.lst (ns.map V.int)) := fun b u z => by
      split at z
      · rename_i e; cases z; exact ⟨e, rfl⟩
      · cases z
    refine top_core (H0 := fun b => if b = a then some (.frz { cls := .type "list", data := .seq vs.toArray } (.lst (ns.map V.int))) else none) inK G.T.g G.T.b G.T.builtins G.T.nolimit hg hobj hr hF hb
      (fun b u z => ⟨(at1 b u z).1, _, _, (at1 b u z).2⟩) (fun _ _ => hk) (fun b u z => ?_) (hsp w _ a ns hlen (.inl (.inr ⟨_, if_pos rfl⟩)))
    obtain ⟨rfl, rfl⟩ := at1 b u z
    exact ⟨hobj, by rw [List.length_map]; exact hl, vs, _, rv, hobj⟩
end
end PL

/-! PL1: pure values in slots, the relation to the abstract heap, what a reading refines. -/
namespace PL
open PySem PySem.Spec L2
open PyProof.Rows hiding St

/-- what a slot holds: nothing known, a value that never changes again, a list or dict that this def alone holds -/
inductive Sl where
  | emp | val (d : PyData) | own (d : PyData) | scr (ns : List Int)
abbrev Env := List Sl
abbrev PExc := Nat × PyData
inductive Out (α : Type) where
  | ok (a : α) (r : Env) | exc (e : PExc) (r : Env) | bad
abbrev M (α : Type) := Env → Out α
def keyD : Key → PyData
  | .inl i => .int i
  | .inr x => .str x

def FzL (K : PySem.W.Frag) (fz : Addr → Prop) (H : Hp) (a : Addr) (xs : List V) : Prop :=
  (fz a ∧ Rd H a (.lst xs)) ∨
    ∃ (o : Obj) (its : Array Value) (n : Nat), K.lookup a = some o ∧ o.cls = .type "list" ∧ o.dict = none ∧ o.data = .seq its n ∧ its.size ≤ sizeLine ∧ Vals xs its.toList
theorem FzL.sq {K : PySem.W.Frag} {fz : Addr → Prop} {H : Hp} {a : Addr} {xs : List V} (h : FzL K fz H a xs) : SqL K H a xs := h.imp (fun z => z.2) id
def FzT (K : PySem.W.Frag) (fz : Addr → Prop) (H : Hp) (a : Addr) (xs : List V) : Prop :=
  (fz a ∧ Rd H a (.tup xs)) ∨
    ∃ (o : Obj) (its : Array Value) (n : Nat), K.lookup a = some o ∧ o.cls = .type "tuple" ∧ o.data = .seq its n ∧ its.size ≤ sizeLine ∧ Vals xs its.toList
theorem FzT.sq {K : PySem.W.Frag} {fz : Addr → Prop} {H : Hp} {a : Addr} {xs : List V} (h : FzT K fz H a xs) : SqT K H a xs := h.imp (fun z => z.2) id

mutual
inductive Rep (K : PySem.W.Frag) (fz : Addr → Prop) (H : Hp) : V → PyData → Prop
  | non : Rep K fz H .non .none
  | bl (b : Bool) : Rep K fz H (.bl b) (.bool b)
  | int (i : Int) : Rep K fz H (.int i) (.int i)
  | str (x : Str) : Rep K fz H (.str x) (.str x)
  | lst {a : Addr} {xs : List V} {ds : List PyData} : fz a → H a = some (.lst xs) → RepA K fz H xs ds → Rep K fz H (.ref a) (.list ds)
  | tup {a : Addr} {xs : List V} {ds : List PyData} : FzT K fz H a xs → RepA K fz H xs ds → Rep K fz H (.ref a) (.tuple ds)
  | dic {a : Addr} {kvs : List (Key × V)} {ds : List (PyData × PyData)} : fz a → H a = some (.dK kvs) → RepK K fz H kvs ds → Rep K fz H (.ref a) (.dict ds)
inductive RepA (K : PySem.W.Frag) (fz : Addr → Prop) (H : Hp) : List V → List PyData → Prop
  | nil : RepA K fz H [] []
  | cons {v : V} {vs : List V} {d : PyData} {ds : List PyData} : Rep K fz H v d → RepA K fz H vs ds → RepA K fz H (v :: vs) (d :: ds)
inductive RepK (K : PySem.W.Frag) (fz : Addr → Prop) (H : Hp) : List (Key × V) → List (PyData × PyData) → Prop
  | nil : RepK K fz H [] []
  | cons {k : Key} {v : V} {kvs : List (Key × V)} {d : PyData} {ds : List (PyData × PyData)} : Rep K fz H v d → RepK K fz H kvs ds → RepK K fz H ((k, v) :: kvs) ((keyD k, d) :: ds)
end

/-- the frozen part stays -/
structure Ext (fz : Addr → Prop) (H : Hp) (fz' : Addr → Prop) (H' : Hp) : Prop where
  mono : ∀ a, fz a → fz' a
  keep : ∀ a, fz a → H' a = H a
theorem Rd.ext {H H' : Hp} {a : Addr} {u : HO} (h : Rd H a u) (e : H' a = H a) : Rd H' a u := by
  unfold Rd; rw [e]; exact h
section
variable {K : PySem.W.Frag} {fz fz' : Addr → Prop} {H H' : Hp}
theorem FzL.ext {a : Addr} {xs : List V} (E : Ext fz H fz' H') (h : FzL K fz H a xs) : FzL K fz' H' a xs := h.imp (fun z => ⟨E.mono _ z.1, Rd.ext z.2 (E.keep _ z.1)⟩) id
mutual
theorem Rep.ext (E : Ext fz H fz' H') : ∀ {v : V} {d : PyData}, Rep K fz H v d → Rep K fz' H' v d
  | _, _, .non => .non
  | _, _, .bl b => .bl b
  | _, _, .int i => .int i
  | _, _, .str x => .str x
  | _, _, .lst h e r => .lst (E.mono _ h) ((E.keep _ h).trans e) (RepA.ext E r)
  | _, _, .tup h r => .tup (h.imp (fun z => ⟨E.mono _ z.1, Rd.ext z.2 (E.keep _ z.1)⟩) id) (RepA.ext E r)
  | _, _, .dic h e r => .dic (E.mono _ h) ((E.keep _ h).trans e) (RepK.ext E r)
theorem RepA.ext (E : Ext fz H fz' H') : ∀ {v : List V} {d : List PyData}, RepA K fz H v d → RepA K fz' H' v d
  | _, _, .nil => .nil
  | _, _, .cons h r => .cons (Rep.ext E h) (RepA.ext E r)
theorem RepK.ext (E : Ext fz H fz' H') : ∀ {v : List (Key × V)} {d : List (PyData × PyData)}, RepK K fz H v d → RepK K fz' H' v d
  | _, _, .nil => .nil
  | _, _, .cons h r => .cons (Rep.ext E h) (RepK.ext E r)
end
theorem RepA.length : ∀ {v : List V} {d : List PyData}, RepA K fz H v d → v.length = d.length
  | _, _, .nil => rfl
  | _, _, .cons _ r => by simp [RepA.length r]
theorem RepA.get : ∀ {v : List V} {d : List PyData} {i : Nat} {x : PyData}, RepA K fz H v d → d[i]? = some x → ∃ y, v[i]? = some y ∧ Rep K fz H y x
  | _, _, _, _, .nil, e => by simp at e
  | _, _, 0, _, .cons h _, e => by simp at e; subst e; exact ⟨_, rfl, h⟩
  | _, _, i + 1, _, .cons _ r, e => by
    obtain ⟨y, h1, h2⟩ := RepA.get (i := i) r (by simpa using e)
    exact ⟨y, by simpa using h1, h2⟩
theorem RepA.getV : ∀ {v : List V} {d : List PyData} {i : Nat} {y : V}, RepA K fz H v d → v[i]? = some y → ∃ x, d[i]? = some x ∧ Rep K fz H y x
  | _, _, _, _, .nil, e => by simp at e
  | _, _, 0, _, .cons h _, e => by simp at e; subst e; exact ⟨_, rfl, h⟩
  | _, _, i + 1, _, .cons _ r, e => by
    obtain ⟨y, h1, h2⟩ := RepA.getV (i := i) r (by simpa using e)
    exact ⟨y, by simpa using h1, h2⟩
theorem RepA.append : ∀ {v v' : List V} {d d' : List PyData}, RepA K fz H v d → RepA K fz H v' d' → RepA K fz H (v ++ v') (d ++ d')
  | _, _, _, _, .nil, s => s
  | _, _, _, _, .cons h r, s => .cons h (RepA.append r s)
theorem RepA.take : ∀ {v : List V} {d : List PyData} (n : Nat), RepA K fz H v d → RepA K fz H (v.take n) (d.take n)
  | _, _, 0, _ => .nil
  | _, _, _ + 1, .nil => .nil
  | _, _, n + 1, .cons h r => .cons h (RepA.take n r)
theorem RepA.drop : ∀ {v : List V} {d : List PyData} (n : Nat), RepA K fz H v d → RepA K fz H (v.drop n) (d.drop n)
  | _, _, 0, r => r
  | _, _, _ + 1, .nil => .nil
  | _, _, n + 1, .cons h r => RepA.drop n r
theorem RepA.dropLast : ∀ {v : List V} {d : List PyData}, RepA K fz H v d → RepA K fz H v.dropLast d.dropLast := fun {v d} h => by
  rw [List.dropLast_eq_take, List.dropLast_eq_take, h.length]; exact h.take _
theorem RepA.set : ∀ {v : List V} {d : List PyData} (n : Nat) {x : V} {y : PyData}, RepA K fz H v d → Rep K fz H x y → RepA K fz H (v.set n x) (d.set n y)
  | _, _, _, _, _, .nil, _ => .nil
  | _, _, 0, _, _, .cons _ r, h => .cons h r
  | _, _, n + 1, _, _, .cons g r, h => .cons g (RepA.set n r h)
theorem RepA.reverse : ∀ {v : List V} {d : List PyData}, RepA K fz H v d → RepA K fz H v.reverse d.reverse
  | _, _, .nil => .nil
  | _, _, .cons h r => by simp only [List.reverse_cons]; exact (RepA.reverse r).append (.cons h .nil)
theorem RepA.ints : ∀ {v : List V} {ns : List Int}, RepA K fz H v (ns.map PyData.int) → v = ns.map V.int
  | _, [], h => by cases h; rfl
  | _, n :: ns, h => by
    cases h with
    | cons h r => cases h; rw [RepA.ints r]; rfl
theorem RepA.bls : ∀ {v : List V} {ns : List Bool}, RepA K fz H v (ns.map PyData.bool) → v = ns.map V.bl
  | _, [], h => by cases h; rfl
  | _, n :: ns, h => by
    cases h with
    | cons h r => cases h; rw [RepA.bls r]; rfl
theorem RepA.of_ints : ∀ (ns : List Int), RepA K fz H (ns.map V.int) (ns.map PyData.int)
  | [] => .nil
  | n :: ns => .cons (.int n) (RepA.of_ints ns)
mutual
theorem Rep.dp : ∀ {v : V} {d : PyData}, Rep K fz H v d → d.canLay0 = true → Dp K H v d
  | _, _, .non, _ => .non
  | _, _, .bl b, _ => .bl b
  | _, _, .int i, _ => .int i
  | _, _, .str x, _ => .str x
  | _, _, .lst h e r, s => .lst (SqL.of e) (RepA.dp r (by simpa [PyData.canLay0] using s))
  | _, _, .tup h r, s => .tup h.sq (RepA.dp r (by simpa [PyData.canLay0] using s))
  | _, _, .dic h e r, s => by simp [PyData.canLay0] at s
theorem RepA.dp : ∀ {v : List V} {d : List PyData}, RepA K fz H v d → PyData.canLayAll0 d = true → DpAll K H v d
  | _, _, .nil, _ => .nil
  | _, _, .cons h r, s => by
    have s' := s
    simp only [PyData.canLayAll0, Bool.and_eq_true] at s'
    exact .cons (Rep.dp h s'.1) (RepA.dp r s'.2)
end
end

/-! ### what a def alone holds -/
def OwnC (K : PySem.W.Frag) (fz : Addr → Prop) (H : Hp) (a : Addr) : PyData → Prop
  | .list ds => ∃ vs, H a = some (.lst vs) ∧ RepA K fz H vs ds
  | .dict ds => ∃ kvs, H a = some (.dK kvs) ∧ RepK K fz H kvs ds
  | _ => False
theorem OwnC.some {K : PySem.W.Frag} {fz : Addr → Prop} {H : Hp} {a : Addr} {d : PyData} (h : OwnC K fz H a d) : H a ≠ none := by
  cases d <;> first | exact h.elim | (obtain ⟨_, e, _⟩ := h; rw [e]; simp)
theorem OwnC.ext {K : PySem.W.Frag} {fz fz' : Addr → Prop} {H H' : Hp} {a : Addr} {d : PyData} (h : OwnC K fz H a d) (E : Ext fz H fz' H') (e : H' a = H a) : OwnC K fz' H' a d := by
  cases d <;> first | exact h.elim | (obtain ⟨x, e', r⟩ := h; exact ⟨x, e.trans e', r.ext E⟩)
/-- it freezes -/
theorem OwnC.frz {K : PySem.W.Frag} {fz : Addr → Prop} {H : Hp} {a : Addr} {d : PyData} (h : OwnC K fz H a d) : Rep K (fun b => fz b ∨ b = a) H (.ref a) d := by
  have E : Ext fz H (fun b => fz b ∨ b = a) H := ⟨fun _ z => .inl z, fun _ _ => rfl⟩
  cases d with
  | list ds => obtain ⟨vs, e, r⟩ := h; exact .lst (.inr rfl) e (r.ext E)
  | dict ds => obtain ⟨vs, e, r⟩ := h; exact .dic (.inr rfl) e (r.ext E)
  | _ => exact h.elim

def SlR (K : PySem.W.Frag) (pr fz : Addr → Prop) (H : Hp) (o : Option V) : Sl → Prop
  | .emp => True
  | .val d => ∃ v, o = some v ∧ Rep K fz H v d
  | .own d => ∃ a, o = some (.ref a) ∧ ¬ fz a ∧ ¬ pr a ∧ OwnC K fz H a d
  | .scr ns => ∃ a, o = some (.ref a) ∧ FzL K fz H a (ns.map V.int)

structure Rel (K : PySem.W.Frag) (pp : List (Nat × Addr)) (pr fz : Addr → Prop) (σ : L2.St) (H : Hp) (ρ : Env) : Prop where
  len : σ.length = ρ.length
  at_ : ∀ (i : Nat) (s : Sl), ρ[i]? = some s → SlR K pr fz H (σ[i]?.join) s
  sep : ∀ (i j : Nat) (a : Addr) (x y : PyData), ρ[i]? = some (.own x) → ρ[j]? = some (.own y) → σ[i]? = some (some (V.ref a)) → σ[j]? = some (some (V.ref a)) → i = j
  fzH : ∀ a, fz a → H a ≠ none
  prH : ∀ a, pr a → H a ≠ none
  pin : ∀ p ∈ pp, ∃ x, ρ[p.1]? = some (.own x) ∧ σ[p.1]? = some (some (V.ref p.2))

structure Fr (pr fz : Addr → Prop) (H : Hp) (fz' : Addr → Prop) (H' : Hp) : Prop where
  mono : ∀ a, fz a → fz' a
  keep : ∀ a, fz a → H' a = H a
  keepP : ∀ a, pr a → H' a = H a
  new : ∀ a, pr a → fz' a → fz a
theorem Fr.refl {pr fz : Addr → Prop} {H : Hp} : Fr pr fz H fz H := ⟨fun _ h => h, fun _ _ => rfl, fun _ _ => rfl, fun _ _ h => h⟩
theorem Fr.trans {pr fz fz1 fz2 : Addr → Prop} {H H1 H2 : Hp} (a : Fr pr fz H fz1 H1) (b : Fr pr fz1 H1 fz2 H2) : Fr pr fz H fz2 H2 :=
  ⟨fun x h => b.mono x (a.mono x h), fun x h => (b.keep x (a.mono x h)).trans (a.keep x h), fun x h => (b.keepP x h).trans (a.keepP x h), fun x h z => a.new x h (b.new x h z)⟩
theorem Fr.ext {pr fz fz' : Addr → Prop} {H H' : Hp} (a : Fr pr fz H fz' H') : Ext fz H fz' H' := ⟨a.mono, a.keep⟩

theorem join_some {o : Option (Option V)} {v : V} : o.join = some v ↔ o = some (some v) := by
  cases o with
  | none => simp
  | some x => simp

section
variable {K : PySem.W.Frag} {pp : List (Nat × Addr)} {pr fz fz' : Addr → Prop} {σ : L2.St} {H H' : Hp} {ρ : Env}

/-- new objects alone -/
structure Alc (fz : Addr → Prop) (H : Hp) (fz' : Addr → Prop) (H' : Hp) : Prop where
  keep : ∀ a, H a ≠ none → H' a = H a
  mono : ∀ a, fz a → fz' a
  new : ∀ a, fz' a → fz a ∨ H a = none
  some : ∀ a, fz' a → fz a ∨ H' a ≠ none
theorem Alc.refl : Alc fz H fz H := ⟨fun _ _ => rfl, fun _ h => h, fun _ h => .inl h, fun _ h => .inl h⟩
theorem Alc.one {p : Addr} {o : HO} (h : H p = none) : Alc fz H (fun b => fz b ∨ b = p) (upd H p o) :=
  ⟨fun a e => upd_ne (fun z => e (by rw [z]; exact h)), fun _ h => .inl h, fun a z => z.imp id (fun e => by rw [e]; exact h), fun a z => z.imp id (fun e => by rw [e, upd_same]; simp)⟩
theorem Alc.own {p : Addr} {o : HO} (h : H p = none) : Alc fz H fz (upd H p o) :=
  ⟨fun a e => upd_ne (fun z => e (by rw [z]; exact h)), fun _ h => h, fun a z => .inl z, fun a z => .inl z⟩
theorem Alc.fr (A : Alc fz H fz' H') (R : Rel K pp pr fz σ H ρ) : Fr pr fz H fz' H' :=
  ⟨A.mono, fun a h => A.keep a (R.fzH a h), fun a h => A.keep a (R.prH a h), fun a h z => (A.new a z).elim id fun e => absurd e (R.prH a h)⟩
theorem Alc.ext (A : Alc fz H fz' H') (h : ∀ a, fz a → H a ≠ none) : Ext fz H fz' H' := ⟨A.mono, fun a z => A.keep a (h a z)⟩
theorem Rel.own_ne (R : Rel K pp pr fz σ H ρ) {i : Nat} {x : PyData} (e : ρ[i]? = some (.own x)) : ∃ a, σ[i]? = some (some (V.ref a)) ∧ ¬ fz a ∧ ¬ pr a ∧ OwnC K fz H a x := by
  obtain ⟨a, h, r⟩ := R.at_ i _ e
  exact ⟨a, join_some.mp h, r⟩
theorem Alc.rel (A : Alc fz H fz' H') (R : Rel K pp pr fz σ H ρ) : Rel K pp pr fz' σ H' ρ := by
  have E := A.ext R.fzH
  refine ⟨R.len, fun i s e => ?_, R.sep, fun a h => ?_, fun a h => by rw [A.keep a (R.prH a h)]; exact R.prH a h, R.pin⟩
  · have q := R.at_ i s e
    cases s with
    | emp => trivial
    | val d => obtain ⟨v, h, r⟩ := q; exact ⟨v, h, r.ext E⟩
    | scr ns => obtain ⟨v, h, r⟩ := q; exact ⟨v, h, r.ext E⟩
    | own d =>
      obtain ⟨a, h, n, np, r⟩ := q
      refine ⟨a, h, fun z => ?_, np, r.ext E (A.keep a r.some)⟩
      rcases A.new a z with z | z
      · exact n z
      · exact r.some z
  · rcases A.some a h with z | z
    · rw [A.keep a (R.fzH a z)]; exact R.fzH a z
    · exact z
/-- an owned object that no slot holds freezes -/
theorem frz_free {a : Addr} (R : Rel K pp pr fz σ H ρ) (ha : H a ≠ none) (hp : ¬ pr a) (hs : ∀ (i : Nat) (x : PyData), ρ[i]? = some (.own x) → σ[i]? ≠ some (some (V.ref a))) :
    Fr pr fz H (fun b => fz b ∨ b = a) H ∧ Rel K pp pr (fun b => fz b ∨ b = a) σ H ρ := by
  have E : Ext fz H (fun b => fz b ∨ b = a) H := ⟨fun _ z => .inl z, fun _ _ => rfl⟩
  refine ⟨⟨fun _ z => .inl z, fun _ _ => rfl, fun _ _ => rfl, fun b h z => z.elim id fun e => absurd (e ▸ h) hp⟩, R.len, fun i s e => ?_, R.sep, fun b h => h.elim (R.fzH b) fun e => by rw [e]; exact ha, R.prH, R.pin⟩
  have q := R.at_ i s e
  cases s with
  | emp => trivial
  | val d => obtain ⟨v, h, r⟩ := q; exact ⟨v, h, r.ext E⟩
  | scr ns => obtain ⟨v, h, r⟩ := q; exact ⟨v, h, r.ext E⟩
  | own d =>
    obtain ⟨b, h, n, np, r⟩ := q
    refine ⟨b, h, fun z => ?_, np, r.ext E rfl⟩
    rcases z with z | z
    · exact n z
    · subst z; exact hs i d e (join_some.mp h)
/-- a slot is set to a value -/
theorem Rel.setV {i : Nat} {v : V} {d : PyData} (R : Rel K pp pr fz σ H ρ) (r : Rep K fz H v d) (hi : i ∉ pp.map (·.1)) : Rel K pp pr fz (σ.set i (some v)) H (ρ.set i (.val d)) := by
  have ne : ∀ (j : Nat) (x : PyData), (ρ.set i (.val d))[j]? = some (Sl.own x) → ρ[j]? = some (.own x) ∧ j ≠ i := fun j x e => by
    by_cases h : j = i
    · subst h
      rw [List.getElem?_set] at e
      simp at e
    · rw [List.getElem?_set_ne (Ne.symm h)] at e
      exact ⟨e, h⟩
  refine ⟨by simpa using R.len, fun j s e => ?_, fun j k a x y e1 e2 s1 s2 => ?_, R.fzH, R.prH, fun p hp => ?_⟩
  · by_cases h : j = i
    · subst h
      have hl : j < ρ.length := by
        have := (List.getElem?_eq_some_iff.mp e).1
        simpa using this
      rw [List.getElem?_set_self hl] at e
      cases e
      exact ⟨v, by rw [List.getElem?_set_self (by rw [R.len]; exact hl)]; rfl, r⟩
    · rw [List.getElem?_set_ne (Ne.symm h)] at e ⊢
      exact R.at_ j s e
  · obtain ⟨e1, n1⟩ := ne j x e1
    obtain ⟨e2, n2⟩ := ne k y e2
    rw [List.getElem?_set_ne (Ne.symm n1)] at s1
    rw [List.getElem?_set_ne (Ne.symm n2)] at s2
    exact R.sep j k a x y e1 e2 s1 s2
  · have h : p.1 ≠ i := fun z => hi (z ▸ List.mem_map_of_mem hp)
    rw [List.getElem?_set_ne (Ne.symm h), List.getElem?_set_ne (Ne.symm h)]
    exact R.pin p hp
/-- a slot is set to an object that no slot holds -/
theorem Rel.setO {i : Nat} {a : Addr} {d : PyData} (R : Rel K pp pr fz σ H ρ) (hf : ¬ fz a) (hp : ¬ pr a) (r : OwnC K fz H a d) (hs : ∀ (i : Nat) (x : PyData), ρ[i]? = some (.own x) → σ[i]? ≠ some (some (V.ref a))) (hi : i ∉ pp.map (·.1)) :
    Rel K pp pr fz (σ.set i (some (.ref a))) H (ρ.set i (.own d)) := by
  have ne : ∀ (j : Nat) (x : PyData), j ≠ i → (ρ.set i (.own d))[j]? = some (Sl.own x) → ρ[j]? = some (.own x) := fun j x h e => by
    rw [List.getElem?_set_ne (Ne.symm h)] at e
    exact e
  refine ⟨by simpa using R.len, fun j s e => ?_, fun j k b x y e1 e2 s1 s2 => ?_, R.fzH, R.prH, fun p hp' => ?_⟩
  · by_cases h : j = i
    · subst h
      have hl : j < ρ.length := by
        have := (List.getElem?_eq_some_iff.mp e).1
        simpa using this
      rw [List.getElem?_set_self hl] at e
      cases e
      exact ⟨a, by rw [List.getElem?_set_self (by rw [R.len]; exact hl)]; rfl, hf, hp, r⟩
    · rw [List.getElem?_set_ne (Ne.symm h)] at e ⊢
      exact R.at_ j s e
  · by_cases h1 : j = i
    · by_cases h2 : k = i
      · rw [h1, h2]
      · have q := ne k y h2 e2
        rw [List.getElem?_set_ne (Ne.symm h2)] at s2
        subst h1
        have hl : j < σ.length := by
          have := (List.getElem?_eq_some_iff.mp s1).1
          simpa using this
        rw [List.getElem?_set_self hl] at s1
        cases s1
        exact absurd s2 (hs k y q)
    · have q := ne j x h1 e1
      rw [List.getElem?_set_ne (Ne.symm h1)] at s1
      by_cases h2 : k = i
      · subst h2
        have hl : k < σ.length := by
          have := (List.getElem?_eq_some_iff.mp s2).1
          simpa using this
        rw [List.getElem?_set_self hl] at s2
        cases s2
        exact absurd s1 (hs j x q)
      · have q2 := ne k y h2 e2
        rw [List.getElem?_set_ne (Ne.symm h2)] at s2
        exact R.sep j k b x y q q2 s1 s2
  · have h : p.1 ≠ i := fun z => hi (z ▸ List.mem_map_of_mem hp')
    rw [List.getElem?_set_ne (Ne.symm h), List.getElem?_set_ne (Ne.symm h)]
    exact R.pin p hp'
/-- the object in slot i is changed -/
theorem Rel.wr {i : Nat} {a : Addr} {d d' : PyData} {o : HO} (R : Rel K pp pr fz σ H ρ) (hr : ρ[i]? = some (.own d)) (hs : σ[i]? = some (some (V.ref a))) (r : OwnC K fz (upd H a o) a d') :
    Fr pr fz H fz (upd H a o) ∧ Rel K pp pr fz σ (upd H a o) (ρ.set i (.own d')) := by
  obtain ⟨a', h', nf, np, rc⟩ := R.own_ne hr
  obtain rfl : a' = a := by rw [hs] at h'; cases h'; rfl
  have kf : ∀ b, fz b → upd H a' o b = H b := fun b z => upd_ne fun q => nf (q ▸ z)
  have kp : ∀ b, pr b → upd H a' o b = H b := fun b z => upd_ne fun q => np (q ▸ z)
  have E : Ext fz H fz (upd H a' o) := ⟨fun _ z => z, kf⟩
  have hl : i < ρ.length := (List.getElem?_eq_some_iff.mp hr).1
  refine ⟨⟨fun _ z => z, kf, kp, fun _ _ z => z⟩, by simpa using R.len, fun j s e => ?_, fun j k b x y e1 e2 => ?_, fun b z => by rw [kf b z]; exact R.fzH b z, fun b z => by rw [kp b z]; exact R.prH b z, fun p hp => ?_⟩
  · by_cases h : j = i
    · subst h
      rw [List.getElem?_set_self hl] at e
      cases e
      exact ⟨a', join_some.mpr hs, nf, np, r⟩
    · rw [List.getElem?_set_ne (Ne.symm h)] at e
      have q := R.at_ j s e
      cases s with
      | emp => trivial
      | val x => obtain ⟨v, h1, h2⟩ := q; exact ⟨v, h1, h2.ext E⟩
      | scr ns => obtain ⟨v, h, r⟩ := q; exact ⟨v, h, r.ext E⟩
      | own x =>
        obtain ⟨b, h1, n, np', r'⟩ := q
        refine ⟨b, h1, n, np', r'.ext E (upd_ne fun z => h (R.sep j i a' x d e hr ?_ hs))⟩
        rw [z] at h1
        exact join_some.mp h1
  · have back : ∀ (j : Nat) (x : PyData), (ρ.set i (.own d'))[j]? = some (Sl.own x) → ∃ x', ρ[j]? = some (.own x') := fun j x e => by
      by_cases h : j = i
      · exact ⟨d, h ▸ hr⟩
      · rw [List.getElem?_set_ne (Ne.symm h)] at e
        exact ⟨x, e⟩
    obtain ⟨x', e1⟩ := back j x e1
    obtain ⟨y', e2⟩ := back k y e2
    exact R.sep j k b x' y' e1 e2
  · obtain ⟨x, e, s⟩ := R.pin p hp
    by_cases h : p.1 = i
    · exact ⟨d', by rw [h, List.getElem?_set_self hl], s⟩
    · exact ⟨x, by rw [List.getElem?_set_ne (Ne.symm h)]; exact e, s⟩
/-- the object in slot i freezes -/
theorem Rel.frz {i : Nat} {d : PyData} (R : Rel K pp pr fz σ H ρ) (hr : ρ[i]? = some (.own d)) (hi : i ∉ pp.map (·.1)) : ∃ a, σ[i]? = some (some (V.ref a)) ∧ Fr pr fz H (fun b => fz b ∨ b = a) H ∧ Rel K pp pr (fun b => fz b ∨ b = a) σ H (ρ.set i (.val d)) ∧ Rep K (fun b => fz b ∨ b = a) H (.ref a) d := by
  obtain ⟨a, hs, nf, np, rc⟩ := R.own_ne hr
  have hl : i < ρ.length := (List.getElem?_eq_some_iff.mp hr).1
  -- first the slot is emptied
  have R0 : Rel K pp pr fz σ H (ρ.set i .emp) := by
    have back : ∀ (j : Nat) (x : PyData), (ρ.set i .emp)[j]? = some (Sl.own x) → ρ[j]? = some (.own x) := fun j x e => by
      by_cases h : j = i
      · subst h
        rw [List.getElem?_set_self hl] at e
        cases e
      · rw [List.getElem?_set_ne (Ne.symm h)] at e
        exact e
    refine ⟨by simpa using R.len, fun j s e => ?_, fun j k b x y e1 e2 => R.sep j k b x y (back j x e1) (back k y e2), R.fzH, R.prH, fun p hp => ?_⟩
    · by_cases h : j = i
      · subst h
        rw [List.getElem?_set_self hl] at e
        cases e
        trivial
      · rw [List.getElem?_set_ne (Ne.symm h)] at e
        exact R.at_ j s e
    · have h : p.1 ≠ i := fun z => hi (z ▸ List.mem_map_of_mem hp)
      rw [List.getElem?_set_ne (Ne.symm h)]
      exact R.pin p hp
  have ns : ∀ (j : Nat) (x : PyData), (ρ.set i .emp)[j]? = some (Sl.own x) → σ[j]? ≠ some (some (V.ref a)) := fun j x e z => by
    by_cases h : j = i
    · subst h
      rw [List.getElem?_set_self hl] at e
      cases e
    · rw [List.getElem?_set_ne (Ne.symm h)] at e
      exact h (R.sep j i a x d e hr z hs)
  obtain ⟨F, R1⟩ := frz_free R0 rc.some np ns
  have rep := rc.frz
  refine ⟨a, hs, F, ?_, rep⟩
  have R2 := R1.setV (i := i) rep hi
  have e1 : σ.set i (some (V.ref a)) = σ := by
    apply List.ext_getElem?
    intro j
    by_cases h : j = i
    · subst h
      rw [List.getElem?_set_self (by rw [R.len]; exact hl)]
      exact hs.symm
    · rw [List.getElem?_set_ne (Ne.symm h)]
  rw [e1, List.set_set] at R2
  exact R2
end
end PL

/-! PL2: what a reading refines (Rf); names, constants, operators, built-ins of one and two arguments. -/
namespace PL
open PySem PySem.Spec L2
open PyProof.Rows hiding St

abbrev RXT := (Addr → Prop) → Hp → Value → Option Addr → PExc → Prop
structure Cw where
  K : PySem.W.Frag
  RX : RXT
  W : WX
  ps : List Nat
/-- how a value is borne: protected, slots, frozen, heap, pure slots -/
abbrev RT (α β : Type) := (Addr → Prop) → L2.St → (Addr → Prop) → Hp → Env → β → α → Prop
def RV (K : PySem.W.Frag) : RT PyData V := fun _ _ fz H _ v d => Rep K fz H v d
def RVs (K : PySem.W.Frag) : RT (List PyData) (List V) := fun _ _ fz H _ v d => RepA K fz H v d
def RB : RT Bool Bool := fun _ _ _ _ _ b c => b = c
def RO (K : PySem.W.Frag) : RT PyData V := fun pr σ fz H ρ v d => ∃ a, v = .ref a ∧ ¬ fz a ∧ ¬ pr a ∧ (∀ (i : Nat) (x : PyData), ρ[i]? = some (.own x) → σ[i]? ≠ some (some (V.ref a))) ∧ OwnC K fz H a d
def PostG {α β : Type} (c : Cw) (pp : List (Nat × Addr)) (pr : Addr → Prop) (σ : L2.St) (R : RT α β) (fz : Addr → Prop) (H : Hp) (o : Out α) (Q : β → Hp → Prop) : Prop :=
  match o with
  | .ok a ρ => ∀ (b : β) (fz' : Addr → Prop) (H' : Hp), Fr pr fz H fz' H' → Rel c.K pp pr fz' σ H' ρ → R pr σ fz' H' ρ b a → Q b H'
  | .exc e ρ => ∀ (cls : Value) (dx : Option Addr) (fz' : Addr → Prop) (H' : Hp), Fr pr fz H fz' H' → Rel c.K pp pr fz' σ H' ρ → c.RX fz' H' cls dx e → c.W cls dx σ H'
  | .bad => False
def Rf {α β : Type} (c : Cw) (R : RT α β) (t : L2.St → Hp → (β → Hp → Prop) → Prop) (m : M α) : Prop :=
  ∀ (pp : List (Nat × Addr)) (pr fz : Addr → Prop) (σ : L2.St) (H : Hp) (ρ : Env) (Q : β → Hp → Prop), pp.map (·.1) = c.ps → Rel c.K pp pr fz σ H ρ → PostG c pp pr σ R fz H (m ρ) Q → t σ H Q
def bnd {α β : Type} (m : M α) (f : α → M β) : M β := fun ρ => match m ρ with
  | .ok a r => f a r
  | .exc e r => .exc e r
  | .bad => .bad
def lft {α : Type} (o : Option α) : M α := fun ρ => match o with
  | some a => .ok a ρ
  | none => .bad
section
variable {α β γ δ : Type} {c : Cw} {pp : List (Nat × Addr)} {pr fz : Addr → Prop} {σ : L2.St} {H : Hp} {ρ : Env}
theorem PostG.rest {R : RT α β} {fz1 : Addr → Prop} {H1 : Hp} {o : Out α} {Q : β → Hp → Prop} (F : Fr pr fz H fz1 H1) (h : PostG c pp pr σ R fz H o Q) : PostG c pp pr σ R fz1 H1 o Q := by
  cases o with
  | ok a r => exact fun b fz' H' F' => h b fz' H' (F.trans F')
  | exc e r => exact fun cls dx fz' H' F' => h cls dx fz' H' (F.trans F')
  | bad => exact h
theorem PostG.bnd {R1 : RT α β} {R2 : RT γ δ} {m : M α} {f : α → M γ} {Q : δ → Hp → Prop} {Q1 : β → Hp → Prop} (h : PostG c pp pr σ R2 fz H (bnd m f ρ) Q)
    (k : ∀ (b : β) (a : α) (fz1 : Addr → Prop) (H1 : Hp) (ρ1 : Env), Fr pr fz H fz1 H1 → Rel c.K pp pr fz1 σ H1 ρ1 → R1 pr σ fz1 H1 ρ1 b a → PostG c pp pr σ R2 fz1 H1 (f a ρ1) Q → Q1 b H1) : PostG c pp pr σ R1 fz H (m ρ) Q1 := by
  unfold PL.bnd at h
  cases e : m ρ with
  | ok a r =>
    rw [e] at h
    exact fun b fz1 H1 F R q => k b a fz1 H1 r F R q (h.rest F)
  | exc x r => rw [e] at h; exact h
  | bad => rw [e] at h; exact h.elim
theorem PostG.imp {R : RT α β} {o : Out α} {Q Q' : β → Hp → Prop} (h : PostG c pp pr σ R fz H o Q) (k : ∀ b H', Q b H' → Q' b H') : PostG c pp pr σ R fz H o Q' := by
  cases o with
  | ok a r => exact fun b fz' H' F' R' q => k _ _ (h b fz' H' F' R' q)
  | exc e r => exact h
  | bad => exact h
/-- an own result freezes -/
theorem Rf.frz {t : TE} {m : M PyData} (h : Rf c (RO c.K) t m) : Rf c (RV c.K) t m := by
  intro pp pr fz σ H ρ Q hp R hq
  refine h pp pr fz σ H ρ Q hp R ?_
  cases e : m ρ with
  | ok d r =>
    rw [e] at hq
    rintro v fz' H' F R' ⟨a, rfl, nf, np, ns, oc⟩
    obtain ⟨F2, R2⟩ := frz_free R' oc.some np ns
    exact hq (.ref a) _ H' (F.trans F2) R2 oc.frz
  | exc x r => rw [e] at hq; exact hq
  | bad => rw [e] at hq; exact hq
end

/-! ### names, constants -/
def mcon (d : PyData) : M PyData := fun ρ => .ok d ρ
def mvar (i : Nat) : M PyData := fun ρ => match ρ[i]? with
  | some (.val d) => .ok d ρ
  | some (.own d) => .ok d (ρ.set i (.val d))
  | _ => .bad
def peek (i : Nat) (ρ : Env) : Option PyData := match ρ[i]? with
  | some (.val d) => some d
  | some (.own d) => some d
  | _ => none
def RepP (K : PySem.W.Frag) (fz : Addr → Prop) (H : Hp) (v : V) (d : PyData) : Prop := Rep K fz H v d ∨ ∃ a, v = .ref a ∧ ¬ fz a ∧ OwnC K fz H a d
section
variable {c : Cw} {pp : List (Nat × Addr)} {pr fz : Addr → Prop} {σ : L2.St} {H : Hp} {ρ : Env}
theorem rf_con {v : V} {d : PyData} (h : ∀ fz H, Rep c.K fz H v d) : Rf c (RV c.K) (tC v) (mcon d) := fun pp pr fz σ H ρ Q hp R hq => hq v fz H Fr.refl R (h fz H)
theorem rf_var {i : Nat} (hi : i ∉ c.ps) : Rf c (RV c.K) (tVar i) (mvar i) := by
  intro pp pr fz σ H ρ Q hp R hq
  unfold mvar at hq
  cases e : ρ[i]? with
  | none => rw [e] at hq; exact hq.elim
  | some s =>
    rw [e] at hq
    cases s with
    | emp => exact hq.elim
    | scr ns => exact hq.elim
    | val d =>
      obtain ⟨v, h, r⟩ := R.at_ i _ e
      exact ⟨v, join_some.mp h, hq v fz H Fr.refl R r⟩
    | own d =>
      obtain ⟨a, hs, F, R', r⟩ := R.frz e (by rw [hp]; exact hi)
      exact ⟨_, hs, hq _ _ _ F R' r⟩
theorem Rel.peek {i : Nat} {d : PyData} (R : Rel c.K pp pr fz σ H ρ) (e : peek i ρ = some d) : ∃ v, σ[i]? = some (some v) ∧ RepP c.K fz H v d := by
  unfold PL.peek at e
  cases e1 : ρ[i]? with
  | none => rw [e1] at e; cases e
  | some s =>
    rw [e1] at e
    have q := R.at_ i _ e1
    cases s with
    | emp => cases e
    | scr ns => cases e
    | val x =>
      cases e
      obtain ⟨v, h, r⟩ := q
      exact ⟨v, join_some.mp h, .inl r⟩
    | own x =>
      cases e
      obtain ⟨a, h, nf, np, r⟩ := q
      exact ⟨_, join_some.mp h, .inr ⟨a, rfl, nf, r⟩⟩
theorem Rep.p {K : PySem.W.Frag} {v : V} {d : PyData} (h : Rep K fz H v d) : RepP K fz H v d := .inl h
theorem RepP.lst {K : PySem.W.Frag} {v : V} {ds : List PyData} (h : RepP K fz H v (.list ds)) : ∃ a vs, v = .ref a ∧ H a = some (.lst vs) ∧ RepA K fz H vs ds := by
  rcases h with h | ⟨a, rfl, _, vs, e, r⟩
  · cases h with
    | lst h e r => exact ⟨_, _, rfl, e, r⟩
  · exact ⟨a, vs, rfl, e, r⟩
theorem RepP.tup {K : PySem.W.Frag} {v : V} {ds : List PyData} (h : RepP K fz H v (.tuple ds)) : ∃ a vs, v = .ref a ∧ SqT K H a vs ∧ RepA K fz H vs ds ∧ Rep K fz H v (.tuple ds) := by
  rcases h with h | ⟨a, rfl, _, z⟩
  · have h' := h
    cases h with
    | tup h r => exact ⟨_, _, rfl, h.sq, r, h'⟩
  · exact z.elim
theorem RepP.int {K : PySem.W.Frag} {v : V} {i : Int} (h : RepP K fz H v (.int i)) : v = .int i := by
  rcases h with h | ⟨a, rfl, _, z⟩
  · cases h; rfl
  · exact z.elim
theorem RepP.str {K : PySem.W.Frag} {v : V} {i : Str} (h : RepP K fz H v (.str i)) : v = .str i := by
  rcases h with h | ⟨a, rfl, _, z⟩
  · cases h; rfl
  · exact z.elim
theorem RepP.bl {K : PySem.W.Frag} {v : V} {i : Bool} (h : RepP K fz H v (.bool i)) : v = .bl i := by
  rcases h with h | ⟨a, rfl, _, z⟩
  · cases h; rfl
  · exact z.elim
theorem RepP.non {K : PySem.W.Frag} {v : V} (h : RepP K fz H v .none) : v = .non := by
  rcases h with h | ⟨a, rfl, _, z⟩
  · cases h; rfl
  · exact z.elim
theorem OwnC.dp {K : PySem.W.Frag} {a : Addr} {d : PyData} (h : OwnC K fz H a d) (s : d.canLay0 = true) : Dp K H (.ref a) d := by
  cases d with
  | list ds => obtain ⟨vs, e, r⟩ := h; exact .lst (SqL.of e) (r.dp (by simpa [PyData.canLay0] using s))
  | dict ds => simp [PyData.canLay0] at s
  | _ => exact h.elim
theorem RepP.dp {K : PySem.W.Frag} {v : V} {d : PyData} (h : RepP K fz H v d) (s : d.canLay0 = true) : Dp K H v d := by
  rcases h with h | ⟨a, rfl, _, z⟩
  · exact h.dp s
  · exact z.dp s

/-! ### operators -/
/-- an operator by values, whose result is a value -/
def OpF (K : PySem.W.Frag) (r : R2) (f : PyData → PyData → Option PyData) : Prop :=
  ∀ (fz : Addr → Prop) (H : Hp) (v w : V) (x y z : PyData), RepP K fz H v x → RepP K fz H w y → f x y = some z → ∀ Q : VK, (∀ u fz' H', Alc fz H fz' H' → ((∀ a, fz a → H a ≠ none) → Rep K fz' H' u z) → Q u H') → r v w H Q
def op2 (f : PyData → PyData → Option PyData) (a b : M PyData) : M PyData := bnd a fun x => bnd b fun y => lft (f x y)
/-- the left a name -/
def op2l (f : PyData → PyData → Option PyData) (i : Nat) (b : M PyData) : M PyData := fun ρ => match peek i ρ with
  | none => .bad
  | some _ => bnd b (fun y ρ' => match peek i ρ' with
    | none => .bad
    | some x => lft (f x y) ρ') ρ
/-- the right a name -/
def op2r (f : PyData → PyData → Option PyData) (a : M PyData) (j : Nat) : M PyData := bnd a fun x ρ' => match peek j ρ' with
  | none => .bad
  | some y => lft (f x y) ρ'
def op2b (f : PyData → PyData → Option PyData) (i j : Nat) : M PyData := fun ρ => match peek i ρ, peek j ρ with
  | some x, some y => lft (f x y) ρ
  | _, _ => .bad
theorem lft_post {Q : VK} {o : Option PyData} {t : VK → Prop} (R : Rel c.K pp pr fz σ H ρ) (h : PostG c pp pr σ (RV c.K) fz H (lft o ρ) Q)
    (k : ∀ z, o = some z → (∀ u fz' H', Alc fz H fz' H' → ((∀ a, fz a → H a ≠ none) → Rep c.K fz' H' u z) → Q u H') → t Q) : t Q := by
  cases o with
  | none => exact h.elim
  | some z => exact k z rfl fun u fz' H' A r => h u fz' H' (A.fr R) (A.rel R) (r R.fzH)
variable {r : R2} {f : PyData → PyData → Option PyData} {ta tb : TE} {ma mb : M PyData}
theorem rf_op2 (ho : OpF c.K r f) (ha : Rf c (RV c.K) ta ma) (hb : Rf c (RV c.K) tb mb) : Rf c (RV c.K) (tOp r ta tb) (op2 f ma mb) := by
  intro pp pr fz σ H ρ Q hp R hq
  refine ha pp pr fz σ H ρ _ hp R (hq.bnd fun v x fz1 H1 ρ1 F1 R1 r1 P1 => ?_)
  refine hb pp pr fz1 σ H1 ρ1 _ hp R1 (P1.bnd fun w y fz2 H2 ρ2 F2 R2 r2 P2 => ?_)
  exact lft_post (t := r v w H2) R2 P2 fun z e k => ho fz2 H2 v w x y z (.inl (Rep.ext F2.ext r1)) (.inl r2) e Q k
theorem rf_op2l {i : Nat} (ho : OpF c.K r f) (hb : Rf c (RV c.K) tb mb) : Rf c (RV c.K) (tOp r (tVar i) tb) (op2l f i mb) := by
  intro pp pr fz σ H ρ Q hp R hq
  unfold op2l at hq
  cases e : peek i ρ with
  | none => rw [e] at hq; exact hq.elim
  | some x0 =>
    rw [e] at hq
    obtain ⟨v, hv, _⟩ := R.peek e
    refine ⟨v, hv, ?_⟩
    refine hb pp pr fz σ H ρ _ hp R (hq.bnd fun w y fz1 H1 ρ1 F1 R1 r1 P1 => ?_)
    cases e1 : peek i ρ1 with
    | none => simp only [e1] at P1; exact P1.elim
    | some x =>
      simp only [e1] at P1
      obtain ⟨v', hv', rv⟩ := R1.peek e1
      rw [hv] at hv'
      cases hv'
      exact lft_post (t := r v w H1) R1 P1 fun z e k => ho fz1 H1 v w x y z rv (.inl r1) e Q k
theorem rf_op2r {j : Nat} (ho : OpF c.K r f) (ha : Rf c (RV c.K) ta ma) : Rf c (RV c.K) (tOp r ta (tVar j)) (op2r f ma j) := by
  intro pp pr fz σ H ρ Q hp R hq
  refine ha pp pr fz σ H ρ _ hp R (hq.bnd fun v x fz1 H1 ρ1 F1 R1 r1 P1 => ?_)
  cases e1 : peek j ρ1 with
  | none => simp only [e1] at P1; exact P1.elim
  | some y =>
    simp only [e1] at P1
    obtain ⟨w, hw, rw'⟩ := R1.peek e1
    refine ⟨w, hw, ?_⟩
    exact lft_post (t := r v w H1) R1 P1 fun z e k => ho fz1 H1 v w x y z (.inl r1) rw' e Q k
theorem rf_op2b {i j : Nat} (ho : OpF c.K r f) : Rf c (RV c.K) (tOp r (tVar i) (tVar j)) (op2b f i j) := by
  intro pp pr fz σ H ρ Q hp R hq
  unfold op2b at hq
  cases e : peek i ρ with
  | none => rw [e] at hq; exact hq.elim
  | some x =>
    cases e1 : peek j ρ with
    | none => rw [e, e1] at hq; exact hq.elim
    | some y =>
      simp only [e, e1] at hq
      obtain ⟨v, hv, rv⟩ := R.peek e
      obtain ⟨w, hw, rw'⟩ := R.peek e1
      refine ⟨v, hv, w, hw, ?_⟩
      exact lft_post (t := r v w H) R hq fun z e k => ho fz H v w x y z rv rw' e Q k
end
end PL

/-! PL3: the operators and built-ins by pure values. -/
namespace PL
open PySem PySem.Spec L2
open PyProof.Rows hiding St

/-! ### numbers, texts, tuples, lists -/
def lenOk (n : Nat) : Bool := decide (n ≤ 16777216)
theorem lenOk_iff {n : Nat} : lenOk n = true ↔ n ≤ sizeLine := by rw [sizeLine_eq]; simp [lenOk]
def add? : PyData → PyData → Option PyData
  | .int i, .int j => some (.int (i + j))
  | .str x, .str y => if lenOk (x.length + y.length) = true then some (.str (x ++ y)) else none
  | .tuple x, .tuple y => if lenOk (x.length + y.length) = true then some (.tuple (x ++ y)) else none
  | .list x, .list y => if lenOk (x.length + y.length) = true then some (.list (x ++ y)) else none
  | _, _ => none
def sub? : PyData → PyData → Option PyData
  | .int i, .int j => some (.int (i - j))
  | _, _ => none
def mulOk (i j : Int) : Bool := decide (i.natAbs < 2 ^ 64) || decide (j.natAbs < 2 ^ 64) || decide (i.natAbs.log2 + j.natAbs.log2 < 1000000)
def repOk (n : Nat) (k : Int) : Bool := decide (-(2 ^ 63) ≤ k) && decide (k < 2 ^ 63) && lenOk (n * k.toNat)
/-- a text times a number -/
def strRep (x : Str) (k : Int) : Str := if k < 1 then Str.empty else if (k == 1 || x.length == 0) = true then x else ⟨(List.replicate k.toNat x.cps).foldl (· ++ ·) #[]⟩
def mul? : PyData → PyData → Option PyData
  | .int i, .int j => if mulOk i j = true then some (.int (i * j)) else none
  | .list x, .int k => if repOk x.length k = true then some (.list (List.replicate k.toNat x).flatten) else none
  | .str x, .int k => if repOk x.length k = true then some (.str (strRep x k)) else none
  | .tuple x, .int k => if (!x.isEmpty && decide (1 ≤ k) && decide (k ≤ 1000) && decide (x.length ≤ 1000)) = true then some (.tuple (List.replicate k.toNat x).flatten) else none
  | _, _ => none
def fdiv? : PyData → PyData → Option PyData
  | .int i, .int j => if (decide (0 < j) && decide (j.natAbs.log2 < 9000)) = true then some (.int (i / j)) else none
  | _, _ => none
def mod? : PyData → PyData → Option PyData
  | .int i, .int j => if decide (0 < j) = true then some (.int (i % j)) else none
  | _, _ => none
def powOk (i j : Int) : Bool := decide (0 ≤ j) && decide ((Builtin.Int.intBits i : Int) * j ≤ 2 ^ 27)
def pow? : PyData → PyData → Option PyData
  | .int i, .int j => if powOk i j = true then some (.int (i ^ j.toNat)) else none
  | _, _ => none
def neg? : PyData → Option PyData
  | .int i => some (.int (-i))
  | _ => none
def cmpI? (p : Int → Int → Bool) : PyData → PyData → Option PyData
  | .int i, .int j => some (.bool (p i j))
  | _, _ => none
abbrev lt? := cmpI? fun i j => decide (i < j)
abbrev le? := cmpI? fun i j => decide (i ≤ j)
abbrev gt? := cmpI? fun i j => decide (j < i)
abbrev ge? := cmpI? fun i j => decide (j ≤ i)
def strD : PyData → Bool
  | .str _ => true
  | _ => false
def cmpOk (x y : PyData) : Bool := (strD x && strD y) || (SeqAt.shaped x && SeqAt.shaped y)
def eq? (x y : PyData) : Option PyData := if cmpOk x y = true then some (.bool (PyData.eqv x y)) else none
def ne? (x y : PyData) : Option PyData := if cmpOk x y = true then some (.bool (!PyData.eqv x y)) else none
def isNb : PyData → Bool
  | .none => true
  | _ => false
def isN? (x y : PyData) : Option PyData := match y with
  | .none => some (.bool (isNb x))
  | _ => none
def notN? (x y : PyData) : Option PyData := match y with
  | .none => some (.bool (!isNb x))
  | _ => none
def flatD : PyData → Bool
  | .none => true
  | .bool _ => true
  | .int _ => true
  | .str _ => true
  | _ => false
def in? (x y : PyData) : Option PyData := match y with
  | .list ds => if (flatD x && ds.all flatD) = true then some (.bool (ds.any fun z => PyData.eqv z x)) else if (SeqAt.shaped x && SeqAt.shaped (.list ds)) = true then some (.bool (ds.any fun z => PyData.eqv z x)) else none
  | .tuple ds => if (flatD x && ds.all flatD) = true then some (.bool (ds.any fun z => PyData.eqv z x)) else none
  | _ => none
def notB? (o : Option PyData) : Option PyData := match o with
  | some (.bool b) => some (.bool (!b))
  | _ => none
def notIn? (x y : PyData) : Option PyData := notB? (in? x y)
/-- an item -/
def item? (x i : PyData) : Option PyData := match x, i with
  | .list ds, .int k => atI ds k
  | .tuple ds, .int k => atI ds k
  | .str z, .int k => if lenOk z.length = true then (atI z.cps.toList k).map fun c => .str ⟨#[c]⟩ else none
  | _, _ => none
/-- a slice by ones -/
def cut {α : Type} (xs : List α) (lo hi : Option Int) : List α := (xs.drop (HT.sIx xs.length 0 lo)).take (HT.sIx xs.length xs.length hi - HT.sIx xs.length 0 lo)
def slice? (x : PyData) (lo hi : Option Int) : Option PyData := match x with
  | .list ds => some (.list (cut ds lo hi))
  | .tuple ds => some (.tuple (cut ds lo hi))
  | .str z => if lenOk z.length = true then some (.str (cutS z lo hi)) else none
  | _ => none
/-- truth -/
def truth? : PyData → Option Bool
  | .none => some false
  | .bool b => some b
  | .int i => some (i != 0)
  | .str x => if lenOk x.length = true then some ((x.length : Int) != 0) else none
  | .list ds => some (!ds.isEmpty)
  | .tuple ds => some (!ds.isEmpty)
  | .dict ds => some (!ds.isEmpty)
def asB? : PyData → Option Bool
  | .bool b => some b
  | _ => none
def ints? : List PyData → Option (List Int)
  | [] => some []
  | .int i :: r => (ints? r).map (i :: ·)
  | _ => none
def bools? : List PyData → Option (List Bool)
  | [] => some []
  | .bool i :: r => (bools? r).map (i :: ·)
  | _ => none
theorem ints_of : ∀ {ds : List PyData} {ns : List Int}, ints? ds = some ns → ds = ns.map PyData.int
  | [], ns, h => by cases h; rfl
  | d :: r, ns, h => by
    cases d with
    | int i =>
      simp only [ints?] at h
      cases e : ints? r with
      | none => rw [e] at h; cases h
      | some ms => rw [e] at h; cases h; rw [ints_of e]; rfl
    | _ => simp [ints?] at h
theorem bools_of : ∀ {ds : List PyData} {ns : List Bool}, bools? ds = some ns → ds = ns.map PyData.bool
  | [], ns, h => by cases h; rfl
  | d :: r, ns, h => by
    cases d with
    | bool i =>
      simp only [bools?] at h
      cases e : bools? r with
      | none => rw [e] at h; cases h
      | some ms => rw [e] at h; cases h; rw [bools_of e]; rfl
    | _ => simp [bools?] at h
theorem ints_map (ns : List Int) : ints? (ns.map PyData.int) = some ns := by
  induction ns with
  | nil => rfl
  | cons n r ih => simp [ints?, ih]
theorem bools_map (ns : List Bool) : bools? (ns.map PyData.bool) = some ns := by
  induction ns with
  | nil => rfl
  | cons n r ih => simp [bools?, ih]
def maxL : List Int → Int
  | [] => 0
  | [a] => a
  | a :: b :: r => max a (maxL (b :: r))
def minL : List Int → Int
  | [] => 0
  | [a] => a
  | a :: b :: r => min a (minL (b :: r))
theorem maxL_spec : ∀ (ns : List Int), ns ≠ [] → maxL ns ∈ ns ∧ ∀ y ∈ ns, y ≤ maxL ns
  | [], h => absurd rfl h
  | [a], _ => by simp [maxL]
  | a :: b :: r, _ => by
    obtain ⟨h1, h2⟩ := maxL_spec (b :: r) (by simp)
    simp only [maxL]
    refine ⟨?_, fun y hy => ?_⟩
    · rcases Int.le_total a (maxL (b :: r)) with h | h
      · rw [Int.max_eq_right h]; exact List.mem_cons_of_mem _ h1
      · rw [Int.max_eq_left h]; exact List.mem_cons_self
    · rcases List.mem_cons.mp hy with e | e
      · rw [e]; exact Int.le_max_left _ _
      · exact Int.le_trans (h2 y e) (Int.le_max_right _ _)
theorem minL_spec : ∀ (ns : List Int), ns ≠ [] → minL ns ∈ ns ∧ ∀ y ∈ ns, minL ns ≤ y
  | [], h => absurd rfl h
  | [a], _ => by simp [minL]
  | a :: b :: r, _ => by
    obtain ⟨h1, h2⟩ := minL_spec (b :: r) (by simp)
    simp only [minL]
    refine ⟨?_, fun y hy => ?_⟩
    · rcases Int.le_total a (minL (b :: r)) with h | h
      · rw [Int.min_eq_left h]; exact List.mem_cons_self
      · rw [Int.min_eq_right h]; exact List.mem_cons_of_mem _ h1
    · rcases List.mem_cons.mp hy with e | e
      · rw [e]; exact Int.min_le_left _ _
      · exact Int.le_trans (Int.min_le_right _ _) (h2 y e)

section
variable {K : PySem.W.Frag} {fz : Addr → Prop} {H : Hp}
theorem Alc.same {Q : VK} {u : V} {z : PyData} (r : Rep K fz H u z) (q : ∀ u fz' H', Alc fz H fz' H' → ((∀ a, fz a → H a ≠ none) → Rep K fz' H' u z) → Q u H') : Q u H := q u fz H Alc.refl fun _ => r
theorem alc_tup {Q : VK} {vs : List V} {ds : List PyData} (r : RepA K fz H vs ds) (q : ∀ u fz' H', Alc fz H fz' H' → ((∀ a, fz a → H a ≠ none) → Rep K fz' H' u (.tuple ds)) → Q u H') : ∀ p, H p = none → Q (.ref p) (upd H p (.tup vs)) := fun p hp =>
  q _ _ _ (Alc.one hp) fun hf => .tup (.inl ⟨.inr rfl, .inl upd_same⟩) (r.ext ((Alc.one hp).ext hf))
theorem alc_lst {Q : VK} {vs : List V} {ds : List PyData} (r : RepA K fz H vs ds) (q : ∀ u fz' H', Alc fz H fz' H' → ((∀ a, fz a → H a ≠ none) → Rep K fz' H' u (.list ds)) → Q u H') : ∀ p, H p = none → Q (.ref p) (upd H p (.lst vs)) := fun p hp =>
  q _ _ _ (Alc.one hp) fun hf => .lst (.inr rfl) upd_same (r.ext ((Alc.one hp).ext hf))

def rAdd (K : PySem.W.Frag) : R2 := fun x y H Q => rI0 (fun i j => .int (i + j)) x y H Q ∨ (∃ i j, x = .str i ∧ y = .str j ∧ i.length + j.length ≤ sizeLine ∧ Q (.str (i ++ j)) H) ∨ rCatA K x y H Q ∨ rCat x y H Q
theorem opr_add {X : Cx} : OpR X (binaryOp .Add) (rAdd X.K) := op_add.or (op_add_str.or (op_catA.or op_cat))
theorem RepA.nil_iff {vs : List V} {ds : List PyData} (r : RepA K fz H vs ds) : vs = [] ↔ ds = [] := by
  cases r with
  | nil => simp
  | cons _ _ => simp
theorem of_add : OpF K (rAdd K) add? := by
  intro fz H v w x y z hv hw e Q q
  unfold add? at e
  split at e
  · cases e; rw [hv.int, hw.int]; exact .inl ⟨_, _, rfl, rfl, Alc.same (.int _) q⟩
  · split at e
    · rename_i h
      cases e
      rw [hv.str, hw.str]; exact .inr (.inl ⟨_, _, rfl, rfl, lenOk_iff.mp h, Alc.same (.str _) q⟩)
    · cases e
  · split at e
    · rename_i h
      cases e
      obtain ⟨a, vs, rfl, sa, ra, ra'⟩ := hv.tup
      obtain ⟨b, ws, rfl, sb, rb, rb'⟩ := hw.tup
      refine .inr (.inr (.inl ⟨a, b, vs, ws, rfl, rfl, sa, sb, ?_, fun z => ?_, fun _ z => ?_, fun _ _ => alc_tup (ra.append rb) q⟩))
      · rw [ra.length, rb.length]; exact lenOk_iff.mp h
      · rw [ra.nil_iff] at z
        subst z
        exact Alc.same rb' q
      · rw [rb.nil_iff] at z
        subst z
        rw [List.append_nil] at q
        exact Alc.same ra' q
    · cases e
  · split at e
    · rename_i h
      cases e
      obtain ⟨a, vs, rfl, sa, ra⟩ := hv.lst
      obtain ⟨b, ws, rfl, sb, rb⟩ := hw.lst
      refine .inr (.inr (.inr ⟨a, b, vs, ws, rfl, rfl, sa, sb, ?_, alc_lst (ra.append rb) q⟩))
      rw [ra.length, rb.length]; exact lenOk_iff.mp h
    · cases e
  · cases e
def rSub : R2 := rI0 fun i j => .int (i - j)
theorem of_sub : OpF K rSub sub? := by
  intro fz H v w x y z hv hw e Q q
  unfold sub? at e
  split at e
  · cases e; rw [hv.int, hw.int]; exact ⟨_, _, rfl, rfl, Alc.same (.int _) q⟩
  · cases e
def rRepS : R2 := fun x y H Q => ∃ a k, x = .str a ∧ y = .int k ∧ repOk a.length k = true ∧ Q (.str (strRep a k)) H
/-- a tuple once -/
theorem tuple_mul1 (l : Addr) (items : Array Value) (n : Nat) (dd : Option Addr) (sl : Array (Option Value)) (u : Tok) :
    Meets (Builtin.«tuple.__mul__» ⟨[.ref l, .int 1 u], []⟩) (fun _ R s => s.heap.get? l = some { cls := .type "tuple", dict := dd, data := .seq items n, slots := sl } ∧ R (.ok (.ret (Value.ref l))) s) :=
  .of_wp fun prog w A R s h => by
    obtain ⟨hp, g, d, tk, os⟩ := s
    obtain ⟨hl, h⟩ := h
    have f1 := AutoSeq1.idx_int
    have c1 : (items.isEmpty || (1 : Int) == 1) = true := by simp
    wp_walk using wpAny_loadPart' hl
    repeat (first
      | (refine wpAny_ite_true (decide_eq_true (by rw [c1])) ?_; wp_walk using wpAny_loadPart' hl)
      | (refine wpAny_ite_true c1 ?_; wp_walk using wpAny_loadPart' hl))
    all_goals exact ⟨_, rfl, h⟩
def rRep1 (K : PySem.W.Frag) : R2 := fun x y H Q => ∃ l xs, x = .ref l ∧ y = .int 1 ∧ SqT K H l xs ∧ Q (.ref l) H
theorem op_rep1 {X : Cx} : OpR X (binaryOp .Mult) (rRep1 X.K) := by
  intro pins s σ H x y v u Q I rx ry h
  obtain ⟨l, xs, rfl, rfl, hT, q⟩ := h
  cases rx
  obtain ⟨t, rfl⟩ := ry
  obtain ⟨its, r, ⟨⟨cls, dd, data, sl⟩, ho, hc, n, hd⟩, hs⟩ := I.tuple hT
  simp only at hc hd
  subst hc hd
  exact wpAny_binaryOp_repeat_ref (T := "tuple") (U := "int") (by decide) ⟨_, ho, rfl⟩ (fun s' => typeIs_int s' 1 t) noFill_tuple_mul F.fills_int_mul F.slot_int_rmul repeat_tuple F.slot_int_index.lookup
    (call_meets F.slot_int_rmul (typeIs_int s 1 t) F.entry_int_rmul (F.args_int_rmul_2 _ _) (int_rmul_tuple 1 t l its.toArray n dd sl)
      ⟨ho, rfl, ⟨_, ho, rfl⟩, call_meets F.slot_tuple_mul ⟨_, ho, rfl⟩ F.entry_tuple_mul (F.args_tuple_mul_2 _ _) (tuple_mul1 l its.toArray n dd sl t) ⟨ho, ⟨.ref l, H, I, rfl, q⟩⟩⟩)
def rMul (K : PySem.W.Frag) : R2 := fun x y H Q => rI (fun i j => mulOk i j = true) (fun i j => .int (i * j)) x y H Q ∨ rRep x y H Q ∨ rRepS x y H Q ∨ rRep1 K x y H Q ∨ rRepT K x y H Q
theorem foldl_app_size {α : Type} (a : Array α) : ∀ (n : Nat) (z : Array α), ((List.replicate n a).foldl (· ++ ·) z).size = z.size + n * a.size
  | 0, z => by simp
  | n + 1, z => by
    rw [List.replicate_succ, List.foldl_cons, foldl_app_size a n, Array.size_append, Nat.succ_mul]
    omega
theorem op_repS {X : Cx} : OpR X (binaryOp .Mult) rRepS := by
  intro pins s σ H x y v u Q I rx ry h
  obtain ⟨a, k, rfl, rfl, hk, q⟩ := h
  obtain ⟨t, rfl⟩ := rx
  obtain ⟨t', rfl⟩ := ry
  unfold repOk at hk
  simp only [Bool.and_eq_true, decide_eq_true_eq] at hk
  obtain ⟨⟨h1, h2⟩, h3⟩ := hk
  have h4 : a.length * k.toNat ≤ sizeLine := lenOk_iff.mp h3
  have big : (sizeLine : Nat) ≤ 16777216 := by decide
  have e1 : (decide (k < -(2 ^ 63 : Int)) || decide (k ≥ 2 ^ 63)) = false := by
    rw [decide_eq_false (by omega), decide_eq_false (by omega)]; rfl
  have tl : Builtin.Str.tooLong (a.length * k.toNat) = false := by
    unfold Builtin.Str.tooLong
    exact decide_eq_false (by omega)
  refine PySem.P.mul_str e1 (fun n1 n2 z => ?_) (fun _ _ => tl) ?_
  · have hkp : 0 < k := by omega
    have z1 : (2 ^ 63 - 1) / k < (a.length : Int) := z
    have z2 : (2 ^ 63 - 1 : Int) < (a.length : Int) * k := by
      have := Int.lt_mul_of_ediv_lt hkp z1
      exact this
    have z3 : ((a.length * k.toNat : Nat) : Int) = (a.length : Int) * k := by
      rw [Int.natCast_mul, Int.toNat_of_nonneg (Int.le_of_lt hkp)]
    omega
  · unfold strRep at q
    split
    · rename_i h; rw [if_pos h] at q; exact ⟨by decide, ⟨.str _, H, I.tok _, ⟨_, rfl⟩, q⟩⟩
    · rename_i h
      rw [if_neg h] at q
      split
      · rename_i h'; rw [if_pos h'] at q; exact ⟨.str _, H, I, ⟨_, rfl⟩, q⟩
      · rename_i h'
        rw [if_neg h'] at q
        refine ⟨?_, ⟨.str _, H, I.tok _, ⟨_, rfl⟩, q⟩⟩
        show ((List.replicate k.toNat a.cps).foldl (· ++ ·) #[]).size ≤ sizeLine
        rw [foldl_app_size, Nat.mul_comm]
        show 0 + a.length * k.toNat ≤ sizeLine
        rw [Nat.zero_add]
        exact h4
theorem mulOk_ok {i j : Int} (h : mulOk i j = true) : IntMulOk i j := by
  unfold mulOk at h
  simp only [Bool.or_eq_true, decide_eq_true_eq] at h
  rcases h with (h | h) | h
  · exact CMul.ok (.inl ⟨by omega, by omega⟩)
  · exact CMul.ok (.inr ⟨by omega, by omega⟩)
  · exact CMulW.ok h
theorem opr_mul {X : Cx} : OpR X (binaryOp .Mult) (rMul X.K) := (opI fun _ _ _ _ _ _ _ hc q => mul_int q (mulOk_ok hc)).or (op_rep.or (op_repS.or (op_rep1.or op_repT)))
theorem RepA.rep {vs : List V} {ds : List PyData} (r : RepA K fz H vs ds) : ∀ k : Nat, RepA K fz H (List.replicate k vs).flatten (List.replicate k ds).flatten
  | 0 => .nil
  | k + 1 => by
    rw [List.replicate_succ, List.replicate_succ, List.flatten_cons, List.flatten_cons]
    exact r.append (RepA.rep r k)
theorem of_mul : OpF K (rMul K) mul? := by
  intro fz H v w x y z hv hw e Q q
  unfold mul? at e
  split at e
  · split at e
    · rename_i h
      cases e; rw [hv.int, hw.int]; exact .inl ⟨_, _, rfl, rfl, h, Alc.same (.int _) q⟩
    · cases e
  · split at e
    · rename_i h
      cases e
      obtain ⟨a, vs, rfl, sa, ra⟩ := hv.lst
      unfold repOk at h
      simp only [Bool.and_eq_true, decide_eq_true_eq] at h
      rw [hw.int]
      exact .inr (.inl ⟨a, _, vs, rfl, rfl, sa, h.1.1, h.1.2, by rw [ra.length]; exact lenOk_iff.mp h.2, alc_lst (ra.rep _) q⟩)
    · cases e
  · split at e
    · rename_i h
      cases e
      rw [hv.str, hw.int]
      exact .inr (.inr (.inl ⟨_, _, rfl, rfl, h, Alc.same (.str _) q⟩))
    · cases e
  · rename_i ds k
    split at e
    · rename_i h
      cases e
      obtain ⟨a, vs, rfl, sa, ra, ra'⟩ := hv.tup
      rw [hw.int]
      simp only [Bool.and_eq_true, decide_eq_true_eq, Bool.not_eq_true', List.isEmpty_eq_false_iff] at h
      obtain ⟨⟨⟨h0, h1⟩, h2⟩, h3⟩ := h
      by_cases hk : k = 1
      · subst hk
        refine .inr (.inr (.inr (.inl ⟨a, vs, rfl, rfl, sa, ?_⟩)))
        have e1 : (List.replicate (1 : Int).toNat ds).flatten = ds := by
          show (List.replicate 1 ds).flatten = ds
          simp
        rw [e1] at q
        exact Alc.same ra' q
      · refine .inr (.inr (.inr (.inr ⟨a, _, vs, rfl, rfl, sa, fun e => h0 (ra.nil_iff.mp e), by omega, h2, by rw [ra.length]; exact h3, alc_tup (ra.rep _) q⟩)))
    · cases e
  · cases e
def rFdiv : R2 := rI CDivW fun i j => .int (i / j)
theorem of_fdiv : OpF K rFdiv fdiv? := by
  intro fz H v w x y z hv hw e Q q
  unfold fdiv? at e
  split at e
  · split at e
    · rename_i h
      simp only [Bool.and_eq_true, decide_eq_true_eq] at h
      cases e; rw [hv.int, hw.int]; exact ⟨_, _, rfl, rfl, h, Alc.same (.int _) q⟩
    · cases e
  · cases e
def rMod : R2 := rI (fun _ j => 0 < j) fun i j => .int (i % j)
theorem of_mod : OpF K rMod mod? := by
  intro fz H v w x y z hv hw e Q q
  unfold mod? at e
  split at e
  · split at e
    · rename_i h
      simp only [decide_eq_true_eq] at h
      cases e; rw [hv.int, hw.int]; exact ⟨_, _, rfl, rfl, h, Alc.same (.int _) q⟩
    · cases e
  · cases e
def rPow : R2 := rI (fun i j => powOk i j = true) fun i j => .int (i ^ j.toNat)
theorem opr_pow {X : Cx} : OpR X (binaryOp .Pow) rPow := opI fun i j _ _ _ _ _ hc q => by
  unfold powOk at hc
  simp only [Bool.and_eq_true, decide_eq_true_eq] at hc
  exact pow_int hc.1 hc.2 q
theorem of_pow : OpF K rPow pow? := by
  intro fz H v w x y z hv hw e Q q
  unfold pow? at e
  split at e
  · split at e
    · rename_i h
      cases e; rw [hv.int, hw.int]; exact ⟨_, _, rfl, rfl, h, Alc.same (.int _) q⟩
    · cases e
  · cases e
theorem of_cmpI (p : Int → Int → Bool) : OpF K (rI0 fun i j => .bl (p i j)) (cmpI? p) := by
  intro fz H v w x y z hv hw e Q q
  unfold cmpI? at e
  split at e
  · cases e; rw [hv.int, hw.int]; exact ⟨_, _, rfl, rfl, Alc.same (.bl _) q⟩
  · cases e
theorem strD_eq {x : PyData} (h : strD x = true) : ∃ a, x = .str a := by
  cases x <;> first | (cases h; done) | exact ⟨_, rfl⟩
theorem dec_strV {a b : Str} : decide (V.str a = V.str b) = PyData.eqv (.str a) (.str b) := by
  rw [dec_str]; simp [PyData.eqv]
def rEqA (K : PySem.W.Frag) : R2 := fun x y H Q => rEq x y H Q ∨ rEqD K x y H Q
def rNeA (K : PySem.W.Frag) : R2 := fun x y H Q => rNe x y H Q ∨ rNeD K x y H Q
theorem opr_eq {X : Cx} (hu : X.A.units + 64 < cLine) : OpR X (compareOp .Eq) (rEqA X.K) := op_eq.or (op_eqD hu)
theorem opr_ne {X : Cx} (hu : X.A.units + 64 < cLine) : OpR X (compareOp .NotEq) (rNeA X.K) := op_ne.or (op_neD hu)
theorem of_eq : OpF K (rEqA K) eq? := by
  intro fz H v w x y z hv hw e Q q
  unfold eq? at e
  split at e
  · rename_i h
    cases e
    simp only [cmpOk, Bool.or_eq_true, Bool.and_eq_true] at h
    rcases h with h | h
    · obtain ⟨a, rfl⟩ := strD_eq h.1
      obtain ⟨b, rfl⟩ := strD_eq h.2
      rw [hv.str, hw.str]
      refine .inl ⟨rfl, ?_⟩
      rw [dec_strV]
      exact Alc.same (.bl _) q
    · exact .inr ⟨x, y, hv.dp (SeqAt.canLay_of_shaped h.1), hw.dp (SeqAt.canLay_of_shaped h.2), h.1, h.2, Alc.same (.bl _) q⟩
  · cases e
theorem of_ne : OpF K (rNeA K) ne? := by
  intro fz H v w x y z hv hw e Q q
  unfold ne? at e
  split at e
  · rename_i h
    cases e
    simp only [cmpOk, Bool.or_eq_true, Bool.and_eq_true] at h
    rcases h with h | h
    · obtain ⟨a, rfl⟩ := strD_eq h.1
      obtain ⟨b, rfl⟩ := strD_eq h.2
      rw [hv.str, hw.str]
      refine .inl ⟨rfl, ?_⟩
      rw [dec_strV]
      exact Alc.same (.bl _) q
    · exact .inr ⟨x, y, hv.dp (SeqAt.canLay_of_shaped h.1), hw.dp (SeqAt.canLay_of_shaped h.2), h.1, h.2, Alc.same (.bl _) q⟩
  · cases e
theorem RepP.isNon {v : V} {x : PyData} (h : RepP K fz H v x) : decide (v = .non) = isNb x := by
  rcases h with h | ⟨a, rfl, _, z⟩
  · cases h <;> simp [isNb]
  · cases x <;> first | exact z.elim | simp [isNb]
def rIsN : R2 := fun x y H Q => y = .non ∧ Q (.bl (decide (x = .non))) H
def rNotN : R2 := fun x y H Q => y = .non ∧ Q (.bl (!decide (x = .non))) H
theorem of_isN : OpF K rIsN isN? := by
  intro fz H v w x y z hv hw e Q q
  unfold isN? at e
  split at e
  · cases e
    refine ⟨hw.non, ?_⟩
    rw [hv.isNon]
    exact Alc.same (.bl _) q
  · cases e
theorem of_notN : OpF K rNotN notN? := by
  intro fz H v w x y z hv hw e Q q
  unfold notN? at e
  split at e
  · cases e
    refine ⟨hw.non, ?_⟩
    rw [hv.isNon]
    exact Alc.same (.bl _) q
  · cases e
theorem RepP.flat {v : V} {x : PyData} (h : RepP K fz H v x) (f : flatD x = true) : Rep K fz H v x ∧ flatV v = true := by
  rcases h with h | ⟨a, rfl, _, z⟩
  · refine ⟨h, ?_⟩
    cases h <;> first | rfl | cases f
  · cases x <;> first | exact z.elim | cases f
theorem eqV_eqv {v w : V} {x y : PyData} (h : Rep K fz H v x) (h' : Rep K fz H w y) (f : flatD x = true) (g : flatD y = true) : eqV v w = PyData.eqv x y := by
  cases h <;> first | (cases f; done) | (cases h' <;> first | (cases g; done) | simp [eqV, PyData.eqv])
theorem any_eqV {w : V} {y : PyData} (h' : Rep K fz H w y) (g : flatD y = true) : ∀ {vs : List V} {ds : List PyData}, RepA K fz H vs ds → ds.all flatD = true → vs.all flatV = true ∧ inV w vs = ds.any fun z => PyData.eqv z y
  | _, _, .nil, _ => ⟨rfl, rfl⟩
  | _, _, .cons h r, f => by
    rw [List.all_cons, Bool.and_eq_true] at f
    obtain ⟨h1, h2⟩ := any_eqV h' g r f.2
    refine ⟨by rw [List.all_cons, (RepP.flat (.inl h) f.1).2, h1]; rfl, ?_⟩
    unfold inV at h2 ⊢
    rw [List.any_cons, List.any_cons, h2, eqV_eqv h h' f.1 g]
def rInA (K : PySem.W.Frag) : R2 := fun x y H Q => rIn K false x y H Q ∨ rInD K x y H Q
def rNotInA (K : PySem.W.Frag) : R2 := fun x y H Q => rIn K true x y H Q ∨ rNotInD K x y H Q
theorem opr_in {X : Cx} (hu : X.A.units + 65 < cLine) : OpR X (compareOp .In) (rInA X.K) := op_in_seq.or (op_inD hu)
theorem opr_notIn {X : Cx} (hu : X.A.units + 65 < cLine) : OpR X (compareOp .NotIn) (rNotInA X.K) := op_notIn_seq.or (op_notInD hu)
theorem in_both {v w : V} {x y z : PyData} (hv : RepP K fz H v x) (hw : RepP K fz H w y) (e : in? x y = some z) : ∃ b, z = .bool b ∧
    ∀ Q : VK, Q (.bl b) H → rInA K v w H Q := by
  unfold in? at e
  split at e
  · split at e
    · rename_i h
      cases e
      rw [Bool.and_eq_true] at h
      obtain ⟨a, vs, rfl, sa, ra⟩ := hw.lst
      obtain ⟨rx, fx⟩ := hv.flat h.1
      obtain ⟨h1, h2⟩ := any_eqV rx h.1 ra h.2
      refine ⟨_, rfl, fun Q q => .inl ⟨a, vs, rfl, .inl (SqL.of sa), fx, h1, ?_⟩⟩
      rw [h2]; exact q
    · split at e
      · rename_i h
        cases e
        rw [Bool.and_eq_true] at h
        exact ⟨_, rfl, fun Q q => .inr ⟨x, _, hv.dp (SeqAt.canLay_of_shaped h.1), hw.dp (SeqAt.canLay_of_shaped h.2), h.1, h.2, q⟩⟩
      · cases e
  · split at e
    · rename_i h
      cases e
      rw [Bool.and_eq_true] at h
      obtain ⟨a, vs, rfl, sa, ra, _⟩ := hw.tup
      obtain ⟨rx, fx⟩ := hv.flat h.1
      obtain ⟨h1, h2⟩ := any_eqV rx h.1 ra h.2
      refine ⟨_, rfl, fun Q q => .inl ⟨a, vs, rfl, .inr sa, fx, h1, ?_⟩⟩
      rw [h2]; exact q
    · cases e
  · cases e
theorem of_in : OpF K (rInA K) in? := by
  intro fz H v w x y z hv hw e Q q
  obtain ⟨b, rfl, h⟩ := in_both hv hw e
  exact h Q (Alc.same (.bl _) q)
theorem of_notIn : OpF K (rNotInA K) notIn? := by
  intro fz H v w x y z hv hw e Q q
  unfold notIn? notB? at e
  split at e
  · rename_i b h
    cases e
    obtain ⟨b', e', h⟩ := in_both hv hw h
    cases e'
    rcases h (fun u H' => u = .bl b ∧ H' = H) ⟨rfl, rfl⟩ with ⟨p, xs, h1, h2, h3, h4, h5⟩ | ⟨d, ds, h1, h2, h3, h4, h5⟩
    · refine .inl ⟨p, xs, h1, h2, h3, h4, ?_⟩
      have e5 : inV v xs = b := by have := h5.1; simp at this; exact this
      rw [if_pos rfl, e5]
      exact Alc.same (.bl _) q
    · refine .inr ⟨d, ds, h1, h2, h3, h4, ?_⟩
      have e5 : (ds.any fun z => PyData.eqv z d) = b := by have := h5.1; simp only [V.bl.injEq] at this; exact this
      rw [e5]
      exact Alc.same (.bl _) q
  · cases e
theorem RepA.atI {vs : List V} {ds : List PyData} {k : Int} {z : PyData} (r : RepA K fz H vs ds) (e : atI ds k = some z) : ∃ v, atI vs k = some v ∧ Rep K fz H v z := by
  unfold L2.atI at e ⊢
  rw [r.length]
  cases h : ixN ds.length k with
  | none => rw [h] at e; cases e
  | some j =>
    rw [h] at e
    exact r.get e
theorem of_item : OpF K (rIx K) item? := by
  intro fz H v w x y z hv hw e Q q
  unfold item? at e
  split at e
  · obtain ⟨a, vs, rfl, sa, ra⟩ := hv.lst
    obtain ⟨u, h, ru⟩ := ra.atI e
    rw [hw.int]
    exact .inl ⟨a, vs, _, u, rfl, rfl, SqL.of sa, h, Alc.same ru q⟩
  · obtain ⟨a, vs, rfl, sa, ra, _⟩ := hv.tup
    obtain ⟨u, h, ru⟩ := ra.atI e
    rw [hw.int]
    exact .inr (.inl ⟨a, vs, _, u, rfl, rfl, sa, h, Alc.same ru q⟩)
  · split at e
    · rename_i zz k h
      cases e1 : L2.atI zz.cps.toList k with
      | none => rw [e1] at e; cases e
      | some c =>
        rw [e1] at e
        cases e
        rw [hw.int, hv.str]
        exact .inr (.inr ⟨zz, k, c, rfl, rfl, lenOk_iff.mp h, e1, Alc.same (.str _) q⟩)
    · cases e
  · cases e
theorem RepA.cut {vs : List V} {ds : List PyData} (r : RepA K fz H vs ds) (lo hi : Option Int) : RepA K fz H (cutV vs lo hi) (cut ds lo hi) := by
  unfold cutV PL.cut
  rw [r.length]
  exact (r.drop _).take _
def rSl (K : PySem.W.Frag) : V → Option Int → Option Int → Hp → VK → Prop := fun x lo hi H Q => rSlL K x lo hi H Q ∨ rSlA K x lo hi H Q ∨ rSlS x lo hi H Q
theorem slr_any {X : Cx} : L2.SlR X (rSl X.K) := sl_list.or (sl_tupA.or sl_str)
theorem of_slice {v : V} {x z : PyData} {lo hi : Option Int} (hv : RepP K fz H v x) (e : slice? x lo hi = some z) (Q : VK) (q : ∀ u fz' H', Alc fz H fz' H' → ((∀ a, fz a → H a ≠ none) → Rep K fz' H' u z) → Q u H') : rSl K v lo hi H Q := by
  unfold slice? at e
  split at e
  · cases e
    obtain ⟨a, vs, rfl, sa, ra⟩ := hv.lst
    exact .inl ⟨a, vs, rfl, SqL.of sa, alc_lst (ra.cut lo hi) q⟩
  · cases e
    obtain ⟨a, vs, rfl, sa, ra, ra'⟩ := hv.tup
    refine .inr (.inl ⟨a, vs, rfl, sa, fun h => ?_, fun h => alc_tup (ra.cut lo hi) q⟩)
    rename_i ds
    have ec : PL.cut ds lo hi = ds := by
      unfold PL.cut
      rw [← ra.length, h.1, h.2, ra.length]
      simp
    rw [ec] at q
    exact Alc.same ra' q
  · split at e
    · rename_i h
      cases e
      rw [hv.str]
      exact .inr (.inr ⟨_, rfl, lenOk_iff.mp h, Alc.same (.str _) q⟩)
    · cases e
  · cases e
theorem RepP.tru {v : V} {x : PyData} {b : Bool} (h : RepP K fz H v x) (e : truth? x = some b) : TruV K v H b := by
  have emp : ∀ {vs : List V} {ds : List PyData}, RepA K fz H vs ds → (!vs.isEmpty) = !ds.isEmpty := fun r => by cases r <;> rfl
  have empK : ∀ {vs : List (Key × V)} {ds : List (PyData × PyData)}, RepK K fz H vs ds → (!vs.isEmpty) = !ds.isEmpty := fun r => by cases r <;> rfl
  cases x with
  | none => cases e; rw [h.non]; exact rfl
  | bool k => cases e; rw [h.bl]; exact rfl
  | int i => cases e; rw [h.int]; exact rfl
  | str y =>
    simp only [truth?] at e
    split at e
    · rename_i hl
      cases e
      rw [h.str]; exact ⟨lenOk_iff.mp hl, rfl⟩
    · cases e
  | list ds =>
    cases e
    obtain ⟨a, vs, rfl, sa, ra⟩ := h.lst
    exact .inl ⟨vs, SqL.of sa, (emp ra).symm⟩
  | tuple ds =>
    cases e
    obtain ⟨a, vs, rfl, sa, ra, _⟩ := h.tup
    exact .inr (.inl ⟨vs, sa, (emp ra).symm⟩)
  | dict ds =>
    cases e
    rcases h with h | ⟨a, rfl, _, kvs, z, r⟩
    · cases h with
      | dic h e r => exact .inr (.inr ⟨_, e, (empK r).symm⟩)
    · exact .inr (.inr ⟨kvs, z, (empK r).symm⟩)
end
end PL

/-! PL4: tests, displays, slices, calls of built-ins, what is walked, targets, comprehensions. -/
namespace PL
open PySem PySem.Spec L2
open PyProof.Rows hiding St

section
variable {c : Cw} {pp : List (Nat × Addr)} {pr fz : Addr → Prop} {σ : L2.St} {H : Hp} {ρ : Env}

/-! ### tests -/
def asB (m : M PyData) : M Bool := bnd m fun d => lft (asB? d)
def trB (m : M PyData) : M Bool := bnd m fun d => lft (truth? d)
def trBp (i : Nat) : M Bool := fun ρ => match peek i ρ with
  | some d => lft (truth? d) ρ
  | none => .bad
def mand (a b : M Bool) : M Bool := bnd a fun k => if k = true then b else fun ρ => .ok false ρ
def mor (a b : M Bool) : M Bool := bnd a fun k => if k = true then fun ρ => .ok true ρ else b
def mnot (a : M Bool) : M Bool := bnd a fun k ρ => .ok (!k) ρ
def mif {α : Type} (t : M Bool) (a b : M α) : M α := bnd t fun k => if k = true then a else b
def ofB (m : M Bool) : M PyData := bnd m fun b ρ => .ok (.bool b) ρ
theorem lftB_post {α β : Type} {R : RT α β} {Q : β → Hp → Prop} {o : Option α} (h : PostG c pp pr σ R fz H (lft o ρ) Q) : ∃ z, o = some z ∧ PostG c pp pr σ R fz H (.ok z ρ) Q := by
  cases o with
  | none => exact h.elim
  | some z => exact ⟨z, rfl, h⟩
theorem ok_post {α β : Type} {R : RT α β} {Q : β → Hp → Prop} {a : α} {b : β} (h : PostG c pp pr σ R fz H (.ok a ρ) Q) (R1 : Rel c.K pp pr fz σ H ρ) (r : R pr σ fz H ρ b a) : Q b H := h b fz H Fr.refl R1 r
theorem alc_post {α β : Type} {R : RT α β} {Q : β → Hp → Prop} {a : α} {b : β} {fz' : Addr → Prop} {H' : Hp} (h : PostG c pp pr σ R fz H (.ok a ρ) Q) (R1 : Rel c.K pp pr fz σ H ρ) (A : Alc fz H fz' H') (r : R pr σ fz' H' ρ b a) : Q b H' := h b fz' H' (A.fr R1) (A.rel R1) r
variable {te ta tb : TE} {t u : TT} {m ma mb : M PyData} {ka kb : M Bool}
theorem rf_tB (h : Rf c (RV c.K) te m) : Rf c RB (tB te) (asB m) := by
  intro pp pr fz σ H ρ Q hp R hq
  refine h pp pr fz σ H ρ _ hp R (hq.bnd fun v x fz1 H1 ρ1 F1 R1 r1 P1 => ?_)
  obtain ⟨z, e, P1⟩ := lftB_post P1
  cases x <;> first | (cases e; done) | skip
  cases e
  cases r1
  exact ⟨_, rfl, ok_post P1 R1 rfl⟩
theorem rf_tTest (h : Rf c (RV c.K) te m) : Rf c RB (tTest te) (asB m) := rf_tB h
theorem rf_tru (h : Rf c (RV c.K) te m) : Rf c RB (fun σ H Q => te σ H fun x H' => ∃ k, TruV c.K x H' k ∧ Q k H') (trB m) := by
  intro pp pr fz σ H ρ Q hp R hq
  refine h pp pr fz σ H ρ _ hp R (hq.bnd fun v x fz1 H1 ρ1 F1 R1 r1 P1 => ?_)
  obtain ⟨z, e, P1⟩ := lftB_post P1
  exact ⟨z, RepP.tru (.inl r1) e, ok_post P1 R1 rfl⟩
theorem rf_trup {i : Nat} : Rf c RB (fun σ H Q => tVar i σ H fun x H' => ∃ k, TruV c.K x H' k ∧ Q k H') (trBp i) := by
  intro pp pr fz σ H ρ Q hp R hq
  unfold trBp at hq
  cases e : peek i ρ with
  | none => rw [e] at hq; exact hq.elim
  | some d =>
    simp only [e] at hq
    obtain ⟨v, hv, rv⟩ := R.peek e
    obtain ⟨z, e2, P1⟩ := lftB_post hq
    exact ⟨v, hv, z, rv.tru e2, ok_post P1 R rfl⟩
theorem rf_and (h : Rf c RB t ka) (h2 : Rf c RB u kb) : Rf c RB (tAnd t u) (mand ka kb) := by
  intro pp pr fz σ H ρ Q hp R hq
  refine h pp pr fz σ H ρ _ hp R (hq.bnd fun v x fz1 H1 ρ1 F1 R1 r1 P1 => ?_)
  obtain rfl : v = x := r1
  cases v with
  | true => exact h2 pp pr fz1 σ H1 ρ1 Q hp R1 P1
  | false => exact ok_post P1 R1 rfl
theorem rf_or (h : Rf c RB t ka) (h2 : Rf c RB u kb) : Rf c RB (tOr t u) (mor ka kb) := by
  intro pp pr fz σ H ρ Q hp R hq
  refine h pp pr fz σ H ρ _ hp R (hq.bnd fun v x fz1 H1 ρ1 F1 R1 r1 P1 => ?_)
  obtain rfl : v = x := r1
  cases v with
  | false => exact h2 pp pr fz1 σ H1 ρ1 Q hp R1 P1
  | true => exact ok_post P1 R1 rfl
theorem rf_not (h : Rf c RB t ka) : Rf c RB (tNot t) (mnot ka) := by
  intro pp pr fz σ H ρ Q hp R hq
  refine h pp pr fz σ H ρ _ hp R (hq.bnd fun v x fz1 H1 ρ1 F1 R1 r1 P1 => ?_)
  obtain rfl : v = x := r1
  exact ok_post P1 R1 rfl
/-- and, or, not as values of bools -/
def mandV (a : M PyData) (b : M PyData) : M PyData := bnd (asB a) fun k => if k = true then b else fun ρ => .ok (.bool false) ρ
def morV (a : M PyData) (b : M PyData) : M PyData := bnd (asB a) fun k => if k = true then (fun ρ => .ok (.bool true) ρ) else b
def mnotV (a : M PyData) : M PyData := bnd (asB a) fun k ρ => .ok (.bool (!k)) ρ
theorem rf_andV (h : Rf c (RV c.K) ta ma) (h2 : Rf c (RV c.K) tb mb) : Rf c (RV c.K) (tAndV ta tb) (mandV ma mb) := by
  intro pp pr fz σ H ρ Q hp R hq
  refine rf_tB h pp pr fz σ H ρ (fun k H1 => if k = true then tb σ H1 Q else Q (.bl false) H1) hp R (hq.bnd fun v x fz1 H1 ρ1 F1 R1 r1 P1 => ?_)
  obtain rfl : v = x := r1
  cases v with
  | true => exact h2 pp pr fz1 σ H1 ρ1 Q hp R1 P1
  | false => exact ok_post P1 R1 (Rep.bl false)
theorem rf_orV (h : Rf c (RV c.K) ta ma) (h2 : Rf c (RV c.K) tb mb) : Rf c (RV c.K) (tOrV ta tb) (morV ma mb) := by
  intro pp pr fz σ H ρ Q hp R hq
  refine rf_tB h pp pr fz σ H ρ (fun k H1 => if k = true then Q (.bl true) H1 else tb σ H1 Q) hp R (hq.bnd fun v x fz1 H1 ρ1 F1 R1 r1 P1 => ?_)
  obtain rfl : v = x := r1
  cases v with
  | false => exact h2 pp pr fz1 σ H1 ρ1 Q hp R1 P1
  | true => exact ok_post P1 R1 (Rep.bl true)
theorem rf_notV (h : Rf c (RV c.K) ta ma) : Rf c (RV c.K) (tNotV ta) (mnotV ma) := by
  intro pp pr fz σ H ρ Q hp R hq
  refine rf_tB h pp pr fz σ H ρ (fun k H1 => Q (.bl (!k)) H1) hp R (hq.bnd fun v x fz1 H1 ρ1 F1 R1 r1 P1 => ?_)
  obtain rfl : v = x := r1
  exact ok_post P1 R1 (Rep.bl _)
theorem rf_ifE {R0 : RT PyData V} (h : Rf c RB t ka) (ha : Rf c R0 ta ma) (hb : Rf c R0 tb mb) : Rf c R0 (tIf t ta tb) (mif ka ma mb) := by
  intro pp pr fz σ H ρ Q hp R hq
  refine h pp pr fz σ H ρ _ hp R (hq.bnd fun v x fz1 H1 ρ1 F1 R1 r1 P1 => ?_)
  obtain rfl : v = x := r1
  cases v with
  | true => exact ha pp pr fz1 σ H1 ρ1 Q hp R1 P1
  | false => exact hb pp pr fz1 σ H1 ρ1 Q hp R1 P1
/-- -a -/
def mneg (m : M PyData) : M PyData := bnd m fun d => lft (neg? d)
theorem rf_neg (h : Rf c (RV c.K) te m) : Rf c (RV c.K) (tUn (rU fun i => .int (-i)) te) (mneg m) := by
  intro pp pr fz σ H ρ Q hp R hq
  refine h pp pr fz σ H ρ _ hp R (hq.bnd fun v x fz1 H1 ρ1 F1 R1 r1 P1 => ?_)
  obtain ⟨z, e, P1⟩ := lftB_post P1
  cases x <;> first | (cases e; done) | skip
  cases e
  cases r1
  exact ⟨_, rfl, ok_post P1 R1 (Rep.int _)⟩
/-- a op b op' d -/
def mchain (f g : PyData → PyData → Option PyData) (a b d : M PyData) : M PyData := bnd a fun x => bnd b fun y => bnd (lft (f x y)) fun z => bnd (lft (asB? z)) fun k =>
  if k = true then bnd d fun w => lft (g y w) else fun ρ => .ok (.bool false) ρ
theorem rf_chain {r r' : R2} {f g : PyData → PyData → Option PyData} {td : TE} {md : M PyData} (ho : OpF c.K r f) (ho' : OpF c.K r' g) (ha : Rf c (RV c.K) ta ma) (hb : Rf c (RV c.K) tb mb) (hd : Rf c (RV c.K) td md) :
    Rf c (RV c.K) (tChain r r' ta tb td) (mchain f g ma mb md) := by
  intro pp pr fz σ H ρ Q hp R hq
  refine ha pp pr fz σ H ρ _ hp R (hq.bnd fun v x fz1 H1 ρ1 F1 R1 r1 P1 => ?_)
  refine hb pp pr fz1 σ H1 ρ1 _ hp R1 (P1.bnd fun w y fz2 H2 ρ2 F2 R2 r2 P2 => ?_)
  unfold PL.bnd at P2
  cases e : f x y with
  | none => rw [e] at P2; exact P2.elim
  | some z =>
    rw [e] at P2
    simp only [lft] at P2
    refine ho fz2 H2 v w x y z (.inl (Rep.ext F2.ext r1)) (.inl r2) e _ fun u fz3 H3 A rz => ?_
    have P3 := P2.rest (A.fr R2)
    have R3 := A.rel R2
    have rz := rz R2.fzH
    cases z <;> first | (simp only [asB?] at P3; exact P3.elim) | skip
    rename_i k rz0
    have eu : u = .bl k := by cases rz; rfl
    subst eu
    refine ⟨k, rfl, ?_⟩
    cases k with
    | true =>
      rw [if_pos rfl]
      refine hd pp pr fz3 σ H3 ρ2 _ hp R3 (PostG.bnd (f := fun w => lft (g y w)) P3 fun q x4 fz4 H4 ρ4 F4 R4 r4 P4 => ?_)
      exact lft_post (t := fun Q => r' w q H4 Q) R4 P4 fun z e k => ho' fz4 H4 w q y x4 z (.inl (Rep.ext F4.ext (Rep.ext (A.fr R2).ext r2))) (.inl r4) e Q k
    | false =>
      rw [if_neg (by simp)]
      exact ok_post P3 R3 (Rep.bl false)

/-! ### argument lists, displays -/
def anil : M (List PyData) := fun ρ => .ok [] ρ
def acons (a : M PyData) (r : M (List PyData)) : M (List PyData) := bnd a fun x => bnd r fun xs ρ => .ok (x :: xs) ρ
theorem rf_nil : Rf c (RVs c.K) tNil anil := fun pp pr fz σ H ρ Q hp R hq => ok_post hq R .nil
theorem rf_cons {tr : TA} {mr : M (List PyData)} (ha : Rf c (RV c.K) ta ma) (hr : Rf c (RVs c.K) tr mr) : Rf c (RVs c.K) (tCons ta tr) (acons ma mr) := by
  intro pp pr fz σ H ρ Q hp R hq
  refine ha pp pr fz σ H ρ _ hp R (hq.bnd fun v x fz1 H1 ρ1 F1 R1 r1 P1 => ?_)
  refine hr pp pr fz1 σ H1 ρ1 _ hp R1 (P1.bnd fun w y fz2 H2 ρ2 F2 R2 r2 P2 => ?_)
  exact ok_post P2 R2 (.cons (Rep.ext F2.ext r1) r2)
def mtup (a : M (List PyData)) : M PyData := bnd a fun ds ρ => if lenOk ds.length = true then .ok (.tuple ds) ρ else .bad
def mlst (a : M (List PyData)) : M PyData := bnd a fun ds ρ => if lenOk ds.length = true then .ok (.list ds) ρ else .bad
variable {tas : TA} {mas : M (List PyData)}
theorem rf_tup (ha : Rf c (RVs c.K) tas mas) : Rf c (RV c.K) (tTup tas) (mtup mas) := by
  intro pp pr fz σ H ρ Q hp R hq
  refine ha pp pr fz σ H ρ _ hp R (hq.bnd fun v x fz1 H1 ρ1 F1 R1 r1 P1 => ?_)
  by_cases h : lenOk x.length = true
  · rw [if_pos h] at P1
    refine ⟨by rw [RepA.length r1]; exact lenOk_iff.mp h, alc_tup r1 fun u fz' H' A r => alc_post P1 R1 A (r R1.fzH)⟩
  · rw [if_neg h] at P1; exact P1.elim
/-- a new object that no slot holds -/
theorem ro_new {Q : VK} {p : Addr} {H' : Hp} {z : PyData} (R : Rel c.K pp pr fz σ H ρ) (hp : H p = none) (hk : ∀ a, a ≠ p → H' a = H a) (oc : OwnC c.K fz H' p z) (h : PostG c pp pr σ (RO c.K) fz H (.ok z ρ) Q) : Q (.ref p) H' := by
  have A : Alc fz H fz H' := ⟨fun a e => hk a fun z => e (z ▸ hp), fun _ h => h, fun _ h => .inl h, fun _ h => .inl h⟩
  refine alc_post h R A ⟨p, rfl, fun z => R.fzH p z hp, fun z => R.prH p z hp, fun i x e s => ?_, oc⟩
  obtain ⟨a, s', _, _, o⟩ := R.own_ne e
  rw [s] at s'
  cases s'
  exact o.some hp
theorem rf_lst (ha : Rf c (RVs c.K) tas mas) : Rf c (RO c.K) (tLst tas) (mlst mas) := by
  intro pp pr fz σ H ρ Q hp R hq
  refine ha pp pr fz σ H ρ _ hp R (hq.bnd fun v x fz1 H1 ρ1 F1 R1 r1 P1 => ?_)
  by_cases h : lenOk x.length = true
  · rw [if_pos h] at P1
    refine ⟨by rw [RepA.length r1]; exact lenOk_iff.mp h, fun p hp' => ro_new (z := .list x) R1 hp' (fun a n => upd_ne n) ⟨v, upd_same, RepA.ext ⟨fun _ z => z, fun a z => upd_ne fun q => R1.fzH a z (by rw [q]; exact hp')⟩ r1⟩ P1⟩
  · rw [if_neg h] at P1; exact P1.elim

/-! ### slices -/
def RI : RT (Option Int) (Option Int) := fun _ _ _ _ _ a b => a = b
def mpn : M (Option Int) := fun ρ => .ok none ρ
def asI? : PyData → Option Int
  | .int i => some i
  | _ => none
def mps (m : M PyData) : M (Option Int) := bnd m fun d => lft ((asI? d).map some)
theorem rf_pn : Rf c RI tNoPart mpn := fun pp pr fz σ H ρ Q hp R hq => ok_post hq R rfl
theorem rf_ps (h : Rf c (RV c.K) te m) : Rf c RI (tPart te) (mps m) := by
  intro pp pr fz σ H ρ Q hp R hq
  refine h pp pr fz σ H ρ _ hp R (hq.bnd fun v x fz1 H1 ρ1 F1 R1 r1 P1 => ?_)
  obtain ⟨z, e, P1⟩ := lftB_post P1
  cases x <;> first | (cases e; done) | skip
  cases e
  cases r1
  exact ⟨_, rfl, ok_post P1 R1 rfl⟩
def msl (m : M PyData) (lo hi : M (Option Int)) : M PyData := bnd m fun x => bnd lo fun l => bnd hi fun u => lft (slice? x l u)
def mslp (i : Nat) (lo hi : M (Option Int)) : M PyData := fun ρ => match peek i ρ with
  | none => .bad
  | some _ => bnd lo (fun l => bnd hi fun u ρ' => match peek i ρ' with
    | some x => lft (slice? x l u) ρ'
    | none => .bad) ρ
theorem rf_sl {tl th : TO} {ml mh : M (Option Int)} (h : Rf c (RV c.K) te m) (hl : Rf c RI tl ml) (hh : Rf c RI th mh) : Rf c (RV c.K) (tSl (rSl c.K) te tl th) (msl m ml mh) := by
  intro pp pr fz σ H ρ Q hp R hq
  refine h pp pr fz σ H ρ _ hp R (hq.bnd fun v x fz1 H1 ρ1 F1 R1 r1 P1 => ?_)
  refine hl pp pr fz1 σ H1 ρ1 _ hp R1 (P1.bnd fun l l' fz2 H2 ρ2 F2 R2 r2 P2 => ?_)
  obtain rfl : l = l' := r2
  refine hh pp pr fz2 σ H2 ρ2 _ hp R2 (P2.bnd fun u u' fz3 H3 ρ3 F3 R3 r3 P3 => ?_)
  obtain rfl : u = u' := r3
  obtain ⟨z, e, P4⟩ := lftB_post P3
  exact of_slice (.inl (Rep.ext (F2.trans F3).ext r1)) e Q fun u fz' H' A r => alc_post P4 R3 A (r R3.fzH)
theorem rf_slp {i : Nat} {tl th : TO} {ml mh : M (Option Int)} (hl : Rf c RI tl ml) (hh : Rf c RI th mh) : Rf c (RV c.K) (tSl (rSl c.K) (tVar i) tl th) (mslp i ml mh) := by
  intro pp pr fz σ H ρ Q hp R hq
  unfold mslp at hq
  cases e : peek i ρ with
  | none => rw [e] at hq; exact hq.elim
  | some x0 =>
    simp only [e] at hq
    obtain ⟨v, hv, _⟩ := R.peek e
    refine ⟨v, hv, ?_⟩
    refine hl pp pr fz σ H ρ _ hp R (hq.bnd fun l l' fz2 H2 ρ2 F2 R2 r2 P2 => ?_)
    obtain rfl : l = l' := r2
    refine hh pp pr fz2 σ H2 ρ2 _ hp R2 (P2.bnd fun u u' fz3 H3 ρ3 F3 R3 r3 P3 => ?_)
    obtain rfl : u = u' := r3
    cases e1 : peek i ρ3 with
    | none => simp only [e1] at P3; exact P3.elim
    | some x =>
      simp only [e1] at P3
      obtain ⟨v', hv', rv⟩ := R3.peek e1
      rw [hv] at hv'
      cases hv'
      obtain ⟨z, e, P4⟩ := lftB_post P3
      exact of_slice rv e Q fun u fz' H' A r => alc_post P4 R3 A (r R3.fzH)

/-! ### built-ins by values -/
abbrev RL := List V → Hp → VK → Prop
def C1 (K : PySem.W.Frag) (r : RL) (f : PyData → Option PyData) : Prop :=
  ∀ (fz : Addr → Prop) (H : Hp) (v : V) (x z : PyData), RepP K fz H v x → f x = some z → ∀ Q : VK, (∀ u fz' H', Alc fz H fz' H' → ((∀ a, fz a → H a ≠ none) → Rep K fz' H' u z) → Q u H') → r [v] H Q
def C2 (K : PySem.W.Frag) (r : RL) (f : PyData → PyData → Option PyData) : Prop :=
  ∀ (fz : Addr → Prop) (H : Hp) (v w : V) (x y z : PyData), Rep K fz H v x → Rep K fz H w y → f x y = some z → ∀ Q : VK, (∀ u fz' H', Alc fz H fz' H' → ((∀ a, fz a → H a ≠ none) → Rep K fz' H' u z) → Q u H') → r [v, w] H Q
def CO (K : PySem.W.Frag) (r : RL) (f : PyData → Option PyData) : Prop :=
  ∀ (fz : Addr → Prop) (H : Hp) (v : V) (x z : PyData), RepP K fz H v x → f x = some z → (∀ a, fz a → H a ≠ none) → ∀ Q : VK, (∀ p H', H p = none → (∀ a, a ≠ p → H' a = H a) → OwnC K fz H' p z → Q (.ref p) H') → r [v] H Q
def mc1 (f : PyData → Option PyData) (m : M PyData) : M PyData := bnd m fun x => lft (f x)
def mc1p (f : PyData → Option PyData) (i : Nat) : M PyData := fun ρ => match peek i ρ with
  | some x => lft (f x) ρ
  | none => .bad
theorem rf_c1 {r : RL} {f : PyData → Option PyData} (ho : C1 c.K r f) (h : Rf c (RV c.K) te m) : Rf c (RV c.K) (tCB r (tCons te tNil)) (mc1 f m) := by
  intro pp pr fz σ H ρ Q hp R hq
  refine h pp pr fz σ H ρ _ hp R (hq.bnd fun v x fz1 H1 ρ1 F1 R1 r1 P1 => ?_)
  obtain ⟨z, e, P1⟩ := lftB_post P1
  exact ho fz1 H1 v x z (.inl r1) e Q fun u fz' H' A r => alc_post P1 R1 A (r R1.fzH)
theorem rf_c1p {i : Nat} {r : RL} {f : PyData → Option PyData} (ho : C1 c.K r f) : Rf c (RV c.K) (tCB r (tCons (tVar i) tNil)) (mc1p f i) := by
  intro pp pr fz σ H ρ Q hp R hq
  unfold mc1p at hq
  cases e : peek i ρ with
  | none => rw [e] at hq; exact hq.elim
  | some x =>
    simp only [e] at hq
    obtain ⟨v, hv, rv⟩ := R.peek e
    obtain ⟨z, e1, P1⟩ := lftB_post hq
    exact ⟨v, hv, ho fz H v x z rv e1 Q fun u fz' H' A r => alc_post P1 R A (r R.fzH)⟩
theorem rf_c2 {r : RL} {f : PyData → PyData → Option PyData} (ho : C2 c.K r f) (h : Rf c (RV c.K) ta ma) (h2 : Rf c (RV c.K) tb mb) : Rf c (RV c.K) (tCB r (tCons ta (tCons tb tNil))) (op2 f ma mb) := by
  intro pp pr fz σ H ρ Q hp R hq
  refine h pp pr fz σ H ρ _ hp R (hq.bnd fun v x fz1 H1 ρ1 F1 R1 r1 P1 => ?_)
  refine h2 pp pr fz1 σ H1 ρ1 _ hp R1 (P1.bnd fun w y fz2 H2 ρ2 F2 R2 r2 P2 => ?_)
  obtain ⟨z, e, P3⟩ := lftB_post P2
  exact ho fz2 H2 v w x y z (Rep.ext F2.ext r1) r2 e Q fun u fz' H' A r => alc_post P3 R2 A (r R2.fzH)
theorem rf_co {r : RL} {f : PyData → Option PyData} (ho : CO c.K r f) (h : Rf c (RV c.K) te m) : Rf c (RO c.K) (tCB r (tCons te tNil)) (mc1 f m) := by
  intro pp pr fz σ H ρ Q hp R hq
  refine h pp pr fz σ H ρ _ hp R (hq.bnd fun v x fz1 H1 ρ1 F1 R1 r1 P1 => ?_)
  obtain ⟨z, e, P1⟩ := lftB_post P1
  exact ho fz1 H1 v x z (.inl r1) e R1.fzH Q fun p H' hp hk oc => ro_new R1 hp hk oc P1
theorem rf_cop {i : Nat} {r : RL} {f : PyData → Option PyData} (ho : CO c.K r f) : Rf c (RO c.K) (tCB r (tCons (tVar i) tNil)) (mc1p f i) := by
  intro pp pr fz σ H ρ Q hp R hq
  unfold mc1p at hq
  cases e : peek i ρ with
  | none => rw [e] at hq; exact hq.elim
  | some x =>
    simp only [e] at hq
    obtain ⟨v, hv, rv⟩ := R.peek e
    obtain ⟨z, e1, P1⟩ := lftB_post hq
    exact ⟨v, hv, ho fz H v x z rv e1 R.fzH Q fun p H' hp hk oc => ro_new R hp hk oc P1⟩
end
end PL

/-! PLz: zip of a tuple and a list (after the layer's own proof for two tuples, each side a tuple or a list). -/
namespace PL
open PySem PySem.Spec L2
open PySem.Sem (wp)
open PyProof.Rows hiding St

def IsIt : Bool → Heap → Addr → Addr → Nat → Prop
  | true, h, a, t, i => h.IsTupleIter a t i
  | false, h, a, t, i => h.IsListIter a t i
def IsSq : Bool → Heap → Addr → Array Value → Prop
  | true, h, a, xs => h.IsTuple a xs
  | false, h, a, xs => h.IsList a xs
theorem IsIt.extBut {u : Bool} {h h' : Heap} {a b t : Addr} {i : Nat} (x : IsIt u h a t i) (hs : Heap.ExtBut b h h') (n : a ≠ b) : IsIt u h' a t i := by
  cases u
  · exact Heap.IsListIter.extBut x hs n
  · exact Heap.IsTupleIter.extBut x hs n
theorem IsIt.at {u : Bool} {h h' : Heap} {a t : Addr} {i : Nat} (x : IsIt u h a t i) (e : ∀ o, h.get? a = some o → h'.get? a = some o) : IsIt u h' a t i := by
  cases u
  · exact Heap.IsListIter.at x e
  · exact Heap.IsTupleIter.at x e
theorem IsSq.extBut {u : Bool} {h h' : Heap} {a b : Addr} {xs : Array Value} (x : IsSq u h a xs) (hs : Heap.ExtBut b h h') (n : a ≠ b) : IsSq u h' a xs := by
  cases u
  · exact Heap.IsList.extBut x hs n
  · exact Heap.IsTuple.extBut x hs n
def itN (u : Bool) : String := match u with
  | true => "tuple_iterator"
  | false => "list_iterator"
theorem IsIt.obj {u : Bool} {h : Heap} {a t : Addr} {i : Nat} (x : IsIt u h a t i) : ∃ o, h.get? a = some o ∧ o.cls = .type (itN u) ∧ o.data = .fields #[.ref t, .int i 0] := by
  cases u <;> exact x
theorem IsIt.mk {u : Bool} {h : Heap} {a t : Addr} {i : Nat} {o : Obj} (e : h.get? a = some o) (c : o.cls = .type (itN u)) (d : o.data = .fields #[.ref t, .int i 0]) : IsIt u h a t i := by
  cases u <;> exact ⟨o, e, c, d⟩
section
variable {prog : Program} {w : World} {A : Around} {E : Value → Shared → Prop} {s : Shared} {u v : Bool}
theorem nextItem {it l : Addr} {i : Nat} {items : Array Value} {x : Value} {Q : Value → Shared → Prop} (hit : IsIt u s.heap it l i) (hl : IsSq u s.heap l items) (hx : items[i]? = some x)
    (k : ∀ h', IsIt u h' it l (i + 1) → Heap.SameBut it s.heap h' → Q x { s with heap := h' }) : wpAny (model prog w) A (Builtin.SmallTypes.nextOf (.ref it)) Q E s := by
  cases u
  · exact wpAny_nextOf_list_item hit hl hx k
  · exact RZ.nextOf_tuple_item hit hl hx k
theorem nextEnd {it l : Addr} {i : Nat} {items : Array Value} {Q : Value → Shared → Prop} (hh : A.handled = none) (hit : IsIt u s.heap it l i) (hl : IsSq u s.heap l items) (hx : items[i]? = none)
    (k : ∀ h' e, Heap.ExtBut it s.heap h' → (∃ o, h'.get? e = some o ∧ o.cls = .type "StopIteration") → E (.ref e) { s with heap := h' }) : wpAny (model prog w) A (Builtin.SmallTypes.nextOf (.ref it)) Q E s := by
  cases u
  · exact wpAny_nextOf_list_end hh hit hl hx k
  · exact RZ.nextOf_tuple_end hh hit hl hx k

theorem zipZ_item {z TI TO i1 i2 l1 l2 : Addr} {k1 k2 : Nat} {xs ys : Array Value} {x y a b : Value} {Q : Value → Shared → Prop} (D : ZipApart z TI TO i1 i2 l1 l2)
    (cz : IsZip s.heap z TI TO .none) (cI : IsPair s.heap TI (.ref i1) (.ref i2)) (cO : IsPair s.heap TO a b)
    (a1 : IsIt u s.heap i1 l1 k1) (a2 : IsIt v s.heap i2 l2 k2) (m1 : IsSq u s.heap l1 xs) (m2 : IsSq v s.heap l2 ys) (ex : xs[k1]? = some x) (ey : ys[k2]? = some y)
    (kQ : ∀ hh', IsZip hh' z TI TO (rawInt s.heap.objs.size) → IsPair hh' TO x y → IsIt u hh' i1 l1 (k1 + 1) → IsIt v hh' i2 l2 (k2 + 1) → IsPair hh' s.heap.objs.size x y → hh'.objs.size = s.heap.objs.size + 1 →
      (∀ c o, c ≠ z → c ≠ TO → c ≠ i1 → c ≠ i2 → s.heap.get? c = some o → hh'.get? c = some o) → Q (.ref s.heap.objs.size) { s with heap := hh' }) :
    wpAny (model prog w) A (Builtin.«zip.__next__» ⟨[.ref z], []⟩) (fun fin s' => ∃ v, fin = .done (.ret v) ∧ Q v s') E s := by
  show wpAny _ _ (field (.ref z) 2 >>= _) _ _ _
  refine wpAny_bind (wpAny_field cz rfl (x := .bool false) rfl ?_)
  show wpAny _ _ (field (.ref z) 3 >>= _) _ _ _
  refine wpAny_bind (wpAny_field cz rfl (x := .ref TI) rfl ?_)
  refine wpAny_bind (wpAny_seqItems cI rfl ?_)
  show wpAny _ _ (Builtin.SmallTypes.ownedTupleIsFree (.ref z) >>= _) _ _ _
  refine wpAny_bind ?_
  unfold Builtin.SmallTypes.ownedTupleIsFree
  refine wpAny_bind (wpAny_field cz rfl (x := .none) rfl (wpAny_pure ?_))
  simp only [if_true]
  refine wpAny_bind (wpAny_rule ?_)
  refine wpAny_bind (wpAny_field cz rfl (x := .ref TO) rfl ?_)
  refine wpAny_bind (wpAny_setField_rec cz (by simp) fun w1 cz1 q1 => ?_)
  replace cz1 : IsZip w1 z TI TO .ellipsis := cz1
  refine wpAny_bind ?_
  simp only [List.zipIdx_cons, List.zipIdx_nil, List.forIn_cons, List.forIn_nil]

  refine wpAny_bind (wpAny_bind (wpAny_onRaise ?_))
  show wpAny _ _ (Builtin.SmallTypes.nextOf (.ref i1) >>= _) _ _ _
  refine wpAny_bind (nextItem (a1.extBut q1.extBut D.i1z) (m1.extBut q1.extBut D.l1z) ex fun w2 a12 q2 => wpAny_pure ?_)
  have cO2 : IsPair w2 TO a b := q2.extBut _ _ D.TOi1 (q1.extBut _ _ D.TOz cO)
  refine wpAny_bind (wpAny_seqItems cO2 rfl ?_)
  refine wpAny_bind (wpAny_updateSeq_pair cO2 fun w3 cO3 q3 => ?_)
  replace cO3 : IsPair w3 TO x b := cO3
  refine wpAny_bind (wpAny_letGo (wpAny_pure ?_))

  refine wpAny_bind (wpAny_bind (wpAny_onRaise ?_))
  show wpAny _ _ (Builtin.SmallTypes.nextOf (.ref i2) >>= _) _ _ _
  refine wpAny_bind (nextItem (((a2.extBut q1.extBut D.i2z).extBut q2.extBut D.i12.symm).extBut q3.extBut D.TOi2.symm)
    (((m2.extBut q1.extBut D.l2z).extBut q2.extBut D.l2i1).extBut q3.extBut D.l2TO) ey fun w4 a24 q4 => wpAny_pure ?_)
  have cO4 : IsPair w4 TO x b := q4.extBut _ _ D.TOi2 cO3
  refine wpAny_bind (wpAny_seqItems cO4 rfl ?_)
  refine wpAny_bind (wpAny_updateSeq_pair cO4 fun w5 cO5 q5 => ?_)
  replace cO5 : IsPair w5 TO x y := cO5
  refine wpAny_bind (wpAny_letGo (wpAny_pure (wpAny_pure ?_)))

  refine wpAny_bind (wpAny_seqItems cO5 rfl ?_)
  refine wpAny_bind (wpAny_newTuple ?_)
  have csz : w5.objs.size = s.heap.objs.size := by rw [q5.1, q4.1, q3.1, q2.1, q1.1]
  have cz5 : IsZip w5 z TI TO .ellipsis := q5.extBut _ _ D.TOz.symm (q4.extBut _ _ D.i2z.symm (q3.extBut _ _ D.TOz.symm (q2.extBut _ _ D.i1z.symm cz1)))
  have ck5 : ∀ c o, c ≠ z → c ≠ TO → c ≠ i1 → c ≠ i2 → s.heap.get? c = some o → w5.get? c = some o := fun c o c1 c2 c3 c4 e =>
    q5.extBut _ _ c2 (q4.extBut _ _ c4 (q3.extBut _ _ c2 (q2.extBut _ _ c3 (q1.extBut _ _ c1 e))))
  have a15 : IsIt u w5 i1 l1 (k1 + 1) := ((a12.extBut q3.extBut D.TOi1.symm).extBut q4.extBut D.i12).extBut q5.extBut D.TOi1.symm
  have a25 : IsIt v w5 i2 l2 (k2 + 1) := a24.extBut q5.extBut D.TOi2.symm
  have ltz : z < w5.objs.size := Heap.lt_size cz5
  have ltO : TO < w5.objs.size := Heap.lt_size cO5
  have lt1 : i1 < w5.objs.size := by obtain ⟨_, e, _⟩ := a15.obj; exact Heap.lt_size e
  have lt2 : i2 < w5.objs.size := by obtain ⟨_, e, _⟩ := a25.obj; exact Heap.lt_size e
  show wpAny _ _ (Builtin.SmallTypes.ownedTupleHandOut (.ref z) (.ref w5.objs.size) >>= _) _ _ _
  refine wpAny_bind ?_
  unfold Builtin.SmallTypes.ownedTupleHandOut
  have cz6 : IsZip (w5.push { cls := .type "tuple", data := .seq #[x, y] }) z TI TO .ellipsis := Heap.get?_push_of_some _ cz5
  refine wpAny_bind (wpAny_setField_rec cz6 (by simp) fun w7 cz7 q7 => ?_)
  replace cz7 : IsZip w7 z TI TO (rawInt w5.objs.size) := cz7
  refine wpAny_setField_rec cz7 (by simp) fun w8 cz8 q8 => ?_
  replace cz8 : IsZip w8 z TI TO (rawInt w5.objs.size) := cz8
  have up : ∀ c o, c ≠ z → w5.get? c = some o → w8.get? c = some o := fun c o c1 e => q8.extBut _ _ c1 (q7.extBut _ _ c1 (Heap.get?_push_of_some _ e))
  have cT8 : IsPair w8 w5.objs.size x y := q8.extBut _ _ (Nat.ne_of_gt ltz) (q7.extBut _ _ (Nat.ne_of_gt ltz) (Heap.get?_push_size _ rfl))
  have cs8 : w8.objs.size = w5.objs.size + 1 := by rw [q8.1, q7.1, Heap.size_push]
  rw [csz] at cz8 cT8 cs8
  refine wpAny_pure ⟨_, rfl, ?_⟩
  show Q (.ref w5.objs.size) _
  rw [csz]
  exact kQ w8 cz8 (up _ _ D.TOz cO5) (a15.at fun o e => up _ o D.i1z e) (a25.at fun o e => up _ o D.i2z e) cT8 cs8 fun c o c1 c2 c3 c4 e => up c o c1 (ck5 c o c1 c2 c3 c4 e)

theorem zipZ_end {z TI TO i1 i2 l1 l2 : Addr} {k1 k2 : Nat} {xs ys : Array Value} {a b : Value} {Q : Fin → Shared → Prop} (nh : A.handled = none) (D : ZipApart z TI TO i1 i2 l1 l2)
    (cz : IsZip s.heap z TI TO .none) (cI : IsPair s.heap TI (.ref i1) (.ref i2)) (cO : IsPair s.heap TO a b)
    (a1 : IsIt u s.heap i1 l1 k1) (a2 : IsIt v s.heap i2 l2 k2) (m1 : IsSq u s.heap l1 xs) (m2 : IsSq v s.heap l2 ys) (fin : xs[k1]? = none ∨ ys[k2]? = none)
    (kE : ∀ hh' e, (∀ c o, c ≠ z → c ≠ TO → c ≠ i1 → c ≠ i2 → s.heap.get? c = some o → hh'.get? c = some o) → (∃ o, hh'.get? e = some o ∧ o.cls = .type "StopIteration") → E (.ref e) { s with heap := hh' }) :
    wpAny (model prog w) A (Builtin.«zip.__next__» ⟨[.ref z], []⟩) Q E s := by
  show wpAny _ _ (field (.ref z) 2 >>= _) _ _ _
  refine wpAny_bind (wpAny_field cz rfl (x := .bool false) rfl ?_)
  show wpAny _ _ (field (.ref z) 3 >>= _) _ _ _
  refine wpAny_bind (wpAny_field cz rfl (x := .ref TI) rfl ?_)
  refine wpAny_bind (wpAny_seqItems cI rfl ?_)
  show wpAny _ _ (Builtin.SmallTypes.ownedTupleIsFree (.ref z) >>= _) _ _ _
  refine wpAny_bind ?_
  unfold Builtin.SmallTypes.ownedTupleIsFree
  refine wpAny_bind (wpAny_field cz rfl (x := .none) rfl (wpAny_pure ?_))
  simp only [if_true]
  refine wpAny_bind (wpAny_rule ?_)
  refine wpAny_bind (wpAny_field cz rfl (x := .ref TO) rfl ?_)
  refine wpAny_bind (wpAny_setField_rec cz (by simp) fun w1 cz1 q1 => ?_)
  replace cz1 : IsZip w1 z TI TO .ellipsis := cz1
  refine wpAny_bind ?_
  simp only [List.zipIdx_cons, List.zipIdx_nil, List.forIn_cons, List.forIn_nil]
  refine wpAny_bind (wpAny_bind (wpAny_onRaise ?_))
  show wpAny _ _ (Builtin.SmallTypes.nextOf (.ref i1) >>= _) _ _ _
  cases ex : xs[k1]? with
  | none =>
    refine wpAny_bind (nextEnd nh (a1.extBut q1.extBut D.i1z) (m1.extBut q1.extBut D.l1z) ex fun w2 e q2 ge => ?_)
    obtain ⟨ob, goe, gce⟩ := ge
    have cz2 : IsZip w2 z TI TO .ellipsis := q2 _ _ D.i1z.symm cz1
    have nez : e ≠ z := fun x => by subst x; rw [cz2] at goe; cases goe; simp at gce
    refine wpAny_setField_rec cz2 (by simp) fun w3 _ q3 => kE w3 e (fun c o c1 _ c3 _ x => q3.extBut _ _ c1 (q2 _ _ c3 (q1.extBut _ _ c1 x))) ⟨ob, q3.extBut _ _ nez goe, gce⟩
  | some x =>
    have ey : ys[k2]? = none := by rcases fin with kk | kk; rw [ex] at kk; cases kk; exact kk
    refine wpAny_bind (nextItem (a1.extBut q1.extBut D.i1z) (m1.extBut q1.extBut D.l1z) ex fun w2 a12 q2 => wpAny_pure ?_)
    have cO2 : IsPair w2 TO a b := q2.extBut _ _ D.TOi1 (q1.extBut _ _ D.TOz cO)
    refine wpAny_bind (wpAny_seqItems cO2 rfl ?_)
    refine wpAny_bind (wpAny_updateSeq_pair cO2 fun w3 cO3 q3 => ?_)
    refine wpAny_bind (wpAny_letGo (wpAny_pure ?_))
    refine wpAny_bind (wpAny_bind (wpAny_onRaise ?_))
    show wpAny _ _ (Builtin.SmallTypes.nextOf (.ref i2) >>= _) _ _ _
    refine wpAny_bind (nextEnd nh (((a2.extBut q1.extBut D.i2z).extBut q2.extBut D.i12.symm).extBut q3.extBut D.TOi2.symm)
      (((m2.extBut q1.extBut D.l2z).extBut q2.extBut D.l2i1).extBut q3.extBut D.l2TO) ey fun w4 e q4 ge => ?_)
    obtain ⟨ob, goe, gce⟩ := ge
    have cz4 : IsZip w4 z TI TO .ellipsis := q4 _ _ D.i2z.symm (q3.extBut _ _ D.TOz.symm (q2.extBut _ _ D.i1z.symm cz1))
    have nez : e ≠ z := fun x => by subst x; rw [cz4] at goe; cases goe; simp at gce
    refine wpAny_setField_rec cz4 (by simp) fun w5 _ q5 => kE w5 e (fun c o c1 c2 c3 c4 x => q5.extBut _ _ c1 (q4 _ _ c4 (q3.extBut _ _ c2 (q2.extBut _ _ c3 (q1.extBut _ _ c1 x))))) ⟨ob, q5.extBut _ _ nez goe, gce⟩

theorem nextZ_item {z TI TO i1 i2 l1 l2 : Addr} {k1 k2 : Nat} {xs ys : Array Value} {x y a b : Value} {Q : Option Value → Shared → Prop} (D : ZipApart z TI TO i1 i2 l1 l2)
    (cz : IsZip s.heap z TI TO .none) (cI : IsPair s.heap TI (.ref i1) (.ref i2)) (cO : IsPair s.heap TO a b)
    (a1 : IsIt u s.heap i1 l1 k1) (a2 : IsIt v s.heap i2 l2 k2) (m1 : IsSq u s.heap l1 xs) (m2 : IsSq v s.heap l2 ys) (ex : xs[k1]? = some x) (ey : ys[k2]? = some y)
    (kQ : ∀ hh', IsZip hh' z TI TO (rawInt s.heap.objs.size) → IsPair hh' TO x y → IsIt u hh' i1 l1 (k1 + 1) → IsIt v hh' i2 l2 (k2 + 1) → IsPair hh' s.heap.objs.size x y → hh'.objs.size = s.heap.objs.size + 1 →
      (∀ c o, c ≠ z → c ≠ TO → c ≠ i1 → c ≠ i2 → s.heap.get? c = some o → hh'.get? c = some o) → Q (some (.ref s.heap.objs.size)) { s with heap := hh' }) :
    wpAny (model prog w) A (pyNext (.ref z)) Q E s := by
  have gT : s.TypeIs (.ref z) "zip" := ⟨_, cz, rfl⟩
  unfold pyNext
  exact wpAny_bind (wpAny_attempt (wpAny_callSpecial?_slot (name := Str.ofString "__next__") gT F.slot_zip_next
    (wpAny_call_entry F.slot_zip_next gT F.entry_zip_next
      (zipZ_item D cz cI cO a1 a2 m1 m2 ex ey fun hh' a1 a2 a3 a4 a5 a6 a7 => wpAny_pure (kQ hh' a1 a2 a3 a4 a5 a6 a7)) (F.args_zip_next_1 _))))

theorem nextZ_end {z TI TO i1 i2 l1 l2 : Addr} {k1 k2 : Nat} {xs ys : Array Value} {a b : Value} {Q : Option Value → Shared → Prop} (nh : A.handled = none) (D : ZipApart z TI TO i1 i2 l1 l2)
    (cz : IsZip s.heap z TI TO .none) (cI : IsPair s.heap TI (.ref i1) (.ref i2)) (cO : IsPair s.heap TO a b)
    (a1 : IsIt u s.heap i1 l1 k1) (a2 : IsIt v s.heap i2 l2 k2) (m1 : IsSq u s.heap l1 xs) (m2 : IsSq v s.heap l2 ys) (fin : xs[k1]? = none ∨ ys[k2]? = none)
    (kQ : ∀ hh', (∀ c o, c ≠ z → c ≠ TO → c ≠ i1 → c ≠ i2 → s.heap.get? c = some o → hh'.get? c = some o) → Q none { s with heap := hh' }) : wpAny (model prog w) A (pyNext (.ref z)) Q E s := by
  have gT : s.TypeIs (.ref z) "zip" := ⟨_, cz, rfl⟩
  unfold pyNext
  refine wpAny_bind (wpAny_attempt (wpAny_callSpecial?_slot (name := Str.ofString "__next__") gT F.slot_zip_next
    (wpAny_call_entry F.slot_zip_next gT F.entry_zip_next (zipZ_end nh D cz cI cO a1 a2 m1 m2 fin fun hh' e gk ge => ?_) (F.args_zip_next_1 _))))
  obtain ⟨o, go, gc⟩ := ge
  refine wpAny_bind (wpAny_isInstance (T := "StopIteration") (b := true) ⟨o, go, gc⟩ isSubtype_stop ?_)
  exact wpAny_pure (kQ _ gk)
end

abbrev zH1 (u : Bool) (kk : Heap) (l1 : Addr) : Heap := kk.push { cls := .type (itN u), data := .fields #[.ref l1, .int 0 0] }
abbrev zH2 (u v : Bool) (kk : Heap) (l1 l2 : Addr) : Heap := (zH1 u kk l1).push { cls := .type (itN v), data := .fields #[.ref l2, .int 0 0] }
abbrev zH3 (u v : Bool) (kk : Heap) (l1 l2 : Addr) : Heap := (zH2 u v kk l1 l2).push { cls := .type "tuple", data := .seq #[.ref kk.objs.size, .ref (zH1 u kk l1).objs.size] }
abbrev zH4 (u v : Bool) (kk : Heap) (l1 l2 : Addr) : Heap := (zH3 u v kk l1 l2).push { cls := .type "tuple", data := .seq #[.none, .none] }
abbrev zH5 (u v : Bool) (kk : Heap) (l1 l2 : Addr) : Heap := (zH4 u v kk l1 l2).push { cls := .type "zip", data := .fields #[.none, .bool false, .bool false, .ref (zH2 u v kk l1 l2).objs.size, .ref (zH3 u v kk l1 l2).objs.size] }


theorem meetsZ (u v : Bool) (l1 l2 : Addr) (xs ys : Array Value) :
    Meets (Builtin.«zip.__new__» ⟨[.type "zip", .ref l1, .ref l2], []⟩) (fun _ R s => IsSq u s.heap l1 xs ∧ IsSq v s.heap l2 ys ∧
      R (.ok (.ret (.ref (zH4 u v s.heap l1 l2).objs.size))) { s with heap := zH5 u v s.heap l1 l2 }) := by
  cases u <;> cases v
  · exact meets_zip_new l1 l2 xs ys
  · refine .of_wp fun prog w A R s kk => ?_
    obtain ⟨hp, g, d, tk, os⟩ := s; obtain ⟨m1, m2, kk⟩ := kk
    have sz := sub_zip
    have n1 : Heap.IsList (Shared.heap ⟨hp, g, d, tk, os⟩) l1 xs := m1
    have n2 : Heap.IsTuple (Shared.heap ⟨hp.push { cls := .type "list_iterator", data := .fields #[.ref l1, .int 0 0] }, g, d, tk, os⟩) l2 ys := Heap.IsTuple.push m2 _
    wp_walk using wpAny_pyIter_list n1, wpAny_pyIter_tuple n2
    exact ⟨_, rfl, kk⟩
  · refine .of_wp fun prog w A R s kk => ?_
    obtain ⟨hp, g, d, tk, os⟩ := s; obtain ⟨m1, m2, kk⟩ := kk
    have sz := sub_zip
    have n1 : Heap.IsTuple (Shared.heap ⟨hp, g, d, tk, os⟩) l1 xs := m1
    have n2 : Heap.IsList (Shared.heap ⟨hp.push { cls := .type "tuple_iterator", data := .fields #[.ref l1, .int 0 0] }, g, d, tk, os⟩) l2 ys := Heap.IsList.push m2 _
    wp_walk using wpAny_pyIter_tuple n1, wpAny_pyIter_list n2
    exact ⟨_, rfl, kk⟩
  · exact RZ.meets_zipT_new l1 l2 xs ys
section
variable {prog : Program} {w : World} {A : Around} {E : Value → Shared → Prop} {s : Shared} {u v : Bool}

theorem callZ {l1 l2 : Addr} {xs ys : Array Value} {Q : Value → Shared → Prop} (m1 : IsSq u s.heap l1 xs) (m2 : IsSq v s.heap l2 ys)
    (kk : ∀ hh', IsZip hh' (s.heap.objs.size + 4) (s.heap.objs.size + 2) (s.heap.objs.size + 3) .none → IsPair hh' (s.heap.objs.size + 2) (.ref s.heap.objs.size) (.ref (s.heap.objs.size + 1)) →
      IsPair hh' (s.heap.objs.size + 3) .none .none → IsIt u hh' s.heap.objs.size l1 0 → IsIt v hh' (s.heap.objs.size + 1) l2 0 → hh'.objs.size = s.heap.objs.size + 5 →
      (∀ c o, s.heap.get? c = some o → hh'.get? c = some o) → Q (.ref (s.heap.objs.size + 4)) { s with heap := hh' }) :
    wpAny (model prog w) A (call (.type "zip") [.ref l1, .ref l2]) Q E s := by
  refine callType_new F.called_zip (by decide) (F.typeCall_zip_2 _ _) (F.newCall_zip_2 _ _) (fun obj => F.args_object_init_3 obj _ _) F.entry_zip_new
    (meetsZ u v l1 l2 xs ys) ⟨m1, m2, ?_⟩
  have z1 : (zH1 u s.heap l1).objs.size = s.heap.objs.size + 1 := Heap.size_push ..
  have z2 : (zH2 u v s.heap l1 l2).objs.size = s.heap.objs.size + 2 := by rw [Heap.size_push, z1]
  have z3 : (zH3 u v s.heap l1 l2).objs.size = s.heap.objs.size + 3 := by rw [Heap.size_push, z2]
  have z4 : (zH4 u v s.heap l1 l2).objs.size = s.heap.objs.size + 4 := by rw [Heap.size_push, z3]
  have z5 : (zH5 u v s.heap l1 l2).objs.size = s.heap.objs.size + 5 := by rw [Heap.size_push, z4]
  have g5 : (zH5 u v s.heap l1 l2).get? (zH4 u v s.heap l1 l2).objs.size = some _ := Heap.get?_push_size _ rfl
  have g4 : (zH5 u v s.heap l1 l2).get? (zH3 u v s.heap l1 l2).objs.size = some _ := Heap.get?_push_of_some _ (Heap.get?_push_size _ rfl)
  have g3 : (zH5 u v s.heap l1 l2).get? (zH2 u v s.heap l1 l2).objs.size = some _ := Heap.get?_push_of_some _ (Heap.get?_push_of_some _ (Heap.get?_push_size _ rfl))
  have g2 : (zH5 u v s.heap l1 l2).get? (zH1 u s.heap l1).objs.size = some _ := Heap.get?_push_of_some _ (Heap.get?_push_of_some _ (Heap.get?_push_of_some _ (Heap.get?_push_size _ rfl)))
  have g1 : (zH5 u v s.heap l1 l2).get? s.heap.objs.size = some _ := Heap.get?_push_of_some _ (Heap.get?_push_of_some _ (Heap.get?_push_of_some _ (Heap.get?_push_of_some _ (Heap.get?_push_size _ rfl))))
  show _ ∧ _
  rw [z2, z3, z4] at g5
  rw [z1, z2] at g3
  rw [z3] at g4
  rw [z1] at g2
  rw [z4]
  exact ⟨⟨_, g5, rfl⟩, kk _ g5 g3 g4 (IsIt.mk g1 rfl rfl) (IsIt.mk g2 rfl rfl) z5 fun c o x =>
    Heap.get?_push_of_some _ (Heap.get?_push_of_some _ (Heap.get?_push_of_some _ (Heap.get?_push_of_some _ (Heap.get?_push_of_some _ x))))⟩
end

def SqU (K : PySem.W.Frag) (u : Bool) (H : Hp) (a : Addr) (xs : List V) : Prop := match u with
  | true => SqT K H a xs
  | false => SqL K H a xs
def ItZ (u v : Bool) (K : PySem.W.Frag) (a b : Addr) : It :=
  ⟨fun i H => ∃ (xs ys : List V) (x y : V), SqU K u H a xs ∧ SqU K v H b ys ∧ xs[i]? = some x ∧ ys[i]? = some y,
    fun i H r H' => ∃ T x y, r = .ref T ∧ H T = none ∧ H' = upd H T (.tup [x, y]) ∧ (∀ xs, SqU K u H a xs → xs[i]? = some x) ∧ ∀ ys, SqU K v H b ys → ys[i]? = some y,
    fun i H => ∃ xs ys : List V, SqU K u H a xs ∧ SqU K v H b ys ∧ (xs.length ≤ i ∨ ys.length ≤ i)⟩
section
variable {X : Cx} {pins : List (Addr × Obj)} {σ : L2.St} {H : Hp} {s : Shared}
theorem inv_sq {u : Bool} (I : Inv X pins σ H s) {a : Addr} {xs : List V} (h : SqU X.K u H a xs) : ∃ its : List Value, Vals xs its ∧ IsSq u s.heap a its.toArray ∧ a < s.heap.objs.size := by
  cases u
  · obtain ⟨its, rv, p, _⟩ := I.list h
    exact ⟨its, rv, p.isList, p.lt⟩
  · obtain ⟨its, rv, p, _⟩ := I.tuple h
    have p2 : s.heap.IsTuple a its.toArray := p
    obtain ⟨o1, ho1, _⟩ := id p2
    exact ⟨its, rv, p2, Heap.lt_size ho1⟩
theorem inv_sq_inj {u : Bool} (I : Inv X pins σ H s) {a : Addr} {xs ys : List V} (h : SqU X.K u H a xs) (h2 : SqU X.K u H a ys) : xs = ys := by
  cases u
  · exact I.list_inj h h2
  · exact I.tuple_inj h h2
end

theorem turnZ {P : Program} {w : World} {K : PySem.W.Frag} {elts : List Expr} {kk : Nat} {tpos : Pos} {a b z TI TO i1 i2 : Addr} {u v : Bool} (D : ZipApart z TI TO i1 i2 a b) :
    Turn P w K (.Tuple elts kk tpos) (ItZ u v K a b) [z, TI, TO, i1, i2] z (fun i h => IsZip h z TI TO .none ∧ IsPair h TI (.ref i1) (.ref i2) ∧ (∃ x y, IsPair h TO x y) ∧ IsIt u h i1 a i ∧ IsIt v h i2 b i) where
  mem := by simp
  obj := fun i h sta c gc => by
    obtain ⟨cz, cI, ⟨x, y, cO⟩, g1, g2⟩ := sta
    obtain ⟨o1, e1, _, d1⟩ := g1.obj
    obtain ⟨o2, e2, _, d2⟩ := g2.obj
    have em : c = z ∨ c = TI ∨ c = TO ∨ c = i1 ∨ c = i2 := by simpa using gc
    rcases em with q | q | q | q | q
    · rw [q]; exact ⟨_, cz, fun v q => nomatch q⟩
    · rw [q]; exact ⟨_, cI, fun v q => nomatch q⟩
    · rw [q]; exact ⟨_, cO, fun v q => nomatch q⟩
    · rw [q]; exact ⟨o1, e1, fun v q => by rw [d1] at q; cases q⟩
    · rw [q]; exact ⟨o2, e2, fun v q => by rw [d2] at q; cases q⟩
  keep := fun i h h' sta k => by
    obtain ⟨cz, cI, ⟨x, y, cO⟩, a1, a2⟩ := sta
    exact ⟨k z (by simp) _ cz, k TI (by simp) _ cI, ⟨x, y, k TO (by simp) _ cO⟩, a1.at fun o q => k i1 (by simp) o q, a2.at fun o q => k i2 (by simp) o q⟩
  item := by
    intro X gP gw gK gc i pins s σ H E I gf sta gg
    subst gP gw gK
    obtain ⟨cz, cI, ⟨x0, y0, cO⟩, a1, a2⟩ := sta
    obtain ⟨xs, ys, x, y, qx, qy, ex, ey⟩ := gg
    obtain ⟨its, rw1, p, _⟩ := inv_sq I qx
    obtain ⟨its2, rw2, p2, _⟩ := inv_sq I qy
    obtain ⟨r1, ku, ru⟩ := rw1.get ex
    obtain ⟨r2, ku2, ru2⟩ := rw2.get ey
    have ltz : z < s.heap.objs.size := Heap.lt_size cz
    refine nextZ_item D cz cI cO a1 a2 p p2 (x := r1) (y := r2) (by simpa using ku) (by simpa using ku2) fun h' z' TO' h1' h2' gT gsz gk => ?_
    refine ⟨_, rfl, wpAny_letOwnedTupleGo_zip (s := { s with heap := h' }) z' fun h'' z'' sm => ?_⟩
    have gT2 : h''.get? s.heap.objs.size = some { cls := .type "tuple", data := .seq #[r1, r2] } := (sm.2 _ (Nat.ne_of_gt ltz)).trans gT
    have new : ObjOk X.prog X.w (upd H s.heap.objs.size (.tup [x, y])) h'' s.heap.objs.size (.tup [x, y]) :=
      ⟨by show 2 ≤ sizeLine; decide, [r1, r2], .cons ru (.cons ru2 .nil), ⟨_, gT2, rfl, _, rfl⟩⟩
    have I1 : Inv X pins σ (upd H s.heap.objs.size (.tup [x, y])) { s with heap := h'' } :=
      I.turnedNew (t' := s.toks) (ch := [z, TI, TO, i1, i2]) (fun c o hb q => (sm.2 c (fun q' => hb (by simp [q']))).trans (gk c o (fun q' => hb (by simp [q'])) (fun q' => hb (by simp [q'])) (fun q' => hb (by simp [q'])) (fun q' => hb (by simp [q'])) q)) gf (Nat.le_refl _) new
    refine ⟨.ref s.heap.objs.size, _, I1, rfl, ⟨_, x, y, rfl, I.hok.fresh (Nat.le_refl _), rfl, fun l hl => by rw [inv_sq_inj I hl qx]; exact ex, fun l hl => by rw [inv_sq_inj I hl qy]; exact ey⟩, ⟨z'', ?_, ⟨r1, r2, ?_⟩, ?_, ?_⟩, fun c gcm => ?_⟩
    · exact (sm.2 _ D.TIz).trans (gk _ _ D.TIz D.TITO D.TIi1 D.TIi2 cI)
    · exact (sm.2 _ D.TOz).trans TO'
    · exact h1'.at fun o q => (sm.2 _ D.i1z).trans q
    · exact h2'.at fun o q => (sm.2 _ D.i2z).trans q
    · have glt : c < s.heap.objs.size := by
        have em : c = z ∨ c = TI ∨ c = TO ∨ c = i1 ∨ c = i2 := by simpa using gcm
        rcases em with q | q | q | q | q
        · rw [q]; exact ltz
        · rw [q]; exact Heap.lt_size cI
        · rw [q]; exact Heap.lt_size cO
        · rw [q]; obtain ⟨_, e1, _⟩ := a1.obj; exact Heap.lt_size e1
        · rw [q]; obtain ⟨_, e2, _⟩ := a2.obj; exact Heap.lt_size e2
      rw [upd_ne (Nat.ne_of_lt glt)]
      exact (gf c gcm).1
  done := by
    intro X gP gw gK gc i pins s σ H E I gf sta gg
    subst gP gw gK
    obtain ⟨cz, cI, ⟨x0, y0, cO⟩, a1, a2⟩ := sta
    obtain ⟨xs, ys, qx, qy, fin⟩ := gg
    obtain ⟨its, rw1, p, _⟩ := inv_sq I qx
    obtain ⟨its2, rw2, p2, _⟩ := inv_sq I qy
    have l1 := rw1.length
    have l2 := rw2.length
    have ge : its.toArray[i]? = none ∨ its2.toArray[i]? = none := by
      rcases fin with q | q
      · exact .inl (by simp; omega)
      · exact .inr (by simp; omega)
    exact nextZ_end (I.ok.hd gc) D cz cI cO a1 a2 p p2 ge fun h' gk => ⟨rfl, I.turnedL (t' := s.toks) (ch := [z, TI, TO, i1, i2]) (fun c o hb q =>
      gk c o (fun q' => hb (by simp [q'])) (fun q' => hb (by simp [q'])) (fun q' => hb (by simp [q'])) (fun q' => hb (by simp [q'])) q) gf⟩
  self := fun A i s Q E sta h => wpAny_pyIter_zip sta.1 h


def iZipU (u v : Bool) (K : PySem.W.Frag) (ta : TA) : TI := fun σ H R => ta σ H fun vs H1 => ∃ a b xs ys, vs = [.ref a, .ref b] ∧ SqU K u H1 a xs ∧ SqU K v H1 b ys ∧ R (ItZ u v K a b) H1
def iZipX (K : PySem.W.Frag) (ta : TA) : TI := fun σ H R => ta σ H fun vs H1 => ∃ u v a b xs ys, vs = [.ref a, .ref b] ∧ SqU K u H1 a xs ∧ SqU K v H1 b ys ∧ R (ItZ u v K a b) H1
theorem pi_zipX {X : Cx} {e e2 : Expr} {ta : TA} {p pos tpos : Pos} {elts : List Expr} {kk : Nat} (hg : Gl X "zip") (hm : X.mg "zip" = none) (ha : PA X [e, e2] ta)
    (hs : starEach [e, e2] X.env = (false, eval e X.env) :: starEach [e2] X.env := by rfl) (hpl : (backTo pos (starEach [e2] X.env)).any (·.1) = false := by rfl) :
    PI X (.Tuple elts kk tpos) (.Call (.Name "zip" p) [e, e2] [] pos) (iZipX X.K ta) := by
  refine ⟨fun pins s σ H R I hw => ?_⟩
  refine Call_ (ld_blt I hg hm PyProof.Rows.boot_zip (PyProof.Rows.callWith_type1 (thn (ha.run pos pins s σ H _ I hw) fun us s1 ⟨vs, H1, I1, r1, q1⟩ => ?_) hs hpl))
  obtain ⟨u, v, a, b, xs, ys, ex, qa, qb, q⟩ := q1
  subst ex
  obtain ⟨v1, v2, rfl, ra, rb⟩ : ∃ v1 v2, us = [v1, v2] ∧ RelV (.ref a) v1 ∧ RelV (.ref b) v2 := by
    cases r1 with
    | cons r rr => cases rr with
      | cons r' rr => cases rr; exact ⟨_, _, rfl, r, r'⟩
  cases ra
  cases rb
  have up : ∀ c, c ∈ [s1.heap.objs.size + 4, s1.heap.objs.size + 2, s1.heap.objs.size + 3, s1.heap.objs.size, s1.heap.objs.size + 1] → FpOk X pins H1 c := fun c hm => by
    have le : s1.heap.objs.size ≤ c := by
      simp only [List.mem_cons, List.not_mem_nil, or_false] at hm
      rcases hm with z | z | z | z | z <;> (rw [z]; first | exact Nat.le_refl _ | exact Nat.le_add_right _ _)
    exact I1.fpOk le (I1.hok.fresh le)
  obtain ⟨its, rv, p1, l1⟩ := inv_sq I1 qa
  obtain ⟨its2, rv2, p2, l2⟩ := inv_sq I1 qb
  refine callZ p1 p2 fun h' cz cI cO a1 a2 csz gk => wpAny_pyIter_zip cz ?_
  have I2 : Inv X pins σ H1 { s1 with heap := h' } := I1.kept (t' := s1.toks) gk
  exact ⟨s1.heap.objs.size + 4, [s1.heap.objs.size + 4, s1.heap.objs.size + 2, s1.heap.objs.size + 3, s1.heap.objs.size, s1.heap.objs.size + 1], _, _, H1, rfl, I2, turnZ (PySem.W.ktu_apart s1.heap.objs.size a b l1 l2), ⟨cz, cI, ⟨_, _, cO⟩, a1, a2⟩, up, q⟩
end PL

/-! PLs: sorted of a list or a tuple of ints. -/
namespace PL
open PySem PySem.Spec L2
open PyProof.Rows hiding St

def rSortedU (K : PySem.W.Frag) : List V → Hp → VK → Prop := fun vs H Q => ∃ (u : Bool) (a : Addr) (ns : List Int), vs = [V.ref a] ∧ SqU K u H a (ns.map V.int) ∧
  ∀ (ns' : List Int) (p : Addr), ns'.Perm ns → ns'.Pairwise (· ≤ ·) → H p = none → Q (.ref p) (upd H p (.lst (ns'.map V.int)))
theorem inv_sq_obj {X : Cx} {pins : List (Addr × Obj)} {σ : L2.St} {H : Hp} {s : Shared} {u : Bool} (I : Inv X pins σ H s) {a : Addr} {xs : List V} (h : SqU X.K u H a xs) :
    ∃ (its : List Value) (T : String) (o : Obj) (n : Nat), Vals xs its ∧ (T = "list" ∨ T = "tuple") ∧ s.heap.get? a = some o ∧ o.cls = .type T ∧ o.data = .seq its.toArray n ∧ xs.length ≤ sizeLine := by
  cases u
  · obtain ⟨its, rv, p, hz⟩ := I.list h
    obtain ⟨o, e1, e2, n, e3⟩ := p.isList
    exact ⟨its, "list", o, n, rv, .inl rfl, e1, e2, e3, hz⟩
  · obtain ⟨its, rv, p, hz⟩ := I.tuple h
    obtain ⟨o, e1, e2, n, e3⟩ := (show s.heap.IsTuple a its.toArray from p)
    exact ⟨its, "tuple", o, n, rv, .inr rfl, e1, e2, e3, hz⟩
section
variable {X : Cx}
theorem cr_sortedU : CallR X (.builtin "sorted") (rSortedU X.K) := by
  intro pins s σ H vs us Q I r h
  obtain ⟨u, a, ns, rfl, hs, q⟩ := h
  obtain ⟨its, T, o, n, rv, hT, ho, hc, hd, hz⟩ := inv_sq_obj I hs
  rw [Vals.ref1 r]
  have hi := rv.ints
  have lz : its.length ≤ sizeLine := by rw [← rv.length]; exact hz
  refine Calls.call_function_entry kind_sorted plain_sorted PyProof.Rows.entry_sorted (PyProof.Rows.args_sorted1 _) ?_
  unfold Builtin.«sorted»
  refine wpAny_bind (wpAny_pure ?_)
  refine wpAny_bind (wpAny_collect_seq a hT ho hc hd (fun h' hk => ?_) (by rw [List.size_toArray]; exact lz))
  have I2 : Inv X pins σ H { s with heap := h' } := I.kept (t' := s.toks) hk
  refine wpAny_bind (wpAny_newList ?_ lz)
  have oL : (h'.push (seqObj "list" its.toArray 0)).get? h'.objs.size = some (seqObj "list" its.toArray 0) := Heap.get?_push_size _ rfl
  refine wpAny_bind (wpAny_holding (wpAny_call_entry PyProof.Rows.slot_list_sort ⟨_, oL, rfl⟩ PyProof.Rows.entry_list_sort
    (SrtO.list_sort_ord SrtO.swo_int oL lz (fun h2 => SrtO.ints_sortable hi h2) fun out h1 h2 => ⟨_, rfl, ?_⟩) (PyProof.Rows.args_list_sort _)))
  obtain ⟨k1, k2, k3⟩ := SrtO.ints_out hi h1 h2
  obtain ⟨ep, he⟩ := PyProof.Rows.sortedHeap_at (vs := its) (out := out.toArray) oL
  have hlen : ((out.map SrtO.iv).map V.int).length ≤ sizeLine := by
    rw [List.length_map, k2.length_eq]
    rw [List.length_map] at hz
    exact hz
  refine wpAny_pure ⟨_, rfl, .ref h'.objs.size, upd H h'.objs.size (.lst ((out.map SrtO.iv).map V.int)), I2.laid (t' := s.toks) (fun b ob e => ?_) (Nat.le_refl _) ⟨hlen, out, ep, vals_of_ints k1, he⟩, rfl, q _ _ k2 k3 (I2.hok.fresh (Nat.le_refl _))⟩
  have lt : b < h'.objs.size := Heap.lt_size e
  show (sortedHeap (h'.push (seqObj "list" its.toArray 0)) h'.objs.size its out.toArray).get? b = some ob
  rw [PyProof.Rows.sortedHeap_old (Nat.ne_of_lt lt) (by rw [Heap.size_push]; exact Nat.lt_succ_of_lt lt), Heap.get?_push_of_some _ e]
end
end PL

/-! PLa: any, all of a list of bools and ints. -/
namespace PL
open PySem PySem.Spec L2
open PyProof.Rows hiding St
def tvV : V → Option Bool
  | .bl b => some b
  | .int i => some (i != 0)
  | .non => some false
  | _ => none
theorem truth_vals {prog : Program} {w : World} {A : Around} {xs : List V} {bs : List Bool} {its : List Value} (rv : Vals xs its) (e : xs.map tvV = bs.map some) :
    TruthOf prog w A (fun i v => its.toArray[i]? = some v) (fun i => bs.getD i false) := fun i v s Q E hv hq => by
  have hv' : its[i]? = some v := by simpa using hv
  have hx : ∃ x, xs[i]? = some x ∧ RelV x v := by
    have hl := rv.length
    have hi : i < its.length := (List.getElem?_eq_some_iff.mp hv').1
    have hi2 : i < xs.length := by omega
    obtain ⟨u, hu, ru⟩ := rv.get (List.getElem?_eq_getElem hi2)
    rw [hv'] at hu
    cases hu
    exact ⟨_, List.getElem?_eq_getElem hi2, ru⟩
  obtain ⟨x, hx, rx⟩ := hx
  have hb : (bs.map some)[i]? = some (tvV x) := by rw [← e, List.getElem?_map, hx]; rfl
  rw [List.getElem?_map] at hb
  obtain ⟨b, hb, eb⟩ := Option.map_eq_some_iff.mp hb
  have hg : bs.getD i false = b := by rw [List.getD_eq_getElem?_getD, hb] <;> rfl
  have hq' : Q (bs.getD i false) s := hq
  rw [hg] at hq'
  cases x with
  | bl c => cases rx; cases eb; exact wpAny_truthy_bool hq'
  | int c => obtain ⟨t, rfl⟩ := rx; cases eb; exact PySem.P.truthy_int hq'
  | non => cases rx; cases eb; exact fun _ _ _ => hq'
  | _ => cases eb
def rAnyV (K : PySem.W.Frag) : List V → Hp → VK → Prop := fun vs H Q => ∃ (a : Addr) (xs : List V) (bs : List Bool), vs = [V.ref a] ∧ SqL K H a xs ∧ xs.map tvV = bs.map some ∧ Q (.bl (bs.any id)) H
def rAllV (K : PySem.W.Frag) : List V → Hp → VK → Prop := fun vs H Q => ∃ (a : Addr) (xs : List V) (bs : List Bool), vs = [V.ref a] ∧ SqL K H a xs ∧ xs.map tvV = bs.map some ∧ Q (.bl (bs.all id)) H
section
variable {X : Cx}
theorem cr_anyV (hc : X.calm = true) : CallR X (.builtin "any") (rAnyV X.K) := by
  intro pins s σ H vs us Q I r h
  obtain ⟨a, xs, bs, rfl, hs, hb, q⟩ := h
  obtain ⟨its, rv, hl, _⟩ := I.list hs
  rw [Vals.ref1 r]
  have hn : its.length = bs.length := by
    have := congrArg List.length hb
    rw [List.length_map, List.length_map] at this
    rw [← rv.length, this]
  refine call_any_walk (iter_any hl.isList fun z ez st hne => ?_)
  subst ez
  refine ⟨_, _, _, _, _, _, _, rfl, Walks.list (A := X.A.in1) (I.ok.hd hc) _ a hne its.toArray, st, truth_vals rv hb, fun h' tk hk => ?_⟩
  refine ⟨.bl _, H, I.kept fun b o eo => hk b o (fun hm => ?_) (Heap.get?_push_of_some _ eo), ?_, q⟩
  · rcases List.mem_cons.mp hm with e1 | hm
    · exact absurd (e1 ▸ Heap.lt_size eo) (Nat.lt_irrefl _)
    · cases hm
  · show Value.bool _ = Value.bool _
    rw [← L2.any_range, List.size_toArray, hn]
theorem cr_allV (hc : X.calm = true) : CallR X (.builtin "all") (rAllV X.K) := by
  intro pins s σ H vs us Q I r h
  obtain ⟨a, xs, bs, rfl, hs, hb, q⟩ := h
  obtain ⟨its, rv, hl, _⟩ := I.list hs
  rw [Vals.ref1 r]
  have hn : its.length = bs.length := by
    have := congrArg List.length hb
    rw [List.length_map, List.length_map] at this
    rw [← rv.length, this]
  refine call_all_walk (iter_any hl.isList fun z ez st hne => ?_)
  subst ez
  refine ⟨_, _, _, _, _, _, _, rfl, Walks.list (A := X.A.in1) (I.ok.hd hc) _ a hne its.toArray, st, truth_vals rv hb, fun h' tk hk => ?_⟩
  refine ⟨.bl _, H, I.kept fun b o eo => hk b o (fun hm => ?_) (Heap.get?_push_of_some _ eo), ?_, q⟩
  · rcases List.mem_cons.mp hm with e1 | hm
    · exact absurd (e1 ▸ Heap.lt_size eo) (Nat.lt_irrefl _)
    · cases hm
  · show Value.bool _ = Value.bool _
    rw [← L2.all_range, List.size_toArray, hn]
end
end PL

/-! PLt: sorted of a list or a tuple of pairs of ints, of any length. -/
namespace PL
open PySem PySem.Spec L2
open PyProof.Rows hiding St

def PairV (K : PySem.W.Frag) (H : Hp) (x : V) (p : Int × Int) : Prop := ∃ t, x = V.ref t ∧ SqT K H t [.int p.1, .int p.2]
def leP (p q : Int × Int) : Bool := !SrtO.lexB q p
def rSortedPU (K : PySem.W.Frag) : List V → Hp → VK → Prop := fun vs H Q => ∃ (u : Bool) (a : Addr) (xs : List V) (ps : List (Int × Int)), vs = [V.ref a] ∧ SqU K u H a xs ∧ xs.length = ps.length ∧ (∀ z ∈ xs.zip ps, PairV K H z.1 z.2) ∧
  ∀ (ys : List V) (qs : List (Int × Int)) (p : Addr), ys.length = qs.length → (ys.zip qs).Perm (xs.zip ps) → qs.Pairwise (fun p q => leP p q = true) → H p = none → Q (.ref p) (upd H p (.lst ys))
section
variable {X : Cx}
theorem pairV_is {pins : List (Addr × Obj)} {σ : L2.St} {H : Hp} {s : Shared} (I : Inv X pins σ H s) {t : Addr} {x y : Int} (h : SqT X.K H t [.int x, .int y]) : Srt.IsPair s.heap (.ref t) x y := by
  obtain ⟨its, rv, p, hz⟩ := I.tuple h
  obtain ⟨o, e1, e2, n, e3⟩ := (show s.heap.IsTuple t its.toArray from p)
  obtain ⟨u1, u2, rfl, ri, rj⟩ := vals2 rv
  obtain ⟨t1, rfl⟩ := ri
  obtain ⟨t2, rfl⟩ := rj
  exact ⟨t, o, t1, t2, n, rfl, e1, e2, e3⟩
theorem cr_sortedPU : CallR X (.builtin "sorted") (rSortedPU X.K) := by
  intro pins s σ H vs us Q I r h
  obtain ⟨u, a, xs, ps, rfl, hs, hlen0, hz0, q⟩ := h
  have un : ∀ {x : V} {p p' : Int × Int}, PairV X.K H x p → PairV X.K H x p' → p = p' := fun {x p p'} h1 h2 => by
    obtain ⟨t, e, h1⟩ := h1
    obtain ⟨t', e', h2⟩ := h2
    rw [e] at e'
    cases e'
    obtain ⟨a1, o1, t1, u1, n1, e1, ho1, hc1, hd1⟩ := pairV_is I h1
    obtain ⟨a2, o2, t2, u2, n2, e2, ho2, hc2, hd2⟩ := pairV_is I h2
    cases e1
    cases e2
    rw [ho1] at ho2
    cases ho2
    rw [hd1] at hd2
    injection hd2 with hd2
    injection hd2 with hd2
    injection hd2 with z1 z2
    injection z1 with z1
    injection z2 with z2
    injection z2 with z2
    exact Prod.ext z1 z2
  have hx0 : ∀ x ∈ xs, ∃ p, PairV X.K H x p := fun x m => by
    obtain ⟨i, hi, e⟩ := List.mem_iff_getElem.mp m
    exact ⟨ps[i]'(by omega), hz0 (x, ps[i]'(by omega)) (by
      rw [List.mem_iff_getElem]
      exact ⟨i, by simp; omega, by simp [e]⟩)⟩
  obtain ⟨k, hx⟩ : ∃ k : V → Int × Int, ∀ x ∈ xs, PairV X.K H x (k x) := by
    classical
    refine ⟨fun x => if h : ∃ p, PairV X.K H x p then h.choose else (0, 0), fun x m => ?_⟩
    dsimp only
    rw [dif_pos (hx0 x m)]
    exact (hx0 x m).choose_spec
  have hps : xs.zip ps = xs.map fun x => (x, k x) := by
    apply List.ext_getElem (by simp; omega)
    intro i h1 h2
    have hi : i < xs.length := by simpa using h2
    have := hz0 (xs[i], ps[i]'(by omega)) (by
      rw [List.mem_iff_getElem]
      exact ⟨i, h1, by simp⟩)
    have e : ps[i]'(by omega) = k xs[i] := un this (hx xs[i] (List.getElem_mem hi))
    rw [List.getElem_zip, List.getElem_map, e]
  obtain ⟨its, T, o, n, rv, hT, ho, hc, hd, hz⟩ := inv_sq_obj I hs
  rw [Vals.ref1 r]
  obtain ⟨e1, e2⟩ := refs_back rv fun x m => by
    obtain ⟨t, e, _⟩ := hx x m
    exact ⟨t, e⟩
  have lz : its.length ≤ sizeLine := by rw [← rv.length]; exact hz
  refine Calls.call_function_entry kind_sorted plain_sorted PyProof.Rows.entry_sorted (PyProof.Rows.args_sorted1 _) ?_
  unfold Builtin.«sorted»
  refine wpAny_bind (wpAny_pure ?_)
  refine wpAny_bind (wpAny_collect_seq a hT ho hc hd (fun h' hk => ?_) (by rw [List.size_toArray]; exact lz))
  have I2 : Inv X pins σ H { s with heap := h' } := I.kept (t' := s.toks) hk
  refine wpAny_bind (wpAny_newList ?_ lz)
  have oL : (h'.push (seqObj "list" its.toArray 0)).get? h'.objs.size = some (seqObj "list" its.toArray 0) := Heap.get?_push_size _ rfl
  have hp : ∀ v ∈ its, Srt.IsPair (h'.push (seqObj "list" its.toArray 0)) v (k (backV v)).1 (k (backV v)).2 := fun v hv => by
    obtain ⟨t, rfl⟩ := e2 v hv
    have hm : V.ref t ∈ xs := by rw [e1]; exact List.mem_map.mpr ⟨_, hv, rfl⟩
    obtain ⟨t', e, ht⟩ := hx _ hm
    cases e
    exact (pairV_is I2 ht).keeps fun b o e _ => Heap.get?_push_of_some _ e
  refine wpAny_bind (wpAny_holding (wpAny_call_entry PyProof.Rows.slot_list_sort ⟨_, oL, rfl⟩ PyProof.Rows.entry_list_sort
    (SrtO.list_sort_ord (SrtO.swo_lex fun u => k (backV u)) oL lz (fun h2 => SrtO.pairs_sortableO (by omega) hp fun o e => ?_) fun out h1 h2 => ⟨_, rfl, ?_⟩) (PyProof.Rows.args_list_sort _)))
  · have e' : some o = some (seqObj "list" its.toArray 0) := e.symm.trans oL
    cases e'
    intro c
    exact absurd (Value.type.inj c) (by decide)
  have h3 : ∀ u ∈ out, ∃ a, u = Value.ref a := fun u hu => e2 u (h2.perm.mem_iff.mp hu)
  have hb : (out.map backV).Perm xs := by
    rw [e1]
    exact h2.perm.map _
  have hq1 : ((out.map backV).zip ((out.map backV).map k)).Perm (xs.zip ps) := by
    rw [hps]
    have : (out.map backV).zip ((out.map backV).map k) = (out.map backV).map fun x => (x, k x) := by
      apply List.ext_getElem (by simp)
      intro i h1 h2
      simp
    rw [this]
    exact hb.map _
  have hq2 : ((out.map backV).map k).Pairwise (fun p q => leP p q = true) := by
    rw [List.map_map, List.pairwise_map]
    refine List.Pairwise.imp (fun {x y} h => ?_) h1
    unfold leP
    have h' : SrtO.lexB (k (backV y)) (k (backV x)) = false := h
    show (!SrtO.lexB (k (backV y)) (k (backV x))) = true
    rw [h']; rfl
  obtain ⟨ep, he⟩ := PyProof.Rows.sortedHeap_at (vs := its) (out := out.toArray) oL
  have hlen : (out.map backV).length ≤ sizeLine := by
    rw [hb.length_eq]
    exact hz
  refine wpAny_pure ⟨_, rfl, .ref h'.objs.size, upd H h'.objs.size (.lst (out.map backV)), I2.laid (t' := s.toks) (fun b ob e => ?_) (Nat.le_refl _) ⟨hlen, out, ep, vals_back h3, he⟩, rfl, q _ ((out.map backV).map k) _ (by simp) hq1 hq2 (I2.hok.fresh (Nat.le_refl _))⟩
  have lt : b < h'.objs.size := Heap.lt_size e
  show (sortedHeap (h'.push (seqObj "list" its.toArray 0)) h'.objs.size its out.toArray).get? b = some ob
  rw [PyProof.Rows.sortedHeap_old (Nat.ne_of_lt lt) (by rw [Heap.size_push]; exact Nat.lt_succ_of_lt lt), Heap.get?_push_of_some _ e]
end
end PL

/-! PL5: what is walked, targets, comprehensions, statements. -/
namespace PL
open PySem PySem.Spec L2
open PyProof.Rows hiding St
open RZ (iZipA ItzT pi_zipA)

/-! ### what is walked -/
def IterOk (K : PySem.W.Frag) (fz : Addr → Prop) (H : Hp) (J : It) (ds : List PyData) : Prop :=
  ∀ (fz' : Addr → Prop) (H' : Hp), Ext fz H fz' H' → (∀ a, fz' a → H' a ≠ none) → ∀ i : Nat,
    (∀ d, ds[i]? = some d → J.go i H' ∧ ∀ x H'', J.yld i H' x H'' → ∃ fz'', Alc fz' H' fz'' H'' ∧ Rep K fz'' H'' x d) ∧ (ds.length ≤ i → J.stop i H')
def RIt (K : PySem.W.Frag) : RT (List PyData) It := fun _ _ fz H _ J ds => IterOk K fz H J ds
def seq? : PyData → Option (List PyData)
  | .list ds => some ds
  | .tuple ds => some ds
  | _ => none
def mseqI (m : M PyData) : M (List PyData) := bnd m fun d => lft (seq? d)
def iSeq (K : PySem.W.Frag) (tl : TE) : TI := fun σ H R => iList K tl σ H R ∨ iTup K tl σ H R
theorem pi_seq {X : Cx} {tg l : Expr} {tl : TE} (hl : PE X l tl) : PI X tg l (iSeq X.K tl) := by
  refine ⟨fun pins s σ H R I h => ?_⟩
  rcases h with h | h
  · exact (pi_list (tg := tg) hl).run pins s σ H R I h
  · exact (pi_tup (tg := tg) hl).run pins s σ H R I h
section
variable {c : Cw} {pp : List (Nat × Addr)} {pr fz : Addr → Prop} {σ : L2.St} {H : Hp} {ρ : Env}
theorem sqL_inj {K : PySem.W.Frag} {a : Addr} {xs ys : List V} (h : H a = some (.lst xs)) (h' : H a = some (.lst ys)) : xs = ys := by rw [h] at h'; cases h'; rfl
theorem iterOk_list {K : PySem.W.Frag} {a : Addr} {vs : List V} {ds : List PyData} (hf : fz a) (h : H a = some (.lst vs)) (r : RepA K fz H vs ds) : IterOk K fz H (Itl K a) ds := by
  intro fz' H' E hf' i
  have e : H' a = some (.lst vs) := (E.keep a hf).trans h
  refine ⟨fun d hd => ?_, fun hl => ⟨vs, SqL.of e, by rw [r.length]; exact hl⟩⟩
  obtain ⟨y, hy, ry⟩ := r.get hd
  refine ⟨⟨vs, y, SqL.of e, hy⟩, fun x H'' hx => ?_⟩
  obtain ⟨rfl, hx⟩ := hx
  have := hx vs (SqL.of e)
  rw [hy] at this
  cases this
  exact ⟨fz', Alc.refl, ry.ext E⟩
theorem iterOk_tup {K : PySem.W.Frag} {a : Addr} {vs : List V} {ds : List PyData} (h : FzT K fz H a vs) (r : RepA K fz H vs ds) : IterOk K fz H (Itt K a) ds := by
  intro fz' H' E hf' i
  have e : SqT K H' a vs := FzT.sq (fz := fz') (h.imp (fun z => ⟨E.mono _ z.1, Rd.ext z.2 (E.keep _ z.1)⟩) id)
  refine ⟨fun d hd => ?_, fun hl => ⟨vs, e, by rw [r.length]; exact hl⟩⟩
  obtain ⟨y, hy, ry⟩ := r.get hd
  refine ⟨⟨vs, y, e, hy⟩, fun x H'' hx => ?_⟩
  obtain ⟨rfl, hx⟩ := hx
  have := hx vs e
  rw [hy] at this
  cases this
  exact ⟨fz', Alc.refl, ry.ext E⟩
variable {te ta tb : TE} {m ma mb : M PyData}
theorem rf_seqI (h : Rf c (RV c.K) te m) : Rf c (RIt c.K) (iSeq c.K te) (mseqI m) := by
  intro pp pr fz σ H ρ Q hp R hq
  have key : ∀ tl : Bool, (∀ d ρ', m ρ = .ok d ρ' → (match d with | .list _ => tl = true | .tuple _ => tl = false | _ => True)) → iSeq c.K te σ H Q := by
    intro tl hk
    cases tl with
    | true =>
      refine .inl (h pp pr fz σ H ρ _ hp R ?_)
      unfold mseqI PL.bnd at hq
      cases e : m ρ with
      | ok d ρ' =>
        rw [e] at hq
        have hk := hk d ρ' e
        intro v fz1 H1 F R1 r
        have P1 := PostG.rest F hq
        obtain ⟨z, e1, P1⟩ := lftB_post P1
        cases r <;> first | (cases e1; done) | skip
        · rename_i a xs ds hf hH ra
          cases e1
          exact ⟨a, rfl, ⟨xs, SqL.of hH⟩, ok_post P1 R1 (iterOk_list hf hH ra)⟩
        · cases hk
      | exc x r => rw [e] at hq; exact hq
      | bad => rw [e] at hq; exact hq.elim
    | false =>
      refine .inr (h pp pr fz σ H ρ _ hp R ?_)
      unfold mseqI PL.bnd at hq
      cases e : m ρ with
      | ok d ρ' =>
        rw [e] at hq
        have hk := hk d ρ' e
        intro v fz1 H1 F R1 r
        have P1 := PostG.rest F hq
        obtain ⟨z, e1, P1⟩ := lftB_post P1
        cases r <;> first | (cases e1; done) | skip
        · cases hk
        · rename_i a xs ds hH ra
          cases e1
          exact ⟨a, rfl, ⟨xs, hH.sq⟩, ok_post P1 R1 (iterOk_tup hH ra)⟩
      | exc x r => rw [e] at hq; exact hq
      | bad => rw [e] at hq; exact hq.elim
  cases e : m ρ with
  | ok d ρ' =>
    cases d with
    | list ds => exact key true fun d' ρ'' e' => by rw [e] at e'; cases e'; exact rfl
    | tuple ds => exact key false fun d' ρ'' e' => by rw [e] at e'; cases e'; exact rfl
    | _ => exact key true fun d' ρ'' e' => by rw [e] at e'; cases e'; trivial
  | exc x r => exact key true fun d' ρ'' e' => by rw [e] at e'; cases e'
  | bad => exact key true fun d' ρ'' e' => by rw [e] at e'; cases e'
def rangeL (lo : Int) (n : Nat) : List PyData := (List.range n).map fun (i : Nat) => PyData.int (lo + i)
theorem rangeL_get {lo : Int} {n i : Nat} {d : PyData} (h : (rangeL lo n)[i]? = some d) : i < n ∧ d = .int (lo + i) := by
  unfold rangeL at h
  rw [List.getElem?_map] at h
  cases e : (List.range n)[i]? with
  | none => rw [e] at h; cases h
  | some j =>
    obtain ⟨hi, ej⟩ := List.getElem?_eq_some_iff.mp e
    simp at hi ej
    subst ej
    rw [e] at h
    cases h
    exact ⟨hi, rfl⟩
theorem iterOk_range {K : PySem.W.Frag} {lo : Int} {n : Nat} : IterOk K fz H (Itr lo n) (rangeL lo n) := by
  intro fz' H' E hf' i
  refine ⟨fun d hd => ?_, fun hl => ?_⟩
  · obtain ⟨hi, rfl⟩ := rangeL_get hd
    refine ⟨hi, fun x H'' hx => ?_⟩
    obtain ⟨rfl, rfl⟩ := hx
    exact ⟨fz', Alc.refl, .int _⟩
  · unfold rangeL at hl
    simp at hl
    exact hl
def rOk (i : Int) : Bool := decide (i.natAbs.log2 < 62)
def rng1? : PyData → Option (List PyData)
  | .int j => if rOk j = true then some (rangeL 0 j.toNat) else none
  | _ => none
def rng2? : PyData → PyData → Option (List PyData)
  | .int i, .int j => if (rOk i && rOk j) = true then some (rangeL i (j - i).toNat) else none
  | _, _ => none
def rangeC (lo step : Int) (n : Nat) : List PyData := (List.range n).map fun (i : Nat) => PyData.int (lo + (i : Nat) * step)
def rng3? : PyData → PyData → PyData → Option (List PyData)
  | .int i, .int j, .int k => if (decide (k ≠ 0) && decide (k.natAbs < 1073741824) && Builtin.Range.small i j k && decide (0 ≤ Builtin.Range.rangeSize i j k)) = true then some (rangeC i k (Builtin.Range.rangeSize i j k).toNat) else none
  | _, _, _ => none
def mrng1 (a : M PyData) : M (List PyData) := bnd a fun x => lft (rng1? x)
def mrng2 (a b : M PyData) : M (List PyData) := bnd a fun x => bnd b fun y => lft (rng2? x y)
def mrng3 (a b d : M PyData) : M (List PyData) := bnd a fun x => bnd b fun y => bnd d fun z => lft (rng3? x y z)
theorem rOk_iff {i : Int} (h : rOk i = true) : -(2 ^ 62) ≤ i ∧ i < 2 ^ 62 := by
  unfold rOk at h
  simp only [decide_eq_true_eq] at h
  by_cases z : i.natAbs = 0
  · omega
  · have := (Nat.log2_lt z).mp h
    omega
theorem rf_rng1 (h : Rf c (RV c.K) ta ma) : Rf c (RIt c.K) (iRng1 (tCons ta tNil)) (mrng1 ma) := by
  intro pp pr fz σ H ρ Q hp R hq
  refine h pp pr fz σ H ρ _ hp R (hq.bnd fun v x fz1 H1 ρ1 F1 R1 r1 P1 => ?_)
  obtain ⟨z, e, P1⟩ := lftB_post P1
  cases x <;> first | (cases e; done) | skip
  simp only [rng1?] at e
  split at e
  · rename_i j h
    cases e
    cases r1
    obtain ⟨h1, h2⟩ := rOk_iff h
    exact ⟨j, rfl, h1, h2, ok_post P1 R1 iterOk_range⟩
  · cases e
theorem rf_rng2 (h : Rf c (RV c.K) ta ma) (h2 : Rf c (RV c.K) tb mb) : Rf c (RIt c.K) (iRng2 (tCons ta (tCons tb tNil))) (mrng2 ma mb) := by
  intro pp pr fz σ H ρ Q hp R hq
  refine h pp pr fz σ H ρ _ hp R (hq.bnd fun v x fz1 H1 ρ1 F1 R1 r1 P1 => ?_)
  refine h2 pp pr fz1 σ H1 ρ1 _ hp R1 (P1.bnd fun w y fz2 H2 ρ2 F2 R2 r2 P2 => ?_)
  obtain ⟨z, e, P3⟩ := lftB_post P2
  cases x <;> first | (cases e; done) | skip
  cases y <;> first | (cases e; done) | skip
  simp only [rng2?] at e
  split at e
  · rename_i i j h
    cases e
    cases r1
    cases r2
    rw [Bool.and_eq_true] at h
    obtain ⟨h1, h2⟩ := rOk_iff h.1
    obtain ⟨h3, h4⟩ := rOk_iff h.2
    exact ⟨i, j, rfl, ⟨h1, h2, h3, h4⟩, ok_post P3 R2 iterOk_range⟩
  · cases e
theorem iterOk_rangeC {K : PySem.W.Frag} {lo k : Int} {n : Nat} : IterOk K fz H (Itc lo k n) (rangeC lo k n) := by
  intro fz' H' E hf' i
  refine ⟨fun d hd => ?_, fun hl => ?_⟩
  · unfold rangeC at hd
    rw [List.getElem?_map] at hd
    cases e : (List.range n)[i]? with
    | none => rw [e] at hd; cases hd
    | some j =>
      obtain ⟨hi, ej⟩ := List.getElem?_eq_some_iff.mp e
      simp at hi ej
      subst ej
      rw [e] at hd
      cases hd
      refine ⟨hi, fun x H'' hx => ?_⟩
      obtain ⟨rfl, rfl⟩ := hx
      exact ⟨fz', Alc.refl, .int _⟩
  · unfold rangeC at hl
    simp at hl
    exact hl
theorem rf_rng3 {td : TE} {md : M PyData} (h : Rf c (RV c.K) ta ma) (h2 : Rf c (RV c.K) tb mb) (h3 : Rf c (RV c.K) td md) : Rf c (RIt c.K) (iRng3 (tCons ta (tCons tb (tCons td tNil)))) (mrng3 ma mb md) := by
  intro pp pr fz σ H ρ Q hp R hq
  refine h pp pr fz σ H ρ _ hp R (hq.bnd fun v x fz1 H1 ρ1 F1 R1 r1 P1 => ?_)
  refine h2 pp pr fz1 σ H1 ρ1 _ hp R1 (P1.bnd fun w y fz2 H2 ρ2 F2 R2 r2 P2 => ?_)
  refine h3 pp pr fz2 σ H2 ρ2 _ hp R2 (P2.bnd fun w3 y3 fz3 H3 ρ3 F3 R3 r3 P3 => ?_)
  obtain ⟨z, e, P4⟩ := lftB_post P3
  cases x <;> first | (cases e; done) | skip
  cases y <;> first | (cases e; done) | skip
  cases y3 <;> first | (cases e; done) | skip
  simp only [rng3?] at e
  split at e
  · rename_i i j k h
    cases e
    cases r1
    cases r2
    cases r3
    simp only [Bool.and_eq_true, decide_eq_true_eq] at h
    obtain ⟨⟨⟨h1, h2⟩, h3⟩, h4⟩ := h
    exact ⟨i, j, k, _, rfl, ⟨h1, h2, h3, by omega⟩, ok_post P4 R3 iterOk_rangeC⟩
  · cases e
def zipP (xs ys : List PyData) : List PyData := (xs.zip ys).map fun p => .tuple [p.1, p.2]
def zip? (x y : PyData) : Option (List PyData) := match seq? x, seq? y with
  | some xs, some ys => some (zipP xs ys)
  | _, _ => none
def mzip (a b : M PyData) : M (List PyData) := bnd a fun x => bnd b fun y => lft (zip? x y)
theorem zipP_get {xs ys : List PyData} {i : Nat} {d : PyData} (h : (zipP xs ys)[i]? = some d) : ∃ x y, xs[i]? = some x ∧ ys[i]? = some y ∧ d = .tuple [x, y] := by
  unfold zipP at h
  rw [List.getElem?_map] at h
  cases e : (xs.zip ys)[i]? with
  | none => rw [e] at h; cases h
  | some p =>
    rw [e] at h
    cases h
    obtain ⟨h1, h2⟩ := List.getElem?_zip_eq_some.mp e
    exact ⟨_, _, h1, h2, rfl⟩
theorem pair_new {K : PySem.W.Frag} {fz' : Addr → Prop} {H' : Hp} {T : Addr} {v w : V} {x y : PyData} (hf : ∀ a, fz' a → H' a ≠ none) (hT : H' T = none) (r1 : Rep K fz' H' v x) (r2 : Rep K fz' H' w y) :
    ∃ fz'', Alc fz' H' fz'' (upd H' T (.tup [v, w])) ∧ Rep K fz'' (upd H' T (.tup [v, w])) (.ref T) (.tuple [x, y]) :=
  ⟨_, Alc.one hT, .tup (.inl ⟨.inr rfl, .inl upd_same⟩) (RepA.ext ((Alc.one hT).ext hf) (.cons r1 (.cons r2 .nil)))⟩
theorem rep_sq {K : PySem.W.Frag} {fz : Addr → Prop} {H : Hp} {v : V} {d : PyData} {xs : List PyData} (r : Rep K fz H v d) (h : seq? d = some xs) :
    ∃ (u : Bool) (a : Addr) (vs : List V), v = .ref a ∧ RepA K fz H vs xs ∧ ∀ (fz' : Addr → Prop) (H' : Hp), Ext fz H fz' H' → SqU K u H' a vs := by
  cases r with
  | @lst a vs ds hf hH ra => cases h; exact ⟨false, a, vs, rfl, ra, fun fz' H' E => SqL.of ((E.keep a hf).trans hH)⟩
  | @tup a vs ds hH ra => cases h; exact ⟨true, a, vs, rfl, ra, fun fz' H' E => FzT.sq (fz := fz') (hH.imp (fun z => ⟨E.mono _ z.1, Rd.ext z.2 (E.keep _ z.1)⟩) id)⟩
  | _ => cases h
theorem rf_zip (h : Rf c (RV c.K) ta ma) (h2 : Rf c (RV c.K) tb mb) : Rf c (RIt c.K) (iZipX c.K (tCons ta (tCons tb tNil))) (mzip ma mb) := by
  intro pp pr fz σ H ρ Q hp R hq
  refine h pp pr fz σ H ρ _ hp R (hq.bnd fun v x fz1 H1 ρ1 F1 R1 r1 P1 => ?_)
  refine h2 pp pr fz1 σ H1 ρ1 _ hp R1 (P1.bnd fun w y fz2 H2 ρ2 F2 R2 r2 P2 => ?_)
  obtain ⟨z, e, P3⟩ := lftB_post P2
  have r1 : Rep c.K fz2 H2 v x := Rep.ext F2.ext r1
  unfold zip? at e
  cases ex : seq? x with
  | none => rw [ex] at e; cases e
  | some xs =>
    cases ey : seq? y with
    | none => rw [ex, ey] at e; cases e
    | some ys =>
      rw [ex, ey] at e
      cases e
      obtain ⟨u1, a, vs, rfl, ra, sa⟩ := rep_sq r1 ex
      obtain ⟨u2, b, ws, rfl, rb, sb⟩ := rep_sq r2 ey
      have E0 : Ext fz2 H2 fz2 H2 := ⟨fun _ z => z, fun _ _ => rfl⟩
      refine ⟨u1, u2, a, b, vs, ws, rfl, sa _ _ E0, sb _ _ E0, ok_post P3 R2 ?_⟩
      intro fz' H' E hff i
      have e1 := sa _ _ E
      have e2 := sb _ _ E
      refine ⟨fun d hd => ?_, fun hl => ⟨vs, ws, e1, e2, ?_⟩⟩
      · obtain ⟨x, y, hx, hy, rfl⟩ := zipP_get hd
        obtain ⟨v, hv, rv⟩ := ra.get hx
        obtain ⟨w, hw, rw'⟩ := rb.get hy
        refine ⟨⟨vs, ws, v, w, e1, e2, hv, hw⟩, fun u H'' hu => ?_⟩
        obtain ⟨T, x1, x2, rfl, hT, rfl, f1, f2⟩ := hu
        have q1 := f1 _ e1
        have q2 := f2 _ e2
        rw [hv] at q1
        rw [hw] at q2
        cases q1
        cases q2
        exact pair_new hff hT (rv.ext E) (rw'.ext E)
      · unfold zipP at hl
        rw [List.length_map, List.length_zip] at hl
        rw [ra.length, rb.length]
        omega
def enumP (xs : List PyData) : List PyData := xs.mapIdx fun (i : Nat) x => .tuple [.int i, x]
def enum? : PyData → Option (List PyData)
  | .list xs => some (enumP xs)
  | _ => none
def menum (a : M PyData) : M (List PyData) := bnd a fun x => lft (enum? x)
theorem rf_enum (h : Rf c (RV c.K) ta ma) : Rf c (RIt c.K) (iEnum c.K (tCons ta tNil)) (menum ma) := by
  intro pp pr fz σ H ρ Q hp R hq
  refine h pp pr fz σ H ρ _ hp R (hq.bnd fun v x fz1 H1 ρ1 F1 R1 r1 P1 => ?_)
  obtain ⟨z, e, P1⟩ := lftB_post P1
  cases x <;> first | (cases e; done) | skip
  rename_i xs
  cases e
  cases r1 with
  | @lst a vs _ hf hH ra =>
    refine ⟨a, vs, rfl, SqL.of hH, ok_post P1 R1 ?_⟩
    intro fz' H' E hff i
    have e1 : H' a = some (.lst vs) := (E.keep a hf).trans hH
    refine ⟨fun d hd => ?_, fun hl => ⟨vs, SqL.of e1, ?_⟩⟩
    · unfold enumP at hd
      rw [List.getElem?_mapIdx] at hd
      cases e : xs[i]? with
      | none => rw [e] at hd; cases hd
      | some x =>
        rw [e] at hd
        cases hd
        obtain ⟨v, hv, rv⟩ := ra.get e
        refine ⟨⟨vs, v, SqL.of e1, hv⟩, fun u H'' hu => ?_⟩
        obtain ⟨T, x1, rfl, hT, rfl, f1⟩ := hu
        have q1 := f1 _ (SqL.of e1)
        rw [hv] at q1
        cases q1
        exact pair_new hff hT (.int _) (rv.ext E)
    · unfold enumP at hl
      rw [List.length_mapIdx] at hl
      rw [ra.length]; exact hl

/-! ### targets -/
abbrev Asg := PyData → Env → Option Env
def RfG (c : Cw) (ts : List Nat) (g : TG) (a : Asg) : Prop :=
  ∀ (pp : List (Nat × Addr)) (pr fz : Addr → Prop) (σ : L2.St) (H : Hp) (ρ ρ' : Env) (v : V) (d : PyData) (Q : L2.St → Hp → Prop), pp.map (·.1) = c.ps → Rel c.K pp pr fz σ H ρ → Rep c.K fz H v d → a d ρ = some ρ' →
    (∀ σ', Rel c.K pp pr fz σ' H ρ' → σ'.length = σ.length → (∀ i : Nat, i ∉ ts → σ'[i]? = σ[i]?) → Q σ' H) → g v σ H Q
def RfGs (c : Cw) (ts : List Nat) (g : TGs) (a : List PyData → Env → Option Env) : Prop :=
  ∀ (pp : List (Nat × Addr)) (pr fz : Addr → Prop) (σ : L2.St) (H : Hp) (ρ ρ' : Env) (v : List V) (d : List PyData) (Q : L2.St → Hp → Prop), pp.map (·.1) = c.ps → Rel c.K pp pr fz σ H ρ → RepA c.K fz H v d → a d ρ = some ρ' →
    (∀ σ', Rel c.K pp pr fz σ' H ρ' → σ'.length = σ.length → (∀ i : Nat, i ∉ ts → σ'[i]? = σ[i]?) → Q σ' H) → g v σ H Q
def aname (i : Nat) : Asg := fun d ρ => some (ρ.set i (.val d))
def agnil : List PyData → Env → Option Env := fun ds ρ => match ds with
  | [] => some ρ
  | _ => none
def agcons (a : Asg) (r : List PyData → Env → Option Env) : List PyData → Env → Option Env := fun ds ρ => match ds with
  | d :: ds => (a d ρ).bind fun ρ' => r ds ρ'
  | [] => none
def atup (n : Nat) (a : List PyData → Env → Option Env) : Asg := fun d ρ => match d with
  | .tuple ds => if ds.length = n then a ds ρ else none
  | _ => none
theorem rg_name {i : Nat} (hi : i ∉ c.ps) : RfG c [i] (gName i) (aname i) := by
  intro pp pr fz σ H ρ ρ' v d Q hp R r e q
  cases e
  refine q _ (R.setV r (by rw [hp]; exact hi)) (by simp) fun j hj => ?_
  have : i ≠ j := fun z => hj (by rw [z]; exact List.mem_singleton.mpr rfl)
  rw [List.getElem?_set_ne this]
theorem rgs_nil : RfGs c [] gNil agnil := by
  intro pp pr fz σ H ρ ρ' v d Q hp R r e q
  cases r with
  | nil => cases e; exact ⟨rfl, q σ R rfl fun _ _ => rfl⟩
  | cons _ _ => cases e
theorem rgs_cons {ts us : List Nat} {g : TG} {gs : TGs} {a : Asg} {as : List PyData → Env → Option Env} (h : RfG c ts g a) (hs : RfGs c us gs as) : RfGs c (ts ++ us) (gCons g gs) (agcons a as) := by
  intro pp pr fz σ H ρ ρ' v d Q hp R r e q
  cases r with
  | nil => cases e
  | cons r rr =>
    rename_i v vs d ds
    simp only [agcons] at e
    cases e1 : a d ρ with
    | none => rw [e1] at e; cases e
    | some ρ1 =>
      rw [e1] at e
      refine ⟨v, vs, rfl, h pp pr fz σ H ρ ρ1 v d _ hp R r e1 fun σ1 R1 l1 k1 => ?_⟩
      refine hs pp pr fz σ1 H ρ1 ρ' vs ds Q hp R1 rr e fun σ2 R2 l2 k2 => q σ2 R2 (l2.trans l1) fun i hi => ?_
      rw [List.mem_append, not_or] at hi
      exact (k2 i hi.2).trans (k1 i hi.1)
theorem rg_tup {ts : List Nat} {n : Nat} {gs : TGs} {as : List PyData → Env → Option Env} (hs : RfGs c ts gs as) : RfG c ts (gTup c.K n gs) (atup n as) := by
  intro pp pr fz σ H ρ ρ' v d Q hp R r e q
  cases d <;> first | (cases e; done) | skip
  rename_i ds
  simp only [atup] at e
  split at e
  · rename_i hn
    cases r with
    | tup hH ra =>
      exact ⟨_, _, rfl, hH.sq, by rw [ra.length]; exact hn, hs pp pr fz σ H ρ ρ' _ ds Q hp R ra e q⟩
  · cases e
end
end PL

/-! PL6: list comprehensions. -/
namespace PL
open PySem PySem.Spec L2
open PyProof.Rows hiding St

def wipeE (ρ : Env) : List Nat → Env
  | [] => ρ
  | v :: vs => (wipeE ρ vs).set v .emp
def unw (ρ0 ρ : Env) : List Nat → Env
  | [] => ρ
  | v :: vs => match ρ0[v]? with
    | some (.val d) => (unw ρ0 ρ vs).set v (.val d)
    | _ => unw ρ0 ρ vs
theorem wipe_at {σ : L2.St} {i : Nat} : ∀ {vs : List Nat}, i ∈ vs → (wipe σ vs)[i]? = if i < σ.length then some none else none
  | v :: vs, h => by
    unfold wipe
    by_cases hv : v = i
    · subst hv
      rw [List.getElem?_set]
      simp [wipe_length]
    · rw [List.getElem?_set_ne hv]
      exact wipe_at ((List.mem_cons.mp h).resolve_left (Ne.symm hv))
theorem wipe_congr {σ σ2 : L2.St} {vs : List Nat} (hl : σ2.length = σ.length) (h : ∀ i : Nat, i ∉ vs → σ2[i]? = σ[i]?) : wipe σ2 vs = wipe σ vs := by
  apply List.ext_getElem?
  intro j
  by_cases hj : j ∈ vs
  · rw [wipe_at hj, wipe_at hj, hl]
  · rw [wipe_out hj, wipe_out hj]; exact h j hj
theorem unw_length {ρ0 ρ : Env} : ∀ {vs : List Nat}, (unw ρ0 ρ vs).length = ρ.length
  | [] => rfl
  | v :: vs => by
    unfold unw
    split
    · rw [List.length_set]; exact unw_length
    · exact unw_length
theorem unw_out {ρ0 ρ : Env} {i : Nat} : ∀ {vs : List Nat}, i ∉ vs → (unw ρ0 ρ vs)[i]? = ρ[i]?
  | [], _ => rfl
  | v :: vs, h => by
    have h1 : v ≠ i := fun e => h (by rw [e]; exact List.mem_cons_self)
    have h2 : i ∉ vs := fun m => h (List.mem_cons_of_mem _ m)
    unfold unw
    split
    · rw [List.getElem?_set_ne h1]; exact unw_out h2
    · exact unw_out h2
theorem unw_at {ρ0 ρ : Env} {i : Nat} {s : Sl} : ∀ {vs : List Nat}, (unw ρ0 ρ vs)[i]? = some s → ρ[i]? = some s ∨ ∃ d, s = .val d ∧ ρ0[i]? = some (.val d)
  | [], h => .inl h
  | v :: vs, h => by
    unfold unw at h
    split at h
    · rename_i d hd
      by_cases hv : v = i
      · subst hv
        rw [List.getElem?_set] at h
        simp only [if_true] at h
        split at h
        · cases h; exact .inr ⟨d, rfl, hd⟩
        · cases h
      · rw [List.getElem?_set_ne hv] at h
        exact unw_at h
    · exact unw_at h
section
variable {K : PySem.W.Frag} {pp : List (Nat × Addr)} {pr fz fz' : Addr → Prop} {σ : L2.St} {H H' : Hp} {ρ ρ' : Env}
theorem Rel.setEmp {i : Nat} (R : Rel K pp pr fz σ H ρ) (hi : i ∉ pp.map (·.1)) (o : Option V) : Rel K pp pr fz (σ.set i o) H (ρ.set i .emp) := by
  have back : ∀ (j : Nat) (x : PyData), (ρ.set i .emp)[j]? = some (Sl.own x) → ρ[j]? = some (.own x) ∧ j ≠ i := fun j x e => by
    by_cases h : j = i
    · subst h
      rw [List.getElem?_set] at e
      simp at e
    · rw [List.getElem?_set_ne (Ne.symm h)] at e
      exact ⟨e, h⟩
  refine ⟨by simpa using R.len, fun j s e => ?_, fun j k b x y e1 e2 s1 s2 => ?_, R.fzH, R.prH, fun p hp => ?_⟩
  · by_cases h : j = i
    · subst h
      have hl : j < ρ.length := by
        have := (List.getElem?_eq_some_iff.mp e).1
        simpa using this
      rw [List.getElem?_set_self hl] at e
      cases e
      trivial
    · rw [List.getElem?_set_ne (Ne.symm h)] at e ⊢
      exact R.at_ j s e
  · obtain ⟨e1, n1⟩ := back j x e1
    obtain ⟨e2, n2⟩ := back k y e2
    rw [List.getElem?_set_ne (Ne.symm n1)] at s1
    rw [List.getElem?_set_ne (Ne.symm n2)] at s2
    exact R.sep j k b x y e1 e2 s1 s2
  · have h : p.1 ≠ i := fun z => hi (z ▸ List.mem_map_of_mem hp)
    rw [List.getElem?_set_ne (Ne.symm h), List.getElem?_set_ne (Ne.symm h)]
    exact R.pin p hp
theorem Rel.wipe (R : Rel K pp pr fz σ H ρ) : ∀ {vs : List Nat}, (∀ i ∈ vs, i ∉ pp.map (·.1)) → Rel K pp pr fz (L2.wipe σ vs) H (wipeE ρ vs)
  | [], _ => R
  | v :: vs, h => (Rel.wipe R fun i hi => h i (List.mem_cons_of_mem _ hi)).setEmp (h v List.mem_cons_self) none
/-- a wider, a narrower protection -/
theorem Rel.wide {D : Addr} (R : Rel K pp pr fz σ H ρ) (hD : H D ≠ none) (hs : ∀ (i : Nat) (x : PyData), ρ[i]? = some (.own x) → σ[i]? ≠ some (some (V.ref D))) : Rel K pp (fun a => pr a ∨ a = D) fz σ H ρ := by
  refine ⟨R.len, fun i s e => ?_, R.sep, R.fzH, fun a h => h.elim (R.prH a) fun e => by rw [e]; exact hD, R.pin⟩
  have q := R.at_ i s e
  cases s with
  | own d =>
    obtain ⟨a, h, n, np, r⟩ := q
    refine ⟨a, h, n, fun z => z.elim np fun z => ?_, r⟩
    subst z
    exact hs i d e (join_some.mp h)
  | _ => exact q
theorem Rel.narrow {pr' : Addr → Prop} (R : Rel K pp pr' fz σ H ρ) (h : ∀ a, pr a → pr' a) : Rel K pp pr fz σ H ρ := by
  refine ⟨R.len, fun i s e => ?_, R.sep, R.fzH, fun a z => R.prH a (h a z), R.pin⟩
  have q := R.at_ i s e
  cases s with
  | own d =>
    obtain ⟨a, h', n, np, r⟩ := q
    exact ⟨a, h', n, fun z => np (h a z), r⟩
  | _ => exact q
theorem Fr.narrow {pr' : Addr → Prop} (F : Fr pr' fz H fz' H') (h : ∀ a, pr a → pr' a) : Fr pr fz H fz' H' := ⟨F.mono, F.keep, fun a z => F.keepP a (h a z), fun a z => F.new a (h a z)⟩
/-- an object that no slot holds is changed -/
theorem Rel.other {D : Addr} {o : HO} (R : Rel K pp pr fz σ H ρ) (hf : ¬ fz D) (hs : ∀ (i : Nat) (x : PyData), ρ[i]? = some (.own x) → σ[i]? ≠ some (some (V.ref D))) : Rel K pp pr fz σ (upd H D o) ρ := by
  have E : Ext fz H fz (upd H D o) := ⟨fun _ z => z, fun a z => upd_ne fun q => hf (q ▸ z)⟩
  have there : ∀ a, H a ≠ none → upd H D o a ≠ none := fun a z => by
    by_cases h : a = D
    · rw [h, upd_same]; simp
    · rw [upd_ne h]; exact z
  refine ⟨R.len, fun i s e => ?_, R.sep, fun a z => there a (R.fzH a z), fun a z => there a (R.prH a z), R.pin⟩
  have q := R.at_ i s e
  cases s with
  | emp => trivial
  | val d => obtain ⟨v, h, r⟩ := q; exact ⟨v, h, r.ext E⟩
  | scr ns => obtain ⟨v, h, r⟩ := q; exact ⟨v, h, r.ext E⟩
  | own d =>
    obtain ⟨a, h, n, np, r⟩ := q
    refine ⟨a, h, n, np, r.ext E (upd_ne fun z => ?_)⟩
    subst z
    exact hs i d e (join_some.mp h)
/-- back from the block -/
theorem Rel.unw {vs : List Nat} (R0 : Rel K pp pr fz σ H ρ) (R : Rel K pp pr fz' (L2.wipe σ vs) H' ρ') (F : Fr pr fz H fz' H') (hv : ∀ i ∈ vs, i ∉ pp.map (·.1)) : Rel K pp pr fz' σ H' (PL.unw ρ ρ' vs) := by
  have emp : ∀ (i : Nat) (s : Sl), i ∈ vs → ρ'[i]? = some s → s = .emp := fun i s hi e => by
    have q := R.at_ i s e
    rw [wipe_at hi] at q
    have hn : (if i < σ.length then some none else none : Option (Option V)).join = none := by split <;> rfl
    rw [hn] at q
    cases s with
    | emp => rfl
    | val d => obtain ⟨v, h, _⟩ := q; cases h
    | own d => obtain ⟨v, h, _⟩ := q; cases h
    | scr d => obtain ⟨v, h, _⟩ := q; cases h
  have own : ∀ (i : Nat) (x : PyData), (PL.unw ρ ρ' vs)[i]? = some (.own x) → ρ'[i]? = some (.own x) ∧ i ∉ vs := fun i x e => by
    rcases unw_at e with h | ⟨d, h, _⟩
    · exact ⟨h, fun z => by cases emp i _ z h⟩
    · cases h
  refine ⟨by rw [unw_length, ← R.len, wipe_length], fun i s e => ?_, fun i j a x y e1 e2 s1 s2 => ?_, R.fzH, R.prH, fun p hp => ?_⟩
  · by_cases hi : i ∈ vs
    · rcases unw_at e with h | ⟨d, rfl, h⟩
      · rw [emp i s hi h]; trivial
      · obtain ⟨v, hv', r⟩ := R0.at_ i _ h
        exact ⟨v, hv', r.ext F.ext⟩
    · rw [unw_out hi] at e
      have q := R.at_ i s e
      rw [wipe_out hi] at q
      exact q
  · obtain ⟨e1, n1⟩ := own i x e1
    obtain ⟨e2, n2⟩ := own j y e2
    exact R.sep i j a x y e1 e2 (by rw [wipe_out n1]; exact s1) (by rw [wipe_out n2]; exact s2)
  · have hn : p.1 ∉ vs := fun z => hv p.1 z (List.mem_map_of_mem hp)
    obtain ⟨x, e, s⟩ := R.pin p hp
    rw [wipe_out hn] at s
    exact ⟨x, by rw [unw_out hn]; exact e, s⟩
end

def compL (asg : Asg) (test : M Bool) (elt : M PyData) (vs : List Nat) : List PyData → Env → List PyData → Out PyData
  | [], ρ, acc => .ok (.list acc) ρ
  | d :: r, ρ, acc => match asg d ρ with
    | none => .bad
    | some ρ1 => match test ρ1 with
      | .ok b ρ2 => if b = true then match elt ρ2 with
          | .ok y ρ3 => if lenOk (acc.length + 1) = true then compL asg test elt vs r (wipeE ρ3 vs) (acc ++ [y]) else .bad
          | _ => .bad
        else compL asg test elt vs r (wipeE ρ2 vs) acc
      | _ => .bad
def mlc (items : M (List PyData)) (asg : Asg) (test : M Bool) (elt : M PyData) (vs : List Nat) : M PyData := bnd items fun ds ρ => match compL asg test elt vs ds (wipeE ρ vs) [] with
  | .ok d ρ' => .ok d (unw ρ ρ' vs)
  | _ => .bad
abbrev Cw.calm0 (c : Cw) : Cw := { c with W := fun _ _ _ _ => False }
def myes : M Bool := fun ρ => .ok true ρ
section
variable {c : Cw} {wi : TI} {g : TG} {tt : TT} {te : TE} {items : M (List PyData)} {asg : Asg} {test : M Bool} {elt : M PyData} {vs ts : List Nat}
theorem rf_yes : Rf c RB tYes myes := fun pp pr fz σ H ρ Q hp R hq => ok_post hq R rfl
theorem rf_lc (hi : Rf c (RIt c.K) wi items) (hg : RfG c.calm0 ts g asg) (ht : Rf c.calm0 RB tt test) (he : Rf c.calm0 (RV c.K) te elt) (hts : ∀ i ∈ ts, i ∈ vs) (hvs : ∀ i ∈ vs, i ∉ c.ps) :
    Rf c (RO c.K) (tLc wi g tt te vs) (mlc items asg test elt vs) := by
  intro pp pr fz σ H ρ Q hp R hq
  refine hi pp pr fz σ H ρ _ hp R (hq.bnd fun J ds fz1 H1 ρ1 F1 R1 J1 P1 D hD => ?_)
  cases eo : compL asg test elt vs ds (wipeE ρ1 vs) [] with
  | bad => rw [eo] at P1; exact P1.elim
  | exc x r => rw [eo] at P1; exact P1.elim
  | ok dF ρF =>
  rw [eo] at P1
  have hvp : ∀ i ∈ vs, i ∉ pp.map (·.1) := fun i h => by rw [hp]; exact hvs i h
  have nD : ¬ fz1 D := fun z => R1.fzH D z hD
  have npD : ¬ pr D := fun z => R1.prH D z hD
  let prD : Addr → Prop := fun a => pr a ∨ a = D
  let W : Nat → Nat → Hp → Prop := fun i m H2 => m = ds.length - i ∧ i ≤ ds.length ∧ ∃ (fz2 : Addr → Prop) (ρ2 : Env) (acc : List PyData) (vacc : List V), Fr pr fz1 H1 fz2 H2 ∧ Rel c.K pp prD fz2 (wipe σ vs) H2 ρ2 ∧ ¬ fz2 D ∧ H2 D = some (.lst vacc) ∧ RepA c.K fz2 H2 vacc acc ∧
    compL asg test elt vs (ds.drop i) ρ2 acc = .ok dF ρF
  refine ⟨W, ⟨_, rfl, Nat.zero_le _, fz1, wipeE ρ1 vs, [], [], ?_, ?_, nD, upd_same, .nil, by rw [List.drop_zero]; exact eo⟩, fun i m H2 hW => ?_⟩
  · exact ⟨fun _ z => z, fun a z => upd_ne fun q => nD (q ▸ z), fun a z => upd_ne fun q => npD (q ▸ z), fun _ _ z => z⟩
  · have Rw := R1.wipe hvp
    have ns : ∀ (i : Nat) (x : PyData), (wipeE ρ1 vs)[i]? = some (.own x) → (wipe σ vs)[i]? ≠ some (some (V.ref D)) := fun i x e z => by
      obtain ⟨a, s, _, _, o⟩ := Rw.own_ne e
      rw [z] at s
      cases s
      exact o.some hD
    exact (Rw.other nD ns).wide (by rw [upd_same]; simp) ns
  · obtain ⟨rfl, hil, fz2, ρ2, acc, vacc, F2, R2, nf2, hD2, ra, ec⟩ := hW
    have nown : ∀ {fz3 : Addr → Prop} {σ3 : L2.St} {H3 : Hp} {ρ3 : Env}, Rel c.K pp prD fz3 σ3 H3 ρ3 → ∀ (i : Nat) (x : PyData), ρ3[i]? = some (.own x) → σ3[i]? ≠ some (some (V.ref D)) := fun R3 i x e z => by
      obtain ⟨a, s, _, np, o⟩ := R3.own_ne e
      rw [z] at s
      cases s
      exact np (.inr rfl)
    by_cases hlt : i < ds.length
    · obtain ⟨go, yld⟩ := (J1 fz2 H2 F2.ext R2.fzH i).1 ds[i] (List.getElem?_eq_getElem hlt)
      rw [List.drop_eq_getElem_cons hlt] at ec
      unfold compL at ec
      refine .inr ⟨go, W (i + 1) (ds.length - (i + 1)), fun H' h => ⟨_, by omega, h⟩, fun x H3 hx => ?_⟩
      obtain ⟨fz3, A3, r3⟩ := yld x H3 hx
      have R3 := A3.rel R2
      have F3 := A3.fr R2
      cases ea : asg ds[i] ρ2 with
      | none => rw [ea] at ec; cases ec
      | some ρ3 =>
        simp only [ea] at ec
        refine hg pp prD fz3 (wipe σ vs) H3 ρ2 ρ3 x ds[i] _ hp R3 r3 ea fun σ4 R4 l4 k4 => ?_
        have w4 : wipe σ4 vs = wipe σ vs := wipe_congr (l4.trans (wipe_length σ vs)) fun j hj => (k4 j fun z => hj (hts j z)).trans (wipe_out hj)
        refine ⟨w4, ?_⟩
        cases et : test ρ3 with
        | bad => simp only [et] at ec; cases ec
        | exc x r => simp only [et] at ec; cases ec
        | ok b ρ5 =>
          simp only [et] at ec
          refine ht pp prD fz3 σ4 H3 ρ3 _ hp R4 ?_
          rw [et]
          intro b' fz5 H5 F5 R5 hb
          obtain rfl : b' = b := hb
          cases b' with
          | false =>
            rw [if_neg (by simp)] at ec ⊢
            have R6 := R5.wipe hvp
            rw [w4] at R6
            refine ⟨rfl, hlt, fz5, _, acc, vacc, F2.trans ((F3.trans F5).narrow fun a z => .inl z), R6, fun z => nf2 (F3.new D (.inr rfl) (F5.new D (.inr rfl) z)), ?_, RepA.ext F5.ext (RepA.ext F3.ext ra), ec⟩
            rw [F5.keepP D (.inr rfl), F3.keepP D (.inr rfl)]; exact hD2
          | true =>
            rw [if_pos rfl] at ec ⊢
            cases ee : elt ρ5 with
            | bad => simp only [ee] at ec; cases ec
            | exc x r => simp only [ee] at ec; cases ec
            | ok y ρ6 =>
              simp only [ee] at ec
              split at ec
              · rename_i hlen
                refine he pp prD fz5 σ4 H5 ρ5 _ hp R5 ?_
                rw [ee]
                intro w fz6 H6 F6 R6 rw6
                have hD6 : H6 D = some (.lst vacc) := by rw [F6.keepP D (.inr rfl), F5.keepP D (.inr rfl), F3.keepP D (.inr rfl)]; exact hD2
                have nf6 : ¬ fz6 D := fun z => nf2 (F3.new D (.inr rfl) (F5.new D (.inr rfl) (F6.new D (.inr rfl) z)))
                have ra6 := RepA.ext F6.ext (RepA.ext F5.ext (RepA.ext F3.ext ra))
                have R7 := R6.wipe hvp
                rw [w4] at R7
                have E7 : Ext fz6 H6 fz6 (upd H6 D (.lst (vacc ++ [w]))) := ⟨fun _ z => z, fun a z => upd_ne fun q => nf6 (q ▸ z)⟩
                refine ⟨vacc, hD6, ?_, rfl, hlt, fz6, _, acc ++ [y], vacc ++ [w], ?_, R7.other nf6 (nown R7), nf6, upd_same, RepA.ext E7 (ra6.append (.cons rw6 .nil)), ec⟩
                · rw [ra6.length]
                  have := lenOk_iff.mp hlen
                  omega
                · have F := F2.trans (((F3.trans F5).trans F6).narrow fun a z => Or.inl z)
                  exact ⟨F.mono, fun a z => (upd_ne fun q => nf6 (by rw [← q]; exact F.mono a z)).trans (F.keep a z), fun a z => (upd_ne fun q => npD (by rw [← q]; exact z)).trans (F.keepP a z), F.new⟩
              · cases ec
    · have e : i = ds.length := by omega
      subst e
      rw [List.drop_length] at ec
      unfold compL at ec
      obtain ⟨rfl, rfl⟩ : PyData.list acc = dF ∧ ρ2 = ρF := by cases ec; exact ⟨rfl, rfl⟩
      refine .inl ⟨(J1 fz2 H2 F2.ext R2.fzH _).2 (Nat.le_refl _), ?_⟩
      have Rn : Rel c.K pp pr fz2 (wipe σ vs) H2 ρ2 := R2.narrow fun a z => .inl z
      have Ru := R1.unw Rn F2 hvp
      refine P1 (.ref D) fz2 H2 F2 Ru ⟨D, rfl, nf2, npD, fun i x e z => ?_, vacc, hD2, ra⟩
      obtain ⟨a, s, nfa, npa, o⟩ := Ru.own_ne e
      rcases unw_at e with h | ⟨d, h, _⟩
      · by_cases hi : i ∈ vs
        · have q := R2.at_ i _ h
          rw [wipe_at hi] at q
          obtain ⟨v, hv, _⟩ := q
          split at hv <;> cases hv
        · exact nown R2 i x h (by rw [wipe_out hi]; exact z)
      · cases h
end
end PL

/-! PL7: statements. -/
namespace PL
open PySem PySem.Spec L2
open PyProof.Rows hiding St

inductive Rt where
  | v (d : PyData) | o (d : PyData)
inductive SOut where
  | nx (r : Env) | rt (a : Rt) (r : Env) | bk (r : Env) | ct (r : Env) | exc (e : PExc) (r : Env) | bad
abbrev SM := Env → SOut
def PostS (c : Cw) (pp : List (Nat × Addr)) (pr fz : Addr → Prop) (H : Hp) (o : SOut) (D : Ends) : Prop :=
  match o with
  | .nx ρ => ∀ (σ' : L2.St) (fz' : Addr → Prop) (H' : Hp), Fr pr fz H fz' H' → Rel c.K pp pr fz' σ' H' ρ → D.nx σ' H'
  | .bk ρ => ∀ (σ' : L2.St) (fz' : Addr → Prop) (H' : Hp), Fr pr fz H fz' H' → Rel c.K pp pr fz' σ' H' ρ → D.bk σ' H'
  | .ct ρ => ∀ (σ' : L2.St) (fz' : Addr → Prop) (H' : Hp), Fr pr fz H fz' H' → Rel c.K pp pr fz' σ' H' ρ → D.ct σ' H'
  | .rt (.v d) ρ => ∀ (v : V) (σ' : L2.St) (fz' : Addr → Prop) (H' : Hp), Fr pr fz H fz' H' → Rel c.K pp pr fz' σ' H' ρ → Rep c.K fz' H' v d → D.rt v H'
  | .rt (.o d) ρ => ∀ (v : V) (σ' : L2.St) (fz' : Addr → Prop) (H' : Hp), Fr pr fz H fz' H' → Rel c.K pp pr fz' σ' H' ρ → RO c.K pr σ' fz' H' ρ v d → D.rt v H'
  | .exc e ρ => ∀ (cls : Value) (dx : Option Addr) (σ' : L2.St) (fz' : Addr → Prop) (H' : Hp), Fr pr fz H fz' H' → Rel c.K pp pr fz' σ' H' ρ → c.RX fz' H' cls dx e → c.W cls dx σ' H'
  | .bad => False
def RfS (c : Cw) (t : TS) (m : SM) : Prop :=
  ∀ (pp : List (Nat × Addr)) (pr fz : Addr → Prop) (σ : L2.St) (H : Hp) (ρ : Env) (D : Ends), pp.map (·.1) = c.ps → Rel c.K pp pr fz σ H ρ → PostS c pp pr fz H (m ρ) D → t D σ H
section
variable {c : Cw} {pp : List (Nat × Addr)} {pr fz : Addr → Prop} {σ : L2.St} {H : Hp} {ρ : Env}
theorem PostS.rest {fz1 : Addr → Prop} {H1 : Hp} {o : SOut} {D : Ends} (F : Fr pr fz H fz1 H1) (h : PostS c pp pr fz H o D) : PostS c pp pr fz1 H1 o D := by
  cases o with
  | nx r => exact fun σ' fz' H' F' => h σ' fz' H' (F.trans F')
  | bk r => exact fun σ' fz' H' F' => h σ' fz' H' (F.trans F')
  | ct r => exact fun σ' fz' H' F' => h σ' fz' H' (F.trans F')
  | rt a r => cases a <;> exact fun v σ' fz' H' F' => h v σ' fz' H' (F.trans F')
  | exc e r => exact fun cls dx σ' fz' H' F' => h cls dx σ' fz' H' (F.trans F')
  | bad => exact h
/-- an expression within a statement -/
def sbnd {α : Type} (m : M α) (f : α → SM) : SM := fun ρ => match m ρ with
  | .ok a r => f a r
  | .exc e r => .exc e r
  | .bad => .bad
theorem PostS.bnd {α β : Type} {R1 : RT α β} {m : M α} {f : α → SM} {D : Ends} {Q1 : β → Hp → Prop} (h : PostS c pp pr fz H (sbnd m f ρ) D)
    (k : ∀ (b : β) (a : α) (fz1 : Addr → Prop) (H1 : Hp) (ρ1 : Env), Fr pr fz H fz1 H1 → Rel c.K pp pr fz1 σ H1 ρ1 → R1 pr σ fz1 H1 ρ1 b a → PostS c pp pr fz1 H1 (f a ρ1) D → Q1 b H1) : PostG c pp pr σ R1 fz H (m ρ) Q1 := by
  unfold sbnd at h
  cases e : m ρ with
  | ok a r =>
    rw [e] at h
    exact fun b fz1 H1 F R q => k b a fz1 H1 r F R q (h.rest F)
  | exc x r => rw [e] at h; exact fun cls dx fz1 H1 F R q => h cls dx σ fz1 H1 F R q
  | bad => rw [e] at h; exact h.elim
def slft {α : Type} (o : Option α) (f : α → SOut) : SOut := match o with
  | some a => f a
  | none => .bad
variable {t u : TS} {ma mb : SM} {te : TE} {m : M PyData} {g : TG} {asg : Asg} {ts : List Nat}

def mnext : SM := fun ρ => .nx ρ
def mseq (a b : SM) : SM := fun ρ => match a ρ with
  | .nx r => b r
  | o => o
theorem rs_next : RfS c tNext mnext := fun pp pr fz σ H ρ D hp R h => h σ fz H Fr.refl R
theorem rs_seq (h1 : RfS c t ma) (h2 : RfS c u mb) : RfS c (tSeq t u) (mseq ma mb) := by
  intro pp pr fz σ H ρ D hp R hq
  refine h1 pp pr fz σ H ρ { D with nx := u D } hp R ?_
  unfold mseq at hq
  cases e : ma ρ with
  | nx r =>
    rw [e] at hq
    exact fun σ' fz' H' F R' => h2 pp pr fz' σ' H' r D hp R' (PostS.rest F hq)
  | rt a r => rw [e] at hq; cases a <;> exact hq
  | bk r => rw [e] at hq; exact hq
  | ct r => rw [e] at hq; exact hq
  | exc x r => rw [e] at hq; exact hq
  | bad => rw [e] at hq; exact hq
def mbreak : SM := fun ρ => .bk ρ
def mcont : SM := fun ρ => .ct ρ
theorem rs_break : RfS c tBreak mbreak := fun pp pr fz σ H ρ D hp R h => h σ fz H Fr.refl R
theorem rs_cont : RfS c tCont mcont := fun pp pr fz σ H ρ D hp R h => h σ fz H Fr.refl R
def mexpr (e : M PyData) : SM := sbnd e fun _ r => .nx r
theorem rs_expr (h : Rf c (RV c.K) te m) : RfS c (tDrop te) (mexpr m) := by
  intro pp pr fz σ H ρ D hp R hq
  exact h pp pr fz σ H ρ _ hp R (hq.bnd fun v x fz1 H1 ρ1 F1 R1 r1 P1 => P1 σ fz1 H1 Fr.refl R1)
def mret (e : M PyData) : SM := sbnd e fun d r => .rt (.v d) r
def mretO (e : M PyData) : SM := sbnd e fun d r => .rt (.o d) r
theorem rs_ret (h : Rf c (RV c.K) te m) : RfS c (tRet te) (mret m) := by
  intro pp pr fz σ H ρ D hp R hq
  exact h pp pr fz σ H ρ _ hp R (hq.bnd fun v x fz1 H1 ρ1 F1 R1 r1 P1 => P1 v σ fz1 H1 Fr.refl R1 r1)
theorem rs_retO (h : Rf c (RO c.K) te m) : RfS c (tRet te) (mretO m) := by
  intro pp pr fz σ H ρ D hp R hq
  exact h pp pr fz σ H ρ _ hp R (hq.bnd fun v x fz1 H1 ρ1 F1 R1 r1 P1 => P1 v σ fz1 H1 Fr.refl R1 r1)
def mretN : SM := fun ρ => .rt (.v .none) ρ
theorem rs_retN : RfS c tRetN mretN := fun pp pr fz σ H ρ D hp R h => h .non σ fz H Fr.refl R .non
/-- a slot's own object is given away -/
def mtake (i : Nat) : M PyData := fun ρ => match ρ[i]? with
  | some (.own d) => .ok d (ρ.set i .emp)
  | _ => .bad
theorem rf_take {i : Nat} (hi : i ∉ c.ps) : Rf c (RO c.K) (tVar i) (mtake i) := by
  intro pp pr fz σ H ρ Q hp R hq
  unfold mtake at hq
  cases e : ρ[i]? with
  | none => rw [e] at hq; exact hq.elim
  | some s =>
    rw [e] at hq
    cases s with
    | own d =>
      obtain ⟨a, hs, nf, np, oc⟩ := R.own_ne e
      refine ⟨_, hs, ?_⟩
      have hil : i < σ.length := (List.getElem?_eq_some_iff.mp hs).1
      have R1 := R.setEmp (i := i) (by rw [hp]; exact hi) (some (V.ref a))
      have e1 : σ.set i (some (V.ref a)) = σ := by
        apply List.ext_getElem?
        intro j
        by_cases h : j = i
        · subst h
          rw [List.getElem?_set_self hil]
          exact hs.symm
        · rw [List.getElem?_set_ne (Ne.symm h)]
      rw [e1] at R1
      refine hq _ fz H Fr.refl R1 ⟨a, rfl, nf, np, fun j x ej sj => ?_, oc⟩
      by_cases h : j = i
      · subst h
        rw [List.getElem?_set] at ej
        simp at ej
      · rw [List.getElem?_set_ne (Ne.symm h)] at ej
        exact h (R.sep j i a x d ej e sj hs)
    | _ => exact hq.elim
/-- target = e -/
def massign (e : M PyData) (a : Asg) : SM := sbnd e fun d r => slft (a d r) .nx
theorem rs_assign (h : Rf c (RV c.K) te m) (hg : RfG c ts g asg) : RfS c (tAsg te g) (massign m asg) := by
  intro pp pr fz σ H ρ D hp R hq
  refine h pp pr fz σ H ρ _ hp R (hq.bnd fun v x fz1 H1 ρ1 F1 R1 r1 P1 => ?_)
  cases e : asg x ρ1 with
  | none => simp only [e, slft] at P1; exact P1.elim
  | some ρ2 =>
    simp only [e, slft] at P1
    exact hg pp pr fz1 σ H1 ρ1 ρ2 v x _ hp R1 r1 e fun σ' R' _ _ => P1 σ' fz1 H1 Fr.refl R'
/-- name = a new list or dict -/
def mown (e : M PyData) (i : Nat) : SM := sbnd e fun d r => .nx (r.set i (.own d))
theorem rs_own {i : Nat} (hi : i ∉ c.ps) (h : Rf c (RO c.K) te m) : RfS c (tAsg te (gName i)) (mown m i) := by
  intro pp pr fz σ H ρ D hp R hq
  refine h pp pr fz σ H ρ _ hp R (hq.bnd fun v x fz1 H1 ρ1 F1 R1 r1 P1 => ?_)
  obtain ⟨a, rfl, nf, np, ns, oc⟩ := r1
  exact P1 _ fz1 H1 Fr.refl (R1.setO nf np oc ns (by rw [hp]; exact hi))
/-- name op= e -/
def maug (f : PyData → PyData → Option PyData) (i : Nat) (e : M PyData) : SM := fun ρ => match ρ[i]? with
  | some (.val x) => sbnd e (fun y r => slft (f x y) fun z => .nx (r.set i (.val z))) ρ
  | _ => .bad
theorem rs_aug {r : R2} {f : PyData → PyData → Option PyData} {i : Nat} (hi : i ∉ c.ps) (ho : OpF c.K r f) (h : Rf c (RV c.K) te m) : RfS c (tAug i te r) (maug f i m) := by
  intro pp pr fz σ H ρ D hp R hq
  unfold maug at hq
  cases e : ρ[i]? with
  | none => rw [e] at hq; exact hq.elim
  | some s =>
    rw [e] at hq
    cases s with
    | val x =>
      obtain ⟨v, hv, rv⟩ := R.at_ i _ e
      refine ⟨v, join_some.mp hv, ?_⟩
      refine h pp pr fz σ H ρ _ hp R (PostS.bnd (f := fun y r => slft (f x y) fun z => .nx (r.set i (.val z))) hq fun w y fz1 H1 ρ1 F1 R1 r1 P1 => ?_)
      cases ez : f x y with
      | none => simp only [ez, slft] at P1; exact P1.elim
      | some z =>
        simp only [ez, slft] at P1
        refine ho fz1 H1 v w x y z (.inl (Rep.ext F1.ext rv)) (.inl r1) ez _ fun u fz2 H2 A r2 => ?_
        exact P1 _ fz2 H2 (A.fr R1) ((A.rel R1).setV (r2 R1.fzH) (by rw [hp]; exact hi))
    | _ => exact hq.elim
def mifS (k : M Bool) (a b : SM) : SM := sbnd k fun x => if x = true then a else b
theorem rs_if {tc : TT} {k : M Bool} (hk : Rf c RB tc k) (ha : RfS c t ma) (hb : RfS c u mb) : RfS c (tIfS tc t u) (mifS k ma mb) := by
  intro pp pr fz σ H ρ D hp R hq
  refine hk pp pr fz σ H ρ _ hp R (hq.bnd fun v x fz1 H1 ρ1 F1 R1 r1 P1 => ?_)
  obtain rfl : v = x := r1
  cases v with
  | true => exact ha pp pr fz1 σ H1 ρ1 D hp R1 P1
  | false => exact hb pp pr fz1 σ H1 ρ1 D hp R1 P1

/-! ### loops -/
def forL (asg : Asg) (body : SM) : List PyData → Env → SOut
  | [], ρ => .nx ρ
  | d :: r, ρ => match asg d ρ with
    | none => .bad
    | some ρ1 => match body ρ1 with
      | .nx ρ2 => forL asg body r ρ2
      | .ct ρ2 => forL asg body r ρ2
      | .bk ρ2 => .nx ρ2
      | o => o
def mfor (items : M (List PyData)) (asg : Asg) (body : SM) : SM := sbnd items fun ds => forL asg body ds
theorem rs_for {wi : TI} {items : M (List PyData)} (hi : Rf c (RIt c.K) wi items) (hg : RfG c ts g asg) (hb : RfS c t ma) : RfS c (tFor wi g t) (mfor items asg ma) := by
  intro pp pr fz σ H ρ D hp R hq
  refine hi pp pr fz σ H ρ _ hp R (hq.bnd fun J ds fz1 H1 ρ1 F1 R1 J1 P1 => ?_)
  let W : Nat → Nat → L2.St → Hp → Prop := fun i n σ2 H2 => n = ds.length - i ∧ i ≤ ds.length ∧ ∃ (fz2 : Addr → Prop) (ρ2 : Env), Fr pr fz1 H1 fz2 H2 ∧ Rel c.K pp pr fz2 σ2 H2 ρ2 ∧ PostS c pp pr fz2 H2 (forL asg ma (ds.drop i) ρ2) D
  refine ⟨W, ⟨_, rfl, Nat.zero_le _, fz1, ρ1, Fr.refl, R1, by rw [List.drop_zero]; exact P1⟩, fun i n σ2 H2 hW => ?_⟩
  obtain ⟨rfl, hil, fz2, ρ2, F2, R2, P2⟩ := hW
  by_cases hlt : i < ds.length
  · obtain ⟨go, yld⟩ := (J1 fz2 H2 F2.ext R2.fzH i).1 ds[i] (List.getElem?_eq_getElem hlt)
    rw [List.drop_eq_getElem_cons hlt] at P2
    unfold forL at P2
    refine .inr ⟨go, W (i + 1) (ds.length - (i + 1)), fun σ' H' h => ⟨_, by omega, h⟩, fun x H3 hx => ?_⟩
    obtain ⟨fz3, A3, r3⟩ := yld x H3 hx
    have R3 := A3.rel R2
    have F3 := A3.fr R2
    cases ea : asg ds[i] ρ2 with
    | none => rw [ea] at P2; exact P2.elim
    | some ρ3 =>
      simp only [ea] at P2
      refine hg pp pr fz3 σ2 H3 ρ2 ρ3 x ds[i] _ hp R3 r3 ea fun σ4 R4 l4 k4 => ?_
      refine hb pp pr fz3 σ4 H3 ρ3 _ hp R4 ?_
      have P2 := PostS.rest F3 P2
      cases eb : ma ρ3 with
      | nx ρ5 =>
        simp only [eb] at P2
        exact fun σ' fz' H' F' R' => ⟨rfl, hlt, fz', ρ5, F2.trans (F3.trans F'), R', PostS.rest F' P2⟩
      | ct ρ5 =>
        simp only [eb] at P2
        exact fun σ' fz' H' F' R' => ⟨rfl, hlt, fz', ρ5, F2.trans (F3.trans F'), R', PostS.rest F' P2⟩
      | bk ρ5 =>
        simp only [eb] at P2
        exact P2
      | rt a r => simp only [eb] at P2; cases a <;> exact P2
      | exc x r => simp only [eb] at P2; exact P2
      | bad => simp only [eb] at P2; exact P2.elim
  · have e : i = ds.length := by omega
    subst e
    rw [List.drop_length] at P2
    exact .inl ⟨(J1 fz2 H2 F2.ext R2.fzH _).2 (Nat.le_refl _), P2 σ2 fz2 H2 Fr.refl R2⟩
def whileN (k : M Bool) (b : SM) : Nat → Env → SOut
  | 0, _ => .bad
  | n + 1, ρ => match k ρ with
    | .ok x ρ1 => if x = true then match b ρ1 with
        | .nx ρ2 => whileN k b n ρ2
        | .ct ρ2 => whileN k b n ρ2
        | .bk ρ2 => .nx ρ2
        | o => o
      else .nx ρ1
    | .exc e r => .exc e r
    | .bad => .bad
open Classical in
noncomputable def mwhile (k : M Bool) (b : SM) : SM := fun ρ => if h : ∃ n, whileN k b n ρ ≠ .bad then whileN k b (Classical.choose h) ρ else .bad
theorem whileN_mono {k : M Bool} {b : SM} : ∀ {n : Nat} {ρ : Env}, whileN k b n ρ ≠ .bad → ∀ j, whileN k b (n + j) ρ = whileN k b n ρ
  | 0, ρ, h, j => absurd rfl h
  | n + 1, ρ, h, j => by
    rw [show n + 1 + j = (n + j) + 1 by omega]
    unfold whileN at h ⊢
    cases e : k ρ with
    | bad => rfl
    | exc x r => rfl
    | ok x r =>
      simp only [e] at h ⊢
      cases x with
      | false => rfl
      | true =>
        simp only [if_true] at h ⊢
        cases eb : b r with
        | nx r2 => simp only [eb] at h ⊢; exact whileN_mono h j
        | ct r2 => simp only [eb] at h ⊢; exact whileN_mono h j
        | _ => rfl
theorem mwhile_eq {k : M Bool} {b : SM} {ρ : Env} (n : Nat) (h : whileN k b n ρ ≠ .bad) : mwhile k b ρ = whileN k b n ρ := by
  have hx : ∃ n, whileN k b n ρ ≠ .bad := ⟨n, h⟩
  unfold mwhile
  rw [dif_pos hx]
  have h2 := Classical.choose_spec hx
  rcases Nat.le_total n (Classical.choose hx) with hl | hl
  · obtain ⟨j, ej⟩ := Nat.le.dest hl
    rw [← ej]; exact whileN_mono h j
  · obtain ⟨j, ej⟩ := Nat.le.dest hl
    have := whileN_mono h2 j
    rw [ej] at this
    exact this.symm
theorem rs_while {tc : TT} {k : M Bool} (hk : Rf c RB tc k) (hb : RfS c t ma) : RfS c (tWhile tc t) (mwhile k ma) := by
  intro pp pr fz σ H ρ D hp R hq
  unfold mwhile at hq
  split at hq
  · rename_i hx
    refine ⟨fun n σ2 H2 => ∃ (fz2 : Addr → Prop) (ρ2 : Env), Fr pr fz H fz2 H2 ∧ Rel c.K pp pr fz2 σ2 H2 ρ2 ∧ PostS c pp pr fz2 H2 (whileN k ma n ρ2) D, ⟨_, fz, ρ, Fr.refl, R, hq⟩, fun n σ2 H2 hW => ?_⟩
    obtain ⟨fz2, ρ2, F2, R2, P2⟩ := hW
    cases n with
    | zero => exact P2.elim
    | succ n =>
      unfold whileN at P2
      refine hk pp pr fz2 σ2 H2 ρ2 _ hp R2 ?_
      cases e : k ρ2 with
      | bad => simp only [e] at P2; exact P2.elim
      | exc x r => simp only [e] at P2; exact fun cls dx fz' H' F' R' q => P2 cls dx σ2 fz' H' F' R' q
      | ok x ρ3 =>
        simp only [e] at P2
        intro b fz3 H3 F3 R3 hb'
        obtain rfl : b = x := hb'
        cases b with
        | false =>
          simp only [Bool.false_eq_true, if_false] at P2 ⊢
          exact P2 σ2 fz3 H3 F3 R3
        | true =>
          simp only [if_true] at P2 ⊢
          refine ⟨fun σ4 H4 => ∃ (fz4 : Addr → Prop) (ρ4 : Env), Fr pr fz H fz4 H4 ∧ Rel c.K pp pr fz4 σ4 H4 ρ4 ∧ PostS c pp pr fz4 H4 (whileN k ma n ρ4) D, fun σ' H' h => ⟨n, Nat.lt_succ_self n, h⟩, ?_⟩
          refine hb pp pr fz3 σ2 H3 ρ3 _ hp R3 ?_
          have P2 := PostS.rest F3 P2
          cases eb : ma ρ3 with
          | nx ρ5 =>
            simp only [eb] at P2
            exact fun σ' fz' H' F' R' => ⟨fz', ρ5, F2.trans (F3.trans F'), R', PostS.rest F' P2⟩
          | ct ρ5 =>
            simp only [eb] at P2
            exact fun σ' fz' H' F' R' => ⟨fz', ρ5, F2.trans (F3.trans F'), R', PostS.rest F' P2⟩
          | bk ρ5 => simp only [eb] at P2; exact P2
          | rt a r => simp only [eb] at P2; cases a <;> exact P2
          | exc x r => simp only [eb] at P2; exact P2
          | bad => simp only [eb] at P2; exact P2.elim
  · exact hq.elim

/-! ### lists that a slot holds: append, pop, x[i] = e -/
def ownL (i : Nat) (ρ : Env) : Option (List PyData) := match ρ[i]? with
  | some (.own (.list ds)) => some ds
  | _ => none
theorem ownL_eq {i : Nat} {ds : List PyData} (h : ownL i ρ = some ds) : ρ[i]? = some (.own (.list ds)) := by
  unfold ownL at h
  split at h
  · rename_i e; cases h; exact e
  · cases h
def mappend (i : Nat) (e : M PyData) : SM := fun ρ => slft (ownL i ρ) fun _ => sbnd e (fun d r => slft (ownL i r) fun ds => if lenOk (ds.length + 1) = true then .nx (r.set i (.own (.list (ds ++ [d])))) else .bad) ρ
theorem rs_append {i : Nat} (h : Rf c (RV c.K) te m) : RfS c (tDrop (tBM c.K "list" rAppend (tVar i) (tCons te tNil))) (mappend i m) := by
  intro pp pr fz σ H ρ D hp R hq
  unfold mappend at hq
  cases e : ownL i ρ with
  | none => simp only [e, slft] at hq; exact hq.elim
  | some ds0 =>
    simp only [e, slft] at hq
    obtain ⟨a, hs, nf, np, vs0, hH0, _⟩ := R.own_ne (ownL_eq e)
    refine ⟨_, hs, .inl ⟨rfl, vs0, SqL.of hH0⟩, ?_⟩
    refine h pp pr fz σ H ρ _ hp R (PostS.bnd (f := fun d r => slft (ownL i r) fun ds => if lenOk (ds.length + 1) = true then .nx (r.set i (.own (.list (ds ++ [d])))) else .bad) hq fun v x fz1 H1 ρ1 F1 R1 r1 P1 => ?_)
    cases e1 : ownL i ρ1 with
    | none => simp only [e1, slft] at P1; exact P1.elim
    | some ds =>
      simp only [e1, slft] at P1
      split at P1
      · rename_i hl
        have er := ownL_eq e1
        obtain ⟨a', hs', nf', np', vs, hH, ra⟩ := R1.own_ne er
        obtain rfl : a' = a := by rw [hs] at hs'; cases hs'; rfl
        refine ⟨a', vs, v, rfl, rfl, hH, ?_, ?_⟩
        · have := lenOk_iff.mp hl
          rw [ra.length]; omega
        · have E : Ext fz1 H1 fz1 (upd H1 a' (.lst (vs ++ [v]))) := ⟨fun _ z => z, fun b z => upd_ne fun q => nf' (by rw [← q]; exact z)⟩
          obtain ⟨F2, R2⟩ := R1.wr (d' := .list (ds ++ [x])) er hs ⟨_, upd_same, RepA.ext E (ra.append (.cons r1 .nil))⟩
          exact P1 σ fz1 _ F2 R2
      · exact P1.elim
def mpop (i : Nat) : M PyData := fun ρ => match ownL i ρ with
  | some ds => (match ds[ds.length - 1]? with
    | some d => .ok d (ρ.set i (.own (.list ds.dropLast)))
    | none => .bad)
  | none => .bad
theorem rf_pop {i : Nat} : Rf c (RV c.K) (tBM0 c.K "list" rPop (tVar i)) (mpop i) := by
  intro pp pr fz σ H ρ Q hp R hq
  unfold mpop at hq
  cases e : ownL i ρ with
  | none => simp only [e] at hq; exact hq.elim
  | some ds =>
    simp only [e] at hq
    cases e1 : ds[ds.length - 1]? with
    | none => simp only [e1] at hq; exact hq.elim
    | some d =>
      simp only [e1] at hq
      have er := ownL_eq e
      obtain ⟨a, hs, nf, np, vs, hH, ra⟩ := R.own_ne er
      obtain ⟨y, hy, ry⟩ := ra.get e1
      have E : Ext fz H fz (upd H a (.lst vs.dropLast)) := ⟨fun _ z => z, fun b z => upd_ne fun q => nf (by rw [← q]; exact z)⟩
      obtain ⟨F2, R2⟩ := R.wr (d' := .list ds.dropLast) er hs ⟨_, upd_same, RepA.ext E ra.dropLast⟩
      refine ⟨_, hs, .inl ⟨rfl, vs, SqL.of hH⟩, a, vs, y, rfl, rfl, hH, by rw [ra.length]; exact hy, ?_⟩
      exact hq y fz _ F2 R2 (ry.ext E)
def mstore (i : Nat) (k : M PyData) (e : M PyData) : SM := sbnd e fun d ρ1 => slft (ownL i ρ1) fun _ => sbnd k (fun j r => slft (ownL i r) fun ds => slft ((asI? j).bind (ixN ds.length)) fun n => .nx (r.set i (.own (.list (ds.set n d))))) ρ1
theorem rs_store {i : Nat} {tk : TE} {mk : M PyData} (h : Rf c (RV c.K) te m) (hk : Rf c (RV c.K) tk mk) : RfS c (tAsg te (gSub (tVar i) tk rSetL)) (mstore i mk m) := by
  intro pp pr fz σ H ρ D hp R hq
  refine h pp pr fz σ H ρ _ hp R (hq.bnd fun v x fz1 H1 ρ1 F1 R1 r1 P1 => ?_)
  cases e : ownL i ρ1 with
  | none => simp only [e, slft] at P1; exact P1.elim
  | some ds0 =>
    simp only [e, slft] at P1
    obtain ⟨a, hs, nf, np, vs0, hH0, _⟩ := R1.own_ne (ownL_eq e)
    refine ⟨_, hs, ?_⟩
    refine hk pp pr fz1 σ H1 ρ1 _ hp R1 (PostS.bnd (f := fun j r => slft (ownL i r) fun ds => slft ((asI? j).bind (ixN ds.length)) fun n => .nx (r.set i (.own (.list (ds.set n x))))) P1 fun w j fz2 H2 ρ2 F2 R2 r2 P2 => ?_)
    cases e1 : ownL i ρ2 with
    | none => simp only [e1, slft] at P2; exact P2.elim
    | some ds =>
      simp only [e1, slft] at P2
      cases j <;> first | (simp only [asI?, Option.bind_none] at P2; exact P2.elim) | skip
      rename_i k
      simp only [asI?, Option.bind_some] at P2
      cases e2 : ixN ds.length k with
      | none => simp only [e2] at P2; exact P2.elim
      | some n =>
        simp only [e2] at P2
        have er := ownL_eq e1
        obtain ⟨a', hs', nf', np', vs, hH, ra⟩ := R2.own_ne er
        obtain rfl : a' = a := by rw [hs] at hs'; cases hs'; rfl
        cases r2
        refine ⟨a', vs, k, n, rfl, rfl, hH, by rw [ra.length]; exact e2, ?_⟩
        have E : Ext fz2 H2 fz2 (upd H2 a' (.lst (vs.set n v))) := ⟨fun _ z => z, fun b z => upd_ne fun q => nf' (by rw [← q]; exact z)⟩
        obtain ⟨F3, R3⟩ := R2.wr (d' := .list (ds.set n x)) er hs ⟨_, upd_same, RepA.ext E (ra.set n (Rep.ext F2.ext r1))⟩
        exact P2 σ fz2 _ F3 R3
end
end PL

/-! PL8: defs and calls. -/
namespace PL
open PySem PySem.Spec L2
open PyProof.Rows hiding St

/-- a parameter: a value, an object lent, the script -/
inductive PKd where
  | v | o | s
  deriving DecidableEq
inductive FOut where
  | ok (r : Rt) (outs : List PyData) | exc (e : PExc) (outs : List PyData) | bad
def ArgR (K : PySem.W.Frag) (pr fz : Addr → Prop) (H : Hp) : PKd → V → PyData → Prop
  | .v, w, x => Rep K fz H w x
  | .o, w, x => ∃ a, w = .ref a ∧ ¬ fz a ∧ ¬ pr a ∧ OwnC K fz H a x
  | .s, w, x => ∃ (a : Addr) (ns : List Int), w = .ref a ∧ FzL K fz H a (ns.map V.int) ∧ x = .list (ns.map PyData.int)
def ArgsR (K : PySem.W.Frag) (pr fz : Addr → Prop) (H : Hp) : List PKd → List V → List PyData → Prop
  | [], [], [] => True
  | k :: ks, v :: vs, x :: xs => ArgR K pr fz H k v x ∧ ArgsR K pr fz H ks vs xs
  | _, _, _ => False
def ownAd : List PKd → List V → List Addr
  | .o :: ks, .ref a :: vs => a :: ownAd ks vs
  | _ :: ks, _ :: vs => ownAd ks vs
  | _, _ => []
def OutsR (K : PySem.W.Frag) (fz : Addr → Prop) (H : Hp) : List PKd → List V → List PyData → Prop
  | [], _, [] => True
  | .o :: ks, .ref a :: vs, x :: xs => ¬ fz a ∧ OwnC K fz H a x ∧ OutsR K fz H ks vs xs
  | .v :: ks, _ :: vs, xs => OutsR K fz H ks vs xs
  | .s :: ks, _ :: vs, xs => OutsR K fz H ks vs xs
  | _, _, _ => False
def RetR (K : PySem.W.Frag) (pr fz : Addr → Prop) (H : Hp) (as : List Addr) : Rt → V → Prop
  | .v d, v => Rep K fz H v d
  | .o d, v => ∃ a, v = .ref a ∧ ¬ fz a ∧ ¬ pr a ∧ a ∉ as ∧ OwnC K fz H a d
def PostF (K : PySem.W.Frag) (RX : RXT) (pr fz : Addr → Prop) (H : Hp) (ks : List PKd) (vs : List V) (o : FOut) (Q : VK) (E : XK) : Prop :=
  match o with
  | .ok r outs => ∀ (v : V) (fz' : Addr → Prop) (H' : Hp), Fr pr fz H fz' H' → (∀ a, fz' a → H' a ≠ none) → OutsR K fz' H' ks vs outs → RetR K pr fz' H' (ownAd ks vs) r v → Q v H'
  | .exc e outs => ∀ (cls : Value) (dx : Option Addr) (fz' : Addr → Prop) (H' : Hp), Fr pr fz H fz' H' → (∀ a, fz' a → H' a ≠ none) → OutsR K fz' H' ks vs outs → RX fz' H' cls dx e → E cls dx H'
  | .bad => False
/-- the promise of a def that is the pure function f -/
def spF (K : PySem.W.Frag) (RX : RXT) (ks : List PKd) (f : List PyData → FOut) : Sp := fun vs H Q E =>
  ∃ (pr fz : Addr → Prop) (xs : List PyData), ArgsR K pr fz H ks vs xs ∧ (ownAd ks vs).Nodup ∧ (∀ a, fz a → H a ≠ none) ∧ (∀ a, pr a → H a ≠ none) ∧ PostF K RX pr fz H ks vs (f xs) Q E
theorem ArgsR.len {K : PySem.W.Frag} {pr fz : Addr → Prop} {H : Hp} : ∀ {ks : List PKd} {vs : List V} {xs : List PyData}, ArgsR K pr fz H ks vs xs → vs.length = ks.length
  | [], [], [], _ => rfl
  | _ :: _, _ :: _, _ :: _, h => by simp [ArgsR.len h.2]
  | [], [], _ :: _, h => h.elim
  | [], _ :: _, _, h => h.elim
  | _ :: _, [], _, h => h.elim
  | _ :: _, _ :: _, [], h => h.elim

/-! ### a body -/
def entrySl : PKd → PyData → Sl
  | .v, x => .val x
  | .o, x => .own x
  | .s, .list ds => .scr ((ints? ds).getD [])
  | .s, _ => .emp
def entrySls : List PKd → List PyData → Env
  | k :: ks, x :: xs => entrySl k x :: entrySls ks xs
  | _, _ => []
def entry (n : Nat) (ks : List PKd) (xs : List PyData) : Env := entrySls ks xs ++ List.replicate (n - ks.length) .emp
def ownIx : Nat → List PKd → List Nat
  | _, [] => []
  | n, .o :: ks => n :: ownIx (n + 1) ks
  | n, .v :: ks => ownIx (n + 1) ks
  | n, .s :: ks => ownIx (n + 1) ks
def ownPP : Nat → List PKd → List V → List (Nat × Addr)
  | n, .o :: ks, .ref a :: vs => (n, a) :: ownPP (n + 1) ks vs
  | n, _ :: ks, _ :: vs => ownPP (n + 1) ks vs
  | _, _, _ => []
def outAt (i : Nat) (ρ : Env) : PyData := match ρ[i]? with
  | some (.own x) => x
  | _ => .none
def fin (ks : List PKd) : SOut → FOut
  | .nx ρ => .ok (.v .none) ((ownIx 0 ks).map fun i => outAt i ρ)
  | .rt r ρ => .ok r ((ownIx 0 ks).map fun i => outAt i ρ)
  | .exc e ρ => .exc e ((ownIx 0 ks).map fun i => outAt i ρ)
  | _ => .bad
def bodyF (n : Nat) (ks : List PKd) (m : SM) (xs : List PyData) : FOut := fin ks (m (entry n ks xs))
section
variable {K : PySem.W.Frag} {pr fz fz' : Addr → Prop} {H H' : Hp}
theorem ownPP_ix : ∀ {n : Nat} {ks : List PKd} {vs : List V} {xs : List PyData}, ArgsR K pr fz H ks vs xs → (ownPP n ks vs).map (·.1) = ownIx n ks
  | _, [], [], [], _ => rfl
  | n, .v :: ks, v :: vs, x :: xs, h => by
    have : ownPP n (.v :: ks) (v :: vs) = ownPP (n + 1) ks vs := by cases v <;> rfl
    rw [this]; exact ownPP_ix h.2
  | n, .s :: ks, v :: vs, x :: xs, h => by
    have : ownPP n (.s :: ks) (v :: vs) = ownPP (n + 1) ks vs := by cases v <;> rfl
    rw [this]; exact ownPP_ix h.2
  | n, .o :: ks, v :: vs, x :: xs, h => by
    obtain ⟨⟨a, rfl, _⟩, h2⟩ := h
    simp only [ownPP, ownIx, List.map_cons, ownPP_ix h2]
  | _, [], [], _ :: _, h => h.elim
  | _, [], _ :: _, _, h => h.elim
  | _, _ :: _, [], _, h => h.elim
  | _, _ :: _, _ :: _, [], h => h.elim
theorem ownPP_get : ∀ {n : Nat} {ks : List PKd} {vs : List V} {xs : List PyData} {p : Nat × Addr}, ArgsR K pr fz H ks vs xs → p ∈ ownPP n ks vs → n ≤ p.1 ∧ vs[p.1 - n]? = some (.ref p.2) ∧ ∃ x, (entrySls ks xs)[p.1 - n]? = some (.own x)
  | _, [], [], [], p, _, hp => by simp [ownPP] at hp
  | n, k :: ks, v :: vs, x :: xs, p, h, hp => by
    have tail : p ∈ ownPP (n + 1) ks vs → n ≤ p.1 ∧ (v :: vs)[p.1 - n]? = some (.ref p.2) ∧ ∃ y, (entrySls (k :: ks) (x :: xs))[p.1 - n]? = some (.own y) := fun hp => by
      obtain ⟨h1, h2, y, h3⟩ := ownPP_get h.2 hp
      have e : p.1 - n = (p.1 - (n + 1)) + 1 := by omega
      refine ⟨by omega, by rw [e]; exact h2, y, by rw [e]; exact h3⟩
    cases k with
    | v =>
      have : ownPP n (.v :: ks) (v :: vs) = ownPP (n + 1) ks vs := by cases v <;> rfl
      rw [this] at hp; exact tail hp
    | s =>
      have : ownPP n (.s :: ks) (v :: vs) = ownPP (n + 1) ks vs := by cases v <;> rfl
      rw [this] at hp; exact tail hp
    | o =>
      obtain ⟨⟨a, rfl, _⟩, _⟩ := id h
      simp only [ownPP] at hp
      rcases List.mem_cons.mp hp with e | hp
      · subst e
        refine ⟨Nat.le_refl _, ?_, x, ?_⟩ <;> simp [entrySls, entrySl]
      · exact tail hp
  | _, [], [], _ :: _, _, h, _ => h.elim
  | _, [], _ :: _, _, _, h, _ => h.elim
  | _, _ :: _, [], _, _, h, _ => h.elim
  | _, _ :: _, _ :: _, [], _, h, _ => h.elim
theorem entrySls_len : ∀ {ks : List PKd} {vs : List V} {xs : List PyData}, ArgsR K pr fz H ks vs xs → (entrySls ks xs).length = ks.length
  | [], [], [], _ => rfl
  | _ :: _, _ :: _, _ :: _, h => by simp [entrySls, entrySls_len h.2]
  | [], [], _ :: _, h => h.elim
  | [], _ :: _, _, h => h.elim
  | _ :: _, [], _, h => h.elim
  | _ :: _, _ :: _, [], h => h.elim
theorem entrySls_at : ∀ {ks : List PKd} {vs : List V} {xs : List PyData} {i : Nat} {s : Sl}, ArgsR K pr fz H ks vs xs → (entrySls ks xs)[i]? = some s → SlR K pr fz H vs[i]? s
  | [], [], [], _, _, _, e => by simp [entrySls] at e
  | k :: ks, v :: vs, x :: xs, 0, s, h, e => by
    simp only [entrySls, List.getElem?_cons_zero, Option.some.injEq] at e
    subst e
    obtain ⟨h, _⟩ := h
    cases k with
    | v => exact ⟨v, rfl, h⟩
    | o => obtain ⟨a, rfl, r⟩ := h; exact ⟨a, rfl, r⟩
    | s =>
      obtain ⟨a, ns, rfl, hr, rfl⟩ := h
      refine ⟨a, rfl, ?_⟩
      rw [ints_map]; exact hr
  | k :: ks, v :: vs, x :: xs, i + 1, s, h, e => by
    simp only [entrySls, List.getElem?_cons_succ] at e ⊢
    exact entrySls_at h.2 e
  | [], [], _ :: _, _, _, h, _ => h.elim
  | [], _ :: _, _, _, _, h, _ => h.elim
  | _ :: _, [], _, _, _, h, _ => h.elim
  | _ :: _, _ :: _, [], _, _, h, _ => h.elim
theorem ownAd_at : ∀ {ks : List PKd} {vs : List V} {xs : List PyData} {i : Nat} {x : PyData} {a : Addr}, ArgsR K pr fz H ks vs xs → (entrySls ks xs)[i]? = some (.own x) → vs[i]? = some (.ref a) → a ∈ ownAd ks vs
  | [], [], [], _, _, _, _, e, _ => by simp [entrySls] at e
  | k :: ks, v :: vs, x :: xs, 0, s, a, h, e, ev => by
    simp only [entrySls, List.getElem?_cons_zero, Option.some.injEq] at e ev
    subst ev
    cases k with
    | v => cases e
    | o => simp [ownAd]
    | s => obtain ⟨⟨_, ns, _, _, rfl⟩, _⟩ := h; simp [entrySl] at e
  | k :: ks, v :: vs, x :: xs, i + 1, s, a, h, e, ev => by
    simp only [entrySls, List.getElem?_cons_succ] at e ev
    have q := ownAd_at h.2 e ev
    cases k with
    | v => have : ownAd (.v :: ks) (v :: vs) = ownAd ks vs := by cases v <;> rfl
           rw [this]; exact q
    | s => have : ownAd (.s :: ks) (v :: vs) = ownAd ks vs := by cases v <;> rfl
           rw [this]; exact q
    | o =>
      obtain ⟨⟨b, rfl, _⟩, _⟩ := id h
      exact List.mem_cons_of_mem _ q
  | [], [], _ :: _, _, _, _, h, _, _ => h.elim
  | [], _ :: _, _, _, _, _, h, _, _ => h.elim
  | _ :: _, [], _, _, _, _, h, _, _ => h.elim
  | _ :: _, _ :: _, [], _, _, _, h, _, _ => h.elim
theorem ownAd_inj : ∀ {ks : List PKd} {vs : List V} {xs : List PyData} {i j : Nat} {x y : PyData} {a : Addr}, ArgsR K pr fz H ks vs xs → (ownAd ks vs).Nodup → (entrySls ks xs)[i]? = some (.own x) → (entrySls ks xs)[j]? = some (.own y) → vs[i]? = some (.ref a) → vs[j]? = some (.ref a) → i = j
  | [], [], [], _, _, _, _, _, _, _, e, _, _, _ => by simp [entrySls] at e
  | k :: ks, v :: vs, z :: xs, 0, 0, _, _, _, _, _, _, _, _, _ => rfl
  | k :: ks, v :: vs, z :: xs, i + 1, j + 1, x, y, a, h, n, e1, e2, s1, s2 => by
    simp only [entrySls, List.getElem?_cons_succ] at e1 e2 s1 s2
    have n' : (ownAd ks vs).Nodup := by
      cases k with
      | v => have : ownAd (.v :: ks) (v :: vs) = ownAd ks vs := by cases v <;> rfl
             rw [this] at n; exact n
      | s => have : ownAd (.s :: ks) (v :: vs) = ownAd ks vs := by cases v <;> rfl
             rw [this] at n; exact n
      | o =>
        obtain ⟨⟨b, rfl, _⟩, _⟩ := id h
        exact (List.nodup_cons.mp n).2
    rw [ownAd_inj h.2 n' e1 e2 s1 s2]
  | k :: ks, v :: vs, z :: xs, 0, j + 1, x, y, a, h, n, e1, e2, s1, s2 => by
    simp only [entrySls, List.getElem?_cons_succ, List.getElem?_cons_zero, Option.some.injEq] at e1 e2 s1 s2
    subst s1
    cases k with
    | v => cases e1
    | s => obtain ⟨⟨_, ns, _, _, rfl⟩, _⟩ := h; simp [entrySl] at e1
    | o => exact absurd (ownAd_at h.2 e2 s2) (List.nodup_cons.mp n).1
  | k :: ks, v :: vs, z :: xs, i + 1, 0, x, y, a, h, n, e1, e2, s1, s2 => by
    simp only [entrySls, List.getElem?_cons_succ, List.getElem?_cons_zero, Option.some.injEq] at e1 e2 s1 s2
    subst s2
    cases k with
    | v => cases e2
    | s => obtain ⟨⟨_, ns, _, _, rfl⟩, _⟩ := h; simp [entrySl] at e2
    | o => exact absurd (ownAd_at h.2 e1 s1) (List.nodup_cons.mp n).1
  | [], [], _ :: _, _, _, _, _, _, h, _, _, _, _, _ => h.elim
  | [], _ :: _, _, _, _, _, _, _, h, _, _, _, _, _ => h.elim
  | _ :: _, [], _, _, _, _, _, _, h, _, _, _, _, _ => h.elim
  | _ :: _, _ :: _, [], _, _, _, _, _, h, _, _, _, _, _ => h.elim
theorem start_at {N : List Str} {vs : List V} {i : Nat} : ((L2.start N vs)[i]?).join = vs[i]? := by
  unfold L2.start
  by_cases h : i < vs.length
  · rw [List.getElem?_append_left (by simpa using h), List.getElem?_map, List.getElem?_eq_getElem h]; rfl
  · rw [List.getElem?_append_right (by simpa using h), List.getElem?_eq_none (by omega : vs.length ≤ i)]
    rw [List.getElem?_replicate]
    split <;> rfl
theorem Rel.start {N : List Str} {ks : List PKd} {vs : List V} {xs : List PyData} (h : ArgsR K pr fz H ks vs xs) (hn : (ownAd ks vs).Nodup) (hf : ∀ a, fz a → H a ≠ none) (hp : ∀ a, pr a → H a ≠ none) (hl : ks.length ≤ N.length) :
    Rel K (ownPP 0 ks vs) pr fz (L2.start N vs) H (entry N.length ks xs) := by
  have lv := h.len
  have le := entrySls_len h
  have at1 : ∀ {i : Nat} {s : Sl}, (entry N.length ks xs)[i]? = some s → s = .emp ∨ (entrySls ks xs)[i]? = some s := fun {i s} e => by
    unfold entry at e
    by_cases hi : i < (entrySls ks xs).length
    · rw [List.getElem?_append_left hi] at e; exact .inr e
    · rw [List.getElem?_append_right (by omega), List.getElem?_replicate] at e
      split at e
      · cases e; exact .inl rfl
      · cases e
  have own1 : ∀ {i : Nat} {x : PyData}, (entry N.length ks xs)[i]? = some (.own x) → (entrySls ks xs)[i]? = some (.own x) := fun e => (at1 e).elim (fun z => by cases z) id
  have st : ∀ {i : Nat} {a : Addr}, (L2.start N vs)[i]? = some (some (V.ref a)) → vs[i]? = some (.ref a) := fun {i a} e => by
    have := join_some.mpr e
    rw [start_at] at this
    exact this
  refine ⟨?_, fun i s e => ?_, fun i j a x y e1 e2 s1 s2 => ownAd_inj h hn (own1 e1) (own1 e2) (st s1) (st s2), hf, hp, fun p hpp => ?_⟩
  · unfold L2.start entry
    simp [lv, le]
  · rcases at1 e with rfl | e
    · trivial
    · rw [start_at]
      exact entrySls_at h e
  · obtain ⟨_, h2, x, h3⟩ := ownPP_get h hpp
    rw [Nat.sub_zero] at h2 h3
    refine ⟨x, ?_, ?_⟩
    · unfold entry
      rw [List.getElem?_append_left (List.getElem?_eq_some_iff.mp h3).1]
      exact h3
    · refine join_some.mp ?_
      rw [start_at]; exact h2
theorem outs_of : ∀ {n : Nat} {ks : List PKd} {vs : List V} {xs : List PyData} {ρ : Env}, ArgsR K pr fz H ks vs xs → (∀ p ∈ ownPP n ks vs, ∃ x, ρ[p.1]? = some (.own x) ∧ ¬ fz' p.2 ∧ OwnC K fz' H' p.2 x) → OutsR K fz' H' ks vs ((ownIx n ks).map fun i => outAt i ρ)
  | _, [], [], [], _, _, _ => trivial
  | n, .v :: ks, v :: vs, x :: xs, ρ, h, hp => by
    have : ownPP n (.v :: ks) (v :: vs) = ownPP (n + 1) ks vs := by cases v <;> rfl
    rw [this] at hp
    simp only [ownIx, OutsR]
    exact outs_of h.2 hp
  | n, .s :: ks, v :: vs, x :: xs, ρ, h, hp => by
    have : ownPP n (.s :: ks) (v :: vs) = ownPP (n + 1) ks vs := by cases v <;> rfl
    rw [this] at hp
    simp only [ownIx, OutsR]
    exact outs_of h.2 hp
  | n, .o :: ks, v :: vs, x :: xs, ρ, h, hp => by
    obtain ⟨⟨a, rfl, _⟩, h2⟩ := h
    simp only [ownPP] at hp
    simp only [ownIx, List.map_cons, OutsR]
    obtain ⟨y, e, nf, oc⟩ := hp (n, a) List.mem_cons_self
    refine ⟨nf, ?_, outs_of h2 fun p q => hp p (List.mem_cons_of_mem _ q)⟩
    simp only at e
    simp only [outAt, e]
    exact oc
  | _, [], [], _ :: _, _, h, _ => h.elim
  | _, [], _ :: _, _, _, h, _ => h.elim
  | _, _ :: _, [], _, _, h, _ => h.elim
  | _, _ :: _, _ :: _, [], _, h, _ => h.elim
theorem ownAd_pp : ∀ {n : Nat} {ks : List PKd} {vs : List V} {a : Addr}, a ∈ ownAd ks vs → ∃ i, (i, a) ∈ ownPP n ks vs
  | _, [], _, _, h => by simp [ownAd] at h
  | _, _ :: _, [], _, h => by simp [ownAd] at h
  | n, k :: ks, v :: vs, a, h => by
    have tl : a ∈ ownAd ks vs → ownAd (k :: ks) (v :: vs) = ownAd ks vs → ownPP n (k :: ks) (v :: vs) = ownPP (n + 1) ks vs → ∃ i, (i, a) ∈ ownPP n (k :: ks) (v :: vs) := fun q _ e => by
      rw [e]; exact ownAd_pp q
    cases k with
    | v =>
      have e : ownAd (.v :: ks) (v :: vs) = ownAd ks vs := by cases v <;> rfl
      rw [e] at h; exact tl h e (by cases v <;> rfl)
    | s =>
      have e : ownAd (.s :: ks) (v :: vs) = ownAd ks vs := by cases v <;> rfl
      rw [e] at h; exact tl h e (by cases v <;> rfl)
    | o =>
      cases v with
      | ref b =>
        simp only [ownAd, ownPP] at h ⊢
        rcases List.mem_cons.mp h with e | q
        · exact ⟨n, by rw [e]; exact List.mem_cons_self⟩
        · obtain ⟨i, q⟩ := ownAd_pp (n := n + 1) q
          exact ⟨i, List.mem_cons_of_mem _ q⟩
      | non => exact tl h rfl rfl
      | bl _ => exact tl h rfl rfl
      | int _ => exact tl h rfl rfl
      | str _ => exact tl h rfl rfl
      | byt _ => exact tl h rfl rfl
      | flt _ => exact tl h rfl rfl
      | ty _ => exact tl h rfl rfl
end
section
variable {P : Program} {w : World} {K : PySem.W.Frag} {mg : Str → Option Value} {base : Heap}
def cwOf (K : PySem.W.Frag) (RX : RXT) (ks : List PKd) (E : XK) : Cw := ⟨K, RX, fun cls d _ H => E cls d H, ownIx 0 ks⟩
/-- THE RULE for a def -/
theorem pure_walk {RX : RXT} {ks : List PKd} {m : SM} {qual : Str} {st : Stmt} {f : Addr} {N ps : List Str} {k : Nat} (hk : ks.length = ps.length) (hN : ks.length ≤ N.length)
    (hbody : ∀ (cdv : Value) (A : Around) (outer : List PySem.Env) (s : Shared) (H : Hp) (E : XK), Room k (A.deeper (envOfC qual (defScope st) s.heap.objs.size f cdv)) → (A.deeper (envOfC qual (defScope st) s.heap.objs.size f cdv)).guards = some [] →
      ∃ t, PSs (cxOf (L2.CX P w) P w K mg base N qual (defScope st) f cdv A outer s H E) (defBody st) t ∧ RfS (cwOf K RX ks E) t m) : ∀ (cdv : Value) (A : Around) (outer : List PySem.Env) (s : Shared) (H : Hp) (vs : List V) (Q : VK) (E : XK), Room k (A.deeper (envOfC qual (defScope st) s.heap.objs.size f cdv)) → (A.deeper (envOfC qual (defScope st) s.heap.objs.size f cdv)).guards = some [] → spF K RX ks (bodyF N.length ks m) vs H Q E →
      ∃ t, PSs (cxOf (L2.CX P w) P w K mg base N qual (defScope st) f cdv A outer s H E) (defBody st) t ∧ t { nx := fun _ H' => Q .non H', rt := Q } (L2.start N vs) H := by
  intro cdv A outer s H vs Q E hr hg h
  · obtain ⟨t, ht, hm⟩ := hbody cdv A outer s H E hr hg
    refine ⟨t, ht, ?_⟩
    obtain ⟨pr, fz, xs, ha, hn, hf, hp, hq⟩ := h
    have R := Rel.start (N := N) ha hn hf hp hN
    have outs : ∀ {fz' : Addr → Prop} {H' : Hp} {σ' : L2.St} {ρ : Env}, Rel K (ownPP 0 ks vs) pr fz' σ' H' ρ → OutsR K fz' H' ks vs ((ownIx 0 ks).map fun i => outAt i ρ) := fun R' => outs_of ha fun p hpp => by
      obtain ⟨y, e, s⟩ := R'.pin p hpp
      obtain ⟨a, s', nf, _, oc⟩ := R'.own_ne e
      rw [s] at s'
      cases s'
      exact ⟨y, e, nf, oc⟩
    refine hm (ownPP 0 ks vs) pr fz _ H (entry N.length ks xs) _ (ownPP_ix ha) R ?_
    unfold bodyF at hq
    cases e : m (entry N.length ks xs) with
    | nx ρ =>
      rw [e] at hq
      exact fun σ' fz' H' F' R' => hq .non fz' H' F' R'.fzH (outs R') .non
    | rt r ρ =>
      rw [e] at hq
      cases r with
      | v d => exact fun v σ' fz' H' F' R' r => hq v fz' H' F' R'.fzH (outs R') r
      | o d =>
        intro v σ' fz' H' F' R' r
        obtain ⟨a, rfl, nf, np, ns, oc⟩ := r
        refine hq _ fz' H' F' R'.fzH (outs R') ⟨a, rfl, nf, np, fun z => ?_, oc⟩
        obtain ⟨i, hi⟩ := ownAd_pp (n := 0) z
        obtain ⟨y, e1, s1⟩ := R'.pin _ hi
        exact ns _ y e1 s1
    | exc x ρ =>
      rw [e] at hq
      exact fun cls dx σ' fz' H' F' R' r => hq cls dx fz' H' F' R'.fzH (outs R') r
    | bk ρ => rw [e] at hq; exact hq.elim
    | ct ρ => rw [e] at hq; exact hq.elim
    | bad => rw [e] at hq; exact hq.elim
theorem fn_pure {RX : RXT} {ks : List PKd} {m : SM} {x qual : Str} {st : Stmt} {f : Addr} {fd : FuncData} {N ps : List Str} {k : Nat} (F : Fun K x qual st f fd) (S : FnScope N ps (defScope st)) (hk : ks.length = ps.length) (hN : ks.length ≤ N.length)
    (hbody : ∀ (cdv : Value) (A : Around) (outer : List PySem.Env) (s : Shared) (H : Hp) (E : XK), Room k (A.deeper (envOfC qual (defScope st) s.heap.objs.size f cdv)) → (A.deeper (envOfC qual (defScope st) s.heap.objs.size f cdv)).guards = some [] →
      ∃ t, PSs (cxOf (L2.CX P w) P w K mg base N qual (defScope st) f cdv A outer s H E) (defBody st) t ∧ RfS (cwOf K RX ks E) t m) : FnG P w K mg base (k + 1) f fd ps (spF K RX ks (bodyF N.length ks m)) :=
  fnG_of F S (fun vs H Q E h => by obtain ⟨pr, fz, xs, ha, _⟩ := h; rw [ha.len, hk]) (pure_walk hk hN hbody)
end
end PL

/-! PL9: calls of defs that are pure functions. -/
namespace PL
open PySem PySem.Spec L2
open PyProof.Rows hiding St

/-- an argument: a value, the object of a slot that is lent, the script of a slot -/
inductive CArg where
  | v (m : M PyData) | lend (i : Nat) | scr (i : Nat)
def CArg.kd : CArg → PKd
  | .v _ => .v
  | .lend _ => .o
  | .scr _ => .s
def lendIx : List CArg → List Nat
  | [] => []
  | .lend i :: as => i :: lendIx as
  | .v _ :: as => lendIx as
  | .scr _ :: as => lendIx as
def isOwn (i : Nat) (ρ : Env) : Bool := match ρ[i]? with
  | some (.own _) => true
  | _ => false
def isScr (i : Nat) (ρ : Env) : Bool := match ρ[i]? with
  | some (.scr _) => true
  | _ => false
/-- the values, from the left -/
def evA : List CArg → M (List PyData)
  | [] => fun ρ => .ok [] ρ
  | .v m :: as => bnd m fun x => bnd (evA as) fun xs ρ => .ok (x :: xs) ρ
  | .lend i :: as => fun ρ => if isOwn i ρ = true then bnd (evA as) (fun xs ρ => .ok (.none :: xs) ρ) ρ else .bad
  | .scr i :: as => fun ρ => if isScr i ρ = true then bnd (evA as) (fun xs ρ => .ok (.none :: xs) ρ) ρ else .bad
def scrAt (i : Nat) (ρ : Env) : PyData := match ρ[i]? with
  | some (.scr ns) => .list (ns.map PyData.int)
  | _ => .none
/-- what is lent, as it stands at the call -/
def fillA (ρ : Env) : List CArg → List PyData → List PyData
  | .v _ :: as, x :: xs => x :: fillA ρ as xs
  | .lend i :: as, _ :: xs => outAt i ρ :: fillA ρ as xs
  | .scr i :: as, _ :: xs => scrAt i ρ :: fillA ρ as xs
  | _, _ => []
/-- what was lent comes back -/
def wbA : List CArg → List PyData → Env → Env
  | .lend i :: as, x :: xs, ρ => (wbA as xs ρ).set i (.own x)
  | .v _ :: as, xs, ρ => wbA as xs ρ
  | .scr _ :: as, xs, ρ => wbA as xs ρ
  | _, _, ρ => ρ
def lendOk (as : List CArg) (ρ : Env) : Bool := decide (lendIx as).Nodup && (lendIx as).all fun i => isOwn i ρ
def scrOk : List CArg → Env → Bool
  | [], _ => true
  | .scr i :: as, ρ => isScr i ρ && scrOk as ρ
  | _ :: as, ρ => scrOk as ρ
def mcall (f : List PyData → FOut) (as : List CArg) : M Rt := fun ρ => match evA as ρ with
  | .ok xs ρ1 => if (lendOk as ρ1 && scrOk as ρ1) = true then (match f (fillA ρ1 as xs) with
      | .ok r outs => .ok r (wbA as outs ρ1)
      | .exc e outs => .exc e (wbA as outs ρ1)
      | .bad => .bad) else .bad
  | .exc e r => .exc e r
  | .bad => .bad
def RRt (K : PySem.W.Frag) : RT Rt V := fun pr σ fz H ρ v r => match r with
  | .v d => Rep K fz H v d
  | .o d => RO K pr σ fz H ρ v d
def ArgsV (K : PySem.W.Frag) (σ : L2.St) (fz : Addr → Prop) (H : Hp) : List CArg → List V → List PyData → Prop
  | [], [], [] => True
  | .v _ :: as, v :: vs, x :: xs => Rep K fz H v x ∧ ArgsV K σ fz H as vs xs
  | .lend i :: as, v :: vs, _ :: xs => σ[i]? = some (some v) ∧ ArgsV K σ fz H as vs xs
  | .scr i :: as, v :: vs, _ :: xs => σ[i]? = some (some v) ∧ ArgsV K σ fz H as vs xs
  | _, _, _ => False
def RArgs (K : PySem.W.Frag) (as : List CArg) : RT (List PyData) (List V) := fun _ σ fz H _ vs xs => ArgsV K σ fz H as vs xs
section
variable {c : Cw} {pp : List (Nat × Addr)} {pr fz : Addr → Prop} {σ : L2.St} {H : Hp} {ρ : Env}
theorem rf_anil : Rf c (RArgs c.K []) tNil (evA []) := fun pp pr fz σ H ρ Q hp R hq => ok_post hq R (show ArgsV c.K σ fz H [] [] [] from trivial)
theorem rf_acons {te : TE} {tr : TA} {m : M PyData} {as : List CArg} (ha : Rf c (RV c.K) te m) (hr : Rf c (RArgs c.K as) tr (evA as)) : Rf c (RArgs c.K (.v m :: as)) (tCons te tr) (evA (.v m :: as)) := by
  intro pp pr fz σ H ρ Q hp R hq
  refine ha pp pr fz σ H ρ _ hp R (PostG.bnd (f := fun x => bnd (evA as) fun xs ρ => .ok (x :: xs) ρ) hq fun v x fz1 H1 ρ1 F1 R1 r1 P1 => ?_)
  refine hr pp pr fz1 σ H1 ρ1 _ hp R1 (P1.bnd fun w y fz2 H2 ρ2 F2 R2 r2 P2 => ?_)
  exact ok_post P2 R2 (show ArgsV c.K σ fz2 H2 (.v m :: as) (v :: w) (x :: y) from ⟨Rep.ext F2.ext r1, r2⟩)
theorem isOwn_eq {i : Nat} (h : isOwn i ρ = true) : ∃ x, ρ[i]? = some (.own x) := by
  unfold isOwn at h
  split at h
  · rename_i x e; exact ⟨x, e⟩
  · cases h
theorem isScr_eq {i : Nat} (h : isScr i ρ = true) : ∃ x, ρ[i]? = some (.scr x) := by
  unfold isScr at h
  split at h
  · rename_i x e; exact ⟨x, e⟩
  · cases h
theorem rf_alend {i : Nat} {tr : TA} {as : List CArg} (hr : Rf c (RArgs c.K as) tr (evA as)) : Rf c (RArgs c.K (.lend i :: as)) (tCons (tVar i) tr) (evA (.lend i :: as)) := by
  intro pp pr fz σ H ρ Q hp R hq
  simp only [evA] at hq
  split at hq
  · rename_i h
    obtain ⟨x, e⟩ := isOwn_eq h
    obtain ⟨a, hs, _⟩ := R.own_ne e
    refine ⟨_, hs, ?_⟩
    refine hr pp pr fz σ H ρ _ hp R (hq.bnd fun w y fz2 H2 ρ2 F2 R2 r2 P2 => ?_)
    exact ok_post P2 R2 (show ArgsV c.K σ fz2 H2 (.lend i :: as) (.ref a :: w) (.none :: y) from ⟨hs, r2⟩)
  · exact hq.elim
theorem rf_ascr {i : Nat} {tr : TA} {as : List CArg} (hr : Rf c (RArgs c.K as) tr (evA as)) : Rf c (RArgs c.K (.scr i :: as)) (tCons (tVar i) tr) (evA (.scr i :: as)) := by
  intro pp pr fz σ H ρ Q hp R hq
  simp only [evA] at hq
  split at hq
  · rename_i h
    obtain ⟨x, e⟩ := isScr_eq h
    obtain ⟨a, hs, _⟩ := R.at_ i _ e
    have hs := join_some.mp hs
    refine ⟨_, hs, ?_⟩
    refine hr pp pr fz σ H ρ _ hp R (hq.bnd fun w y fz2 H2 ρ2 F2 R2 r2 P2 => ?_)
    exact ok_post P2 R2 (show ArgsV c.K σ fz2 H2 (.scr i :: as) (.ref a :: w) (.none :: y) from ⟨hs, r2⟩)
  · exact hq.elim
theorem outAt_own {i : Nat} {x : PyData} (e : ρ[i]? = some (.own x)) : outAt i ρ = x := by simp only [outAt, e]

theorem argsR_of (R : Rel c.K pp pr fz σ H ρ) (pr1 : Addr → Prop) : ∀ {as : List CArg} {vs : List V} {xs : List PyData}, ArgsV c.K σ fz H as vs xs → (∀ i ∈ lendIx as, isOwn i ρ = true) → (∀ i ∈ lendIx as, ∀ a, σ[i]? = some (some (V.ref a)) → ¬ pr1 a) → scrOk as ρ = true →
    ArgsR c.K pr1 fz H (as.map CArg.kd) vs (fillA ρ as xs)
  | [], [], [], _, _, _, _ => trivial
  | .v m :: as, v :: vs, x :: xs, h, hl, hn, hs => ⟨h.1, argsR_of R pr1 h.2 hl hn hs⟩
  | .lend i :: as, v :: vs, x :: xs, h, hl, hn, hs => by
    obtain ⟨y, e⟩ := isOwn_eq (hl i List.mem_cons_self)
    obtain ⟨a, s, nf, _, oc⟩ := R.own_ne e
    have ev := h.1
    rw [s] at ev
    cases ev
    refine ⟨⟨a, rfl, nf, hn i List.mem_cons_self a s, ?_⟩, argsR_of R pr1 h.2 (fun j hj => hl j (List.mem_cons_of_mem _ hj)) (fun j hj => hn j (List.mem_cons_of_mem _ hj)) hs⟩
    rw [outAt_own e]; exact oc
  | .scr i :: as, v :: vs, x :: xs, h, hl, hn, hs => by
    simp only [scrOk, Bool.and_eq_true] at hs
    obtain ⟨ns, e⟩ := isScr_eq hs.1
    obtain ⟨a, s, hr⟩ := R.at_ i _ e
    have s := join_some.mp s
    have ev := h.1
    rw [s] at ev
    cases ev
    refine ⟨⟨a, ns, rfl, hr, by simp only [scrAt, e]⟩, argsR_of R pr1 h.2 hl hn hs.2⟩
  | [], [], _ :: _, h, _, _, _ => h.elim
  | [], _ :: _, _, h, _, _, _ => h.elim
  | .v _ :: _, [], _, h, _, _, _ => h.elim
  | .v _ :: _, _ :: _, [], h, _, _, _ => h.elim
  | .lend _ :: _, [], _, h, _, _, _ => h.elim
  | .lend _ :: _, _ :: _, [], h, _, _, _ => h.elim
  | .scr _ :: _, [], _, h, _, _, _ => h.elim
  | .scr _ :: _, _ :: _, [], h, _, _, _ => h.elim
theorem lendAd : ∀ {as : List CArg} {vs : List V} {xs : List PyData} {a : Addr}, ArgsV c.K σ fz H as vs xs → (a ∈ ownAd (as.map CArg.kd) vs ↔ ∃ i ∈ lendIx as, σ[i]? = some (some (V.ref a)))
  | [], [], [], a, _ => by simp [ownAd, lendIx]
  | .v m :: as, v :: vs, x :: xs, a, h => by
    have : ownAd ((CArg.v m :: as).map CArg.kd) (v :: vs) = ownAd (as.map CArg.kd) vs := by cases v <;> rfl
    rw [this]; exact lendAd h.2
  | .scr m :: as, v :: vs, x :: xs, a, h => by
    have : ownAd ((CArg.scr m :: as).map CArg.kd) (v :: vs) = ownAd (as.map CArg.kd) vs := by cases v <;> rfl
    rw [this]; exact lendAd h.2
  | .lend i :: as, v :: vs, x :: xs, a, h => by
    have ih := lendAd (a := a) h.2
    cases v with
    | ref b =>
      have : ownAd ((CArg.lend i :: as).map CArg.kd) (.ref b :: vs) = b :: ownAd (as.map CArg.kd) vs := rfl
      rw [this, List.mem_cons, ih]
      simp only [lendIx, List.mem_cons, exists_eq_or_imp, h.1]
      constructor
      · rintro (e | e)
        · exact .inl (by rw [e])
        · exact .inr e
      · rintro (e | e)
        · cases e; exact .inl rfl
        · exact .inr e
    | _ =>
      have e2 : ∀ w : V, (∀ b, w ≠ .ref b) → ownAd ((CArg.lend i :: as).map CArg.kd) (w :: vs) = ownAd (as.map CArg.kd) vs := fun w hw => by cases w <;> first | rfl | exact absurd rfl (hw _)
      have h1 := h.1
      rw [e2 _ (fun b z => by cases z), ih]
      simp only [lendIx, List.mem_cons, exists_eq_or_imp]
      constructor
      · exact .inr
      · rintro (e | e)
        · rw [h1] at e; cases e
        · exact e
  | [], [], _ :: _, _, h => h.elim
  | [], _ :: _, _, _, h => h.elim
  | .v _ :: _, [], _, _, h => h.elim
  | .v _ :: _, _ :: _, [], _, h => h.elim
  | .lend _ :: _, [], _, _, h => h.elim
  | .lend _ :: _, _ :: _, [], _, h => h.elim
  | .scr _ :: _, [], _, _, h => h.elim
  | .scr _ :: _, _ :: _, [], _, h => h.elim
theorem lendNd (R : Rel c.K pp pr fz σ H ρ) : ∀ {as : List CArg} {vs : List V} {xs : List PyData}, ArgsV c.K σ fz H as vs xs → (lendIx as).Nodup → (∀ i ∈ lendIx as, isOwn i ρ = true) → (ownAd (as.map CArg.kd) vs).Nodup
  | [], [], [], _, _, _ => .nil
  | .v m :: as, v :: vs, x :: xs, h, n, hl => by
    have : ownAd ((CArg.v m :: as).map CArg.kd) (v :: vs) = ownAd (as.map CArg.kd) vs := by cases v <;> rfl
    rw [this]; exact lendNd R h.2 n hl
  | .scr m :: as, v :: vs, x :: xs, h, n, hl => by
    have : ownAd ((CArg.scr m :: as).map CArg.kd) (v :: vs) = ownAd (as.map CArg.kd) vs := by cases v <;> rfl
    rw [this]; exact lendNd R h.2 n hl
  | .lend i :: as, v :: vs, x :: xs, h, n, hl => by
    simp only [lendIx, List.nodup_cons] at n
    have ih := lendNd R h.2 n.2 fun j hj => hl j (List.mem_cons_of_mem _ hj)
    obtain ⟨y, e⟩ := isOwn_eq (hl i List.mem_cons_self)
    obtain ⟨a, s, _⟩ := R.own_ne e
    have ev := h.1
    rw [s] at ev
    cases ev
    show (a :: ownAd (as.map CArg.kd) vs).Nodup
    refine List.nodup_cons.mpr ⟨fun z => ?_, ih⟩
    obtain ⟨j, hj, sj⟩ := (lendAd h.2).mp z
    obtain ⟨y2, e2⟩ := isOwn_eq (hl j (List.mem_cons_of_mem _ hj))
    exact n.1 (R.sep i j a y y2 e e2 s sj ▸ hj)
  | [], [], _ :: _, h, _, _ => h.elim
  | [], _ :: _, _, h, _, _ => h.elim
  | .v _ :: _, [], _, h, _, _ => h.elim
  | .v _ :: _, _ :: _, [], h, _, _ => h.elim
  | .lend _ :: _, [], _, h, _, _ => h.elim
  | .lend _ :: _, _ :: _, [], h, _, _ => h.elim
  | .scr _ :: _, [], _, h, _, _ => h.elim
  | .scr _ :: _, _ :: _, [], h, _, _ => h.elim
theorem wbA_len : ∀ {as : List CArg} {outs : List PyData}, (wbA as outs ρ).length = ρ.length
  | [], _ => rfl
  | .v _ :: as, outs => by unfold wbA; exact wbA_len (as := as)
  | .scr _ :: as, outs => by unfold wbA; exact wbA_len (as := as)
  | .lend i :: as, [] => rfl
  | .lend i :: as, x :: xs => by unfold wbA; rw [List.length_set]; exact wbA_len
theorem wbA_out {j : Nat} : ∀ {as : List CArg} {outs : List PyData}, j ∉ lendIx as → (wbA as outs ρ)[j]? = ρ[j]?
  | [], _, _ => rfl
  | .v _ :: as, outs, h => by unfold wbA; exact wbA_out (as := as) h
  | .scr _ :: as, outs, h => by unfold wbA; exact wbA_out (as := as) h
  | .lend i :: as, [], _ => rfl
  | .lend i :: as, x :: xs, h => by
    simp only [lendIx, List.mem_cons, not_or] at h
    unfold wbA
    rw [List.getElem?_set_ne (Ne.symm h.1)]
    exact wbA_out h.2
theorem wbA_at {fz' : Addr → Prop} {H' : Hp} {j : Nat} : ∀ {as : List CArg} {vs : List V} {xs outs : List PyData}, ArgsV c.K σ fz H as vs xs → OutsR c.K fz' H' (as.map CArg.kd) vs outs → (lendIx as).Nodup → j ∈ lendIx as →
    ∃ (a : Addr) (x : PyData), σ[j]? = some (some (V.ref a)) ∧ ¬ fz' a ∧ OwnC c.K fz' H' a x ∧ (wbA as outs ρ)[j]? = if j < ρ.length then some (.own x) else none
  | .v m :: as, v :: vs, x :: xs, outs, h, ho, n, hj => by
    unfold wbA
    simp only [List.map_cons, CArg.kd, OutsR] at ho
    exact wbA_at h.2 ho n hj
  | .scr m :: as, v :: vs, x :: xs, outs, h, ho, n, hj => by
    unfold wbA
    simp only [List.map_cons, CArg.kd, OutsR] at ho
    exact wbA_at h.2 ho n hj
  | .lend i :: as, v :: vs, x :: xs, outs, h, ho, n, hj => by
    simp only [lendIx, List.nodup_cons] at n
    cases v with
    | ref a =>
      cases outs with
      | nil => exact absurd ho (by simp [OutsR, CArg.kd])
      | cons o outs =>
        simp only [List.map_cons, CArg.kd, OutsR] at ho
        obtain ⟨nf, oc, ho⟩ := ho
        unfold wbA
        by_cases e : j = i
        · subst e
          refine ⟨a, o, h.1, nf, oc, ?_⟩
          rw [List.getElem?_set]
          simp only [if_true, wbA_len]
        · rw [List.getElem?_set_ne (Ne.symm e)]
          exact wbA_at h.2 ho n.2 ((List.mem_cons.mp hj).resolve_left e)
    | _ => exact absurd ho (by simp [OutsR, CArg.kd])
  | [], _, _, _, _, _, _, hj => by simp [lendIx] at hj
  | .v _ :: _, [], _, _, h, _, _, _ => h.elim
  | .v _ :: _, _ :: _, [], _, h, _, _, _ => h.elim
  | .lend _ :: _, [], _, _, h, _, _, _ => h.elim
  | .lend _ :: _, _ :: _, [], _, h, _, _, _ => h.elim
  | .scr _ :: _, [], _, _, h, _, _, _ => h.elim
  | .scr _ :: _, _ :: _, [], _, h, _, _, _ => h.elim
/-- what a caller protects -/
def prC (pr : Addr → Prop) (σ : L2.St) (ρ : Env) (as : List CArg) : Addr → Prop := fun a => pr a ∨ ∃ (i : Nat) (x : PyData), ρ[i]? = some (.own x) ∧ σ[i]? = some (some (V.ref a)) ∧ i ∉ lendIx as
theorem Rel.back {as : List CArg} {vs : List V} {xs outs : List PyData} {fz' : Addr → Prop} {H' : Hp} (R : Rel c.K pp pr fz σ H ρ) (ha : ArgsV c.K σ fz H as vs xs) (hn : (lendIx as).Nodup) (hl : ∀ i ∈ lendIx as, isOwn i ρ = true)
    (F : Fr (prC pr σ ρ as) fz H fz' H') (hf : ∀ a, fz' a → H' a ≠ none) (ho : OutsR c.K fz' H' (as.map CArg.kd) vs outs) : Fr pr fz H fz' H' ∧ Rel c.K pp pr fz' σ H' (wbA as outs ρ) := by
  have F1 : Fr pr fz H fz' H' := F.narrow fun a z => .inl z
  have own : ∀ (i : Nat) (x : PyData), (wbA as outs ρ)[i]? = some (.own x) → ∃ y, ρ[i]? = some (.own y) := fun i x e => by
    by_cases hi : i ∈ lendIx as
    · exact isOwn_eq (hl i hi)
    · rw [wbA_out hi] at e; exact ⟨x, e⟩
  refine ⟨F1, by rw [wbA_len]; exact R.len, fun i s e => ?_, fun i j a x y e1 e2 s1 s2 => ?_, hf, fun a z => by rw [F1.keepP a z]; exact R.prH a z, fun p hp => ?_⟩
  · by_cases hi : i ∈ lendIx as
    · obtain ⟨a, x, s', nf, oc, e'⟩ := wbA_at (ρ := ρ) ha ho hn hi
      rw [e'] at e
      split at e
      · cases e
        obtain ⟨y, ey⟩ := isOwn_eq (hl i hi)
        obtain ⟨b, sb, _, np, _⟩ := R.own_ne ey
        rw [s'] at sb
        cases sb
        exact ⟨a, join_some.mpr s', nf, np, oc⟩
      · cases e
    · rw [wbA_out hi] at e
      have q := R.at_ i s e
      cases s with
      | emp => trivial
      | val d => obtain ⟨v, h, r⟩ := q; exact ⟨v, h, r.ext F1.ext⟩
      | scr ns => obtain ⟨v, h, r⟩ := q; exact ⟨v, h, r.ext F1.ext⟩
      | own d =>
        obtain ⟨a, h, n, np, r⟩ := q
        have pa : prC pr σ ρ as a := .inr ⟨i, d, e, join_some.mp h, hi⟩
        exact ⟨a, h, fun z => n (F.new a pa z), np, r.ext F1.ext (F.keepP a pa)⟩
  · obtain ⟨x', e1⟩ := own i x e1
    obtain ⟨y', e2⟩ := own j y e2
    exact R.sep i j a x' y' e1 e2 s1 s2
  · obtain ⟨x, e, s⟩ := R.pin p hp
    by_cases hi : p.1 ∈ lendIx as
    · obtain ⟨a, y, s', _, _, e'⟩ := wbA_at (ρ := ρ) ha ho hn hi
      rw [if_pos (List.getElem?_eq_some_iff.mp e).1] at e'
      exact ⟨y, e', s⟩
    · exact ⟨x, by rw [wbA_out hi]; exact e, s⟩
/-- THE RULE for a call -/
theorem rf_call {as : List CArg} {f : List PyData → FOut} {ta : TA} {ks : List PKd} (hks : as.map CArg.kd = ks) (ha : Rf c (RArgs c.K as) ta (evA as)) : Rf c (RRt c.K) (tCallSD (spF c.K c.RX ks f) [] (fun σ => WE c.W σ) ta) (mcall f as) := by
  subst hks
  intro pp pr fz σ H ρ Q hp R hq
  refine ha pp pr fz σ H ρ _ hp R ?_
  unfold mcall at hq
  cases e : evA as ρ with
  | bad => rw [e] at hq; exact hq.elim
  | exc x r => rw [e] at hq; exact hq
  | ok xs ρ1 =>
    rw [e] at hq
    intro vs fz1 H1 F1 R1 r1
    have r1 : ArgsV c.K σ fz1 H1 as vs xs := r1
    have hq := PostG.rest F1 hq
    simp only at hq
    split at hq
    · rename_i hok
      simp only [lendOk, Bool.and_eq_true, decide_eq_true_eq, List.all_eq_true] at hok
      obtain ⟨⟨hn, hl⟩, hs⟩ := hok
      rw [List.append_nil]
      refine ⟨prC pr σ ρ1 as, fz1, fillA ρ1 as xs, argsR_of R1 _ r1 hl (fun i hi a sa z => ?_) hs, lendNd R1 r1 hn hl, R1.fzH, fun a z => ?_, ?_⟩
      · obtain ⟨y, ey⟩ := isOwn_eq (hl i hi)
        obtain ⟨b, sb, _, np, _⟩ := R1.own_ne ey
        rw [sa] at sb
        cases sb
        rcases z with z | ⟨j, x, ej, sj, hj⟩
        · exact np z
        · exact hj (R1.sep j i a x y ej ey sj sa ▸ hi)
      · rcases z with z | ⟨j, x, ej, sj, hj⟩
        · exact R1.prH a z
        · obtain ⟨b, sb, _, _, oc⟩ := R1.own_ne ej
          rw [sj] at sb
          cases sb
          exact oc.some
      · cases ef : f (fillA ρ1 as xs) with
        | bad => rw [ef] at hq; exact hq.elim
        | ok r outs =>
          rw [ef] at hq
          intro v fz2 H2 F2 hf2 ho hr
          obtain ⟨F3, R3⟩ := R1.back r1 hn hl F2 hf2 ho
          refine hq v fz2 H2 F3 R3 ?_
          cases r with
          | v d => exact hr
          | o d =>
            obtain ⟨a, rfl, nf, np, na, oc⟩ := hr
            refine ⟨a, rfl, nf, fun z => np (.inl z), fun i x ei si => ?_, oc⟩
            by_cases hi : i ∈ lendIx as
            · exact na ((lendAd r1).mpr ⟨i, hi, si⟩)
            · rw [wbA_out hi] at ei
              exact np (.inr ⟨i, x, ei, si, hi⟩)
        | exc x outs =>
          rw [ef] at hq
          intro cls dx fz2 H2 F2 hf2 ho hr
          obtain ⟨F3, R3⟩ := R1.back r1 hn hl F2 hf2 ho
          exact hq cls dx fz2 H2 F3 R3 hr
    · exact hq.elim
/-- the result as a value -/
def rtV (m : M Rt) : M PyData := bnd m fun r ρ => match r with
  | .v d => .ok d ρ
  | .o d => .ok d ρ
def rtO (m : M Rt) : M PyData := bnd m fun r ρ => match r with
  | .o d => .ok d ρ
  | .v _ => .bad
theorem rf_rtV {t : TE} {m : M Rt} (h : Rf c (RRt c.K) t m) : Rf c (RV c.K) t (rtV m) := by
  intro pp pr fz σ H ρ Q hp R hq
  refine h pp pr fz σ H ρ _ hp R (hq.bnd fun v x fz1 H1 ρ1 F1 R1 r1 P1 => ?_)
  cases x with
  | v d => exact ok_post P1 R1 r1
  | o d =>
    obtain ⟨a, rfl, nf, np, ns, oc⟩ := r1
    obtain ⟨F2, R2⟩ := frz_free R1 oc.some np ns
    exact P1 (.ref a) _ H1 F2 R2 oc.frz
theorem rf_rtO {t : TE} {m : M Rt} (h : Rf c (RRt c.K) t m) : Rf c (RO c.K) t (rtO m) := by
  intro pp pr fz σ H ρ Q hp R hq
  refine h pp pr fz σ H ρ _ hp R (hq.bnd fun v x fz1 H1 ρ1 F1 R1 r1 P1 => ?_)
  cases x with
  | o d => exact ok_post P1 R1 r1
  | v d => exact P1.elim
end
end PL

/-! PL10: built-in functions by pure values. -/
namespace PL
open PySem PySem.Spec L2
open PyProof.Rows hiding St

def len? : PyData → Option PyData
  | .list ds => some (.int ds.length)
  | .tuple ds => some (.int ds.length)
  | .str x => if lenOk x.length = true then some (.int x.length) else none
  | _ => none
def abs? : PyData → Option PyData
  | .int i => some (.int (if i < 0 then -i else i))
  | _ => none
def int? : PyData → Option PyData
  | .int i => some (.int i)
  | .bool b => some (.int (if b then 1 else 0))
  | .str x => if lenOk x.length = true then (intText? x).map .int else none
  | _ => none
def tuple? : PyData → Option PyData
  | .list ds => some (.tuple ds)
  | .tuple ds => some (.tuple ds)
  | _ => none
def list? : PyData → Option PyData
  | .list ds => some (.list ds)
  | .tuple ds => some (.list ds)
  | _ => none
def sum? : PyData → Option PyData
  | .list ds => (ints? ds).map fun ns => .int ns.sum
  | _ => none
def max? : PyData → Option PyData
  | .list ds => (ints? ds).bind fun ns => if ns.isEmpty = true then none else some (.int (maxL ns))
  | _ => none
def min? : PyData → Option PyData
  | .list ds => (ints? ds).bind fun ns => if ns.isEmpty = true then none else some (.int (minL ns))
  | _ => none
def tv? : PyData → Option Bool
  | .bool b => some b
  | .int i => some (i != 0)
  | .none => some false
  | _ => none
def tvs? : List PyData → Option (List Bool)
  | [] => some []
  | d :: ds => (tv? d).bind fun b => (tvs? ds).map (b :: ·)
def any? : PyData → Option PyData
  | .list ds => (tvs? ds).map fun bs => .bool (bs.any id)
  | _ => none
def all? : PyData → Option PyData
  | .list ds => (tvs? ds).map fun bs => .bool (bs.all id)
  | _ => none
def isort : List Int → List Int := fun l => l.mergeSort (fun a b => decide (a ≤ b))
def prI (p : Int × Int) : PyData := .tuple [.int p.1, .int p.2]
def pair? : PyData → Option (Int × Int)
  | .tuple [.int i, .int j] => some (i, j)
  | _ => none
def pairs? : List PyData → Option (List (Int × Int))
  | [] => some []
  | d :: ds => (pair? d).bind fun p => (pairs? ds).map fun ps => p :: ps
def psort (ps : List (Int × Int)) : List (Int × Int) := ps.mergeSort leP
/-- sorted: of ints, of pairs of ints -/
def sortI? (x : PyData) : Option PyData := (seq? x).bind fun ds => match ints? ds with
  | some ns => some (.list ((isort ns).map PyData.int))
  | none => (pairs? ds).map fun ps => .list ((psort ps).map prI)
def max2? : PyData → PyData → Option PyData
  | .int i, .int j => some (.int (if j > i then j else i))
  | _, _ => none
def min2? : PyData → PyData → Option PyData
  | .int i, .int j => some (.int (if j < i then j else i))
  | _, _ => none
def reprOk (d : PyData) : Bool := d.showable && !d.hasDict && decide (d.depth ≤ 60) && lenOk d.shown.length
def repr? : PyData → Option PyData
  | .int i => if i.natAbs.log2 < 12900 then some (.str (toString i)) else none
  | d => if reprOk d = true then some (.str d.shown) else none

theorem leP_iff {p q : Int × Int} : leP p q = true ↔ p.1 < q.1 ∨ (p.1 = q.1 ∧ p.2 ≤ q.2) := by
  unfold leP
  rw [Bool.not_eq_true', SrtO.lexB_no]
  omega
theorem psort_perm (ps : List (Int × Int)) : (psort ps).Perm ps := List.mergeSort_perm ps _
theorem psort_sorted (ps : List (Int × Int)) : (psort ps).Pairwise (fun p q => leP p q = true) :=
  List.pairwise_mergeSort (fun a b c h1 h2 => by rw [leP_iff] at *; omega) (fun a b => by
    rw [Bool.or_eq_true, leP_iff, leP_iff]; omega) ps
theorem psort_unique {a b : List (Int × Int)} (p : a.Perm b) (h1 : a.Pairwise fun p q => leP p q = true) (h2 : b.Pairwise fun p q => leP p q = true) : a = b :=
  p.eq_of_pairwise (fun x y _ _ h h' => by
    rw [leP_iff] at h h'
    exact Prod.ext (by omega) (by omega)) h1 h2
theorem psort_id {ps : List (Int × Int)} (h : ps.Pairwise fun p q => leP p q = true) : psort ps = ps := psort_unique (psort_perm ps) (psort_sorted ps) h
theorem isort_perm (ns : List Int) : (isort ns).Perm ns := List.mergeSort_perm ns _
theorem isort_sorted (ns : List Int) : (isort ns).Pairwise (· ≤ ·) := by
  have h := List.pairwise_mergeSort (le := fun a b : Int => decide (a ≤ b)) (fun a b c h1 h2 => by simp at *; omega) (fun a b => by simp; omega) ns
  exact h.imp fun h => by simpa using h
theorem sorted_unique : ∀ {a b : List Int}, a.Perm b → a.Pairwise (· ≤ ·) → b.Pairwise (· ≤ ·) → a = b := fun p h1 h2 => p.eq_of_pairwise (fun x y _ _ h h' => Int.le_antisymm h h') h1 h2
theorem isort_of_sorted {ns : List Int} (h : ns.Pairwise (· ≤ ·)) : isort ns = ns := sorted_unique (isort_perm ns) (isort_sorted ns) h

section
variable {K : PySem.W.Frag} {fz : Addr → Prop} {H : Hp}
def rLen (K : PySem.W.Frag) : RL := fun xs H Q => (∃ p ys, xs = [.ref p] ∧ (SqL K H p ys ∨ SqT K H p ys) ∧ Q (.int ys.length) H) ∨ (∃ z, xs = [.str z] ∧ z.length ≤ sizeLine ∧ Q (.int z.length) H)
theorem cr_len {X : Cx} : CallR X (.builtin "len") (rLen X.K) := call_len_seq.or call_len_str
theorem c1_len : C1 K (rLen K) len? := by
  intro fz H v x z hv e Q q
  cases x <;> first | (cases e; done) | skip
  · rename_i s
    simp only [len?] at e
    split at e
    · rename_i h
      cases e
      rw [hv.str]
      exact .inr ⟨s, rfl, lenOk_iff.mp h, Alc.same (.int _) q⟩
    · cases e
  · cases e
    obtain ⟨a, vs, rfl, sa, ra⟩ := hv.lst
    refine .inl ⟨a, vs, rfl, .inl (SqL.of sa), ?_⟩
    rw [ra.length]
    exact Alc.same (.int _) q
  · cases e
    obtain ⟨a, vs, rfl, sa, ra, _⟩ := hv.tup
    refine .inl ⟨a, vs, rfl, .inr sa, ?_⟩
    rw [ra.length]
    exact Alc.same (.int _) q
def rAbs : RL := fun xs H Q => ∃ i, xs = [.int i] ∧ Q (.int (if i < 0 then -i else i)) H
theorem c1_abs : C1 K rAbs abs? := by
  intro fz H v x z hv e Q q
  cases x <;> first | (cases e; done) | skip
  cases e
  rw [hv.int]
  exact ⟨_, rfl, Alc.same (.int _) q⟩
/-- no digits limit set -/
def NoDg (K : PySem.W.Frag) : Prop := PySem.W.nsIn K cStatics "sys.int_max_str_digits" = some none
theorem NoDg.looks {K : PySem.W.Frag} {M : Model} {h : Heap} (n : NoDg K) (k : K.In h) : PySem.W.Looks M h (nsGet cStatics "sys.int_max_str_digits") none := PySem.W.looks_nsIn k n
theorem digitsW {M : Model} {A : Around} {E : Value → Shared → Prop} {s : Shared} {Q : Nat → Shared → Prop} {K : PySem.W.Frag} (n : NoDg K) (k : K.In s.heap) (h : Q 4300 s) : wpAny M A Builtin.intMaxStrDigits Q E s := by
  unfold Builtin.intMaxStrDigits
  exact wpAny_bind ((n.looks k).here (wpAny_pure h))
theorem intTextW {M : Model} {A : Around} {E : Value → Shared → Prop} {s : Shared} {Q : Value → Shared → Prop} {v : Value} {text : List Nat} {n : Int} {K : PySem.W.Frag} (nd : NoDg K) (k : K.In s.heap)
    (hr : (int_private% "readNumeral") (if (text.takeWhile (· != 0)).length ≤ 640 then 0 else 4300) 10 (text.takeWhile (· != 0)) = (int_private% "Numeral.value") n)
    (ha : ((text.takeWhile (· != 0)).length == text.length) = true) (h : Q (.int n s.toks) { s with toks := s.toks + 1 }) :
    wpAny M A ((int_private% "intFromText") v text 10) Q E s := by
  by_cases hs : (text.takeWhile (· != 0)).length ≤ 640
  · rw [if_pos hs] at hr
    exact PySem.W.KIN.wp_text hs hr ha h
  · rw [if_neg hs] at hr
    obtain ⟨hp, g, d, tk, os⟩ := s
    repeat (any_goals (first
      | assumption
      | (with_reducible refine wpAny_ite_false (decide_eq_false hs) ?_)
      | (refine wpAny_bind (digitsW nd k ?_))
      | (with_reducible refine wpAny_ite_true (decide_eq_true ha) ?_)
      | wp_step))
    all_goals (try rw [hr])
    all_goals (try dsimp only)
    repeat (any_goals (first
      | assumption
      | (with_reducible refine wpAny_ite_true (decide_eq_true ha) ?_)
      | wp_step))
theorem meets_textW {x : PySem.Str} {u : Tok} {n : Int} {K : PySem.W.Frag} (nd : NoDg K) (hl : x.length ≤ sizeLine) (hn : PySem.intText? x = some n) :
    Meets (Builtin.«int.__new__» ⟨[.type "int", .str x u], []⟩) (fun _ R s => K.In s.heap ∧ R (.ok (.ret (.int n s.toks))) { s with toks := s.toks + 1 }) :=
  .of_wp fun prog w A R s hh => by
    obtain ⟨k, h⟩ := hh
    obtain ⟨hp, g, d, tk, os⟩ := s
    have f1 := F.conv_sub_int
    have f2 := F.madeHere_int
    have f3 := PySem.W.KIN.str_int
    have f4 := PySem.W.KIN.str_idx
    have f5 := PySem.W.KIN.str_trunc
    have f6 : typeOf (.str x u) = pure (.type "str") := rfl
    have hr : (int_private% "readNumeral") (numLimitOf x) 10 (numSeenOf x) = (int_private% "Numeral.value") n ∧ ((numSeenOf x).length == (numTextOf x).length) = true := by
      rcases readAny x hl with ⟨m, h1, h2, h3⟩ | ⟨h1, _⟩
      · rw [hn] at h1
        injection h1 with h1
        subst h1
        exact ⟨h3, h2⟩
      · rw [hn] at h1
        cases h1
    have hk := PySem.W.KIN.Hid.mk hr
    clear hr hl hn
    repeat (any_goals (first
      | assumption
      | ((with_reducible show wpAny _ _ ((int_private% "intFromText") _ _ _) _ _ _); refine intTextW nd k hk.out.1 hk.out.2 ?_)
      | wp_step))
    all_goals first | exact ⟨_, rfl, h⟩ | skip
def rIntS : RL := fun xs H Q => ∃ a n, xs = [.str a] ∧ PySem.intText? a = some n ∧ a.length ≤ sizeLine ∧ Q (.int n) H
theorem call_intS {X : Cx} (nd : NoDg X.K) : CallR X (.type "int") rIntS := by
  intro pins s σ H xs us Q I rs h
  obtain ⟨a, n, rfl, hn, hl, h⟩ := h
  obtain ⟨u, rfl, t, rfl⟩ := vals1 rs
  exact call_int_1 (meets_textW nd hl hn) ⟨I.kIn, ⟨rfl, ⟨.int n, H, I.tok _, ⟨_, rfl⟩, h⟩⟩⟩
def rInt0 : RL := fun xs H Q => (∃ i, xs = [.int i] ∧ Q (.int i) H) ∨ ∃ k, xs = [.bl k] ∧ Q (.int (if k then 1 else 0)) H
def rInt : RL := fun xs H Q => rInt0 xs H Q ∨ rIntS xs H Q
theorem cr_int {X : Cx} (nd : NoDg X.K) : CallR X (.type "int") rInt := fun pins s σ H xs us Q I rs h =>
  h.elim (call_int1 pins s σ H xs us Q I rs) (call_intS nd pins s σ H xs us Q I rs)
theorem c1_int : C1 K rInt int? := by
  intro fz H v x z hv e Q q
  cases x <;> first | (cases e; done) | skip
  · cases e; rw [hv.bl]; exact .inl (.inr ⟨_, rfl, Alc.same (.int _) q⟩)
  · cases e; rw [hv.int]; exact .inl (.inl ⟨_, rfl, Alc.same (.int _) q⟩)
  · rename_i a
    rw [hv.str]
    simp only [int?] at e
    split at e
    · rename_i h
      cases ea : intText? a with
      | none => rw [ea] at e; cases e
      | some n =>
        rw [ea] at e
        cases e
        exact .inr ⟨_, _, rfl, ea, lenOk_iff.mp h, Alc.same (.int _) q⟩
    · cases e
def rTuple (K : PySem.W.Frag) : RL := fun xs H Q => ∃ p ys, xs = [.ref p] ∧ ((SqL K H p ys ∧ ∀ l, H l = none → Q (.ref l) (upd H l (.tup ys))) ∨ (SqT K H p ys ∧ Q (.ref p) H))
theorem c1_tuple : C1 K (rTuple K) tuple? := by
  intro fz H v x z hv e Q q
  cases x <;> first | (cases e; done) | skip
  · cases e
    obtain ⟨a, vs, rfl, sa, ra⟩ := hv.lst
    exact ⟨a, vs, rfl, .inl ⟨SqL.of sa, alc_tup ra q⟩⟩
  · cases e
    obtain ⟨a, vs, rfl, sa, ra, ra'⟩ := hv.tup
    exact ⟨a, vs, rfl, .inr ⟨sa, Alc.same ra' q⟩⟩
def rList (K : PySem.W.Frag) : RL := fun xs H Q => ∃ p ys, xs = [.ref p] ∧ (SqL K H p ys ∨ SqT K H p ys) ∧ ∀ l, H l = none → Q (.ref l) (upd H l (.lst ys))
theorem co_list : CO K (rList K) list? := by
  intro fz H v x z hv e hf Q q
  have go : ∀ {vs : List V} {ds : List PyData}, RepA K fz H vs ds → ∀ p, H p = none → OwnC K fz (upd H p (.lst vs)) p (.list ds) := fun r p hp =>
    ⟨_, upd_same, RepA.ext ⟨fun _ z => z, fun a z => upd_ne fun q => hf a z (by rw [q]; exact hp)⟩ r⟩
  cases x <;> first | (cases e; done) | skip
  · cases e
    obtain ⟨a, vs, rfl, sa, ra⟩ := hv.lst
    exact ⟨a, vs, rfl, .inl (SqL.of sa), fun l hl => q l _ hl (fun b n => upd_ne n) (go ra l hl)⟩
  · cases e
    obtain ⟨a, vs, rfl, sa, ra, _⟩ := hv.tup
    exact ⟨a, vs, rfl, .inr sa, fun l hl => q l _ hl (fun b n => upd_ne n) (go ra l hl)⟩
theorem ints_rep {vs : List V} {ds : List PyData} {ns : List Int} (r : RepA K fz H vs ds) (e : ints? ds = some ns) : vs = ns.map V.int := by
  rw [ints_of e] at r; exact r.ints
theorem bools_rep {vs : List V} {ds : List PyData} {ns : List Bool} (r : RepA K fz H vs ds) (e : bools? ds = some ns) : vs = ns.map V.bl := by
  rw [bools_of e] at r; exact r.bls
theorem c1_sum : C1 K (rSum K) sum? := by
  intro fz H v x z hv e Q q
  cases x <;> first | (cases e; done) | skip
  rename_i ds
  simp only [sum?] at e
  cases e1 : ints? ds with
  | none => rw [e1] at e; cases e
  | some ns =>
    rw [e1] at e
    cases e
    obtain ⟨a, vs, rfl, sa, ra⟩ := hv.lst
    rw [ints_rep ra e1] at sa
    exact ⟨a, ns, rfl, SqL.of sa, Alc.same (.int _) q⟩
theorem isEmpty_pos {α : Type} {l : List α} (h : ¬ l.isEmpty = true) : 0 < l.length := by cases l <;> simp_all
theorem c1_max : C1 K (rMax K) max? := by
  intro fz H v x z hv e Q q
  cases x <;> first | (cases e; done) | skip
  rename_i ds
  simp only [max?] at e
  cases e1 : ints? ds with
  | none => rw [e1] at e; cases e
  | some ns =>
    rw [e1] at e
    simp only [Option.bind_some] at e
    split at e
    · cases e
    · rename_i hn
      cases e
      obtain ⟨a, vs, rfl, sa, ra⟩ := hv.lst
      rw [ints_rep ra e1] at sa
      refine ⟨a, ns, rfl, SqL.of sa, isEmpty_pos hn, fun m hm hle => ?_⟩
      obtain ⟨h1, h2⟩ := maxL_spec ns (fun z => by rw [z] at hn; simp at hn)
      rw [show m = maxL ns from Int.le_antisymm (h2 m hm) (hle _ h1)]
      exact Alc.same (.int _) q
theorem c1_min : C1 K (rMin K) min? := by
  intro fz H v x z hv e Q q
  cases x <;> first | (cases e; done) | skip
  rename_i ds
  simp only [min?] at e
  cases e1 : ints? ds with
  | none => rw [e1] at e; cases e
  | some ns =>
    rw [e1] at e
    simp only [Option.bind_some] at e
    split at e
    · cases e
    · rename_i hn
      cases e
      obtain ⟨a, vs, rfl, sa, ra⟩ := hv.lst
      rw [ints_rep ra e1] at sa
      refine ⟨a, ns, rfl, SqL.of sa, isEmpty_pos hn, fun m hm hle => ?_⟩
      obtain ⟨h1, h2⟩ := minL_spec ns (fun z => by rw [z] at hn; simp at hn)
      rw [show m = minL ns from Int.le_antisymm (hle _ h1) (h2 m hm)]
      exact Alc.same (.int _) q
theorem tvs_rep : ∀ {vs : List V} {ds : List PyData} {bs : List Bool}, RepA K fz H vs ds → tvs? ds = some bs → vs.map tvV = bs.map some
  | _, _, bs, .nil, e => by cases e; rfl
  | _, _, bs, @RepA.cons _ _ _ v vs d ds h r, e => by
    simp only [tvs?] at e
    cases e1 : tv? d with
    | none => rw [e1] at e; cases e
    | some b =>
      rw [e1] at e
      simp only [Option.bind_some] at e
      cases e2 : tvs? ds with
      | none => rw [e2] at e; cases e
      | some cs =>
        rw [e2] at e
        cases e
        rw [List.map_cons, List.map_cons, tvs_rep r e2]
        congr 1
        cases d <;> first | (cases e1; done) | skip
        · cases e1; cases h; rfl
        · cases e1; cases h; rfl
        · cases e1; cases h; rfl
theorem c1_any : C1 K (rAnyV K) any? := by
  intro fz H v x z hv e Q q
  cases x <;> first | (cases e; done) | skip
  rename_i ds
  simp only [any?] at e
  cases e1 : tvs? ds with
  | none => rw [e1] at e; cases e
  | some ns =>
    rw [e1] at e
    cases e
    obtain ⟨a, vs, rfl, sa, ra⟩ := hv.lst
    exact ⟨a, vs, ns, rfl, SqL.of sa, tvs_rep ra e1, Alc.same (.bl _) q⟩
theorem c1_all : C1 K (rAllV K) all? := by
  intro fz H v x z hv e Q q
  cases x <;> first | (cases e; done) | skip
  rename_i ds
  simp only [all?] at e
  cases e1 : tvs? ds with
  | none => rw [e1] at e; cases e
  | some ns =>
    rw [e1] at e
    cases e
    obtain ⟨a, vs, rfl, sa, ra⟩ := hv.lst
    exact ⟨a, vs, ns, rfl, SqL.of sa, tvs_rep ra e1, Alc.same (.bl _) q⟩
theorem pairs_rep : ∀ {vs : List V} {ds : List PyData} {ps : List (Int × Int)}, RepA K fz H vs ds → pairs? ds = some ps → ds = ps.map prI ∧ ∀ (x : V), x ∈ vs → ∃ p, p ∈ ps ∧ Rep K fz H x (prI p)
  | _, [], ps, .nil, e => by cases e; exact ⟨rfl, fun x h => nomatch h⟩
  | _, d :: ds, ps, .cons (v := v) (vs := vs) r t, e => by
    unfold pairs? at e
    cases e1 : pair? d with
    | none => rw [e1] at e; cases e
    | some p =>
      rw [e1] at e
      simp only [Option.bind_some] at e
      cases e2 : pairs? ds with
      | none => rw [e2] at e; cases e
      | some qs =>
        rw [e2] at e
        cases e
        have ed : d = prI p := by
          unfold pair? at e1
          split at e1
          · cases e1; rfl
          · cases e1
        obtain ⟨h1, h2⟩ := pairs_rep t e2
        refine ⟨by rw [List.map_cons, ← h1, ed], fun x hx => ?_⟩
        rcases List.mem_cons.mp hx with rfl | hx
        · exact ⟨p, List.mem_cons_self, ed ▸ r⟩
        · obtain ⟨q, hq, hr⟩ := h2 x hx
          exact ⟨q, List.mem_cons_of_mem _ hq, hr⟩
theorem rep_pair {x : V} {p : Int × Int} (h : Rep K fz H x (prI p)) : PairV K H x p := by
  cases h with
  | tup h r =>
    cases r with
    | cons r1 r =>
      cases r with
      | cons r2 r => cases r; cases r1; cases r2; exact ⟨_, rfl, h.sq⟩
theorem repA_zip : ∀ {vs : List V} {ps : List (Int × Int)}, vs.length = ps.length → (∀ z ∈ vs.zip ps, Rep K fz H z.1 (prI z.2)) → RepA K fz H vs (ps.map prI)
  | [], [], _, _ => .nil
  | v :: vs, p :: ps, h, k => .cons (k (v, p) (by simp)) (repA_zip (by simpa using h) fun z m => k z (by simp [m]))
theorem zip_repA : ∀ {vs : List V} {ps : List (Int × Int)}, RepA K fz H vs (ps.map prI) → ∀ z ∈ vs.zip ps, Rep K fz H z.1 (prI z.2)
  | _, [], _, z, m => by simp at m
  | _, p :: ps, .cons r t, z, m => by
    rw [List.zip_cons_cons] at m
    rcases List.mem_cons.mp m with rfl | m
    · exact r
    · exact zip_repA t z m
theorem zip_snd : ∀ {α β : Type} {xs : List α} {ys : List β}, xs.length = ys.length → (xs.zip ys).map (·.2) = ys := fun {α β xs ys} h => by
  rw [List.map_snd_zip]; omega
theorem cr_sortedA {X : Cx} : CallR X (.builtin "sorted") (fun vs H Q => rSortedU X.K vs H Q ∨ rSortedPU X.K vs H Q) := cr_sortedU.or cr_sortedPU
theorem co_sortI : CO K (fun vs H Q => rSortedU K vs H Q ∨ rSortedPU K vs H Q) sortI? := by
  intro fz H v x z hv e hf Q q
  unfold sortI? at e
  cases es : seq? x with
  | none => rw [es] at e; cases e
  | some ds =>
    rw [es] at e
    simp only [Option.bind_some] at e
    have fin : ∀ (u : Bool) (a : Addr) (vs : List V), RepA K fz H vs ds → SqU K u H a vs → rSortedU K [V.ref a] H Q ∨ rSortedPU K [V.ref a] H Q := fun u a vs ra sa => by
      cases e1 : ints? ds with
      | some ns =>
        rw [e1] at e
        cases e
        left
        rw [ints_rep ra e1] at sa
        refine ⟨u, a, ns, rfl, sa, fun ns' p hp hs hn => ?_⟩
        have : ns' = isort ns := sorted_unique (hp.trans (isort_perm ns).symm) hs (isort_sorted ns)
        subst this
        exact q p _ hn (fun b n => upd_ne n) ⟨_, upd_same, RepA.of_ints _⟩
      | none =>
        rw [e1] at e
        dsimp only at e
        cases e2 : pairs? ds with
        | none => rw [e2] at e; cases e
        | some ps =>
          rw [e2] at e
          cases e
          right
          obtain ⟨ed, hx⟩ := pairs_rep ra e2
          subst ed
          have hl : vs.length = ps.length := by simpa using ra.length
          refine ⟨u, a, vs, ps, rfl, sa, hl, fun z m => rep_pair (zip_repA ra z m), fun ys qs p hq hp hs hn => ?_⟩
          have e3 : qs = psort ps := by
            refine psort_unique ?_ hs (psort_sorted ps)
            have h1 := hp.map (·.2)
            rw [zip_snd hq, zip_snd hl] at h1
            exact h1.trans (psort_perm ps).symm
          subst e3
          have r1 : RepA K fz H ys ((psort ps).map prI) := repA_zip hq fun z m => zip_repA ra z (hp.mem_iff.mp m)
          have E : Ext fz H fz (upd H p (.lst ys)) := ⟨fun _ z => z, fun b z => upd_ne fun e => hf b z (e ▸ hn)⟩
          exact q p _ hn (fun b n => upd_ne n) ⟨_, upd_same, r1.ext E⟩
    cases x <;> first | (cases es; done) | skip
    · cases es
      obtain ⟨a, vs, rfl, sa, ra⟩ := hv.lst
      exact fin false a vs ra (SqL.of sa)
    · cases es
      obtain ⟨a, vs, rfl, sa, ra, _⟩ := hv.tup
      exact fin true a vs ra sa
def rMax2 : RL := fun xs H Q => ∃ i j, xs = [.int i, .int j] ∧ Q (.int (if j > i then j else i)) H
def rMin2 : RL := fun xs H Q => ∃ i j, xs = [.int i, .int j] ∧ Q (.int (if j < i then j else i)) H
theorem c2_max : C2 K rMax2 max2? := by
  intro fz H v w x y z hv hw e Q q
  cases x <;> first | (cases e; done) | skip
  cases y <;> first | (cases e; done) | skip
  cases e; cases hv; cases hw
  exact ⟨_, _, rfl, Alc.same (.int _) q⟩
theorem c2_min : C2 K rMin2 min2? := by
  intro fz H v w x y z hv hw e Q q
  cases x <;> first | (cases e; done) | skip
  cases y <;> first | (cases e; done) | skip
  cases e; cases hv; cases hw
  exact ⟨_, _, rfl, Alc.same (.int _) q⟩

/-! ### repr -/
mutual
theorem Rep.dpn : ∀ {v : V} {d : PyData}, Rep K fz H v d → d.hasDict = false → Dp K H v d
  | _, _, .non, _ => .non
  | _, _, .bl b, _ => .bl b
  | _, _, .int i, _ => .int i
  | _, _, .str x, _ => .str x
  | _, _, .lst h e r, s => .lst (SqL.of e) (RepA.dpn r (by simpa [PyData.hasDict] using s))
  | _, _, .tup h r, s => .tup h.sq (RepA.dpn r (by simpa [PyData.hasDict] using s))
  | _, _, .dic h e r, s => by simp [PyData.hasDict] at s
theorem RepA.dpn : ∀ {v : List V} {d : List PyData}, RepA K fz H v d → PyData.hasDictAll d = false → DpAll K H v d
  | _, _, .nil, _ => .nil
  | _, _, .cons h r, s => by
    have s' := s
    simp only [PyData.hasDictAll, Bool.or_eq_false_iff] at s'
    exact .cons (Rep.dpn h s'.1) (RepA.dpn r s'.2)
end
theorem RepP.dpn {v : V} {d : PyData} (h : RepP K fz H v d) (s : d.hasDict = false) : Dp K H v d := by
  rcases h with h | ⟨a, rfl, _, z⟩
  · exact h.dpn s
  · cases d with
    | list ds => obtain ⟨vs, e, r⟩ := z; exact .lst (SqL.of e) (r.dpn (by simpa [PyData.hasDict] using s))
    | dict ds => simp [PyData.hasDict] at s
    | _ => exact z.elim
theorem NoDg.digits {K : PySem.W.Frag} {h : Heap} (n : NoDg K) (k : K.In h) (l : h.NoLimit) : h.NoDigits := by
  obtain ⟨mc, ⟨o, es, ep, e1, e2, e3, e4⟩, _⟩ := l
  refine ⟨mc, ⟨o, es, ep, e1, e2, e3, e4⟩, ?_⟩
  unfold NoDg PySem.W.nsIn at n
  split at n
  · rename_i c d es' n' sl ho
    have e5 := k _ _ ho
    rw [e1] at e5
    cases e5
    cases e2
    rw [← e4]
    unfold nsFind findBy
    rw [← Array.find?_toList]
    split at n
    · cases n
    · rename_i he
      rw [he]
      rfl
  · cases n
def rReprI : RL := fun vs H Q => ∃ i, vs = [.int i] ∧ i.natAbs.log2 < 12900 ∧ Q (.str (toString i)) H
theorem cr_reprI {X : Cx} (nd : NoDg X.K) (hu : X.A.units + 64 < cLine) : CallR X (.builtin "repr") rReprI := by
  intro pins s σ H xs us Q I rs h
  obtain ⟨i, rfl, hl, q⟩ := h
  obtain ⟨u, rfl, t, rfl⟩ := vals1 rs
  have hd : s.heap.NoDigits := nd.digits I.kIn (I.ok.mod.nolimit.keeps fun b o e => (I.bs b o e).1)
  have lt : i.natAbs < 10 ^ 4300 := Nat.lt_of_lt_of_le (PyProof.Rows.lt_of_log2 hl) PyProof.Rows.pow_lo
  refine PySem.call_repr_slot (T := "int") (idr := "int.__repr__") (by omega) (typeIs_int s i t) PySem.F.slot_int_repr.toG ?_
  refine wpAny_call_entry F.slot_int_repr (typeIs_int s i t) F.entry_int_repr ?_ (F.args_int_repr_1 _)
  unfold Builtin.«int.__repr__»
  show wpAny _ _ (do let r ← Builtin.overDigitLimit? i; _) _ _ s
  refine wpAny_bind (PyProof.Rows.overDigitLimit_any hd (fun hlt => ?_) (fun hge => absurd lt (Nat.not_lt.mpr hge)))
  exact wpAny_bind (wpAny_mkStr (wpAny_pure ⟨_, rfl, _, _, rfl, .str _, H, I.tok _, ⟨_, rfl⟩, q⟩) (int_text_fits10 hlt))
def rRepr1 (K : PySem.W.Frag) : RL := fun vs H Q => ∃ v d, vs = [v] ∧ Dp K H v d ∧ d.showable = true ∧ d.hasDict = false ∧ d.depth ≤ 60 ∧ d.shown.length ≤ sizeLine ∧ Q (.str d.shown) H
theorem cr_repr1 {X : Cx} (hg : X.A.guards = some []) (hu : X.A.units + 64 < cLine) : CallR X (.builtin "repr") (rRepr1 X.K) := by
  intro pins s σ H xs us Q I r h
  obtain ⟨v, d, rfl, hd, hs, hn, hl, hz, q⟩ := h
  obtain ⟨u, rfl, rx⟩ := vals1 r
  have fin : ∀ (h' : Heap) (t : Tok) (tk : Nat), (∀ b o, s.heap.get? b = some o → h'.get? b = some o) → EP X pins σ Q (.str d.shown t) { s with heap := h', toks := tk } := fun h' t tk hk => ⟨.str d.shown, H, I.kept hk, ⟨t, rfl⟩, q⟩
  cases hd with
  | non => cases rx; exact PySem.P.repr_of_none (by have := fin s.heap s.toks (s.toks + 1) (fun _ _ e => e); simpa [PyData.shown] using this)
  | bl b =>
    cases rx
    refine PySem.P.repr_of_bool ?_
    have := fin s.heap s.toks (s.toks + 1) (fun _ _ e => e)
    cases b <;> simpa [PyData.shown] using this
  | int i =>
    obtain ⟨t, rfl⟩ := rx
    exact PySem.P.repr_of_int (by simpa [PyData.showable] using hs) (by have := fin s.heap s.toks (s.toks + 1) (fun _ _ e => e); simpa [PyData.shown] using this)
  | str x =>
    obtain ⟨t, rfl⟩ := rx
    exact PySem.P.repr_of_str (by have := fin s.heap s.toks (s.toks + 1) (fun _ _ e => e); simpa [PyData.shown] using this) (by simpa [PyData.shown] using hz)
  | @lst a ys ds h1 h2 =>
    obtain ⟨as, rr⟩ := Dp.reads I _ _ _ (.lst h1 h2) rx
    cases rx
    exact repr_of_reads' rr hs (fun h => absurd (hn.symm.trans h) Bool.false_ne_true) hg (by omega) (fun _ _ e => e) (fun h' u tk hk => fin h' u tk hk) hz
  | @tup a ys ds h1 h2 =>
    obtain ⟨as, rr⟩ := Dp.reads I _ _ _ (.tup h1 h2) rx
    cases rx
    exact repr_of_reads' rr hs (fun h => absurd (hn.symm.trans h) Bool.false_ne_true) hg (by omega) (fun _ _ e => e) (fun h' u tk hk => fin h' u tk hk) hz
def rRepr (K : PySem.W.Frag) : RL := fun vs H Q => rReprI vs H Q ∨ rRepr1 K vs H Q
theorem cr_repr {X : Cx} (nd : NoDg X.K) (hg : X.A.guards = some []) (hu : X.A.units + 64 < cLine) : CallR X (.builtin "repr") (rRepr X.K) := fun pins s σ H xs us Q I rs h =>
  h.elim (cr_reprI nd hu pins s σ H xs us Q I rs) (cr_repr1 hg hu pins s σ H xs us Q I rs)
theorem c1_repr : C1 K (rRepr K) repr? := by
  intro fz H v x z hv e Q q
  unfold repr? at e
  split at e
  · split at e
    · rename_i h
      cases e
      rw [hv.int]
      exact .inl ⟨_, rfl, h, Alc.same (.str _) q⟩
    · cases e
  refine .inr ?_
  split at e
  · rename_i h
    simp only [reprOk, Bool.and_eq_true, Bool.not_eq_true', decide_eq_true_eq] at h
    obtain ⟨⟨⟨h1, h2⟩, h3⟩, h4⟩ := h
    cases e
    exact ⟨v, x, rfl, hv.dpn h2, h1, h2, h3, lenOk_iff.mp h4, Alc.same (.str _) q⟩
  · cases e
end

/-! ### the script -/
section
variable {c : Cw} {pp : List (Nat × Addr)} {pr fz : Addr → Prop} {σ : L2.St} {H : Hp} {ρ : Env}
def scrNs (i : Nat) (ρ : Env) : Option (List Int) := match ρ[i]? with
  | some (.scr ns) => some ns
  | _ => none
theorem scrNs_eq {i : Nat} {ns : List Int} (h : scrNs i ρ = some ns) : ρ[i]? = some (.scr ns) := by
  unfold scrNs at h
  split at h
  · rename_i e; cases h; exact e
  · cases h
def mlenS (i : Nat) : M PyData := fun ρ => match scrNs i ρ with
  | some ns => .ok (.int ns.length) ρ
  | none => .bad
theorem rf_lenS {i : Nat} : Rf c (RV c.K) (tCB (rLen c.K) (tCons (tVar i) tNil)) (mlenS i) := by
  intro pp pr fz σ H ρ Q hp R hq
  unfold mlenS at hq
  cases e : scrNs i ρ with
  | none => rw [e] at hq; exact hq.elim
  | some ns =>
    simp only [e] at hq
    obtain ⟨a, hs, hr⟩ := R.at_ i _ (scrNs_eq e)
    refine ⟨_, join_some.mp hs, .inl ⟨a, _, rfl, .inl hr.sq, ?_⟩⟩
    rw [List.length_map]
    exact ok_post hq R (.int _)
def mixS (i : Nat) (m : M PyData) : M PyData := fun ρ => match scrNs i ρ with
  | some ns => bnd m (fun k => lft ((asI? k).bind fun j => (atI ns j).map PyData.int)) ρ
  | none => .bad
theorem rf_ixS {i : Nat} {te : TE} {m : M PyData} (h : Rf c (RV c.K) te m) : Rf c (RV c.K) (tOp (rIx c.K) (tVar i) te) (mixS i m) := by
  intro pp pr fz σ H ρ Q hp R hq
  unfold mixS at hq
  cases e : scrNs i ρ with
  | none => rw [e] at hq; exact hq.elim
  | some ns =>
    simp only [e] at hq
    obtain ⟨a, hs, hr⟩ := R.at_ i _ (scrNs_eq e)
    refine ⟨_, join_some.mp hs, h pp pr fz σ H ρ _ hp R (hq.bnd fun w k fz1 H1 ρ1 F1 R1 r1 P1 => ?_)⟩
    obtain ⟨z, e1, P1⟩ := lftB_post P1
    cases k <;> first | (cases e1; done) | skip
    rename_i j
    cases r1
    simp only [asI?, Option.bind_some] at e1
    cases e2 : atI ns j with
    | none => rw [e2] at e1; cases e1
    | some n =>
      rw [e2] at e1
      cases e1
      refine .inl ⟨a, _, j, .int n, rfl, rfl, (hr.ext F1.ext).sq, ?_, ok_post P1 R1 (.int n)⟩
      unfold atI at e2 ⊢
      rw [List.length_map]
      cases e3 : ixN ns.length j with
      | none => rw [e3] at e2; cases e2
      | some k =>
        rw [e3] at e2
        simp only [Option.bind_some] at e2 ⊢
        rw [List.getElem?_map, e2]; rfl
end
end PL

/-! PL11: several targets at once; facts of built-in names. -/
namespace PL
open PySem PySem.Spec L2
open PyProof.Rows hiding St

inductive PArg where
  | v (m : M PyData) | o (m : M PyData)
def pev : List PArg → M (List Sl)
  | [] => fun ρ => .ok [] ρ
  | .v m :: as => bnd m fun d => bnd (pev as) fun ss ρ => .ok (.val d :: ss) ρ
  | .o m :: as => bnd m fun d => bnd (pev as) fun ss ρ => .ok (.own d :: ss) ρ
def SlsR (K : PySem.W.Frag) (pr : Addr → Prop) (σ : L2.St) (fz : Addr → Prop) (H : Hp) (ρ : Env) : List Sl → List V → Prop
  | [], [] => True
  | .val d :: ss, v :: vs => Rep K fz H v d ∧ SlsR K pr σ fz H ρ ss vs
  | .own d :: ss, v :: vs => (∃ a, v = .ref a ∧ ¬ fz a ∧ ¬ pr a ∧ (∀ (i : Nat) (x : PyData), ρ[i]? = some (.own x) → σ[i]? ≠ some (some (V.ref a))) ∧ OwnC K fz H a d ∧ (∀ (j : Nat) (x : PyData), ss[j]? = some (.own x) → vs[j]? ≠ some (V.ref a))) ∧ SlsR K pr σ fz H ρ ss vs
  | _, _ => False
def RSls (K : PySem.W.Frag) : RT (List Sl) (List V) := fun pr σ fz H ρ vs ss => SlsR K pr σ fz H ρ ss vs
def setsE : Env → List Nat → List Sl → Env
  | ρ, i :: is, s :: ss => setsE (ρ.set i s) is ss
  | ρ, _, _ => ρ
def setsV : L2.St → List Nat → List V → L2.St
  | σ, i :: is, v :: vs => setsV (σ.set i (some v)) is vs
  | σ, _, _ => σ
def mpar (as : List PArg) (is : List Nat) : SM := sbnd (pev as) fun ss r => if ss.length = is.length then .nx (setsE r is ss) else .bad
section
variable {c : Cw} {pp : List (Nat × Addr)} {pr fz : Addr → Prop} {σ : L2.St} {H : Hp} {ρ : Env}
theorem rf_pnil : Rf c (RSls c.K) tNil (pev []) := fun pp pr fz σ H ρ Q hp R hq => ok_post hq R (show SlsR c.K pr σ fz H ρ [] [] from trivial)
theorem rf_pv {te : TE} {tr : TA} {m : M PyData} {as : List PArg} (ha : Rf c (RV c.K) te m) (hr : Rf c (RSls c.K) tr (pev as)) : Rf c (RSls c.K) (tCons te tr) (pev (.v m :: as)) := by
  intro pp pr fz σ H ρ Q hp R hq
  refine ha pp pr fz σ H ρ _ hp R (PostG.bnd (f := fun d => bnd (pev as) fun ss ρ => .ok (.val d :: ss) ρ) hq fun v x fz1 H1 ρ1 F1 R1 r1 P1 => ?_)
  refine hr pp pr fz1 σ H1 ρ1 _ hp R1 (P1.bnd fun w y fz2 H2 ρ2 F2 R2 r2 P2 => ?_)
  exact ok_post P2 R2 (show SlsR c.K pr σ fz2 H2 ρ2 (.val x :: y) (v :: w) from ⟨Rep.ext F2.ext r1, r2⟩)
theorem SlsR.narrow {K : PySem.W.Frag} {pr' : Addr → Prop} (h : ∀ a, pr a → pr' a) : ∀ {ss : List Sl} {vs : List V}, SlsR K pr' σ fz H ρ ss vs → SlsR K pr σ fz H ρ ss vs ∧ ∀ a, pr' a → ∀ (j : Nat) (x : PyData), ss[j]? = some (.own x) → vs[j]? ≠ some (V.ref a)
  | [], [], _ => ⟨trivial, fun a _ j x e => by simp at e⟩
  | .val d :: ss, v :: vs, q => by
    obtain ⟨h1, h2⟩ := SlsR.narrow h q.2
    refine ⟨⟨q.1, h1⟩, fun a pa j x e => ?_⟩
    cases j with
    | zero => simp at e
    | succ j => exact h2 a pa j x (by simpa using e)
  | .own d :: ss, v :: vs, q => by
    obtain ⟨⟨b, rfl, nf, np, ns, oc, nd⟩, q2⟩ := q
    obtain ⟨h1, h2⟩ := SlsR.narrow h q2
    refine ⟨⟨⟨b, rfl, nf, fun z => np (h b z), ns, oc, nd⟩, h1⟩, fun a pa j x e => ?_⟩
    cases j with
    | zero =>
      simp only [List.getElem?_cons_zero, ne_eq, Option.some.injEq, V.ref.injEq]
      intro z
      exact np (z ▸ pa)
    | succ j => exact h2 a pa j x (by simpa using e)
  | .emp :: _, _, q => by cases ‹List V› <;> exact q.elim
  | .scr _ :: _, _, q => by cases ‹List V› <;> exact q.elim
  | [], _ :: _, q => q.elim
  | .val _ :: _, [], q => q.elim
  | .own _ :: _, [], q => q.elim
theorem rf_po {te : TE} {tr : TA} {m : M PyData} {as : List PArg} (ha : Rf c (RO c.K) te m) (hr : Rf c (RSls c.K) tr (pev as)) : Rf c (RSls c.K) (tCons te tr) (pev (.o m :: as)) := by
  intro pp pr fz σ H ρ Q hp R hq
  refine ha pp pr fz σ H ρ _ hp R (PostG.bnd (f := fun d => bnd (pev as) fun ss ρ => .ok (.own d :: ss) ρ) hq fun v x fz1 H1 ρ1 F1 R1 r1 P1 => ?_)
  obtain ⟨a, rfl, nf, np, ns, oc⟩ := r1
  have R1w := R1.wide oc.some ns
  refine hr pp _ fz1 σ H1 ρ1 _ hp R1w ?_
  unfold PL.bnd at P1
  cases e : pev as ρ1 with
  | bad => rw [e] at P1; exact P1.elim
  | exc y r => rw [e] at P1; exact fun cls dx fz' H' F' R' q => P1 cls dx fz' H' (F'.narrow fun a z => .inl z) (R'.narrow fun a z => .inl z) q
  | ok ss ρ2 =>
    rw [e] at P1
    intro vs fz2 H2 F2 R2 r2
    obtain ⟨r3, r4⟩ := SlsR.narrow (pr := pr) (fun a z => Or.inl z) (show SlsR c.K (fun b => pr b ∨ b = a) σ fz2 H2 ρ2 ss vs from r2)
    refine P1 (.ref a :: vs) fz2 H2 (F2.narrow fun a z => .inl z) (R2.narrow fun a z => .inl z) (show SlsR c.K pr σ fz2 H2 ρ2 (.own x :: ss) (.ref a :: vs) from ⟨⟨a, rfl, fun z => nf (F2.new a (.inr rfl) z), np, fun i y ei si => ?_, oc.ext F2.ext (F2.keepP a (.inr rfl)), fun j y ej => r4 a (.inr rfl) j y ej⟩, r3⟩)
    obtain ⟨b, sb, _, npb, _⟩ := R2.own_ne ei
    rw [si] at sb
    cases sb
    exact npb (.inr rfl)
theorem Rel.sets : ∀ {is : List Nat} {ss : List Sl} {vs : List V} {σ : L2.St} {ρ : Env}, Rel c.K pp pr fz σ H ρ → SlsR c.K pr σ fz H ρ ss vs → (∀ i ∈ is, i ∉ pp.map (·.1)) → Rel c.K pp pr fz (setsV σ is vs) H (setsE ρ is ss)
  | [], ss, vs, σ, ρ, R, _, _ => by cases ss <;> cases vs <;> exact R
  | i :: is, [], [], σ, ρ, R, _, _ => R
  | i :: is, .val d :: ss, v :: vs, σ, ρ, R, h, hi => by
    have R2 := R.setV h.1 (hi i List.mem_cons_self)
    show Rel c.K pp pr fz (setsV (σ.set i (some v)) is vs) H (setsE (ρ.set i (.val d)) is ss)
    refine Rel.sets (is := is) (vs := vs) (ss := ss) R2 ?_ fun j hj => hi j (List.mem_cons_of_mem _ hj)
    have key : ∀ {ss : List Sl} {vs : List V}, SlsR c.K pr σ fz H ρ ss vs → SlsR c.K pr (σ.set i (some v)) fz H (ρ.set i (.val d)) ss vs := by
      intro ss
      induction ss with
      | nil => intro vs h; cases vs <;> exact h
      | cons s ss ih =>
        intro vs h
        cases vs with
        | nil => cases s <;> exact h.elim
        | cons w vs =>
          cases s with
          | emp => exact h.elim
          | scr _ => exact h.elim
          | val x => exact ⟨h.1, ih h.2⟩
          | own x =>
            obtain ⟨⟨b, rfl, nf, np, ns, oc, nd⟩, h2⟩ := h
            refine ⟨⟨b, rfl, nf, np, fun j y ej sj => ?_, oc, nd⟩, ih h2⟩
            by_cases e : j = i
            · subst e
              rw [List.getElem?_set] at ej
              simp at ej
            · rw [List.getElem?_set_ne (Ne.symm e)] at ej sj
              exact ns j y ej sj
    exact key h.2
  | i :: is, .own d :: ss, v :: vs, σ, ρ, R, h, hi => by
    obtain ⟨⟨a, rfl, nf, np, ns, oc, nd⟩, h2⟩ := h
    have R2 := R.setO nf np oc ns (hi i List.mem_cons_self)
    show Rel c.K pp pr fz (setsV (σ.set i (some (V.ref a))) is vs) H (setsE (ρ.set i (.own d)) is ss)
    refine Rel.sets (is := is) (vs := vs) (ss := ss) R2 ?_ fun j hj => hi j (List.mem_cons_of_mem _ hj)
    have key : ∀ {ss : List Sl} {vs : List V}, (∀ (j : Nat) (x : PyData), ss[j]? = some (.own x) → vs[j]? ≠ some (V.ref a)) → SlsR c.K pr σ fz H ρ ss vs → SlsR c.K pr (σ.set i (some (V.ref a))) fz H (ρ.set i (.own d)) ss vs := by
      intro ss
      induction ss with
      | nil => intro vs _ h; cases vs <;> exact h
      | cons s ss ih =>
        intro vs nd h
        cases vs with
        | nil => cases s <;> exact h.elim
        | cons w vs =>
          have nd' : ∀ (j : Nat) (x : PyData), ss[j]? = some (.own x) → vs[j]? ≠ some (V.ref a) := fun j x e => by
            have := nd (j + 1) x (by simpa using e)
            simpa using this
          cases s with
          | emp => exact h.elim
          | scr _ => exact h.elim
          | val x => exact ⟨h.1, ih nd' h.2⟩
          | own x =>
            obtain ⟨⟨b, rfl, nf, np, ns, oc, nd2⟩, h2⟩ := h
            refine ⟨⟨b, rfl, nf, np, fun j y ej sj => ?_, oc, nd2⟩, ih nd' h2⟩
            by_cases e : j = i
            · subst e
              rw [List.getElem?_set] at sj
              simp only [if_true] at sj
              split at sj
              · have hab : a = b := by simpa using sj
                exact nd 0 x rfl (by simp [hab])
              · cases sj
            · rw [List.getElem?_set_ne (Ne.symm e)] at ej sj
              exact ns j y ej sj
    exact key nd h2
  | _ :: _, .emp :: _, _, _, _, _, h, _ => by cases ‹List V› <;> exact h.elim
  | _ :: _, .scr _ :: _, _, _, _, _, h, _ => by cases ‹List V› <;> exact h.elim
  | _ :: _, [], _ :: _, _, _, _, h, _ => h.elim
  | _ :: _, .val _ :: _, [], _, _, _, h, _ => h.elim
  | _ :: _, .own _ :: _, [], _, _, _, h, _ => h.elim
theorem SlsR.len {K : PySem.W.Frag} : ∀ {ss : List Sl} {vs : List V}, SlsR K pr σ fz H ρ ss vs → vs.length = ss.length
  | [], [], _ => rfl
  | .val d :: ss, v :: vs, h => by simp [SlsR.len h.2]
  | .own d :: ss, v :: vs, h => by simp [SlsR.len h.2]
  | .emp :: _, _, q => by cases ‹List V› <;> exact q.elim
  | .scr _ :: _, _, q => by cases ‹List V› <;> exact q.elim
  | [], _ :: _, q => q.elim
  | .val _ :: _, [], q => q.elim
  | .own _ :: _, [], q => q.elim
theorem SlsR.alc {K : PySem.W.Frag} {H2 : Hp} (E : Ext fz H fz H2) (k : ∀ a, H a ≠ none → H2 a = H a) : ∀ {ss : List Sl} {vs : List V}, SlsR K pr σ fz H ρ ss vs → SlsR K pr σ fz H2 ρ ss vs
  | [], [], _ => trivial
  | .val d :: ss, v :: vs, h => ⟨Rep.ext E h.1, SlsR.alc E k h.2⟩
  | .own d :: ss, v :: vs, h => by
    obtain ⟨⟨b, e, nf, np, ns, oc, nd⟩, h2⟩ := h
    exact ⟨⟨b, e, nf, np, ns, oc.ext E (k b oc.some), nd⟩, SlsR.alc E k h2⟩
  | .emp :: _, _, q => by cases ‹List V› <;> exact q.elim
  | .scr _ :: _, _, q => by cases ‹List V› <;> exact q.elim
  | [], _ :: _, q => q.elim
  | .val _ :: _, [], q => q.elim
  | .own _ :: _, [], q => q.elim
variable {ta : TA} {as : List PArg}
theorem rs_par {i j : Nat} (h : Rf c (RSls c.K) ta (pev as)) (hi : ∀ n ∈ [i, j], n ∉ c.ps) : RfS c (tPar i j ta) (mpar as [i, j]) := by
  intro pp pr fz σ H ρ D hp R hq
  refine h pp pr fz σ H ρ _ hp R (hq.bnd fun vs ss fz1 H1 ρ1 F1 R1 r1 P1 => ?_)
  split at P1
  · rename_i hl
    have r1 : SlsR c.K pr σ fz1 H1 ρ1 ss vs := r1
    have ln := r1.len
    have R2 := Rel.sets (is := [i, j]) R1 r1 (fun n hn => by rw [hp]; exact hi n hn)
    have l2 : vs.length = 2 := ln.trans hl
    obtain ⟨v, w, rfl⟩ : ∃ v w, vs = [v, w] := by
      match vs, l2 with
      | [v, w], _ => exact ⟨v, w, rfl⟩
    exact ⟨v, w, rfl, P1 _ fz1 H1 Fr.refl R2⟩
  · exact P1.elim
theorem rs_par3 {i j l : Nat} (h : Rf c (RSls c.K) ta (pev as)) (hi : ∀ n ∈ [i, j, l], n ∉ c.ps) : RfS c (tPar3 i j l ta) (mpar as [i, j, l]) := by
  intro pp pr fz σ H ρ D hp R hq
  refine h pp pr fz σ H ρ _ hp R (hq.bnd fun vs ss fz1 H1 ρ1 F1 R1 r1 P1 => ?_)
  split at P1
  · rename_i hl
    have r1 : SlsR c.K pr σ fz1 H1 ρ1 ss vs := r1
    have ln := r1.len
    have R2 := Rel.sets (is := [i, j, l]) R1 r1 (fun n hn => by rw [hp]; exact hi n hn)
    have l2 : vs.length = 3 := ln.trans hl
    obtain ⟨u, v, w, rfl⟩ : ∃ u v w, vs = [u, v, w] := by
      match vs, l2 with
      | [u, v, w], _ => exact ⟨u, v, w, rfl⟩
    exact ⟨u, v, w, rfl, P1 _ fz1 H1 Fr.refl R2⟩
  · exact P1.elim
/-- targets that are names, as a tuple's -/
def gNames : List Nat → TGs
  | [] => gNil
  | i :: is => gCons (gName i) (gNames is)
theorem gNames_run : ∀ {is : List Nat} {vs : List V} {σ : L2.St} {H : Hp} {Q : L2.St → Hp → Prop}, vs.length = is.length → Q (setsV σ is vs) H → gNames is vs σ H Q
  | [], [], σ, H, Q, _, q => ⟨rfl, q⟩
  | i :: is, v :: vs, σ, H, Q, hl, q => ⟨v, vs, rfl, gNames_run (by simpa using hl) q⟩
  | [], _ :: _, _, _, _, hl, _ => by simp at hl
  | _ :: _, [], _, _, _, hl, _ => by simp at hl
theorem rs_parN {is : List Nat} {n : Nat} (h : Rf c (RSls c.K) ta (pev as)) (hi : ∀ i ∈ is, i ∉ c.ps) (hn : is.length = n) (hz : lenOk n = true) : RfS c (tAsg (tTup ta) (gTup c.K n (gNames is))) (mpar as is) := by
  intro pp pr fz σ H ρ D hp R hq
  refine h pp pr fz σ H ρ _ hp R (hq.bnd fun vs ss fz1 H1 ρ1 F1 R1 r1 P1 => ?_)
  split at P1
  · rename_i hl
    have r1 : SlsR c.K pr σ fz1 H1 ρ1 ss vs := r1
    have ln := r1.len
    refine ⟨by rw [ln, hl, hn]; exact lenOk_iff.mp hz, fun p hpn => ?_⟩
    have A : Alc fz1 H1 fz1 (upd H1 p (.tup vs)) := Alc.own hpn
    have R2 := A.rel R1
    have r2 : SlsR c.K pr σ fz1 (upd H1 p (.tup vs)) ρ1 ss vs := r1.alc (A.ext R1.fzH) A.keep
    refine ⟨p, vs, rfl, SqT.of upd_same, by rw [ln, hl, hn], gNames_run (by rw [ln, hl]) ?_⟩
    exact P1 _ fz1 _ (A.fr R1) (Rel.sets R2 r2 fun i hi' => by rw [hp]; exact hi i hi')
  · exact P1.elim
end

/-! ### names of built-ins -/
theorem bt_len : bootBuiltins "len" = some (.builtin "len") := by decide +kernel
theorem bt_abs : bootBuiltins "abs" = some (.builtin "abs") := by decide +kernel
theorem bt_max : bootBuiltins "max" = some (.builtin "max") := by decide +kernel
theorem bt_min : bootBuiltins "min" = some (.builtin "min") := by decide +kernel
theorem bt_sum : bootBuiltins "sum" = some (.builtin "sum") := by decide +kernel
theorem bt_any : bootBuiltins "any" = some (.builtin "any") := by decide +kernel
theorem bt_all : bootBuiltins "all" = some (.builtin "all") := by decide +kernel
theorem bt_sorted : bootBuiltins "sorted" = some (.builtin "sorted") := by decide +kernel
theorem bt_repr : bootBuiltins "repr" = some (.builtin "repr") := by decide +kernel
theorem bt_isinstance : bootBuiltins "isinstance" = some (.builtin "isinstance") := by decide +kernel
theorem bt_int : bootBuiltins "int" = some (.type "int") := by decide +kernel
theorem bt_str : bootBuiltins "str" = some (.type "str") := by decide +kernel
theorem bt_list : bootBuiltins "list" = some (.type "list") := by decide +kernel
theorem bt_tuple : bootBuiltins "tuple" = some (.type "tuple") := by decide +kernel
theorem bt_dict : bootBuiltins "dict" = some (.type "dict") := by decide +kernel
theorem bt_set : bootBuiltins "set" = some (.type "set") := by decide +kernel
/-- a slot that no caller has lent -/
theorem nps {K : PySem.W.Frag} {RX : RXT} {ks : List PKd} {E : XK} {i : Nat} (h : decide (i ∈ ownIx 0 ks) = false) : i ∉ (cwOf K RX ks E).ps := of_decide_eq_false h
theorem nps0 {K : PySem.W.Frag} {RX : RXT} {ks : List PKd} {E : XK} {i : Nat} (h : decide (i ∈ ownIx 0 ks) = false) : i ∉ (cwOf K RX ks E).calm0.ps := of_decide_eq_false h
theorem npsL {K : PySem.W.Frag} {RX : RXT} {ks : List PKd} {E : XK} {is : List Nat} (h : is.all (fun i => !decide (i ∈ ownIx 0 ks)) = true) : ∀ i ∈ is, i ∉ (cwOf K RX ks E).ps := fun i hi => by
  have := List.all_eq_true.mp h i hi
  show i ∉ ownIx 0 ks
  simpa using this
end PL

/-! PLall: a temporary object handed on, in-place operators, is of bools, the end of a law. -/
namespace PL
open PySem PySem.Spec L2
open PyProof.Rows hiding St

theorem hu65 {k : Nat} {A : Around} (r : Room k A) : A.units + 65 < cLine := by have := r.un; omega
theorem npsL0 {K : PySem.W.Frag} {RX : RXT} {ks : List PKd} {E : XK} {is : List Nat} (h : is.all (fun i => !decide (i ∈ ownIx 0 ks)) = true) : ∀ i ∈ is, i ∉ (cwOf K RX ks E).calm0.ps := npsL (E := E) (K := K) (RX := RX) h
def addI? : PyData → PyData → Option PyData
  | .int i, .int j => some (.int (i + j))
  | _, _ => none
def mulI? : PyData → PyData → Option PyData
  | .int i, .int j => if mulOk i j = true then some (.int (i * j)) else none
  | _, _ => none
theorem of_addI {K : PySem.W.Frag} : OpF K (ipI fun i j => i + j) addI? := by
  intro fz H v w x y z hv hw e Q q
  unfold addI? at e
  split at e
  · cases e; rw [hv.int, hw.int]; exact ⟨_, _, rfl, rfl, Alc.same (.int _) q⟩
  · cases e
theorem of_subI {K : PySem.W.Frag} : OpF K (ipI fun i j => i - j) sub? := by
  intro fz H v w x y z hv hw e Q q
  unfold sub? at e
  split at e
  · cases e; rw [hv.int, hw.int]; exact ⟨_, _, rfl, rfl, Alc.same (.int _) q⟩
  · cases e
def rMulI : R2 := rI (fun i j => mulOk i j = true) fun i j => .int (i * j)
theorem ip_mulI {X : Cx} : PIp X .Mult rMulI := opI (f := inplaceOp .Mult) fun _ _ _ _ _ _ _ hc q => imul_int q (mulOk_ok hc)
theorem of_mulI {K : PySem.W.Frag} : OpF K rMulI mulI? := by
  intro fz H v w x y z hv hw e Q q
  unfold mulI? at e
  split at e
  · split at e
    · rename_i h
      cases e; rw [hv.int, hw.int]; exact ⟨_, _, rfl, rfl, h, Alc.same (.int _) q⟩
    · cases e
  · cases e
def isB? : PyData → PyData → Option PyData
  | .bool a, .bool b => some (.bool (decide (a = b)))
  | _, _ => none
def isNB? : PyData → PyData → Option PyData
  | .bool a, .bool b => some (.bool (!decide (a = b)))
  | _, _ => none
theorem of_isB {K : PySem.W.Frag} : OpF K rIsB isB? := by
  intro fz H v w x y z hv hw e Q q
  unfold isB? at e
  split at e
  · cases e; rw [hv.bl, hw.bl]; exact ⟨_, _, rfl, rfl, Alc.same (.bl _) q⟩
  · cases e
theorem of_isNB {K : PySem.W.Frag} : OpF K rNotB isNB? := by
  intro fz H v w x y z hv hw e Q q
  unfold isNB? at e
  split at e
  · cases e; rw [hv.bl, hw.bl]; exact ⟨_, _, rfl, rfl, Alc.same (.bl _) q⟩
  · cases e

/-! ### a call whose first argument is a new object, given away -/
def mcallT (f : List PyData → FOut) (m : M PyData) (as : List CArg) : M Rt := bnd m fun x ρ => match evA as ρ with
  | .ok xs ρ1 => if (lendOk as ρ1 && scrOk as ρ1) = true then (match f (x :: fillA ρ1 as xs) with
      | .ok r outs => .ok r (wbA as outs.tail ρ1)
      | .exc e outs => .exc e (wbA as outs.tail ρ1)
      | .bad => .bad) else .bad
  | .exc e r => .exc e r
  | .bad => .bad
section
variable {c : Cw}
theorem rf_callT {as : List CArg} {f : List PyData → FOut} {te : TE} {m : M PyData} {ta : TA} {ks : List PKd} (hks : .o :: as.map CArg.kd = ks) (hm : Rf c (RO c.K) te m) (ha : Rf c (RArgs c.K as) ta (evA as)) :
    Rf c (RRt c.K) (tCallSD (spF c.K c.RX ks f) [] (fun σ => WE c.W σ) (tCons te ta)) (mcallT f m as) := by
  subst hks
  intro pp pr fz0 σ H0 ρ0 Q hp R0 hq0
  refine hm pp pr fz0 σ H0 ρ0 _ hp R0 (hq0.bnd fun v0 x0 fz H ρ F0 R r0 hq => ?_)
  obtain ⟨a0, rfl, nf0, np0, ns0, oc0⟩ := r0
  refine ha pp (fun b => pr b ∨ b = a0) fz σ H ρ _ hp (R.wide oc0.some ns0) ?_
  cases e : evA as ρ with
  | bad => rw [e] at hq; exact hq.elim
  | exc x r => rw [e] at hq; exact fun cls dx fz' H' F' R' q => hq cls dx fz' H' (F'.narrow fun a z => .inl z) (R'.narrow fun a z => .inl z) q
  | ok xs ρ1 =>
    rw [e] at hq
    intro vs fz1 H1 F1w R1w r1
    have F1 : Fr pr fz H fz1 H1 := F1w.narrow fun a z => .inl z
    have R1 : Rel c.K pp pr fz1 σ H1 ρ1 := R1w.narrow fun a z => .inl z
    have nf1 : ¬ fz1 a0 := fun z => nf0 (F1w.new a0 (.inr rfl) z)
    have oc1 : OwnC c.K fz1 H1 a0 x0 := oc0.ext F1.ext (F1w.keepP a0 (.inr rfl))
    have ns1 : ∀ (i : Nat) (x : PyData), ρ1[i]? = some (.own x) → σ[i]? ≠ some (some (V.ref a0)) := fun i x ei si => by
      obtain ⟨b, sb, _, npb, _⟩ := R1w.own_ne ei
      rw [si] at sb
      cases sb
      exact npb (.inr rfl)
    have r1 : ArgsV c.K σ fz1 H1 as vs xs := r1
    have hq := PostG.rest F1 hq
    simp only at hq
    split at hq
    · rename_i hok
      simp only [lendOk, Bool.and_eq_true, decide_eq_true_eq, List.all_eq_true] at hok
      obtain ⟨⟨hn, hl⟩, hs⟩ := hok
      show spF c.K c.RX (.o :: as.map CArg.kd) f ((V.ref a0 :: vs) ++ []) H1 Q (WE c.W σ)
      rw [List.append_nil]
      have n0 : ¬ prC pr σ ρ1 as a0 := by
        rintro (z | ⟨i, x, ei, si, _⟩)
        · exact np0 z
        · exact ns1 i x ei si
      refine ⟨prC pr σ ρ1 as, fz1, x0 :: fillA ρ1 as xs, ⟨⟨a0, rfl, nf1, n0, oc1⟩, argsR_of R1 _ r1 hl (fun i hi a sa z => ?_) hs⟩, ?_, R1.fzH, fun a z => ?_, ?_⟩
      · obtain ⟨y, ey⟩ := isOwn_eq (hl i hi)
        obtain ⟨b, sb, _, np, _⟩ := R1.own_ne ey
        rw [sa] at sb
        cases sb
        rcases z with z | ⟨j, x, ej, sj, hj⟩
        · exact np z
        · exact hj (R1.sep j i a x y ej ey sj sa ▸ hi)
      · show (a0 :: ownAd (as.map CArg.kd) vs).Nodup
        refine List.nodup_cons.mpr ⟨fun z => ?_, lendNd R1 r1 hn hl⟩
        obtain ⟨i, hi, si⟩ := (lendAd r1).mp z
        obtain ⟨y, ey⟩ := isOwn_eq (hl i hi)
        exact ns1 i y ey si
      · rcases z with z | ⟨j, x, ej, sj, hj⟩
        · exact R1.prH a z
        · obtain ⟨b, sb, _, _, oc⟩ := R1.own_ne ej
          rw [sj] at sb
          cases sb
          exact oc.some
      · have tl : ∀ {fz2 : Addr → Prop} {H2 : Hp} {outs : List PyData}, OutsR c.K fz2 H2 (.o :: as.map CArg.kd) (.ref a0 :: vs) outs → OutsR c.K fz2 H2 (as.map CArg.kd) vs outs.tail := fun {fz2 H2 outs} ho => by
          cases outs with
          | nil => exact ho.elim
          | cons o outs => exact ho.2.2
        cases ef : f (x0 :: fillA ρ1 as xs) with
        | bad => rw [ef] at hq; exact hq.elim
        | ok r outs =>
          rw [ef] at hq
          intro v fz2 H2 F2 hf2 ho hr
          obtain ⟨F3, R3⟩ := R1.back r1 hn hl F2 hf2 (tl ho)
          refine hq v fz2 H2 F3 R3 ?_
          cases r with
          | v d => exact hr
          | o d =>
            obtain ⟨a, rfl, nf, np, na, oc⟩ := hr
            refine ⟨a, rfl, nf, fun z => np (.inl z), fun i x ei si => ?_, oc⟩
            by_cases hi : i ∈ lendIx as
            · exact na (List.mem_cons_of_mem _ ((lendAd r1).mpr ⟨i, hi, si⟩))
            · rw [wbA_out hi] at ei
              exact np (.inr ⟨i, x, ei, si, hi⟩)
        | exc x outs =>
          rw [ef] at hq
          intro cls dx fz2 H2 F2 hf2 ho hr
          obtain ⟨F3, R3⟩ := R1.back r1 hn hl F2 hf2 (tl ho)
          exact hq cls dx fz2 H2 F3 R3 hr
    · exact hq.elim
end
/-- from the pure law to the promise at the top -/
theorem law_end {K : PySem.W.Frag} {RX : RXT} {f : List PyData → FOut} {ns : List Int} {H : Hp} {a : Addr} (h : f [.list (ns.map PyData.int)] = .ok (.v (.bool true)) []) (hS : SqL K H a (ns.map V.int)) :
    spF K RX [.s] f [.ref a] H (fun v _ => v = .bl true) fun _ _ _ => False := by
  refine ⟨fun _ => False, fun b => H b ≠ none, [.list (ns.map PyData.int)], ⟨⟨a, ns, rfl, ?_, rfl⟩, trivial⟩, List.nodup_nil, fun _ z => z, fun _ z => z.elim, ?_⟩
  · rcases hS with (q | ⟨o, q⟩) | q
    · exact .inl ⟨(show H a ≠ none by rw [q]; simp), .inl q⟩
    · exact .inl ⟨(show H a ≠ none by rw [q]; simp), .inr ⟨o, q⟩⟩
    · exact .inr q
  · rw [h]
    intro v fz' H' _ _ _ hr
    cases hr
    rfl
end PL

/-! PLb: an own object is lent as a value while an expression is reckoned (the answer bears no list). -/
namespace PL
open PySem PySem.Spec L2
open PyProof.Rows hiding St

mutual
def noList : PyData → Bool
  | .list _ => false
  | .dict _ => false
  | .tuple ds => noListA ds
  | _ => true
def noListA : List PyData → Bool
  | [] => true
  | d :: ds => noList d && noListA ds
end
def noListK : List (PyData × PyData) → Bool
  | [] => true
  | d :: ds => noList d.2 && noListK ds
def flatC : PyData → Bool
  | .list ds => noListA ds
  | .dict ds => noListK ds
  | _ => false
section
variable {K : PySem.W.Frag} {fz : Addr → Prop} {H : Hp} {a : Addr}
/-- what holds a list or a dict -/
def Big (H : Hp) (a : Addr) : Prop := (∃ xs, H a = some (.lst xs)) ∨ ∃ xs, H a = some (.dK xs)
theorem Big.notTup (h : Big H a) {xs : List V} (r : Rd H a (.tup xs)) : False := by
  unfold Rd at r
  rcases h with ⟨ys, h⟩ | ⟨ys, h⟩ <;> (rw [h] at r; rcases r with r | ⟨o, r⟩ <;> cases r)
mutual
theorem Rep.less (hb : Big H a) : ∀ {v : V} {d : PyData}, Rep K fz H v d → noList d = true → Rep K (fun b => fz b ∧ b ≠ a) H v d
  | _, _, .non, _ => .non
  | _, _, .bl b, _ => .bl b
  | _, _, .int i, _ => .int i
  | _, _, .str x, _ => .str x
  | _, _, .lst _ _ _, n => by simp [noList] at n
  | _, _, .tup h r, n => .tup (h.imp (fun z => ⟨⟨z.1, fun e => hb.notTup (e ▸ z.2)⟩, z.2⟩) id) (RepA.less hb r (by simpa [noList] using n))
  | _, _, .dic _ _ _, n => by simp [noList] at n
theorem RepA.less (hb : Big H a) : ∀ {v : List V} {d : List PyData}, RepA K fz H v d → noListA d = true → RepA K (fun b => fz b ∧ b ≠ a) H v d
  | _, _, .nil, _ => .nil
  | _, _, .cons h r, n => by
    simp only [noListA, Bool.and_eq_true] at n
    exact .cons (Rep.less hb h n.1) (RepA.less hb r n.2)
end
theorem RepK.less (hb : Big H a) : ∀ {v : List (Key × V)} {d : List (PyData × PyData)}, RepK K fz H v d → noListK d = true → RepK K (fun b => fz b ∧ b ≠ a) H v d
  | _, _, .nil, _ => .nil
  | _, _, .cons h r, n => by
    simp only [noListK, Bool.and_eq_true] at n
    exact .cons (Rep.less hb h n.1) (RepK.less hb r n.2)
theorem OwnC.less (hb : Big H a) {b : Addr} {d : PyData} (h : OwnC K fz H b d) (n : flatC d = true) : OwnC K (fun b => fz b ∧ b ≠ a) H b d := by
  cases d with
  | list ds => obtain ⟨vs, e, r⟩ := h; exact ⟨vs, e, r.less hb n⟩
  | dict ds => obtain ⟨vs, e, r⟩ := h; exact ⟨vs, e, r.less hb n⟩
  | _ => exact h.elim
theorem OwnC.big {d : PyData} (h : OwnC K fz H a d) : Big H a := by
  cases d with
  | list ds => obtain ⟨vs, e, r⟩ := h; exact .inl ⟨vs, e⟩
  | dict ds => obtain ⟨vs, e, r⟩ := h; exact .inr ⟨vs, e⟩
  | _ => exact h.elim
end
def flatS : Sl → Bool
  | .emp => true
  | .val d => noList d
  | .own d => flatC d
  | .scr _ => false
def isOS : Sl → Bool
  | .own _ => true
  | _ => false
def slotOk (s s2 : Sl) : Prop := (s2 = s ∧ isOS s2 = false) ∨ flatS s2 = true
def borA : Env → Env → Prop
  | s :: r, s2 :: r2 => slotOk s s2 ∧ borA r r2
  | [], [] => True
  | _, _ => False
theorem borA_at : ∀ {ρ ρ2 : Env}, borA ρ ρ2 → ρ.length = ρ2.length ∧ ∀ (j : Nat) (s2 : Sl), ρ2[j]? = some s2 → ∃ s, ρ[j]? = some s ∧ slotOk s s2
  | [], [], _ => ⟨rfl, fun j s e => by simp at e⟩
  | s :: r, s2 :: r2, h => by
    obtain ⟨h1, h2⟩ := borA_at h.2
    refine ⟨by simp [h1], fun j s' e => ?_⟩
    cases j with
    | zero => simp at e; subst e; exact ⟨s, rfl, h.1⟩
    | succ j => exact h2 j s' (by simpa using e)
  | [], _ :: _, h => h.elim
  | _ :: _, [], h => h.elim
open Classical in
noncomputable def mbor {α : Type} (ok : α → Bool) (i : Nat) (m : M α) : M α := fun ρ => match ρ[i]? with
  | some (.own d) => match m (ρ.set i (.val d)) with
    | .ok v ρ2 => if ok v = true ∧ borA ρ (ρ2.set i .emp) then .ok v (ρ2.set i (.own d)) else .bad
    | _ => .bad
  | _ => .bad
abbrev Cw.unp (c : Cw) (i : Nat) : Cw := { c with ps := c.ps.filter (· ≠ i) }
theorem rf_borG {α β : Type} {c : Cw} {R : RT α β} {t : L2.St → Hp → (β → Hp → Prop) → Prop} {m : M α} {ok : α → Bool} {i : Nat}
    (hR : ∀ (pr fz : Addr → Prop) (σ : L2.St) (H : Hp) (ρ : Env) (b : β) (v : α) (a : Addr) (d : PyData), Big H a → fz a → σ[i]? = some (some (V.ref a)) → ok v = true → R pr σ fz H ρ b v → R pr σ (fun x => fz x ∧ x ≠ a) H (ρ.set i (.own d)) b v)
    (h : Rf (c.unp i) R t m) : Rf c R t (mbor ok i m) := by
  intro pp pr fz σ H ρ Q hp R0 hq
  unfold mbor at hq
  split at hq
  · rename_i d hr
    obtain ⟨a, hs, nf, np, rc⟩ := R0.own_ne hr
    have hl : i < ρ.length := (List.getElem?_eq_some_iff.mp hr).1
    have R1 : Rel c.K (pp.filter fun p => p.1 ≠ i) pr fz σ H ρ := ⟨R0.len, R0.at_, R0.sep, R0.fzH, R0.prH, fun p hp => R0.pin p (List.mem_filter.mp hp).1⟩
    have hi : i ∉ (pp.filter fun p => p.1 ≠ i).map (·.1) := by
      simp only [List.mem_map, List.mem_filter, decide_eq_true_eq, not_exists, not_and]
      rintro p ⟨_, n⟩ e
      exact n e
    obtain ⟨a', hs', F1, R2, _⟩ := R1.frz hr hi
    rw [hs] at hs'
    cases hs'
    refine h (pp.filter fun p => p.1 ≠ i) pr (fun b => fz b ∨ b = a) σ H (ρ.set i (.val d)) Q ?_ R2 ?_
    · show _ = c.ps.filter (· ≠ i)
      rw [← hp, List.filter_map]
      rfl
    · cases em : m (ρ.set i (.val d)) with
      | bad => rw [em] at hq; exact hq.elim
      | exc e r => rw [em] at hq; exact hq.elim
      | ok v ρ2 =>
        rw [em] at hq
        simp only at hq
        split at hq
        · rename_i hc
          obtain ⟨hv, hb⟩ := hc
          intro b fz' H' F' R' r'
          have fa : fz' a := F'.mono a (.inr rfl)
          have ka : H' a = H a := F'.keep a (.inr rfl)
          have big : Big H' a := by
            have := rc.big
            unfold Big at *
            rw [ka]
            exact this
          have E : Ext fz H (fun x => fz' x ∧ x ≠ a) H' := ⟨fun x z => ⟨F'.mono x (.inl z), fun e => nf (e ▸ z)⟩, fun x z => F'.keep x (.inl z)⟩
          obtain ⟨bl, bat⟩ := borA_at hb
          have hl2 : i < ρ2.length := by rw [List.length_set] at bl; omega
          refine hq b (fun x => fz' x ∧ x ≠ a) H' ⟨E.mono, E.keep, F'.keepP, fun x z w => ?_⟩ ⟨?_, fun j s e => ?_, fun j k x y z e1 e2 s1 s2 => ?_, fun x z => R'.fzH x z.1, R'.prH, fun p hpp => ?_⟩ ?_
          · rcases F'.new x z w.1 with q | q
            · exact q
            · exact absurd q w.2
          · rw [List.length_set]; exact R'.len
          · by_cases hj : j = i
            · subst hj
              rw [List.getElem?_set_self hl2] at e
              cases e
              refine ⟨a, join_some.mpr hs, fun z => z.2 rfl, np, rc.ext E ka⟩
            · rw [List.getElem?_set_ne (Ne.symm hj)] at e
              have q := R'.at_ j s e
              obtain ⟨s0, e0, ok0⟩ := bat j s (by rw [List.getElem?_set_ne (Ne.symm hj)]; exact e)
              rcases ok0 with ⟨rfl, no⟩ | fl
              · have q0 := R0.at_ j s e0
                cases s with
                | emp => trivial
                | val d' => obtain ⟨w, x1, x2⟩ := q0; exact ⟨w, x1, x2.ext E⟩
                | scr ns => obtain ⟨w, x1, x2⟩ := q0; exact ⟨w, x1, x2.ext E⟩
                | own d' => cases no
              · cases s with
                | emp => trivial
                | val d' => obtain ⟨w, x1, x2⟩ := q; exact ⟨w, x1, x2.less big fl⟩
                | scr ns => cases fl
                | own d' => obtain ⟨w, x1, x2, x3, x4⟩ := q; exact ⟨w, x1, fun z => x2 z.1, x3, x4.less big fl⟩
          · have own : ∀ (j : Nat) (x : PyData), j ≠ i → (ρ2.set i (Sl.own d))[j]? = some (.own x) → σ[j]? ≠ some (some (V.ref a)) := fun j x n e s => by
              rw [List.getElem?_set_ne (Ne.symm n)] at e
              obtain ⟨b', s', nf', _⟩ := R'.own_ne e
              rw [s] at s'
              cases s'
              exact nf' fa
            by_cases hj : j = i
            · by_cases hk : k = i
              · rw [hj, hk]
              · subst hj
                rw [hs] at s1
                cases s1
                exact absurd s2 (own k z hk e2)
            · by_cases hk : k = i
              · subst hk
                rw [hs] at s2
                cases s2
                exact absurd s1 (own j y hj e1)
              · rw [List.getElem?_set_ne (Ne.symm hj)] at e1
                rw [List.getElem?_set_ne (Ne.symm hk)] at e2
                exact R'.sep j k x y z e1 e2 s1 s2
          · by_cases hj : p.1 = i
            · obtain ⟨x, e, s⟩ := R0.pin p hpp
              exact ⟨d, by rw [hj, List.getElem?_set_self hl2], s⟩
            · obtain ⟨x, e, s⟩ := R'.pin p (List.mem_filter.mpr ⟨hpp, by simpa using hj⟩)
              exact ⟨x, by rw [List.getElem?_set_ne (Ne.symm hj)]; exact e, s⟩
          · exact hR pr fz' σ H' ρ2 b v a d big fa hs hv r'
        · exact hq.elim
  · exact hq.elim
section
variable {c : Cw} {i : Nat}
theorem rf_borV {t : TE} {m : M PyData} (h : Rf (c.unp i) (RV c.K) t m) : Rf c (RV c.K) t (mbor noList i m) :=
  rf_borG (R := RV c.K) (fun pr fz σ H ρ b v a d big fa hs hv r => Rep.less big r hv) h
theorem rf_borO {t : TE} {m : M PyData} (h : Rf (c.unp i) (RO c.K) t m) : Rf c (RO c.K) t (mbor flatC i m) :=
  rf_borG (R := RO c.K) (fun pr fz σ H ρ b v a d big fa hs hv r => by
    obtain ⟨x, rfl, nf, np, ns, oc⟩ := r
    refine ⟨x, rfl, fun z => nf z.1, np, fun j y e s => ?_, oc.less big hv⟩
    by_cases hj : j = i
    · subst hj
      rw [hs] at s
      cases s
      exact nf fa
    · rw [List.getElem?_set_ne (Ne.symm hj)] at e
      exact ns j y e s) h
theorem rf_borB {t : TT} {m : M Bool} (h : Rf (c.unp i) RB t m) : Rf c RB t (mbor (fun _ => true) i m) :=
  rf_borG (R := RB) (fun pr fz σ H ρ b v a d big fa hs hv r => r) h
end
theorem npsX {c : Cw} {i : Nat} (l : List Nat) (e : c.ps = l) (h : decide (i ∈ l) = false) : i ∉ c.ps := by rw [e]; exact of_decide_eq_false h
theorem npsXL {c : Cw} {is : List Nat} (l : List Nat) (e : c.ps = l) (h : is.all (fun i => !decide (i ∈ l)) = true) : ∀ i ∈ is, i ∉ c.ps := fun i hi => by
  have := List.all_eq_true.mp h i hi
  rw [e]
  exact of_decide_eq_false (by simpa using this)
end PL

/-! PLM: weakest preconditions for the pure functions. -/
namespace PL
open PySem PySem.Spec L2

structure PS where
  nx : Env → Prop
  rt : Rt → Env → Prop
  bk : Env → Prop
  ct : Env → Prop
  ex : PExc → Env → Prop
abbrev XP := PExc → Env → Prop
def nox : XP := fun _ _ => False
def Tr {α : Type} (m : M α) (ρ : Env) (Q : α → Env → Prop) (X : XP) : Prop := match m ρ with
  | .ok a r => Q a r
  | .exc e r => X e r
  | .bad => False
def TrO {α : Type} (o : Out α) (Q : α → Env → Prop) (X : XP) : Prop := match o with
  | .ok a r => Q a r
  | .exc e r => X e r
  | .bad => False
def TsO (o : SOut) (P : PS) : Prop := match o with
  | .nx r => P.nx r
  | .rt v r => P.rt v r
  | .bk r => P.bk r
  | .ct r => P.ct r
  | .exc e r => P.ex e r
  | .bad => False
def Ts (m : SM) (ρ : Env) (P : PS) : Prop := TsO (m ρ) P
def TrF (o : FOut) (Q : Rt → List PyData → Prop) (X : PExc → List PyData → Prop) : Prop := match o with
  | .ok r o => Q r o
  | .exc e o => X e o
  | .bad => False
def noxF : PExc → List PyData → Prop := fun _ _ => False

section
variable {α β : Type} {ρ : Env} {X : XP} {P : PS}
theorem tr_bnd {m : M α} {f : α → M β} {Q : β → Env → Prop} : Tr (bnd m f) ρ Q X = Tr m ρ (fun a r => Tr (f a) r Q X) X := by
  unfold Tr bnd; cases m ρ <;> rfl
theorem tr_lft {o : Option α} {Q : α → Env → Prop} : Tr (lft o) ρ Q X = ∃ a, o = some a ∧ Q a ρ := by
  unfold Tr lft; cases o <;> simp
theorem tr_ok {a : α} {Q : α → Env → Prop} : Tr (fun ρ => .ok a ρ) ρ Q X = Q a ρ := rfl
theorem tr_con {d : PyData} {Q : PyData → Env → Prop} : Tr (mcon d) ρ Q X = Q d ρ := rfl
def at? (ρ : Env) (i : Nat) : Sl := ρ[i]?.getD .emp
theorem at_0 {s : Sl} {r : Env} : at? (s :: r) 0 = s := rfl
theorem at_1 {s : Sl} {r : Env} {i : Nat} : at? (s :: r) (i + 1) = at? r i := rfl
def getV (s : Sl) : Option PyData := match s with
  | .val d => some d
  | .own d => some d
  | _ => none
theorem getV_v {d : PyData} : getV (.val d) = some d := rfl
theorem getV_o {d : PyData} : getV (.own d) = some d := rfl
theorem peek_at {i : Nat} {ρ : Env} : peek i ρ = getV (at? ρ i) := by
  unfold peek getV at?
  cases ρ[i]? with
  | none => rfl
  | some s => cases s <;> rfl
def fzS (s : Sl) : Sl := match s with
  | .own d => .val d
  | s => s
theorem fzS_v {d : PyData} : fzS (.val d) = .val d := rfl
theorem fzS_o {d : PyData} : fzS (.own d) = .val d := rfl
theorem tr_var {i : Nat} {d : PyData} {Q : PyData → Env → Prop} (h : at? ρ i = .val d) : Tr (mvar i) ρ Q X = Q d ρ := by
  unfold Tr mvar
  unfold at? at h
  cases e : ρ[i]? with
  | none => rw [e] at h; cases h
  | some s => rw [e] at h; cases h; rfl
theorem tr_varO {i : Nat} {d : PyData} {Q : PyData → Env → Prop} (h : at? ρ i = .own d) : Tr (mvar i) ρ Q X = Q d (ρ.set i (.val d)) := by
  unfold Tr mvar
  unfold at? at h
  cases e : ρ[i]? with
  | none => rw [e] at h; cases h
  | some s => rw [e] at h; cases h; rfl
theorem tr_pk {i : Nat} {o : Out α} {k : PyData → Out α} {Q : α → Env → Prop} (h0 : peek i ρ = none → o = .bad) (h1 : ∀ x, peek i ρ = some x → o = k x) : TrO o Q X = ∃ x, getV (at? ρ i) = some x ∧ TrO (k x) Q X := by
  rw [peek_at] at h0
  simp only [peek_at] at h1
  cases e : getV (at? ρ i) with
  | none => rw [h0 e]; simp [TrO]
  | some x => rw [h1 x e]; simp
theorem tro_lft {o : Option α} {r : Env} {Q : α → Env → Prop} : TrO (lft o r) Q X = ∃ a, o = some a ∧ Q a r := by
  unfold TrO lft; cases o <;> simp
theorem tro {m : M α} {Q : α → Env → Prop} : Tr m ρ Q X = TrO (m ρ) Q X := rfl
theorem tr_op2 {f : PyData → PyData → Option PyData} {a b : M PyData} {Q : PyData → Env → Prop} :
    Tr (op2 f a b) ρ Q X = Tr a ρ (fun x r => Tr b r (fun y r' => ∃ z, f x y = some z ∧ Q z r') X) X := by
  unfold op2; simp only [tr_bnd, tr_lft]
theorem tr_op2l {f : PyData → PyData → Option PyData} {i : Nat} {b : M PyData} {Q : PyData → Env → Prop} {d : PyData} (h : getV (at? ρ i) = some d) :
    Tr (op2l f i b) ρ Q X = Tr b ρ (fun y r' => ∃ x, getV (at? r' i) = some x ∧ ∃ z, f x y = some z ∧ Q z r') X := by
  have e : op2l f i b ρ = bnd b (fun y ρ' => match peek i ρ' with
    | none => .bad
    | some x => lft (f x y) ρ') ρ := by
    rw [← peek_at] at h
    unfold op2l
    rw [h] <;> rfl
  rw [tro, e, ← tro, tr_bnd]
  congr 1; funext y r
  rw [tro, tr_pk (i := i) (k := fun x => lft (f x y) r) (fun e => by rw [e]) (fun x e => by rw [e])]
  simp only [tro_lft]
theorem tr_op2r {f : PyData → PyData → Option PyData} {a : M PyData} {j : Nat} {Q : PyData → Env → Prop} :
    Tr (op2r f a j) ρ Q X = Tr a ρ (fun x r' => ∃ y, getV (at? r' j) = some y ∧ ∃ z, f x y = some z ∧ Q z r') X := by
  unfold op2r
  rw [tr_bnd]
  congr 1; funext x r
  rw [tro, tr_pk (i := j) (k := fun y => lft (f x y) r) (fun e => by rw [e]) (fun x e => by rw [e])]
  simp only [tro_lft]
theorem tr_op2b {f : PyData → PyData → Option PyData} {i j : Nat} {Q : PyData → Env → Prop} :
    Tr (op2b f i j) ρ Q X = ∃ x, getV (at? ρ i) = some x ∧ ∃ y, getV (at? ρ j) = some y ∧ ∃ z, f x y = some z ∧ Q z ρ := by
  rw [tro, tr_pk (i := i) (k := fun x => match peek j ρ with
    | some y => lft (f x y) ρ
    | none => .bad) (fun e => by unfold op2b; rw [e]) (fun x e => by unfold op2b; rw [e]; cases peek j ρ <;> rfl)]
  congr 1; funext x
  rw [tr_pk (i := j) (k := fun y => lft (f x y) ρ) (fun e => by rw [e]) (fun x e => by rw [e])]
  simp only [tro_lft]
theorem tr_asB {m : M PyData} {Q : Bool → Env → Prop} : Tr (asB m) ρ Q X = Tr m ρ (fun d r => ∃ b, asB? d = some b ∧ Q b r) X := by
  unfold asB; simp only [tr_bnd, tr_lft]
theorem tr_trB {m : M PyData} {Q : Bool → Env → Prop} : Tr (trB m) ρ Q X = Tr m ρ (fun d r => ∃ b, truth? d = some b ∧ Q b r) X := by
  unfold trB; simp only [tr_bnd, tr_lft]
theorem tr_trBp {i : Nat} {Q : Bool → Env → Prop} : Tr (trBp i) ρ Q X = ∃ d, getV (at? ρ i) = some d ∧ ∃ b, truth? d = some b ∧ Q b ρ := by
  rw [tro, tr_pk (i := i) (k := fun x => lft (truth? x) ρ) (fun e => by unfold trBp; rw [e]) (fun x e => by unfold trBp; rw [e])]
  simp only [tro_lft]
theorem tr_ite {c : Prop} [Decidable c] {a b : M α} {Q : α → Env → Prop} : Tr (if c then a else b) ρ Q X = if c then Tr a ρ Q X else Tr b ρ Q X := by split <;> rfl
theorem tr_and {a b : M Bool} {Q : Bool → Env → Prop} : Tr (mand a b) ρ Q X = Tr a ρ (fun k r => if k = true then Tr b r Q X else Q false r) X := by
  unfold mand; simp only [tr_bnd, tr_ite, tr_ok]
theorem tr_or {a b : M Bool} {Q : Bool → Env → Prop} : Tr (mor a b) ρ Q X = Tr a ρ (fun k r => if k = true then Q true r else Tr b r Q X) X := by
  unfold mor; simp only [tr_bnd, tr_ite, tr_ok]
theorem tr_not {a : M Bool} {Q : Bool → Env → Prop} : Tr (mnot a) ρ Q X = Tr a ρ (fun k r => Q (!k) r) X := by
  unfold mnot; simp only [tr_bnd]; rfl
theorem tr_if {t : M Bool} {a b : M α} {Q : α → Env → Prop} : Tr (mif t a b) ρ Q X = Tr t ρ (fun k r => if k = true then Tr a r Q X else Tr b r Q X) X := by
  unfold mif; simp only [tr_bnd, tr_ite]
theorem tr_andV {a b : M PyData} {Q : PyData → Env → Prop} : Tr (mandV a b) ρ Q X = Tr a ρ (fun d r => ∃ k, asB? d = some k ∧ if k = true then Tr b r Q X else Q (.bool false) r) X := by
  unfold mandV; simp only [tr_bnd, tr_ite, tr_ok, tr_asB]
theorem tr_orV {a b : M PyData} {Q : PyData → Env → Prop} : Tr (morV a b) ρ Q X = Tr a ρ (fun d r => ∃ k, asB? d = some k ∧ if k = true then Q (.bool true) r else Tr b r Q X) X := by
  unfold morV; simp only [tr_bnd, tr_ite, tr_ok, tr_asB]
theorem tr_notV {a : M PyData} {Q : PyData → Env → Prop} : Tr (mnotV a) ρ Q X = Tr a ρ (fun d r => ∃ k, asB? d = some k ∧ Q (.bool (!k)) r) X := by
  unfold mnotV; simp only [tr_bnd, tr_asB]; rfl
theorem tr_neg {m : M PyData} {Q : PyData → Env → Prop} : Tr (mneg m) ρ Q X = Tr m ρ (fun d r => ∃ z, neg? d = some z ∧ Q z r) X := by
  unfold mneg; simp only [tr_bnd, tr_lft]
theorem tr_chain {f g : PyData → PyData → Option PyData} {a b d : M PyData} {Q : PyData → Env → Prop} :
    Tr (mchain f g a b d) ρ Q X = Tr a ρ (fun x r => Tr b r (fun y r => ∃ z, f x y = some z ∧ ∃ k, asB? z = some k ∧ if k = true then Tr d r (fun w r => ∃ z, g y w = some z ∧ Q z r) X else Q (.bool false) r) X) X := by
  unfold mchain; simp only [tr_bnd, tr_lft, tr_ite, tr_ok]
theorem tr_nil {Q : List PyData → Env → Prop} : Tr anil ρ Q X = Q [] ρ := rfl
theorem tr_cons {a : M PyData} {l : M (List PyData)} {Q : List PyData → Env → Prop} : Tr (acons a l) ρ Q X = Tr a ρ (fun x r => Tr l r (fun xs r => Q (x :: xs) r) X) X := by
  unfold acons; simp only [tr_bnd]; rfl
theorem tr_tup {a : M (List PyData)} {Q : PyData → Env → Prop} : Tr (mtup a) ρ Q X = Tr a ρ (fun ds r => lenOk ds.length = true ∧ Q (.tuple ds) r) X := by
  unfold mtup; rw [tr_bnd]; congr 1; funext ds r; unfold Tr; dsimp only; cases lenOk ds.length <;> simp
theorem tr_lst {a : M (List PyData)} {Q : PyData → Env → Prop} : Tr (mlst a) ρ Q X = Tr a ρ (fun ds r => lenOk ds.length = true ∧ Q (.list ds) r) X := by
  unfold mlst; rw [tr_bnd]; congr 1; funext ds r; unfold Tr; dsimp only; cases lenOk ds.length <;> simp
theorem tr_pn {Q : Option Int → Env → Prop} : Tr mpn ρ Q X = Q none ρ := rfl
theorem tr_ps {m : M PyData} {Q : Option Int → Env → Prop} : Tr (mps m) ρ Q X = Tr m ρ (fun d r => ∃ i, asI? d = some i ∧ Q (some i) r) X := by
  unfold mps; simp only [tr_bnd, tr_lft]
  congr 1; funext d r
  cases asI? d <;> simp
theorem tr_sl {m : M PyData} {lo hi : M (Option Int)} {Q : PyData → Env → Prop} : Tr (msl m lo hi) ρ Q X = Tr m ρ (fun x r => Tr lo r (fun l r => Tr hi r (fun u r => ∃ z, slice? x l u = some z ∧ Q z r) X) X) X := by
  unfold msl; simp only [tr_bnd, tr_lft]
theorem tr_slp {i : Nat} {lo hi : M (Option Int)} {Q : PyData → Env → Prop} {d : PyData} (h : getV (at? ρ i) = some d) :
    Tr (mslp i lo hi) ρ Q X = Tr lo ρ (fun l r => Tr hi r (fun u r => ∃ x, getV (at? r i) = some x ∧ ∃ z, slice? x l u = some z ∧ Q z r) X) X := by
  have e : mslp i lo hi ρ = bnd lo (fun l => bnd hi fun u ρ' => match peek i ρ' with
    | some x => lft (slice? x l u) ρ'
    | none => .bad) ρ := by
    unfold mslp
    rw [← peek_at] at h
    rw [h] <;> rfl
  rw [tro, e, ← tro, tr_bnd]
  congr 1; funext l r
  rw [tr_bnd]
  congr 1; funext u r
  rw [tro, tr_pk (i := i) (k := fun x => lft (slice? x l u) r) (fun e => by rw [e]) (fun x e => by rw [e])]
  simp only [tro_lft]
theorem tr_c1 {f : PyData → Option PyData} {m : M PyData} {Q : PyData → Env → Prop} : Tr (mc1 f m) ρ Q X = Tr m ρ (fun x r => ∃ z, f x = some z ∧ Q z r) X := by
  unfold mc1; simp only [tr_bnd, tr_lft]
theorem tr_c1p {f : PyData → Option PyData} {i : Nat} {Q : PyData → Env → Prop} : Tr (mc1p f i) ρ Q X = ∃ x, getV (at? ρ i) = some x ∧ ∃ z, f x = some z ∧ Q z ρ := by
  rw [tro, tr_pk (i := i) (k := fun x => lft (f x) ρ) (fun e => by unfold mc1p; rw [e]) (fun x e => by unfold mc1p; rw [e])]
  simp only [tro_lft]
theorem tr_seqI {m : M PyData} {Q : List PyData → Env → Prop} : Tr (mseqI m) ρ Q X = Tr m ρ (fun d r => ∃ z, seq? d = some z ∧ Q z r) X := by
  unfold mseqI; simp only [tr_bnd, tr_lft]
theorem tr_rng1 {m : M PyData} {Q : List PyData → Env → Prop} : Tr (mrng1 m) ρ Q X = Tr m ρ (fun d r => ∃ z, rng1? d = some z ∧ Q z r) X := by
  unfold mrng1; simp only [tr_bnd, tr_lft]
theorem tr_rng2 {a b : M PyData} {Q : List PyData → Env → Prop} : Tr (mrng2 a b) ρ Q X = Tr a ρ (fun x r => Tr b r (fun y r => ∃ z, rng2? x y = some z ∧ Q z r) X) X := by
  unfold mrng2; simp only [tr_bnd, tr_lft]
theorem tr_rng3 {a b d : M PyData} {Q : List PyData → Env → Prop} : Tr (mrng3 a b d) ρ Q X = Tr a ρ (fun x r => Tr b r (fun y r => Tr d r (fun w r => ∃ z, rng3? x y w = some z ∧ Q z r) X) X) X := by
  unfold mrng3; simp only [tr_bnd, tr_lft]
theorem tr_zip {a b : M PyData} {Q : List PyData → Env → Prop} : Tr (mzip a b) ρ Q X = Tr a ρ (fun x r => Tr b r (fun y r => ∃ z, zip? x y = some z ∧ Q z r) X) X := by
  unfold mzip; simp only [tr_bnd, tr_lft]
theorem tr_enum {a : M PyData} {Q : List PyData → Env → Prop} : Tr (menum a) ρ Q X = Tr a ρ (fun x r => ∃ z, enum? x = some z ∧ Q z r) X := by
  unfold menum; simp only [tr_bnd, tr_lft]
theorem tr_lenS {i : Nat} {ns : List Int} {Q : PyData → Env → Prop} (h : at? ρ i = .scr ns) : Tr (mlenS i) ρ Q X = Q (.int ns.length) ρ := by
  unfold Tr mlenS scrNs
  unfold at? at h
  cases e : ρ[i]? with
  | none => rw [e] at h; cases h
  | some s => rw [e] at h; cases h; rfl
theorem tr_ixS {i : Nat} {m : M PyData} {ns : List Int} {Q : PyData → Env → Prop} (h : at? ρ i = .scr ns) :
    Tr (mixS i m) ρ Q X = Tr m ρ (fun k r => ∃ j, asI? k = some j ∧ ∃ n, atI ns j = some n ∧ Q (.int n) r) X := by
  have e : Tr (mixS i m) ρ Q X = Tr (bnd m fun k => lft ((asI? k).bind fun j => (atI ns j).map PyData.int)) ρ Q X := by
    unfold Tr mixS scrNs
    unfold at? at h
    cases e : ρ[i]? with
    | none => rw [e] at h; cases h
    | some s => rw [e] at h; cases h; rfl
  rw [e, tr_bnd]
  congr 1; funext k r
  rw [tr_lft]
  cases asI? k with
  | none => simp
  | some j => cases ea : atI ns j <;> simp [ea]
def rtd : Rt → PyData
  | .v d => d
  | .o d => d
def rto : Rt → Option PyData
  | .o d => some d
  | .v _ => none
theorem rtd_v {d : PyData} : rtd (.v d) = d := rfl
theorem rtd_o {d : PyData} : rtd (.o d) = d := rfl
theorem rto_o {d : PyData} : rto (.o d) = some d := rfl
theorem tr_rtV {m : M Rt} {Q : PyData → Env → Prop} : Tr (rtV m) ρ Q X = Tr m ρ (fun r ρ => Q (rtd r) ρ) X := by
  unfold rtV; rw [tr_bnd]; congr 1; funext r ρ; cases r <;> rfl
theorem tr_rtO {m : M Rt} {Q : PyData → Env → Prop} : Tr (rtO m) ρ Q X = Tr m ρ (fun r ρ => ∃ d, rto r = some d ∧ Q d ρ) X := by
  unfold rtO; rw [tr_bnd]; congr 1; funext r ρ; cases r <;> simp [Tr, rto]
theorem tr_mono {m : M α} {Q Q' : α → Env → Prop} (h : Tr m ρ Q X) (k : ∀ a r, Q a r → Q' a r) : Tr m ρ Q' X := by
  unfold Tr at *
  cases e : m ρ with
  | ok a r => rw [e] at h; exact k _ _ h
  | exc x r => rw [e] at h; exact h
  | bad => rw [e] at h; exact h

/-! calls -/
theorem tr_aNil {Q : List PyData → Env → Prop} : Tr (evA []) ρ Q X = Q [] ρ := rfl
theorem tr_aV {m : M PyData} {as : List CArg} {Q : List PyData → Env → Prop} : Tr (evA (.v m :: as)) ρ Q X = Tr m ρ (fun x r => Tr (evA as) r (fun xs r => Q (x :: xs) r) X) X := by
  simp only [evA, tr_bnd]; rfl
theorem tr_aL {i : Nat} {as : List CArg} {Q : List PyData → Env → Prop} {d : PyData} (h : at? ρ i = .own d) : Tr (evA (.lend i :: as)) ρ Q X = Tr (evA as) ρ (fun xs r => Q (.none :: xs) r) X := by
  have e : isOwn i ρ = true := by
    unfold isOwn
    unfold at? at h
    cases e : ρ[i]? with
    | none => rw [e] at h; cases h
    | some s => rw [e] at h; cases h; rfl
  have e2 : Tr (evA (.lend i :: as)) ρ Q X = Tr (bnd (evA as) (fun xs ρ => .ok (.none :: xs) ρ)) ρ Q X := by
    unfold Tr
    simp only [evA, e, if_true]
  rw [e2, tr_bnd]; rfl
theorem tr_aS {i : Nat} {as : List CArg} {Q : List PyData → Env → Prop} {ns : List Int} (h : at? ρ i = .scr ns) : Tr (evA (.scr i :: as)) ρ Q X = Tr (evA as) ρ (fun xs r => Q (.none :: xs) r) X := by
  have e : isScr i ρ = true := by
    unfold isScr
    unfold at? at h
    cases e : ρ[i]? with
    | none => rw [e] at h; cases h
    | some s => rw [e] at h; cases h; rfl
  have e2 : Tr (evA (.scr i :: as)) ρ Q X = Tr (bnd (evA as) (fun xs ρ => .ok (.none :: xs) ρ)) ρ Q X := by
    unfold Tr
    simp only [evA, e, if_true]
  rw [e2, tr_bnd]; rfl
theorem tr_call {f : List PyData → FOut} {as : List CArg} {Q : Rt → Env → Prop} :
    Tr (mcall f as) ρ Q X = Tr (evA as) ρ (fun xs r => lendOk as r = true ∧ scrOk as r = true ∧ TrF (f (fillA r as xs)) (fun rt outs => Q rt (wbA as outs r)) (fun e outs => X e (wbA as outs r))) X := by
  unfold Tr mcall
  cases evA as ρ with
  | ok xs r =>
    dsimp only
    by_cases h : (lendOk as r && scrOk as r) = true
    · rw [if_pos h]
      simp only [Bool.and_eq_true] at h
      unfold TrF
      cases f (fillA r as xs) <;> simp [h.1, h.2]
    · rw [if_neg h]
      simp only [Bool.and_eq_true, not_and] at h
      simp only [eq_iff_iff, false_iff]
      exact fun z => h z.1 z.2.1
  | exc e r => rfl
  | bad => rfl
theorem tr_callT {f : List PyData → FOut} {m : M PyData} {as : List CArg} {Q : Rt → Env → Prop} :
    Tr (mcallT f m as) ρ Q X = Tr m ρ (fun x r0 => Tr (evA as) r0 (fun xs r => lendOk as r = true ∧ scrOk as r = true ∧ TrF (f (x :: fillA r as xs)) (fun rt outs => Q rt (wbA as outs.tail r)) (fun e outs => X e (wbA as outs.tail r))) X) X := by
  unfold mcallT
  rw [tr_bnd]
  congr 1; funext x r0
  unfold Tr
  dsimp only
  cases evA as r0 with
  | ok xs r =>
    dsimp only
    by_cases h : (lendOk as r && scrOk as r) = true
    · rw [if_pos h]
      simp only [Bool.and_eq_true] at h
      unfold TrF
      cases f (x :: fillA r as xs) <;> simp [h.1, h.2]
    · rw [if_neg h]
      simp only [Bool.and_eq_true, not_and] at h
      simp only [eq_iff_iff, false_iff]
      exact fun z => h z.1 z.2.1
  | exc e r => rfl
  | bad => rfl
theorem outAt_at {i : Nat} : outAt i ρ = match at? ρ i with
    | .own x => x
    | _ => .none := by
  unfold outAt at?
  cases ρ[i]? with
  | none => rfl
  | some s => cases s <;> rfl
theorem scrAt_at {i : Nat} : scrAt i ρ = match at? ρ i with
    | .scr ns => .list (ns.map PyData.int)
    | _ => .none := by
  unfold scrAt at?
  cases ρ[i]? with
  | none => rfl
  | some s => cases s <;> rfl
theorem isOwn_at {i : Nat} : isOwn i ρ = match at? ρ i with
    | .own _ => true
    | _ => false := by
  unfold isOwn at?
  cases ρ[i]? with
  | none => rfl
  | some s => cases s <;> rfl
theorem isScr_at {i : Nat} : isScr i ρ = match at? ρ i with
    | .scr _ => true
    | _ => false := by
  unfold isScr at?
  cases ρ[i]? with
  | none => rfl
  | some s => cases s <;> rfl

/-! statements -/
theorem ts_sbnd {m : M α} {f : α → SM} : Ts (sbnd m f) ρ P = Tr m ρ (fun a r => Ts (f a) r P) P.ex := by
  unfold Ts Tr sbnd; cases m ρ <;> rfl
theorem ts_nx {r : Env} : Ts (fun _ => .nx r) ρ P = P.nx r := rfl
theorem ts_next : Ts mnext ρ P = P.nx ρ := rfl
theorem ts_break : Ts mbreak ρ P = P.bk ρ := rfl
theorem ts_cont : Ts mcont ρ P = P.ct ρ := rfl
theorem ts_seq {a b : SM} : Ts (mseq a b) ρ P = Ts a ρ { P with nx := fun r => Ts b r P } := by
  unfold Ts mseq; cases a ρ <;> rfl
theorem ts_ret {e : M PyData} : Ts (mret e) ρ P = Tr e ρ (fun d r => P.rt (.v d) r) P.ex := by
  unfold mret; rw [ts_sbnd]; rfl
theorem ts_retO {e : M PyData} : Ts (mretO e) ρ P = Tr e ρ (fun d r => P.rt (.o d) r) P.ex := by
  unfold mretO; rw [ts_sbnd]; rfl
theorem ts_retN : Ts mretN ρ P = P.rt (.v .none) ρ := rfl
theorem tr_take {i : Nat} {d : PyData} {Q : PyData → Env → Prop} (h : at? ρ i = .own d) : Tr (mtake i) ρ Q X = Q d (ρ.set i .emp) := by
  unfold Tr mtake
  unfold at? at h
  cases e : ρ[i]? with
  | none => rw [e] at h; cases h
  | some s => rw [e] at h; cases h; rfl
theorem ts_expr {e : M PyData} : Ts (mexpr e) ρ P = Tr e ρ (fun _ r => P.nx r) P.ex := by
  unfold mexpr; rw [ts_sbnd]; rfl
theorem tso_slft {o : Option α} {f : α → SOut} : TsO (slft o f) P = ∃ a, o = some a ∧ TsO (f a) P := by
  unfold slft; cases o <;> simp [TsO]
theorem tso_ite {c : Prop} [Decidable c] {r : Env} : TsO (if c then .nx r else .bad) P = (c ∧ P.nx r) := by
  split <;> simp_all [TsO]
theorem ts_assign {e : M PyData} {a : Asg} : Ts (massign e a) ρ P = Tr e ρ (fun d r => ∃ r', a d r = some r' ∧ P.nx r') P.ex := by
  unfold massign; rw [ts_sbnd]; congr 1; funext d r
  exact tso_slft
theorem as_name {i : Nat} {d : PyData} {r : Env} : aname i d r = some (r.set i (.val d)) := rfl
theorem as_nil {r : Env} : agnil [] r = some r := rfl
theorem as_cons {a : Asg} {k : List PyData → Env → Option Env} {d : PyData} {ds : List PyData} {r : Env} : agcons a k (d :: ds) r = (a d r).bind fun r' => k ds r' := rfl
theorem as_tup {n : Nat} {a : List PyData → Env → Option Env} {ds : List PyData} {r : Env} : atup n a (.tuple ds) r = if ds.length = n then a ds r else none := rfl
theorem ts_own {e : M PyData} {i : Nat} : Ts (mown e i) ρ P = Tr e ρ (fun d r => P.nx (r.set i (.own d))) P.ex := by
  unfold mown; rw [ts_sbnd]; rfl
theorem ts_aug {f : PyData → PyData → Option PyData} {i : Nat} {e : M PyData} {x : PyData} (h : at? ρ i = .val x) : Ts (maug f i e) ρ P = Tr e ρ (fun y r => ∃ z, f x y = some z ∧ P.nx (r.set i (.val z))) P.ex := by
  have q : Ts (maug f i e) ρ P = Ts (sbnd e (fun y r => slft (f x y) fun z => .nx (r.set i (.val z)))) ρ P := by
    unfold Ts maug
    unfold at? at h
    cases e : ρ[i]? with
    | none => rw [e] at h; cases h
    | some s => rw [e] at h; cases h; rfl
  rw [q, ts_sbnd]; congr 1; funext d r
  exact tso_slft
theorem ts_ite {c : Prop} [Decidable c] {a b : SM} : Ts (if c then a else b) ρ P = if c then Ts a ρ P else Ts b ρ P := by split <;> rfl
theorem ts_if {k : M Bool} {a b : SM} : Ts (mifS k a b) ρ P = Tr k ρ (fun x r => if x = true then Ts a r P else Ts b r P) P.ex := by
  unfold mifS; rw [ts_sbnd]; simp only [ts_ite]
theorem ts_for {items : M (List PyData)} {asg : Asg} {body : SM} : Ts (mfor items asg body) ρ P = Tr items ρ (fun ds r => Ts (forL asg body ds) r P) P.ex := by
  unfold mfor; rw [ts_sbnd]
def getL (s : Sl) : Option (List PyData) := match s with
  | .own (.list ds) => some ds
  | _ => none
theorem ownL_at {i : Nat} : ownL i ρ = getL (at? ρ i) := by
  unfold ownL at? getL
  cases ρ[i]? with
  | none => rfl
  | some s => cases s with
    | own d => cases d <;> rfl
    | _ => rfl
theorem getL_o {ds : List PyData} : getL (.own (.list ds)) = some ds := rfl
theorem ts_append {i : Nat} {e : M PyData} {ds0 : List PyData} (h : at? ρ i = .own (.list ds0)) : Ts (mappend i e) ρ P = Tr e ρ (fun d r => ∃ ds, getL (at? r i) = some ds ∧ lenOk (ds.length + 1) = true ∧ P.nx (r.set i (.own (.list (ds ++ [d]))))) P.ex := by
  have q : Ts (mappend i e) ρ P = Ts (sbnd e (fun d r => slft (ownL i r) fun ds => if lenOk (ds.length + 1) = true then .nx (r.set i (.own (.list (ds ++ [d])))) else .bad)) ρ P := by
    unfold Ts mappend
    rw [ownL_at, h]
    rfl
  rw [q, ts_sbnd]; congr 1; funext d r
  refine Eq.trans tso_slft ?_
  simp only [ownL_at, tso_ite]
theorem ts_store {i : Nat} {k e : M PyData} : Ts (mstore i k e) ρ P = Tr e ρ (fun d r1 => ∃ ds0, getL (at? r1 i) = some ds0 ∧ Tr k r1 (fun j r => ∃ ds, getL (at? r i) = some ds ∧ ∃ n, (asI? j).bind (ixN ds.length) = some n ∧ P.nx (r.set i (.own (.list (ds.set n d))))) P.ex) P.ex := by
  unfold mstore; rw [ts_sbnd]; congr 1; funext d r
  refine Eq.trans tso_slft ?_
  simp only [ownL_at]
  congr 1; funext ds0
  congr 1
  refine Eq.trans (b := Ts (sbnd k (fun j r => slft (ownL i r) fun ds => slft ((asI? j).bind (ixN ds.length)) fun n => .nx (r.set i (.own (.list (ds.set n d)))))) r P) ?_ ?_
  · simp only [ownL_at]; rfl
  rw [ts_sbnd]
  congr 1; funext j r
  refine Eq.trans tso_slft ?_
  simp only [ownL_at, tso_slft]
  rfl
theorem tr_pop {i : Nat} {ds : List PyData} {d : PyData} {Q : PyData → Env → Prop} (h : at? ρ i = .own (.list ds)) : Tr (mpop i) ρ Q X = ∃ d, ds[ds.length - 1]? = some d ∧ Q d (ρ.set i (.own (.list ds.dropLast))) := by
  unfold Tr mpop
  rw [ownL_at, h]
  dsimp only [getL]
  cases ds[ds.length - 1]? <;> simp
theorem ts_mono {m : SM} {P' : PS} (h : Ts m ρ P) (k1 : ∀ r, P.nx r → P'.nx r) (k2 : ∀ v r, P.rt v r → P'.rt v r) (k3 : ∀ r, P.bk r → P'.bk r) (k4 : ∀ r, P.ct r → P'.ct r) (k5 : ∀ e r, P.ex e r → P'.ex e r) : Ts m ρ P' := by
  unfold Ts TsO at *
  cases e : m ρ with
  | nx r => rw [e] at h; exact k1 _ h
  | rt v r => rw [e] at h; exact k2 _ _ h
  | bk r => rw [e] at h; exact k3 _ h
  | ct r => rw [e] at h; exact k4 _ h
  | exc x r => rw [e] at h; exact k5 _ _ h
  | bad => rw [e] at h; exact h
/-- for: an invariant over what is walked -/
theorem ts_forL {asg : Asg} {body : SM} (I : Nat → Env → Prop) {ds0 : List PyData} (h0 : I 0 ρ)
    (hs : ∀ (i : Nat) (d : PyData) (r : Env), ds0[i]? = some d → I i r → ∃ r1, asg d r = some r1 ∧ Ts body r1 { P with nx := I (i + 1), ct := I (i + 1), bk := P.nx })
    (he : ∀ r, I ds0.length r → P.nx r) : Ts (forL asg body ds0) ρ P := by
  have go : ∀ (ds : List PyData) (n : Nat) (ρ : Env), n + ds.length = ds0.length → ds0.drop n = ds → I n ρ → Ts (forL asg body ds) ρ P := by
    intro ds
    induction ds with
    | nil =>
      intro n ρ hn e h
      obtain rfl : n = ds0.length := by simpa using hn
      exact he ρ h
    | cons d ds ih =>
      intro n ρ hn e h
      have hd : ds0[n]? = some d := by
        have := List.getElem?_drop (xs := ds0) (i := n) (j := 0)
        rw [e] at this
        simpa using this.symm
      have e2 : ds0.drop (n + 1) = ds := by
        rw [← List.drop_drop, e]; rfl
      have hn2 : n + 1 + ds.length = ds0.length := by
        simp only [List.length_cons] at hn; omega
      obtain ⟨r1, er, hb⟩ := hs n d ρ hd h
      unfold Ts forL
      rw [er]
      dsimp only
      unfold Ts at hb
      cases eb : body r1 with
      | nx r => rw [eb] at hb; exact ih (n + 1) r hn2 e2 hb
      | ct r => rw [eb] at hb; exact ih (n + 1) r hn2 e2 hb
      | bk r => rw [eb] at hb; exact hb
      | rt v r => rw [eb] at hb; exact hb
      | exc x r => rw [eb] at hb; exact hb
      | bad => rw [eb] at hb; exact hb
  exact go ds0 0 ρ (by simp) rfl h0
theorem rangeL_len {lo : Int} {n : Nat} : (rangeL lo n).length = n := by simp [rangeL]
theorem rangeL_at {lo : Int} {n i : Nat} {d : PyData} (h : (rangeL lo n)[i]? = some d) : i < n ∧ d = .int (lo + i) := by
  unfold rangeL at h
  rw [List.getElem?_map] at h
  by_cases z : i < n
  · rw [List.getElem?_range z] at h
    cases h
    exact ⟨z, rfl⟩
  · rw [List.getElem?_eq_none (by simp; omega)] at h
    cases h
/-- for i in range -/
theorem ts_range {asg : Asg} {body : SM} {lo : Int} {n : Nat} (I : Nat → Env → Prop) (h0 : I 0 ρ)
    (hs : ∀ (i : Nat) (r : Env), i < n → I i r → ∃ r1, asg (.int (lo + i)) r = some r1 ∧ Ts body r1 { P with nx := I (i + 1), ct := I (i + 1), bk := P.nx })
    (he : ∀ r, I n r → P.nx r) : Ts (forL asg body (rangeL lo n)) ρ P :=
  ts_forL I h0 (fun i d r e h => by obtain ⟨z, rfl⟩ := rangeL_at e; exact hs i r z h) (by rw [rangeL_len]; exact he)
theorem tr_lc {items : M (List PyData)} {asg : Asg} {test : M Bool} {elt : M PyData} {vs : List Nat} {Q : PyData → Env → Prop} :
    Tr (mlc items asg test elt vs) ρ Q X = Tr items ρ (fun ds r => match compL asg test elt vs ds (wipeE r vs) [] with
      | .ok d r' => Q d (unw r r' vs)
      | _ => False) X := by
  unfold mlc
  rw [tr_bnd]
  congr 1; funext ds r
  unfold Tr
  dsimp only
  cases compL asg test elt vs ds (wipeE r vs) [] <;> rfl
/-- a comprehension whose parts are pure -/
theorem compL_pure {asg : Asg} {test : M Bool} {elt : M PyData} {vs : List Nat} {r0 : Env} {g : PyData → Bool} {f : PyData → PyData} : ∀ (ds acc : List PyData),
    (∀ d ∈ ds, ∃ r1, asg d r0 = some r1 ∧ ∃ r2, test r1 = .ok (g d) r2 ∧ (g d = true → ∃ r3, elt r2 = .ok (f d) r3 ∧ wipeE r3 vs = r0) ∧ (g d = false → wipeE r2 vs = r0)) →
    lenOk (acc.length + ds.length) = true → compL asg test elt vs ds r0 acc = .ok (.list (acc ++ (ds.filter g).map f)) r0
  | [], acc, _, _ => by simp [compL]
  | d :: ds, acc, h, hl => by
    obtain ⟨r1, e1, r2, e2, h3, h4⟩ := h d (by simp)
    have hr := fun d' z => h d' (List.mem_cons_of_mem d z)
    unfold compL
    rw [e1]; dsimp only; rw [e2]; dsimp only
    have lo : ∀ {a b : Nat}, lenOk b = true → a ≤ b → lenOk a = true := fun h1 h2 => by
      unfold lenOk at *; simp only [decide_eq_true_eq] at *; omega
    cases hg : g d with
    | true =>
      obtain ⟨r3, e3, w3⟩ := h3 hg
      rw [if_pos rfl, e3]; dsimp only
      rw [if_pos (lo hl (by simp)), w3, compL_pure ds (acc ++ [f d]) hr (lo hl (by simp; omega))]
      simp [hg]
    | false =>
      rw [if_neg (by simp), h4 hg, compL_pure ds acc hr (lo hl (by simp))]
      simp [hg]
/-- a def's body -/
theorem trF_body {n : Nat} {ks : List PKd} {m : SM} {xs : List PyData} {Q : Rt → List PyData → Prop} {Y : PExc → List PyData → Prop} :
    TrF (bodyF n ks m xs) Q Y = Ts m (entry n ks xs) ⟨fun ρ => Q (.v .none) ((ownIx 0 ks).map fun i => outAt i ρ), fun r ρ => Q r ((ownIx 0 ks).map fun i => outAt i ρ), fun _ => False, fun _ => False, fun e ρ => Y e ((ownIx 0 ks).map fun i => outAt i ρ)⟩ := by
  unfold bodyF Ts
  cases m (entry n ks xs) <;> rfl
theorem trF_ok {r : Rt} {o : List PyData} {Q : Rt → List PyData → Prop} {Y : PExc → List PyData → Prop} : TrF (.ok r o) Q Y = Q r o := rfl
theorem trF_exc {e : PExc} {o : List PyData} {Q : Rt → List PyData → Prop} {Y : PExc → List PyData → Prop} : TrF (.exc e o) Q Y = Y e o := rfl
theorem trF_eq {o : FOut} {r : Rt} {outs : List PyData} (h : TrF o (fun r' o' => r' = r ∧ o' = outs) noxF) : o = .ok r outs := by
  unfold TrF at h
  cases o with
  | ok a b => dsimp only at h; rw [h.1, h.2]
  | exc a b => exact h.elim
  | bad => exact h.elim
/-- an answer and what it is like -/
theorem trF_ex {o : FOut} {Q : Rt → List PyData → Prop} (h : TrF o Q noxF) : ∃ r outs, o = .ok r outs ∧ Q r outs := by
  unfold TrF at h
  cases o with
  | ok a b => exact ⟨a, b, rfl, h⟩
  | exc a b => exact h.elim
  | bad => exact h.elim
end

/-! without side conditions -/
section
variable {α β : Type} {ρ : Env} {X : XP} {P : PS}
def varK (s : Sl) (i : Nat) (ρ : Env) (Q : PyData → Env → Prop) : Prop := match s with
  | .val d => Q d ρ
  | .own d => Q d (ρ.set i (.val d))
  | _ => False
theorem varK_v {d : PyData} {i : Nat} {Q : PyData → Env → Prop} : varK (.val d) i ρ Q = Q d ρ := rfl
theorem varK_o {d : PyData} {i : Nat} {Q : PyData → Env → Prop} : varK (.own d) i ρ Q = Q d (ρ.set i (.val d)) := rfl
theorem tu_var {i : Nat} {Q : PyData → Env → Prop} : Tr (mvar i) ρ Q X = varK (at? ρ i) i ρ Q := by
  unfold Tr mvar at?
  cases e : ρ[i]? with
  | none => rfl
  | some s => cases s <;> rfl
theorem tu_op2l {f : PyData → PyData → Option PyData} {i : Nat} {b : M PyData} {Q : PyData → Env → Prop} :
    Tr (op2l f i b) ρ Q X = ∃ d, getV (at? ρ i) = some d ∧ Tr b ρ (fun y r' => ∃ x, getV (at? r' i) = some x ∧ ∃ z, f x y = some z ∧ Q z r') X := by
  cases e : getV (at? ρ i) with
  | none =>
    rw [← peek_at] at e
    unfold Tr op2l
    rw [e]
    simp
  | some d => rw [tr_op2l e]; simp
theorem tu_slp {i : Nat} {lo hi : M (Option Int)} {Q : PyData → Env → Prop} :
    Tr (mslp i lo hi) ρ Q X = ∃ d, getV (at? ρ i) = some d ∧ Tr lo ρ (fun l r => Tr hi r (fun u r => ∃ x, getV (at? r i) = some x ∧ ∃ z, slice? x l u = some z ∧ Q z r) X) X := by
  cases e : getV (at? ρ i) with
  | none =>
    rw [← peek_at] at e
    unfold Tr mslp
    rw [e]
    simp
  | some d => rw [tr_slp e]; simp
def getO (s : Sl) : Option PyData := match s with
  | .own d => some d
  | _ => none
def getS (s : Sl) : Option (List Int) := match s with
  | .scr d => some d
  | _ => none
def getX (s : Sl) : Option PyData := match s with
  | .val d => some d
  | _ => none
theorem getO_o {d : PyData} : getO (.own d) = some d := rfl
theorem getS_s {d : List Int} : getS (.scr d) = some d := rfl
theorem getX_v {d : PyData} : getX (.val d) = some d := rfl
theorem tu_aL {i : Nat} {as : List CArg} {Q : List PyData → Env → Prop} : Tr (evA (.lend i :: as)) ρ Q X = ∃ d, getO (at? ρ i) = some d ∧ Tr (evA as) ρ (fun xs r => Q (.none :: xs) r) X := by
  cases e : at? ρ i with
  | own d => rw [tr_aL e]; simp [getO]
  | _ =>
    have q : isOwn i ρ = false := by rw [isOwn_at, e]
    unfold Tr
    simp [evA, q, getO]
theorem tu_aS {i : Nat} {as : List CArg} {Q : List PyData → Env → Prop} : Tr (evA (.scr i :: as)) ρ Q X = ∃ d, getS (at? ρ i) = some d ∧ Tr (evA as) ρ (fun xs r => Q (.none :: xs) r) X := by
  cases e : at? ρ i with
  | scr d => rw [tr_aS e]; simp [getS]
  | _ =>
    have q : isScr i ρ = false := by rw [isScr_at, e]
    unfold Tr
    simp [evA, q, getS]
theorem tu_take {i : Nat} {Q : PyData → Env → Prop} : Tr (mtake i) ρ Q X = ∃ d, getO (at? ρ i) = some d ∧ Q d (ρ.set i .emp) := by
  unfold Tr mtake at? getO
  cases e : ρ[i]? with
  | none => simp
  | some s => cases s <;> simp
theorem tu_aug {f : PyData → PyData → Option PyData} {i : Nat} {e : M PyData} : Ts (maug f i e) ρ P = ∃ x, getX (at? ρ i) = some x ∧ Tr e ρ (fun y r => ∃ z, f x y = some z ∧ P.nx (r.set i (.val z))) P.ex := by
  cases e : at? ρ i with
  | val d => rw [ts_aug e]; simp [getX]
  | _ =>
    unfold Ts maug
    unfold at? at e
    cases q : ρ[i]? with
    | none => simp_all [TsO, getX]
    | some s => rw [q] at e; cases e <;> simp_all [TsO, getX]
theorem tu_append {i : Nat} {e : M PyData} : Ts (mappend i e) ρ P = ∃ ds0, getL (at? ρ i) = some ds0 ∧ Tr e ρ (fun d r => ∃ ds, getL (at? r i) = some ds ∧ lenOk (ds.length + 1) = true ∧ P.nx (r.set i (.own (.list (ds ++ [d]))))) P.ex := by
  cases q : getL (at? ρ i) with
  | none =>
    unfold Ts mappend
    rw [ownL_at, q]
    simp [slft, TsO]
  | some ds =>
    have : at? ρ i = .own (.list ds) := by
      unfold getL at q
      split at q
      · rename_i e; cases q; exact e
      · cases q
    rw [ts_append this]; simp
theorem tu_pop {i : Nat} {Q : PyData → Env → Prop} : Tr (mpop i) ρ Q X = ∃ ds, getL (at? ρ i) = some ds ∧ ∃ d, ds[ds.length - 1]? = some d ∧ Q d (ρ.set i (.own (.list ds.dropLast))) := by
  unfold Tr mpop
  rw [ownL_at]
  cases getL (at? ρ i) with
  | none => simp
  | some ds => dsimp only; cases q : ds[ds.length - 1]? <;> simp [q]
theorem tu_lenS {i : Nat} {Q : PyData → Env → Prop} : Tr (mlenS i) ρ Q X = ∃ ns, getS (at? ρ i) = some ns ∧ Q (.int ns.length) ρ := by
  unfold Tr mlenS scrNs at? getS
  cases e : ρ[i]? with
  | none => simp
  | some s => cases s <;> simp
theorem tu_ixS {i : Nat} {m : M PyData} {Q : PyData → Env → Prop} :
    Tr (mixS i m) ρ Q X = ∃ ns, getS (at? ρ i) = some ns ∧ Tr m ρ (fun k r => ∃ j, asI? k = some j ∧ ∃ n, atI ns j = some n ∧ Q (.int n) r) X := by
  cases e : at? ρ i with
  | scr d => rw [tr_ixS e]; simp [getS]
  | _ =>
    unfold Tr mixS scrNs
    unfold at? at e
    cases q : ρ[i]? with
    | none => simp_all [getS]
    | some s => rw [q] at e; cases e <;> simp_all [getS]
def outS (s : Sl) : PyData := match s with
  | .own x => x
  | _ => .none
def scrS (s : Sl) : PyData := match s with
  | .scr ns => .list (ns.map PyData.int)
  | _ => .none
def isO (s : Sl) : Bool := match s with
  | .own _ => true
  | _ => false
def isS (s : Sl) : Bool := match s with
  | .scr _ => true
  | _ => false
theorem outA {i : Nat} : outAt i ρ = outS (at? ρ i) := outAt_at
theorem scrA {i : Nat} : scrAt i ρ = scrS (at? ρ i) := scrAt_at
theorem isOA {i : Nat} : isOwn i ρ = isO (at? ρ i) := isOwn_at
theorem isSA {i : Nat} : isScr i ρ = isS (at? ρ i) := isScr_at
theorem outS_o {d : PyData} : outS (.own d) = d := rfl
theorem scrS_s {ns : List Int} : scrS (.scr ns) = .list (ns.map PyData.int) := rfl
theorem isO_o {d : PyData} : isO (.own d) = true := rfl
theorem isS_s {ns : List Int} : isS (.scr ns) = true := rfl
theorem lok_nil {as : List CArg} (h : lendIx as = []) : lendOk as ρ = true := by unfold lendOk; rw [h]; rfl
theorem lok_one {as : List CArg} {i : Nat} (h : lendIx as = [i]) : lendOk as ρ = isO (at? ρ i) := by unfold lendOk; rw [h, ← isOA]; simp
theorem lok_two {as : List CArg} {i j : Nat} (h : lendIx as = [i, j]) (n : i ≠ j) : lendOk as ρ = (isO (at? ρ i) && isO (at? ρ j)) := by unfold lendOk; rw [h, ← isOA, ← isOA]; simp [n]
theorem lok_n : lendOk [] ρ = true := rfl
theorem lok_gen {as : List CArg} : lendOk as ρ = (decide (lendIx as).Nodup && (lendIx as).all fun i => isO (at? ρ i)) := by unfold lendOk; simp only [isOA]
theorem lix_nil : lendIx [] = [] := rfl
theorem lix_v {m : M PyData} {as : List CArg} : lendIx (.v m :: as) = lendIx as := rfl
theorem lix_l {i : Nat} {as : List CArg} : lendIx (.lend i :: as) = i :: lendIx as := rfl
theorem lix_s {i : Nat} {as : List CArg} : lendIx (.scr i :: as) = lendIx as := rfl
theorem sok_nil : scrOk [] ρ = true := rfl
theorem sok_v {m : M PyData} {as : List CArg} : scrOk (.v m :: as) ρ = scrOk as ρ := rfl
theorem sok_l {i : Nat} {as : List CArg} : scrOk (.lend i :: as) ρ = scrOk as ρ := rfl
theorem sok_s {i : Nat} {as : List CArg} : scrOk (.scr i :: as) ρ = (isS (at? ρ i) && scrOk as ρ) := by rw [← isSA]; rfl
theorem tr_bor {ok : α → Bool} {i : Nat} {m : M α} {Q : α → Env → Prop} :
    Tr (mbor ok i m) ρ Q X = ∃ d, getO (at? ρ i) = some d ∧ Tr m (ρ.set i (.val d)) (fun v r => ok v = true ∧ borA ρ (r.set i .emp) ∧ Q v (r.set i (.own d))) (fun _ _ => False) := by
  unfold Tr mbor at? getO
  cases e : ρ[i]? with
  | none => simp
  | some s =>
    cases s with
    | own d =>
      simp only [Option.getD_some, Option.some.injEq, exists_eq_left']
      cases m (ρ.set i (.val d)) with
      | ok v r =>
        simp only
        split
        · rename_i e2
          split at e2
          · rename_i h; cases e2; simp [h]
          · cases e2
        · rename_i e2
          split at e2 <;> cases e2
        · rename_i e2
          split at e2
          · cases e2
          · rename_i h
            apply propext
            constructor
            · exact fun z => z.elim
            · exact fun z => h ⟨z.1, z.2.1⟩
      | exc x r => rfl
      | bad => rfl
    | _ => simp
theorem ts_par {as : List PArg} {is : List Nat} : Ts (mpar as is) ρ P = Tr (pev as) ρ (fun ss r => ss.length = is.length ∧ P.nx (setsE r is ss)) P.ex := by
  unfold mpar
  rw [ts_sbnd]
  congr 1; funext ss r
  exact tso_ite
theorem pev_n {Q : List Sl → Env → Prop} : Tr (pev []) ρ Q X = Q [] ρ := rfl
theorem pev_v {m : M PyData} {as : List PArg} {Q : List Sl → Env → Prop} : Tr (pev (.v m :: as)) ρ Q X = Tr m ρ (fun d r => Tr (pev as) r (fun ss r => Q (.val d :: ss) r) X) X := by
  simp only [pev, tr_bnd]; rfl
theorem pev_o {m : M PyData} {as : List PArg} {Q : List Sl → Env → Prop} : Tr (pev (.o m :: as)) ρ Q X = Tr m ρ (fun d r => Tr (pev as) r (fun ss r => Q (.own d :: ss) r) X) X := by
  simp only [pev, tr_bnd]; rfl
theorem sets_n {ss : List Sl} : setsE ρ [] ss = ρ := by cases ss <;> rfl
theorem sets_c {i : Nat} {is : List Nat} {s : Sl} {ss : List Sl} : setsE ρ (i :: is) (s :: ss) = setsE (ρ.set i s) is ss := rfl
theorem isOS_v {d : PyData} : isOS (.val d) = false := rfl
theorem isOS_e : isOS .emp = false := rfl
theorem nl_i {k : Int} : noList (.int k) = true := rfl
theorem nl_b {k : Bool} : noList (.bool k) = true := rfl
theorem nl_n : noList .none = true := rfl
theorem nl_s {k : Str} : noList (.str k) = true := rfl
theorem nl_t {ds : List PyData} : noList (.tuple ds) = noListA ds := rfl
/-- a comprehension with an invariant -/
theorem tr_lcI {items : M (List PyData)} {asg : Asg} {test : M Bool} {elt : M PyData} {vs : List Nat} {Q : PyData → Env → Prop}
    (h : Tr items ρ (fun ds r => ∃ I : Nat → List PyData → Env → Prop, I 0 [] (wipeE r vs) ∧
      (∀ (i : Nat) (d : PyData) (acc : List PyData) (r' : Env), ds[i]? = some d → I i acc r' → ∃ r1, asg d r' = some r1 ∧
        Tr test r1 (fun b r2 => if b = true then Tr elt r2 (fun y r3 => lenOk (acc.length + 1) = true ∧ I (i + 1) (acc ++ [y]) (wipeE r3 vs)) nox else I (i + 1) acc (wipeE r2 vs)) nox) ∧
      ∀ acc r', I ds.length acc r' → Q (.list acc) (unw r r' vs)) X) : Tr (mlc items asg test elt vs) ρ Q X := by
  rw [tr_lc]
  refine tr_mono h fun ds r h => ?_
  obtain ⟨I, h0, hs, he⟩ := h
  have go : ∀ (l : List PyData) (n : Nat) (acc : List PyData) (r' : Env), n + l.length = ds.length → ds.drop n = l → I n acc r' → match compL asg test elt vs l r' acc with
      | .ok d r' => Q d (unw r r' vs)
      | _ => False := by
    intro l
    induction l with
    | nil =>
      intro n acc r' hn e hI
      obtain rfl : n = ds.length := by simpa using hn
      exact he acc r' hI
    | cons d l ih =>
      intro n acc r' hn e hI
      have hd : ds[n]? = some d := by
        have := List.getElem?_drop (xs := ds) (i := n) (j := 0)
        rw [e] at this
        simpa using this.symm
      have e2 : ds.drop (n + 1) = l := by rw [← List.drop_drop, e]; rfl
      have hn2 : n + 1 + l.length = ds.length := by simp only [List.length_cons] at hn; omega
      obtain ⟨r1, er, ht⟩ := hs n d acc r' hd hI
      unfold compL
      rw [er]
      dsimp only
      unfold Tr at ht
      cases et : test r1 with
      | ok b r2 =>
        rw [et] at ht
        dsimp only at ht ⊢
        cases b with
        | true =>
          rw [if_pos rfl] at ht ⊢
          cases ee : elt r2 with
          | ok y r3 =>
            rw [ee] at ht
            dsimp only at ht ⊢
            rw [if_pos ht.1]
            exact ih (n + 1) _ _ hn2 e2 ht.2
          | exc x r3 => rw [ee] at ht; exact ht.elim
          | bad => rw [ee] at ht; exact ht.elim
        | false =>
          rw [if_neg (by simp)] at ht ⊢
          exact ih (n + 1) _ _ hn2 e2 ht
      | exc x r2 => rw [et] at ht; exact ht.elim
      | bad => rw [et] at ht; exact ht.elim
  exact go ds 0 [] _ (by simp) rfl h0
/-- a comprehension whose parts change nothing -/
theorem tr_lcP {items : M (List PyData)} {asg : Asg} {test : M Bool} {elt : M PyData} {vs : List Nat} {Q : PyData → Env → Prop} (g : PyData → Bool) (f : PyData → PyData)
    (h : Tr items ρ (fun ds r => (∀ d ∈ ds, ∃ r1, asg d (wipeE r vs) = some r1 ∧ Tr test r1 (fun b r2 => b = g d ∧ if b = true then Tr elt r2 (fun y r3 => y = f d ∧ wipeE r3 vs = wipeE r vs) nox else wipeE r2 vs = wipeE r vs) nox) ∧
      lenOk ds.length = true ∧ Q (.list ((ds.filter g).map f)) (unw r (wipeE r vs) vs)) X) : Tr (mlc items asg test elt vs) ρ Q X := by
  rw [tr_lc]
  refine tr_mono h fun ds r h => ?_
  obtain ⟨h1, h2, h3⟩ := h
  rw [compL_pure (g := g) (f := f) ds [] (fun d hd => ?_) (by simpa using h2)]
  · simpa using h3
  · obtain ⟨r1, e1, ht⟩ := h1 d hd
    refine ⟨r1, e1, ?_⟩
    unfold Tr at ht
    cases et : test r1 with
    | ok b r2 =>
      rw [et] at ht
      obtain ⟨hb, ht⟩ := ht
      subst hb
      refine ⟨r2, rfl, fun hg => ?_, fun hg => ?_⟩
      · rw [if_pos hg] at ht
        cases ee : elt r2 with
        | ok y r3 => rw [ee] at ht; exact ⟨r3, by rw [ht.1], ht.2⟩
        | exc x r3 => rw [ee] at ht; exact ht.elim
        | bad => rw [ee] at ht; exact ht.elim
      · rw [if_neg (by rw [hg]; simp)] at ht
        exact ht
    | exc x r2 => rw [et] at ht; exact ht.elim
    | bad => rw [et] at ht; exact ht.elim
theorem tr_yes {Q : Bool → Env → Prop} : Tr myes ρ Q X = Q true ρ := rfl
theorem wipe_n {r : Env} : wipeE r [] = r := rfl
theorem wipe_c {r : Env} {v : Nat} {vs : List Nat} : wipeE r (v :: vs) = (wipeE r vs).set v .emp := rfl
theorem unw_n {r0 r : Env} : unw r0 r [] = r := rfl
def unw1 (o : Option Sl) (r : Env) (v : Nat) : Env := match o with
  | some (.val d) => r.set v (.val d)
  | _ => r
theorem unw_c {r0 r : Env} {v : Nat} {vs : List Nat} : unw r0 r (v :: vs) = unw1 r0[v]? (unw r0 r vs) v := by
  show (match r0[v]? with
    | some (.val d) => (unw r0 r vs).set v (.val d)
    | _ => unw r0 r vs) = _
  unfold unw1
  rcases r0[v]? with _ | s
  · rfl
  · cases s <;> rfl
theorem unw1_v {d : PyData} {r : Env} {v : Nat} : unw1 (some (.val d)) r v = r.set v (.val d) := rfl
theorem unw1_e {r : Env} {v : Nat} : unw1 (some .emp) r v = r := rfl
theorem unw1_n {r : Env} {v : Nat} : unw1 none r v = r := rfl
theorem getQ_0 {s : Sl} {r : Env} : (s :: r)[0]? = some s := rfl
theorem getQ_s {s : Sl} {r : Env} {n : Nat} : (s :: r)[n + 1]? = r[n]? := rfl
theorem bor_c {s s2 : Sl} {r r2 : Env} : borA (s :: r) (s2 :: r2) = (slotOk s s2 ∧ borA r r2) := rfl
theorem bor_n : borA [] [] = True := rfl
theorem sok_e {s : Sl} : slotOk s .emp = True := by unfold slotOk; simp [flatS]
theorem sok_vv {d : PyData} : slotOk (.val d) (.val d) = True := by unfold slotOk; simp [isOS]
theorem sok_nv {s : Sl} {d : PyData} (h : noList d = true) : slotOk s (.val d) = True := by unfold slotOk; simp [flatS, h]
theorem sok_int {s : Sl} {d : Int} : slotOk s (.val (.int d)) = True := sok_nv rfl
theorem sok_ss {d : List Int} : slotOk (.scr d) (.scr d) = True := by unfold slotOk; simp [isOS]
theorem sok_o {s : Sl} {d : PyData} : slotOk s (.own d) = (flatC d = true) := by unfold slotOk; simp [flatS, isOS]
theorem sok_x {s : Sl} (h : isOS s = false) : slotOk s s := .inl ⟨rfl, h⟩
theorem flat_l {ds : List PyData} : flatC (.list ds) = noListA ds := rfl
theorem nl_ints : ∀ ns : List Int, noListA (ns.map PyData.int) = true
  | [] => rfl
  | n :: ns => by simp [noListA, noList, nl_ints ns]
end
end PL

/-! PLO: the pure operators at constructors. -/
namespace PL
open PySem PySem.Spec L2

section
variable {i j k : Int} {a b : Bool} {x y : Str} {xs ys : List PyData} {d : PyData}
def fdOk (j : Int) : Bool := decide (0 < j) && decide (j.natAbs.log2 < 9000)
theorem log2_lt {n k : Nat} (hk : 0 < k) (h : n < 2 ^ k) : n.log2 < k := by
  by_cases z : n = 0
  · subst z; simpa using hk
  · exact (Nat.log2_lt z).mpr h
theorem fdOk_of (h : 0 < j) (h2 : j.natAbs < 2 ^ 9000) : fdOk j = true := by
  unfold fdOk
  simp only [Bool.and_eq_true, decide_eq_true_eq]
  exact ⟨h, log2_lt (by decide) h2⟩
theorem p64 : (2 : Nat) ^ 64 ≤ 2 ^ 9000 := Nat.pow_le_pow_right (by decide) (by decide)
theorem fdOk_s (h : 0 < j) (h2 : j.natAbs < 2 ^ 64) : fdOk j = true := fdOk_of h (Nat.lt_of_lt_of_le h2 p64)
theorem mulOk_l (h : i.natAbs < 2 ^ 64) : mulOk i j = true := by
  unfold mulOk; simp [h]
theorem mulOk_r (h : j.natAbs < 2 ^ 64) : mulOk i j = true := by
  unfold mulOk; simp [h]
theorem mulOk_if {c : Prop} [Decidable c] : mulOk i (if c then 1 else 0) = true := by
  split <;> exact mulOk_r (by decide)
theorem mulOk_log {n m : Nat} (h : i.natAbs < 2 ^ n) (h2 : j.natAbs < 2 ^ m) (hn : 0 < n) (hm : 0 < m) (hs : n + m ≤ 1000000) : mulOk i j = true := by
  unfold mulOk
  have h3 := log2_lt hn h
  have h4 := log2_lt hm h2
  have h5 : i.natAbs.log2 + j.natAbs.log2 < 1000000 := by omega
  simp only [h5, decide_true, Bool.or_true]
theorem add_ii : add? (.int i) (.int j) = some (.int (i + j)) := rfl
theorem sub_ii : sub? (.int i) (.int j) = some (.int (i - j)) := rfl
theorem mul_ii : mul? (.int i) (.int j) = if mulOk i j = true then some (.int (i * j)) else none := rfl
theorem mul_ti : mul? (.tuple xs) (.int i) = if (!xs.isEmpty && decide (1 ≤ i) && decide (i ≤ 1000) && decide (xs.length ≤ 1000)) = true then some (.tuple (List.replicate i.toNat xs).flatten) else none := rfl
theorem mul_li : mul? (.list xs) (.int i) = if repOk xs.length i = true then some (.list (List.replicate i.toNat xs).flatten) else none := rfl
theorem fdiv_ii : fdiv? (.int i) (.int j) = if fdOk j = true then some (.int (i / j)) else none := rfl
theorem mod_ii : mod? (.int i) (.int j) = if 0 < j then some (.int (i % j)) else none := by unfold mod?; simp
theorem pow_ii : pow? (.int i) (.int j) = if powOk i j = true then some (.int (i ^ j.toNat)) else none := rfl
theorem neg_i : neg? (.int i) = some (.int (-i)) := rfl
theorem cmp_ii {p : Int → Int → Bool} : cmpI? p (.int i) (.int j) = some (.bool (p i j)) := rfl
theorem addI_ii : addI? (.int i) (.int j) = some (.int (i + j)) := rfl
theorem mulI_ii : mulI? (.int i) (.int j) = if mulOk i j = true then some (.int (i * j)) else none := rfl
theorem shp_i : SeqAt.shaped (.int i) = true := rfl
theorem shp_b : SeqAt.shaped (.bool a) = true := rfl
theorem eq_ii : eq? (.int i) (.int j) = some (.bool (decide (i = j))) := by
  unfold eq? cmpOk; rw [shp_i, shp_i, if_pos (by simp)]; simp only [PyData.eqv]; congr 2
theorem ne_ii : ne? (.int i) (.int j) = some (.bool (!decide (i = j))) := by
  unfold ne? cmpOk; rw [shp_i, shp_i, if_pos (by simp)]; simp only [PyData.eqv]; congr 3
theorem eq_ss : eq? (.str x) (.str y) = some (.bool (decide (x = y))) := by
  unfold eq? cmpOk; rw [if_pos (by simp [strD])]; simp only [PyData.eqv]
  congr 2
theorem ne_ss : ne? (.str x) (.str y) = some (.bool (!decide (x = y))) := by
  unfold ne? cmpOk; rw [if_pos (by simp [strD])]; simp only [PyData.eqv]
  congr 3
theorem asB_b : asB? (.bool a) = some a := rfl
theorem truth_b : truth? (.bool a) = some a := rfl
theorem truth_i : truth? (.int i) = some (i != 0) := rfl
theorem truth_l : truth? (.list xs) = some (!xs.isEmpty) := rfl
theorem truth_t : truth? (.tuple xs) = some (!xs.isEmpty) := rfl
theorem truth_n : truth? .none = some false := rfl
theorem asI_i : asI? (.int i) = some i := rfl
theorem item_l : item? (.list xs) (.int i) = atI xs i := rfl
theorem item_t : item? (.tuple xs) (.int i) = atI xs i := rfl
theorem len_l : len? (.list xs) = some (.int xs.length) := rfl
theorem len_t : len? (.tuple xs) = some (.int xs.length) := rfl
theorem abs_i : abs? (.int i) = some (.int (if i < 0 then -i else i)) := rfl
theorem int_i : int? (.int i) = some (.int i) := rfl
theorem int_b : int? (.bool a) = some (.int (if a = true then 1 else 0)) := rfl
theorem tuple_l : tuple? (.list xs) = some (.tuple xs) := rfl
theorem tuple_t : tuple? (.tuple xs) = some (.tuple xs) := rfl
theorem list_l : list? (.list xs) = some (.list xs) := rfl
theorem list_t : list? (.tuple xs) = some (.list xs) := rfl
theorem max2_ii : max2? (.int i) (.int j) = some (.int (if j > i then j else i)) := rfl
theorem min2_ii : min2? (.int i) (.int j) = some (.int (if j < i then j else i)) := rfl
theorem seq_l : seq? (.list xs) = some xs := rfl
theorem seq_t : seq? (.tuple xs) = some xs := rfl
theorem slice_l {lo hi : Option Int} : slice? (.list xs) lo hi = some (.list (cut xs lo hi)) := rfl
theorem slice_t {lo hi : Option Int} : slice? (.tuple xs) lo hi = some (.tuple (cut xs lo hi)) := rfl
theorem rng1_i : rng1? (.int i) = if rOk i = true then some (rangeL 0 i.toNat) else none := rfl
theorem rng2_i : rng2? (.int i) (.int j) = if (rOk i && rOk j) = true then some (rangeL i (j - i).toNat) else none := rfl
theorem zip_l : zip? (.list xs) (.list ys) = some (zipP xs ys) := rfl
theorem zip_t : zip? (.tuple xs) (.tuple ys) = some (zipP xs ys) := rfl
theorem zip_tl : zip? (.tuple xs) (.list ys) = some (zipP xs ys) := rfl
theorem zip_lt : zip? (.list xs) (.tuple ys) = some (zipP xs ys) := rfl
theorem enum_l : enum? (.list xs) = some (enumP xs) := rfl
theorem add_tt : add? (.tuple xs) (.tuple ys) = if lenOk (xs.length + ys.length) = true then some (.tuple (xs ++ ys)) else none := rfl
theorem add_ll : add? (.list xs) (.list ys) = if lenOk (xs.length + ys.length) = true then some (.list (xs ++ ys)) else none := rfl
theorem add_ss : add? (.str x) (.str y) = if lenOk (x.length + y.length) = true then some (.str (x ++ y)) else none := rfl
theorem repr_i : repr? (.int i) = if i.natAbs.log2 < 12900 then some (.str (toString i)) else none := rfl
theorem sum_l : sum? (.list xs) = (ints? xs).map fun ns => .int ns.sum := rfl
theorem max_l {ns : List Int} (h : ns ≠ []) : max? (.list (ns.map PyData.int)) = some (.int (maxL ns)) := by
  unfold max?
  dsimp only
  rw [ints_map]
  show (if ns.isEmpty = true then none else some (PyData.int (maxL ns))) = _
  rw [if_neg (by simpa using h)]
theorem min_l {ns : List Int} (h : ns ≠ []) : min? (.list (ns.map PyData.int)) = some (.int (minL ns)) := by
  unfold min?
  dsimp only
  rw [ints_map]
  show (if ns.isEmpty = true then none else some (PyData.int (minL ns))) = _
  rw [if_neg (by simpa using h)]
theorem sum_m {ns : List Int} : sum? (.list (ns.map PyData.int)) = some (.int ns.sum) := by
  unfold sum?
  dsimp only
  rw [ints_map]
  rfl
theorem tvs_b : ∀ ns : List Bool, tvs? (ns.map PyData.bool) = some ns
  | [] => rfl
  | n :: ns => by rw [List.map_cons]; show (some n).bind (fun b => (tvs? (ns.map PyData.bool)).map (b :: ·)) = _; rw [tvs_b ns]; rfl
theorem tvs_i : ∀ ns : List Int, tvs? (ns.map PyData.int) = some (ns.map (· != 0))
  | [] => rfl
  | n :: ns => by rw [List.map_cons]; show (some (n != 0)).bind (fun b => (tvs? (ns.map PyData.int)).map (b :: ·)) = _; rw [tvs_i ns]; rfl
theorem any_m {ns : List Bool} : any? (.list (ns.map PyData.bool)) = some (.bool (ns.any id)) := by
  show (tvs? (ns.map PyData.bool)).map _ = _
  rw [tvs_b]; rfl
theorem all_m {ns : List Bool} : all? (.list (ns.map PyData.bool)) = some (.bool (ns.all id)) := by
  show (tvs? (ns.map PyData.bool)).map _ = _
  rw [tvs_b]; rfl
theorem any_i {ns : List Int} : any? (.list (ns.map PyData.int)) = some (.bool ((ns.map (· != 0)).any id)) := by
  show (tvs? (ns.map PyData.int)).map _ = _
  rw [tvs_i]; rfl
theorem sort_l {ns : List Int} {ds : List PyData} (h : ds = ns.map PyData.int) : ((some ds).bind fun ds => match ints? ds with
    | some ns => some (PyData.list ((isort ns).map PyData.int))
    | none => (pairs? ds).map fun ps => .list ((psort ps).map prI)) = some (.list ((isort ns).map PyData.int)) := by
  subst h
  rw [Option.bind_some, ints_map]
theorem sort_m {ns : List Int} : sortI? (.list (ns.map PyData.int)) = some (.list ((isort ns).map PyData.int)) := sort_l rfl
theorem sort_t {ns : List Int} : sortI? (.tuple (ns.map PyData.int)) = some (.list ((isort ns).map PyData.int)) := sort_l rfl
theorem pairs_map : ∀ ps : List (Int × Int), pairs? (ps.map prI) = some ps
  | [] => rfl
  | p :: ps => by
    show (some (p.1, p.2)).bind (fun q => (pairs? (ps.map prI)).map fun ps => q :: ps) = _
    rw [pairs_map ps]; rfl
theorem sort_pl {ps : List (Int × Int)} {ds : List PyData} (h : ds = ps.map prI) : ((some ds).bind fun ds => match ints? ds with
    | some ns => some (PyData.list ((isort ns).map PyData.int))
    | none => (pairs? ds).map fun ps => .list ((psort ps).map prI)) = some (.list ((psort ps).map prI)) := by
  subst h
  rw [Option.bind_some, pairs_map]
  cases ps with
  | nil => simp [ints?, isort, psort]
  | cons p ps => rfl
theorem sort_pm {ps : List (Int × Int)} : sortI? (.list (ps.map prI)) = some (.list ((psort ps).map prI)) := sort_pl rfl
theorem sort_pt {ps : List (Int × Int)} : sortI? (.tuple (ps.map prI)) = some (.list ((psort ps).map prI)) := sort_pl rfl
theorem isort_id {ns : List Int} (h : ns.Pairwise (· ≤ ·)) : isort ns = ns := sorted_unique (isort_perm ns) (isort_sorted ns) h
theorem lay_ints : ∀ ns : List Int, PyData.canLayAll0 (ns.map PyData.int) = true
  | [] => rfl
  | n :: ns => by simp [PyData.canLayAll0, PyData.canLay0, lay_ints ns]
theorem dep_ints : ∀ ns : List Int, PyData.depthAll (ns.map PyData.int) = 0
  | [] => rfl
  | n :: ns => by simp [PyData.depthAll, PyData.depth, dep_ints ns]
theorem shp_lst {ns : List Int} : SeqAt.shaped (.list (ns.map PyData.int)) = true := by
  show (PyData.canLayAll0 (ns.map PyData.int) && decide (PyData.depthAll (ns.map PyData.int) + 1 ≤ 64)) = true
  rw [lay_ints, dep_ints]; rfl
theorem shp_tup {ns : List Int} : SeqAt.shaped (.tuple (ns.map PyData.int)) = true := by
  show (PyData.canLayAll0 (ns.map PyData.int) && decide (PyData.depthAll (ns.map PyData.int) + 1 ≤ 64)) = true
  rw [lay_ints, dep_ints]; rfl
theorem eqv_ints : ∀ xs ys : List Int, PyData.eqvAll (xs.map PyData.int) (ys.map PyData.int) = decide (xs = ys)
  | [], [] => rfl
  | [], y :: ys => rfl
  | x :: xs, [] => rfl
  | x :: xs, y :: ys => by
    simp only [List.map_cons, PyData.eqvAll, PyData.eqv, eqv_ints xs ys, List.cons.injEq]
    by_cases h : x = y
    · subst h; simp
    · simp [h]
theorem ne_lst {xs ys : List Int} : ne? (.list (xs.map PyData.int)) (.list (ys.map PyData.int)) = some (.bool (!decide (xs = ys))) := by
  unfold ne? cmpOk
  rw [shp_lst, shp_lst, if_pos (by simp)]
  simp only [PyData.eqv, eqv_ints]
theorem ne_tup {xs ys : List Int} : ne? (.tuple (xs.map PyData.int)) (.tuple (ys.map PyData.int)) = some (.bool (!decide (xs = ys))) := by
  unfold ne? cmpOk
  rw [shp_tup, shp_tup, if_pos (by simp)]
  simp only [PyData.eqv, eqv_ints]
theorem eq_tup {xs ys : List Int} : eq? (.tuple (xs.map PyData.int)) (.tuple (ys.map PyData.int)) = some (.bool (decide (xs = ys))) := by
  unfold eq? cmpOk
  rw [shp_tup, shp_tup, if_pos (by simp)]
  simp only [PyData.eqv, eqv_ints]
theorem eq_lst {xs ys : List Int} : eq? (.list (xs.map PyData.int)) (.list (ys.map PyData.int)) = some (.bool (decide (xs = ys))) := by
  unfold eq? cmpOk
  rw [shp_lst, shp_lst, if_pos (by simp)]
  simp only [PyData.eqv, eqv_ints]
theorem maxL_ge : ∀ {l : List Int} {x : Int}, x ∈ l → x ≤ maxL l
  | [a], x, h => by simp at h; subst h; exact Int.le_refl _
  | a :: b :: r, x, h => by
    rcases List.mem_cons.mp h with h | h
    · subst h; exact Int.le_max_left _ _
    · exact Int.le_trans (maxL_ge h) (Int.le_max_right _ _)
theorem maxL_le : ∀ {l : List Int} {c : Int}, l ≠ [] → (∀ x ∈ l, x ≤ c) → maxL l ≤ c
  | [a], c, _, h => h a (by simp)
  | a :: b :: r, c, _, h => Int.max_le.mpr ⟨h a (by simp), maxL_le (by simp) fun x z => h x (List.mem_cons_of_mem _ z)⟩
theorem atI_0 {α : Type} {a : α} {r : List α} : atI (a :: r) 0 = some a := atI_nat (j := 0) rfl
theorem atI_1 {α : Type} {a b : α} {r : List α} : atI (a :: b :: r) 1 = some b := atI_nat (j := 1) rfl
theorem atI_2 {α : Type} {a b c : α} {r : List α} : atI (a :: b :: c :: r) 2 = some c := atI_nat (j := 2) rfl
theorem ixN_0 {n : Nat} : ixN (n + 1) 0 = some 0 := by
  unfold ixN; rw [if_pos (by decide), if_pos (by omega)]; rfl
theorem ixN_1 {n : Nat} : ixN (n + 1 + 1) 1 = some 1 := by
  unfold ixN; rw [if_pos (by decide), if_pos (by omega)]; rfl
theorem ixN_2 {n : Nat} : ixN (n + 1 + 1 + 1) 2 = some 2 := by
  unfold ixN; rw [if_pos (by decide), if_pos (by omega)]; rfl
theorem ite_some {α : Type} {c : Prop} [Decidable c] {u v : α} : ((if c then some u else none) = some v) = (c ∧ u = v) := by
  split <;> simp_all
theorem map_some {α β : Type} {o : Option α} {f : α → β} {Q : β → Prop} : (∃ z, o.map f = some z ∧ Q z) = ∃ a, o = some a ∧ Q (f a) := by
  cases o <;> simp
theorem lenOk_of {n : Nat} (h : n ≤ 16777216) : lenOk n = true := by unfold lenOk; simpa using h
theorem rOk_of (h : -(2 ^ 62) < i) (h2 : i < 2 ^ 62) : rOk i = true := by
  unfold rOk
  exact decide_eq_true (log2_lt (by decide) (by omega))
theorem outs_o {ks : List PKd} {ρ : Env} : (ownIx 0 (.o :: ks)).map (fun i => outAt i ρ) = outAt 0 ρ :: (ownIx 1 ks).map (fun i => outAt i ρ) := rfl
theorem bind_some {α β : Type} {a : α} {f : α → Option β} : (some a).bind f = f a := rfl
theorem ex_and {α : Type} {p : Prop} {a : α} {Q : α → Prop} : (∃ z, (p ∧ a = z) ∧ Q z) = (p ∧ Q a) := by
  apply propext; constructor
  · rintro ⟨z, ⟨hp, rfl⟩, q⟩; exact ⟨hp, q⟩
  · rintro ⟨hp, q⟩; exact ⟨a, ⟨hp, rfl⟩, q⟩
theorem ex_eq {α : Type} {a : α} {Q : α → Prop} : (∃ z, a = z ∧ Q z) = Q a := by
  apply propext; constructor
  · rintro ⟨z, rfl, q⟩; exact q
  · exact fun q => ⟨a, rfl, q⟩
end
end PL

/-! PLP: the laws' source of numbers: a pot of digits and a turn. -/
namespace PL
open PySem PySem.Spec L2 PySem.NumText

theorem foldl_app_list {α : Type} (a : Array α) : ∀ (n : Nat) (z : Array α), ((List.replicate n a).foldl (· ++ ·) z).toList = z.toList ++ (List.replicate n a.toList).flatten
  | 0, z => by simp
  | n + 1, z => by
    rw [List.replicate_succ, List.foldl_cons, foldl_app_list a n, List.replicate_succ, List.flatten_cons, Array.toList_append, List.append_assoc]
theorem flat_one {α : Type} (a : α) : ∀ n : Nat, (List.replicate n [a]).flatten = List.replicate n a
  | 0 => rfl
  | n + 1 => by rw [List.replicate_succ, List.flatten_cons, flat_one a n]; rfl
theorem zeros (n : Nat) (h : 1 < n) : (strRep "0" (n : Int)).cps.toList = List.replicate n 48 := by
  unfold strRep
  rw [if_neg (by omega), if_neg]
  · show ((List.replicate (n : Int).toNat (#[48] : Array Nat)).foldl (· ++ ·) #[]).toList = _
    rw [foldl_app_list, Int.toNat_natCast]
    simp [flat_one]
  · have h1 : ((n : Int) == 1) = false := by simp; omega
    have h2 : (("0" : Str).length == 0) = false := by decide
    rw [h1, h2]; simp
theorem foldl_zeros : ∀ (n : Nat) (z : Nat), (List.replicate n 48).foldl (fun acc c => acc * 10 + (c - 48)) z = z * 10 ^ n
  | 0, z => by simp
  | n + 1, z => by
    rw [List.replicate_succ, List.foldl_cons, foldl_zeros n]
    simp [Nat.pow_succ, Nat.mul_assoc, Nat.mul_comm]
theorem ten_text (n : Nat) (h : 1 < n) (h2 : n < 4000) : (("1" : Str) ++ strRep "0" (n : Int)).cps.toList = 49 :: List.replicate n 48 := by
  rw [Str.cps_append, Array.toList_append, zeros n h]; rfl
theorem ten_len (n : Nat) (h : 1 < n) (h2 : n < 4000) : (("1" : Str) ++ strRep "0" (n : Int)).length = n + 1 := by
  have := congrArg List.length (ten_text n h h2)
  rw [Array.length_toList, List.length_cons, List.length_replicate] at this
  exact this
theorem zeros_len (n : Nat) (h : 1 < n) : (strRep "0" (n : Int)).length = n := by
  have := congrArg List.length (zeros n h)
  rw [Array.length_toList, List.length_replicate] at this
  exact this
theorem ten_int (n : Nat) (h : 1 < n) (h2 : n < 4000) : intText? (("1" : Str) ++ strRep "0" (n : Int)) = some ((10 ^ n : Nat) : Int) := by
  have e := ten_text n h h2
  rw [intText_digits (by
    rw [e]; intro c hc
    rcases List.mem_cons.mp hc with rfl | hc
    · decide
    · obtain ⟨_, rfl⟩ := List.mem_replicate.mp hc; decide) (by rw [e]; simp) (by rw [ten_len n h h2]; omega)]
  rw [e]
  unfold digitsVal
  rw [List.foldl_cons, foldl_zeros]
  simp
theorem int_s {x : Str} {n : Int} (h : lenOk x.length = true) (h2 : intText? x = some n) : int? (.str x) = some (.int n) := by
  show (if lenOk x.length = true then (intText? x).map PyData.int else none) = _
  rw [if_pos h, h2]; rfl
def G900 : Int := ((10 ^ 900 : Nat) : Int)
theorem int_ten : int? (.str (("1" : Str) ++ strRep "0" 900)) = some (.int G900) :=
  int_s (lenOk_of (by have := ten_len 900 (by decide) (by decide); exact this ▸ (by decide))) (ten_int 900 (by decide) (by decide))
theorem mul_ss {x : Str} {k : Int} : mul? (.str x) (.int k) = if repOk x.length k = true then some (.str (strRep x k)) else none := rfl
theorem rep900 : repOk ("0" : Str).length 900 = true := by decide +kernel
theorem len1900 : lenOk (("1" : Str).length + (strRep "0" 900).length) = true := by
  have := zeros_len 900 (by decide)
  have e : (strRep "0" 900).length = 900 := this
  rw [e]; decide +kernel
theorem z900 : mul? (.str "0") (.int 900) = some (.str (strRep "0" 900)) := by rw [mul_ss, if_pos rep900]
theorem o900 : add? (.str "1") (.str (strRep "0" 900)) = some (.str (("1" : Str) ++ strRep "0" 900)) := by rw [add_ss, if_pos len1900]
theorem scr_ints {ns : List Int} : (ints? (ns.map PyData.int)).getD [] = ns := by rw [ints_map]; rfl
theorem pow18 : powOk 10 18 = true := by decide +kernel
theorem G900_pos : 0 < G900 := by
  unfold G900
  exact Int.natCast_pos.mpr (Nat.pow_pos (by decide))
/-- the pot -/
def Pot (p : PyData) : Prop := ∃ g s : Int, p = .list [.int g, .int s] ∧ 0 ≤ g ∧ g < G900 ∧ 0 ≤ s ∧ s < 2305843009213693951
theorem pot_mk {a n k : Int} {c : Prop} [Decidable c] : Pot (.list [.int (a % G900 * (if c then 1 else 0)), .int (n * 48271 % 2305843009213693951)]) := by
  have h := G900_pos
  have h1 := Int.emod_nonneg a (Int.ne_of_gt h)
  have h2 := Int.emod_lt_of_pos a h
  refine ⟨_, _, rfl, ?_, ?_, Int.emod_nonneg _ (by decide), Int.emod_lt_of_pos _ (by decide)⟩
  · split <;> omega
  · split <;> omega
end PL

/-! PLR: texts of values are short enough. -/
namespace PL
open PySem PySem.Spec L2

mutual
def cost : PyData → Nat
  | .int _ => 2000
  | .str x => (reprText x).length
  | .list xs => costA xs
  | .tuple xs => costA xs
  | _ => 5
def costA : List PyData → Nat
  | [] => 3
  | x :: xs => cost x + 2 + costA xs
end
theorem shownAll_len (xs : List PyData) : (PyData.shownAll xs).length = xs.length := by
  induction xs with
  | nil => rfl
  | cons x xs ih => simp [PyData.shownAll, ih]
mutual
theorem shown_le : ∀ d : PyData, d.showable = true → d.hasDict = false → d.shown.length ≤ cost d
  | .none, _, _ => by decide
  | .bool b, _, _ => by cases b <;> decide
  | .int i, h, _ => by
    have h2 : i.natAbs.log2 < 1920 := by simpa [PyData.showable] using h
    have e := int_text_length_le (k := 1920) (by decide) h2
    show (Str.ofString (toString i)).length ≤ 2000
    rw [ofString_length]
    omega
  | .str x, _, _ => Nat.le_refl _
  | .list xs, h, h2 => by
    have := shownA_le xs (by simpa [PyData.showable] using h) (by simpa [PyData.hasDict] using h2)
    exact Nat.le_trans (listText_len_le _) (by rw [shownAll_len]; exact this)
  | .tuple xs, h, h2 => by
    have := shownA_le xs (by simpa [PyData.showable] using h) (by simpa [PyData.hasDict] using h2)
    exact Nat.le_trans (tupleText_len_le _) (by rw [shownAll_len]; exact this)
  | .dict xs, _, h => by simp [PyData.hasDict] at h
theorem shownA_le : ∀ ds : List PyData, PyData.showableAll ds = true → PyData.hasDictAll ds = false → ((PyData.shownAll ds).map (·.length)).sum + 2 * ds.length + 3 ≤ costA ds
  | [], _, _ => by decide
  | d :: ds, h, h2 => by
    simp only [PyData.showableAll, Bool.and_eq_true] at h
    simp only [PyData.hasDictAll, Bool.or_eq_false_iff] at h2
    have a := shown_le d h.1 h2.1
    have b := shownA_le ds h.2 h2.2
    simp only [PyData.shownAll, List.map_cons, List.sum_cons, List.length_cons, costA]
    omega
end
theorem reprOk_of {d : PyData} (h1 : d.showable = true) (h2 : d.hasDict = false) (h3 : d.depth ≤ 60) (h4 : cost d ≤ 16777216) : reprOk d = true := by
  unfold reprOk
  have := shown_le d h1 h2
  simp only [h1, h2, Bool.and_eq_true, Bool.not_false, decide_eq_true_eq, and_true, true_and]
  exact ⟨h3, lenOk_of (by omega)⟩
theorem ints_show : ∀ ns : List Int, (∀ n ∈ ns, n.natAbs < 2 ^ 1000) → PyData.showableAll (ns.map PyData.int) = true
  | [], _ => rfl
  | n :: ns, h => by
    simp only [List.map_cons, PyData.showableAll, Bool.and_eq_true]
    refine ⟨?_, ints_show ns fun m hm => h m (List.mem_cons_of_mem _ hm)⟩
    show decide (n.natAbs.log2 < 1920) = true
    have := log2_lt (k := 1000) (by decide) (h n (by simp))
    exact decide_eq_true (by omega)
theorem ints_dict : ∀ ns : List Int, PyData.hasDictAll (ns.map PyData.int) = false
  | [] => rfl
  | n :: ns => by simp [PyData.hasDictAll, PyData.hasDict, ints_dict ns]
theorem ints_depth : ∀ ns : List Int, PyData.depthAll (ns.map PyData.int) = 0
  | [] => rfl
  | n :: ns => by simp [PyData.depthAll, PyData.depth, ints_depth ns]
theorem ints_cost : ∀ ns : List Int, costA (ns.map PyData.int) = 2002 * ns.length + 3
  | [] => rfl
  | n :: ns => by simp only [List.map_cons, costA, cost, ints_cost ns, List.length_cons]; omega
theorem repr_tup {ns : List Int} (h : ∀ n ∈ ns, n.natAbs < 2 ^ 1000) (hl : ns.length ≤ 8000) : repr? (.tuple (ns.map PyData.int)) = some (.str (PyData.shown (.tuple (ns.map PyData.int)))) := by
  show (if reprOk (.tuple (ns.map PyData.int)) = true then some (PyData.str (PyData.shown (.tuple (ns.map PyData.int)))) else none) = _
  rw [if_pos]
  refine reprOk_of (ints_show ns h) (ints_dict ns) ?_ ?_
  · show PyData.depthAll (ns.map PyData.int) + 1 ≤ 60
    rw [ints_depth]; decide
  · show costA (ns.map PyData.int) ≤ 16777216
    rw [ints_cost]; omega
theorem repr_lst {ns : List Int} (h : ∀ n ∈ ns, n.natAbs < 2 ^ 1000) (hl : ns.length ≤ 8000) : repr? (.list (ns.map PyData.int)) = some (.str (PyData.shown (.list (ns.map PyData.int)))) := by
  show (if reprOk (.list (ns.map PyData.int)) = true then some (PyData.str (PyData.shown (.list (ns.map PyData.int)))) else none) = _
  rw [if_pos]
  refine reprOk_of (ints_show ns h) (ints_dict ns) ?_ ?_
  · show PyData.depthAll (ns.map PyData.int) + 1 ≤ 60
    rw [ints_depth]; decide
  · show costA (ns.map PyData.int) ≤ 16777216
    rw [ints_cost]; omega
end PL

/-! PLW: while, with a measure. -/
namespace PL
open PySem PySem.Spec L2
theorem ts_while {k : M Bool} {body : SM} {P : PS} (I : Nat → Env → Prop) {n : Nat} {ρ : Env} (h0 : I n ρ)
    (hs : ∀ (n : Nat) (r : Env), I n r → Tr k r (fun b r' => if b = true then Ts body r' { P with nx := fun r2 => ∃ n', n' < n ∧ I n' r2, ct := fun r2 => ∃ n', n' < n ∧ I n' r2, bk := P.nx } else P.nx r') P.ex) :
    Ts (mwhile k body) ρ P := by
  have go : ∀ (n : Nat) (ρ : Env), I n ρ → ∃ j, whileN k body j ρ ≠ .bad ∧ TsO (whileN k body j ρ) P := by
    intro n
    induction n using Nat.strongRecOn with
    | _ n ih =>
      intro ρ hI
      have h := hs n ρ hI
      unfold Tr at h
      cases ek : k ρ with
      | ok b r' =>
        rw [ek] at h
        dsimp only at h
        cases b with
        | false =>
          rw [if_neg (by simp)] at h
          refine ⟨1, ?_⟩
          unfold whileN
          rw [ek]
          exact ⟨by simp, h⟩
        | true =>
          rw [if_pos rfl] at h
          unfold Ts at h
          cases eb : body r' with
          | nx r2 =>
            rw [eb] at h
            obtain ⟨n', hn, hI'⟩ := h
            obtain ⟨j, h1, h2⟩ := ih n' hn r2 hI'
            refine ⟨j + 1, ?_⟩
            unfold whileN
            rw [ek]
            simp only [if_true, eb]
            exact ⟨h1, h2⟩
          | ct r2 =>
            rw [eb] at h
            obtain ⟨n', hn, hI'⟩ := h
            obtain ⟨j, h1, h2⟩ := ih n' hn r2 hI'
            refine ⟨j + 1, ?_⟩
            unfold whileN
            rw [ek]
            simp only [if_true, eb]
            exact ⟨h1, h2⟩
          | bk r2 =>
            rw [eb] at h
            refine ⟨1, ?_⟩
            unfold whileN
            rw [ek]
            simp only [if_true, eb]
            exact ⟨by simp, h⟩
          | rt v r2 =>
            rw [eb] at h
            refine ⟨1, ?_⟩
            unfold whileN
            rw [ek]
            simp only [if_true, eb]
            exact ⟨by simp, h⟩
          | exc x r2 =>
            rw [eb] at h
            refine ⟨1, ?_⟩
            unfold whileN
            rw [ek]
            simp only [if_true, eb]
            exact ⟨by simp, h⟩
          | bad => rw [eb] at h; exact h.elim
      | exc x r' =>
        rw [ek] at h
        refine ⟨1, ?_⟩
        unfold whileN
        rw [ek]
        exact ⟨by simp, h⟩
      | bad => rw [ek] at h; exact h.elim
  obtain ⟨j, h1, h2⟩ := go n ρ h0
  unfold Ts
  rw [mwhile_eq j h1]
  exact h2
end PL

/-! PLX: comprehensions and loops over typed items. -/
namespace PL
open PySem PySem.Spec L2
section
variable {α : Type} {ρ : Env} {X : XP} {P : PS}
theorem compL_pureM {asg : Asg} {test : M Bool} {elt : M PyData} {vs : List Nat} {r0 : Env} {D : α → PyData} {g : α → Bool} {f : α → PyData} : ∀ (ds : List α) (acc : List PyData),
    (∀ d ∈ ds, ∃ r1, asg (D d) r0 = some r1 ∧ ∃ r2, test r1 = .ok (g d) r2 ∧ (g d = true → ∃ r3, elt r2 = .ok (f d) r3 ∧ wipeE r3 vs = r0) ∧ (g d = false → wipeE r2 vs = r0)) →
    lenOk (acc.length + ds.length) = true → compL asg test elt vs (ds.map D) r0 acc = .ok (.list (acc ++ (ds.filter g).map f)) r0
  | [], acc, _, _ => by simp [compL]
  | d :: ds, acc, h, hl => by
    obtain ⟨r1, e1, r2, e2, h3, h4⟩ := h d (by simp)
    have hr := fun d' z => h d' (List.mem_cons_of_mem d z)
    rw [List.map_cons]
    unfold compL
    rw [e1]; dsimp only; rw [e2]; dsimp only
    have lo : ∀ {a b : Nat}, lenOk b = true → a ≤ b → lenOk a = true := fun h1 h2 => by
      unfold lenOk at *; simp only [decide_eq_true_eq] at *; omega
    cases hg : g d with
    | true =>
      obtain ⟨r3, e3, w3⟩ := h3 hg
      rw [if_pos rfl, e3]; dsimp only
      rw [if_pos (lo hl (by simp)), w3, compL_pureM ds (acc ++ [f d]) hr (lo hl (by simp; omega))]
      simp [hg]
    | false =>
      rw [if_neg (by simp), h4 hg, compL_pureM ds acc hr (lo hl (by simp))]
      simp [hg]
/-- a comprehension whose parts are pure, over typed items -/
theorem tr_lcM {items : M (List PyData)} {asg : Asg} {test : M Bool} {elt : M PyData} {vs : List Nat} {Q : PyData → Env → Prop} (D : α → PyData) (xs : List α) (g : α → Bool) (f : α → PyData)
    (h : Tr items ρ (fun ds r => ds = xs.map D ∧ (∀ d ∈ xs, ∃ r1, asg (D d) (wipeE r vs) = some r1 ∧ Tr test r1 (fun b r2 => b = g d ∧ if b = true then Tr elt r2 (fun y r3 => y = f d ∧ wipeE r3 vs = wipeE r vs) nox else wipeE r2 vs = wipeE r vs) nox) ∧
      lenOk xs.length = true ∧ Q (.list ((xs.filter g).map f)) (unw r (wipeE r vs) vs)) X) : Tr (mlc items asg test elt vs) ρ Q X := by
  rw [tr_lc]
  refine tr_mono h fun ds r h => ?_
  obtain ⟨rfl, h1, h2, h3⟩ := h
  rw [compL_pureM (g := g) (f := f) xs [] (fun d hd => ?_) (by simpa using h2)]
  · simpa using h3
  · obtain ⟨r1, e1, ht⟩ := h1 d hd
    refine ⟨r1, e1, ?_⟩
    unfold Tr at ht
    cases et : test r1 with
    | ok b r2 =>
      rw [et] at ht
      obtain ⟨hb, ht⟩ := ht
      subst hb
      refine ⟨r2, rfl, fun hg => ?_, fun hg => ?_⟩
      · rw [if_pos hg] at ht
        cases ee : elt r2 with
        | ok y r3 => rw [ee] at ht; exact ⟨r3, by rw [ht.1], ht.2⟩
        | exc x r3 => rw [ee] at ht; exact ht.elim
        | bad => rw [ee] at ht; exact ht.elim
      · rw [if_neg (by rw [hg]; simp)] at ht
        exact ht
    | exc x r2 => rw [et] at ht; exact ht.elim
    | bad => rw [et] at ht; exact ht.elim
/-- .. no test -/
theorem tr_lcA {items : M (List PyData)} {asg : Asg} {elt : M PyData} {vs : List Nat} {Q : PyData → Env → Prop} (D : α → PyData) (xs : List α) (f : α → PyData)
    (h : Tr items ρ (fun ds r => ds = xs.map D ∧ (∀ d ∈ xs, ∃ r1, asg (D d) (wipeE r vs) = some r1 ∧ Tr elt r1 (fun y r3 => y = f d ∧ wipeE r3 vs = wipeE r vs) nox) ∧
      lenOk xs.length = true ∧ Q (.list (xs.map f)) (unw r (wipeE r vs) vs)) X) : Tr (mlc items asg myes elt vs) ρ Q X := by
  refine tr_lcM D xs (fun _ => true) f (tr_mono h fun ds r h => ?_)
  obtain ⟨rfl, h1, h2, h3⟩ := h
  refine ⟨rfl, fun d hd => ?_, h2, by rwa [List.filter_eq_self.mpr (fun _ _ => rfl)]⟩
  obtain ⟨r1, e1, ht⟩ := h1 d hd
  refine ⟨r1, e1, ?_⟩
  rw [tr_yes, if_pos rfl]
  exact ⟨rfl, ht⟩
/-- for over typed items -/
theorem ts_forM {asg : Asg} {body : SM} {ds : List PyData} (D : α → PyData) (xs : List α) (hd : ds = xs.map D) (I : Nat → Env → Prop) (h0 : I 0 ρ)
    (hs : ∀ (i : Nat) (x : α) (r : Env), xs[i]? = some x → I i r → ∃ r1, asg (D x) r = some r1 ∧ Ts body r1 { P with nx := I (i + 1), ct := I (i + 1), bk := P.nx })
    (he : ∀ r, I xs.length r → P.nx r) : Ts (forL asg body ds) ρ P := by
  subst hd
  refine ts_forL I h0 (fun i d r hi h => ?_) (by rw [List.length_map]; exact he)
  rw [List.getElem?_map] at hi
  obtain ⟨x, hx, rfl⟩ := Option.map_eq_some_iff.mp hi
  exact hs i x r hx h
/-- the names of a block within a block -/
def relab (scope sc : Scope) : Scope := { scope with names := scope.names.map fun (n, k) => if (k == .free && sc.kind == .function && sc.names.lookup n == some .cell) then (n, .cell) else (n, k) }
theorem envC_scope {scope : Scope} {cl : List (Str × Addr)} {C : Addr} {env : PySem.Env} : (compEnvC scope cl C env).scope = relab scope env.scope := rfl
theorem cx_scope {CX : CXT} {P : Program} {w : World} {K : PySem.W.Frag} {mg : Str → Option Value} {base : Heap} {N : List Str} {qual : Str} {scope : Scope} {f : Addr} {cd : Value} {A : Around} {outer : List PySem.Env} {s : Shared} {H : Hp} {E : XK} :
    (cxOf CX P w K mg base N qual scope f cd A outer s H E).env.scope = scope := rfl
theorem rangeL_map {lo : Int} {n : Nat} : rangeL lo n = (List.range n).map fun i : Nat => PyData.int (lo + i) := rfl
end
end PL

/-! PLk: calls with keywords and defaults (values alone). -/
namespace PL
open PySem PySem.Spec L2
open PyProof.Rows hiding St

def pick {α : Type} (π : List Nat) (l : List α) : List α := π.filterMap fun i => l[i]?
theorem pick_n {α : Type} {l : List α} : pick [] l = [] := rfl
theorem pick_vals {vs : List V} {us : List Value} (r : Vals vs us) : ∀ π : List Nat, Vals (pick π vs) (pick π us)
  | [] => .nil
  | i :: π => by
    have ih := pick_vals r π
    unfold pick at *
    rw [List.filterMap_cons, List.filterMap_cons]
    by_cases h : i < vs.length
    · have h2 : i < us.length := by rw [← r.length]; exact h
      obtain ⟨u, hu, ru⟩ := r.get (List.getElem?_eq_getElem h)
      rw [List.getElem?_eq_getElem h, hu]
      exact .cons ru ih
    · have hl := r.length
      have e1 : vs[i]? = none := List.getElem?_eq_none (by omega)
      have e2 : us[i]? = none := List.getElem?_eq_none (by omega)
      rw [e1, e2]
      exact ih
theorem pick_rep {K : PySem.W.Frag} {fz : Addr → Prop} {H : Hp} {vs : List V} {xs : List PyData} (r : RepA K fz H vs xs) : ∀ π : List Nat, RepA K fz H (pick π vs) (pick π xs)
  | [] => .nil
  | i :: π => by
    have ih := pick_rep r π
    unfold pick at *
    rw [List.filterMap_cons, List.filterMap_cons]
    by_cases h : i < xs.length
    · obtain ⟨u, hu, ru⟩ := r.get (List.getElem?_eq_getElem h)
      rw [List.getElem?_eq_getElem h, hu]
      exact .cons ru ih
    · have hl := r.length
      have e1 : vs[i]? = none := List.getElem?_eq_none (by omega)
      have e2 : xs[i]? = none := List.getElem?_eq_none (by omega)
      rw [e1, e2]
      exact ih
/-- how a call binds: n positional values, keywords ks, defaults dvs, put into the parameters' order by π -/
structure BindX (K : PySem.W.Frag) (fd : FuncData) (ps : List Str) (n : Nat) (ks : List Str) (π : List Nat) (dvs : List V) : Prop where
  ex : ∃ ds : List Value, Vals dvs ds ∧ ∀ (s : Shared) (us ws : List Value), K.In s.heap → us.length = n → ws.length = ks.length → BindsTo s fd ⟨us, ks.zip ws⟩ (ps.zip (pick π (us ++ ws ++ ds)))
/-- a def whose defaults are dvs -/
structure FunX (K : PySem.W.Frag) (x qual : Str) (st : Stmt) (f : Addr) (fd : FuncData) (dvs : List V) : Prop where
  ex : ∃ (oc : Value) (od : Option Addr) (dV kV doc pm : Value) (an : Option Addr) (cdv ct : Value) (osl : Array (Option Value)),
    fd = PySem.W.fnOf x qual (defArgs st) (defBody st) (defScope st) dV kV doc pm an cdv ct ∧ K.lookup f = some ⟨oc, od, .func fd, osl⟩ ∧ PySem.W.codeIn K cdv qual = true ∧ DflV K dV dvs
  kp : PySem.W.keepIn K (.ref f) = true
section
variable {K : PySem.W.Frag} {x qual : Str} {st : Stmt} {f : Addr} {fd : FuncData} {ps : List Str} {dvs : List V}
theorem bindX_of {n : Nat} {ks : List Str} {π : List Nat} (h : ∀ us ws : List Value, us.length = n → ws.length = ks.length → bindArgs fd ⟨us, ks.zip ws⟩ = pure (ps.zip (pick π (us ++ ws)))) : BindX K fd ps n ks π [] :=
  ⟨[], .nil, fun s us ws _ h1 h2 => by rw [List.append_nil]; exact .of_eq (h us ws h1 h2)⟩
theorem FunX.bindX (F : FunX K x qual st f fd dvs) (hd : dvs ≠ []) {n : Nat} {ks : List Str} {π : List Nat} (h : ∀ (T : Addr) (kV doc pm : Value) (an : Option Addr) (cdv ct : Value) (us ws its : List Value), us.length = n → ws.length = ks.length → its.length = dvs.length →
      ∃ k, bindArgs (PySem.W.fnOf x qual (defArgs st) (defBody st) (defScope st) (.ref T) kV doc pm an cdv ct) ⟨us, ks.zip ws⟩ = seqItems? (.ref T) >>= k ∧ k (some its.toArray) = pure (ps.zip (pick π (us ++ ws ++ its)))) : BindX K fd ps n ks π dvs := by
  obtain ⟨oc, od, dV, kV, doc, pm, an, cdv, ct, osl, rfl, lk, hcd, hD⟩ := F.ex
  rcases hD with ⟨e, _⟩ | ⟨_, T, o, its, m, rfl, lT, oT, rT⟩
  · exact absurd e hd
  · refine ⟨its, rT, fun s us ws X l1 l2 => ?_⟩
    obtain ⟨k, e1, e2⟩ := h T kV doc pm an cdv ct us ws its l1 l2 rT.length.symm
    refine BindsTo.of_looks fun M => ?_
    rw [e1]
    exact looks_items X lT oT (.of_pure e2)
/-- all are given -/
theorem FunX.bindA (F : FunX K x qual st f fd dvs) {n : Nat} {ks : List Str} {π : List Nat} (h : ∀ (dV kV doc pm : Value) (an : Option Addr) (cdv ct : Value) (us ws : List Value), us.length = n → ws.length = ks.length →
      bindArgs (PySem.W.fnOf x qual (defArgs st) (defBody st) (defScope st) dV kV doc pm an cdv ct) ⟨us, ks.zip ws⟩ = pure (ps.zip (pick π (us ++ ws)))) : BindX K fd ps n ks π [] := by
  obtain ⟨oc, od, dV, kV, doc, pm, an, cdv, ct, osl, rfl, lk, hcd, hD⟩ := F.ex
  exact bindX_of (h dV kV doc pm an cdv ct)
theorem funX_mk {oc : Value} {od an : Option Addr} {osl slT : Array (Option Value)} {dcT : Value} {ddT : Option Addr} {T : Addr} {nT : Nat} {its : Array Value} {kV doc pm cdv ct : Value} (l : K.lookup f = some ⟨oc, od, .func (PySem.W.fnOf x qual (defArgs st) (defBody st) (defScope st) (.ref T) kV doc pm an cdv ct), osl⟩)
    (c : PySem.W.codeIn K cdv qual = true) (k : PySem.W.keepIn K (.ref f) = true) (lT : K.lookup T = some ⟨dcT, ddT, .seq its nT, slT⟩) (hd : dvs ≠ []) (hv : Vals dvs its.toList) :
    FunX K x qual st f (PySem.W.fnOf x qual (defArgs st) (defBody st) (defScope st) (.ref T) kV doc pm an cdv ct) dvs :=
  ⟨⟨oc, od, _, kV, doc, pm, an, cdv, ct, osl, rfl, l, c, .inr ⟨hd, T, _, its.toList, nT, rfl, lT, by simp, hv⟩⟩, k⟩
end
section
variable {P : Program} {w : World} {K : PySem.W.Frag} {mg : Str → Option Value} {base : Heap}
/-- from the body's walk; the def's own data as they stand -/
theorem fnG_raw {qual : Str} {st : Stmt} {f : Addr} {fd : FuncData} {N ps : List Str} {k : Nat} {sp : Sp} {x : Str} {oc : Value} {od an : Option Addr} {osl : Array (Option Value)} {dV kV doc pm cdv ct : Value}
    (efd : fd = PySem.W.fnOf x qual (defArgs st) (defBody st) (defScope st) dV kV doc pm an cdv ct) (lk : K.lookup f = some ⟨oc, od, .func fd, osl⟩) (hcd : PySem.W.codeIn K cdv qual = true)
    (S : FnScope N ps (defScope st)) (size : ∀ vs H Q E, sp vs H Q E → vs.length = ps.length)
    (walk : ∀ (cdv : Value) (A : Around) (stk : List PySem.Env) (s : Shared) (H : Hp) (vs : List V) (Q : VK) (E : XK), Room k (A.deeper (envOfC qual (defScope st) s.heap.objs.size f cdv)) → (A.deeper (envOfC qual (defScope st) s.heap.objs.size f cdv)).guards = some [] → sp vs H Q E →
      ∃ t, PSs (cxOf (L2.CX P w) P w K mg base N qual (defScope st) f cdv A stk s H E) (defBody st) t ∧ t { nx := fun _ H' => Q .non H', rt := Q } (L2.start N vs) H) : FnG P w K mg base (k + 1) f fd ps sp := by
  subst efd
  refine ⟨size, fun A stk s H args us vs Q E hr hg e0 hb r hsp => ?_⟩
  have kept : ∀ (b : Addr) (o : Obj), base.get? b = some o → s.heap.get? b = some o := fun b o q => (e0.bs b o q).1
  have inK := e0.mod.kin.keeps kept
  have noL := e0.mod.nolimit.keeps kept
  have pars : ∀ y ∈ ps.zip us, (defScope st).names.lookup y.1 = some .local ∨ ((defScope st).names.lookup y.1 = some .cell ∧ ((cellsFrom (s.heap.objs.size + 1) (defScope st).names []).lookup y.1).isSome = true) := by
    rintro ⟨n, v⟩ hy
    rcases S.par n (List.of_mem_zip hy).1 with q | q
    · exact Or.inl q
    · exact Or.inr ⟨q, PySem.W.cellsFrom_some _ _ _ (Or.inl q)⟩
  refine codeAny_call_function hr.depth (inK _ _ lk) rfl S.co S.gen rfl (PySem.W.codeRec_of inK hcd) (hb _ _ _ _ (wpAny_newFunctionEnv_cells S.kind pars ?_))
  rintro env rfl s1 x
  refine ⟨noL.keeps x.toInCall.keep, codeAny_func ?_⟩
  obtain ⟨t, ht, hq⟩ := walk cdv A stk s H vs Q E (hr.deeper _) hg hsp
  have I0 := inv_start (CX := L2.CX P w) (E := E) (f := f) (cd := cdv) (qual := qual) S hr.hd e0 (size _ _ _ _ hsp) r x
  refine wpAny_mono (ht.run [] s1 (L2.start N vs) H _ I0 hq) (fun fl s' hs => ?_) fun e s' hs => hs
  have leave : ∀ (σ' : L2.St) (H' : Hp) (v : V) (u : Value), Inv (cxOf (L2.CX P w) P w K mg base N qual (defScope st) f cdv A stk s H E) [] σ' H' s' → RelV v u → Q v H' → CE stk P w H s Q u s' :=
    fun _ H' v _ J rv q => ⟨v, H', J.os, J.bare, J.base, J.hok, rv, q⟩
  cases fl with
  | ret u => obtain ⟨v, σ', H', J, rv, q⟩ := hs; exact leave σ' H' v u J rv q
  | next => obtain ⟨σ', H', J, q⟩ := hs; exact leave σ' H' .non .none J rfl q
  | brk => obtain ⟨_, _, _, q⟩ := hs; exact q.elim
  | cont => obtain ⟨_, _, _, q⟩ := hs; exact q.elim
/-- a def with defaults that is a pure function -/
theorem fn_pureX {RX : RXT} {ks : List PKd} {m : SM} {x qual : Str} {st : Stmt} {f : Addr} {fd : FuncData} {dvs : List V} {N ps : List Str} {k : Nat} (F : FunX K x qual st f fd dvs) (S : FnScope N ps (defScope st)) (hk : ks.length = ps.length) (hN : ks.length ≤ N.length)
    (hbody : ∀ (cdv : Value) (A : Around) (outer : List PySem.Env) (s : Shared) (H : Hp) (E : XK), Room k (A.deeper (envOfC qual (defScope st) s.heap.objs.size f cdv)) → (A.deeper (envOfC qual (defScope st) s.heap.objs.size f cdv)).guards = some [] →
      ∃ t, PSs (cxOf (L2.CX P w) P w K mg base N qual (defScope st) f cdv A outer s H E) (defBody st) t ∧ RfS (cwOf K RX ks E) t m) : FnG P w K mg base (k + 1) f fd ps (spF K RX ks (bodyF N.length ks m)) := by
  obtain ⟨oc, od, dV, kV, doc, pm, an, cdv, ct, osl, e, lk, hcd, _⟩ := F.ex
  exact fnG_raw e lk hcd S (fun vs H Q E h => by obtain ⟨pr, fz, xs, ha, _⟩ := h; rw [ha.len, hk]) (pure_walk hk hN hbody)
end
section
variable {X : Cx} {k n : Nat} {f : Addr} {fd : FuncData} {ps ks : List Str} {sp : Sp} {dvs : List V} {π : List Nat} {W : WX} {x : Str} {p pos : Pos} {e : Expr} {es : List Expr} {kws : List Keyword} {t tk : TA}
def tCallX (n m : Nat) (sp : Sp) (π : List Nat) (dvs : List V) (E : L2.St → XK) (t tk : TA) : TE := fun σ H Q => t σ H fun vs H1 => tk σ H1 fun zs H2 => vs.length = n ∧ zs.length = m ∧ sp (pick π (vs ++ zs ++ dvs)) H2 Q (E σ)
theorem fnG_callX {pins : List (Addr × Obj)} {σ : L2.St} {H : Hp} {s : Shared} {Q : VK} {us ws : List Value} {vs zs : List V} (F : FnG X.prog X.w X.K X.mg X.base k f fd ps sp) (hr : Room k X.A) (hg : X.A.guards = some []) (hb : BindX X.K fd ps n ks π dvs) (tk : Takes X W)
    (I : Inv X pins σ H s) (r : Vals vs us) (rz : Vals zs ws) (l1 : vs.length = n) (l2 : zs.length = ks.length) (h : sp (pick π (vs ++ zs ++ dvs)) H Q (WE W σ)) : wpAny (model X.prog X.w) X.A (call (.ref f) us (ks.zip ws)) (EP X pins σ Q) X.xe s := by
  obtain ⟨ds, hd, hb⟩ := hb.ex
  have both := pick_vals ((r.append rz).append hd) π
  refine wpAny_call (codeAny_mono (F.go X.A X.stack s H ⟨us, ks.zip ws⟩ _ _ Q (WE W σ) hr hg I.env0 (hb s us ws I.kIn (r.length.symm.trans l1) (rz.length.symm.trans l2)) both h) ?_)
  rintro (err | fl) s' q
  · exact passAt tk σ pins H s err s' I q
  · cases fl <;> first | exact I.after q | exact False.elim q
/-- f(e, ..), defaults fill up -/
theorem pe_callX (F : FnG X.prog X.w X.K X.mg X.base k f fd ps sp) (hr : Room k X.A) (hg : X.A.guards = some []) (gl : Gl X x) (hm : X.mg x = some (.ref f)) (hk : PySem.W.keepIn X.K (.ref f) = true) (hb : BindX X.K fd ps n [] π dvs) (tk : Takes X W)
    (ha : PA X (e :: es) t) (hdb : (x == ("__debug__" : Str)) = false := by decide) (he : starEach (e :: es) X.env = (false, eval e X.env) :: starEach es X.env := by rfl) (hpl : (backTo pos (starEach es X.env)).any (·.1) = false := by rfl) :
    PE X (.Call (.Name x p) (e :: es) [] pos) (tCallX n 0 sp π dvs (fun σ => WE W σ) t tNil) :=
  ⟨fun pins s σ H Q I h => wpAny_Call_Name_kw (ld_glob I gl hm (PySem.W.callWith_K (h₀ := X.base) I.ok.mod.kin hk
    (thn (ha.run pos pins s σ H _ I h) fun us s1 ⟨vs, H1, I1, r, q⟩ => ⟨I1.kIn, fnG_callX F hr hg hb tk I1 r .nil q.1 q.2.1 q.2.2⟩) he hpl) hdb)⟩
/-- f(e, .., k = v, ..) -/
theorem pe_callXK (F : FnG X.prog X.w X.K X.mg X.base k f fd ps sp) (hr : Room k X.A) (hg : X.A.guards = some []) (gl : Gl X x) (hm : X.mg x = some (.ref f)) (hk : PySem.W.keepIn X.K (.ref f) = true) (hb : BindX X.K fd ps n ks π dvs) (tk0 : Takes X W)
    (ha : PA X (e :: es) t) (hkw : PK X kws tk) (hall : (backToKw pos (keywordEach kws X.env)).all (·.1.isSome) = true := by rfl) (hks : (backToKw pos (keywordEach kws X.env)).filterMap (·.1) = ks := by rfl)
    (hdb : (x == ("__debug__" : Str)) = false := by decide) (he : starEach (e :: es) X.env = (false, eval e X.env) :: starEach es X.env := by rfl)
    (hpl : ((backTo pos (starEach (e :: es) X.env)).any (·.1) || (backToKw pos (keywordEach kws X.env)).any (·.1.isNone)) = false := by rfl) :
    PE X (.Call (.Name x p) (e :: es) kws pos) (tCallX n ks.length sp π dvs (fun σ => WE W σ) t tk) := by
  refine ⟨fun pins s σ H Q I h => ?_⟩
  refine wpAny_Call_Name_kw (ld_glob I gl hm ?_ hdb)
  refine PySem.W.callWith_KW (h₀ := X.base) I.ok.mod.kin hk hall (thn (ha.run pos pins s σ H _ I h) fun us s1 ⟨vs, H1, I1, r, q⟩ => ?_) hpl he
  refine thn (hkw.run pos pins s1 σ H1 _ I1 q) fun ws s2 ⟨zs, H2, I2, rz, q2⟩ => ⟨I2.kIn, ?_⟩
  rw [hks]
  exact fnG_callX F hr hg hb tk0 I2 r rz q2.1 q2.2.1 q2.2.2
/-- f(k = v, ..) -/
theorem pe_callX0 (F : FnG X.prog X.w X.K X.mg X.base k f fd ps sp) (hr : Room k X.A) (hg : X.A.guards = some []) (gl : Gl X x) (hm : X.mg x = some (.ref f)) (hk : PySem.W.keepIn X.K (.ref f) = true) (hb : BindX X.K fd ps 0 ks π dvs) (tk0 : Takes X W)
    (hkw : PK X kws tk) (hall : (backToKw pos (keywordEach kws X.env)).all (·.1.isSome) = true := by rfl) (hks : (backToKw pos (keywordEach kws X.env)).filterMap (·.1) = ks := by rfl)
    (hdb : (x == ("__debug__" : Str)) = false := by decide)
    (hpl : ((backTo pos (starEach [] X.env)).any (·.1) || (backToKw pos (keywordEach kws X.env)).any (·.1.isNone)) = false := by rfl) :
    PE X (.Call (.Name x p) [] kws pos) (tCallX 0 ks.length sp π dvs (fun σ => WE W σ) tNil tk) := by
  refine ⟨fun pins s σ H Q I h => ?_⟩
  refine wpAny_Call_Name_kw (ld_glob I gl hm ?_ hdb)
  refine PySem.W.callWith_KW0 (h₀ := X.base) I.ok.mod.kin hk hall (thn (hkw.run pos pins s σ H _ I h) fun ws s2 ⟨zs, H2, I2, rz, q2⟩ => ⟨I2.kIn, ?_⟩) hpl
  rw [hks]
  exact fnG_callX F (us := []) hr hg hb tk0 I2 .nil rz q2.1 q2.2.1 q2.2.2
end
/-! ### as pure functions -/
def evV : List (M PyData) → M (List PyData)
  | [] => fun ρ => .ok [] ρ
  | m :: as => bnd m fun x => bnd (evV as) fun xs ρ => .ok (x :: xs) ρ
def mcallX (n m N : Nat) (f : List PyData → FOut) (as bs : List (M PyData)) (π : List Nat) (ds : List PyData) : M Rt := bnd (evV as) fun xs => bnd (evV bs) fun ys ρ =>
  if (decide (xs.length = n) && decide (ys.length = m) && decide ((pick π (xs ++ ys ++ ds)).length = N)) = true then (match f (pick π (xs ++ ys ++ ds)) with
  | .ok r _ => .ok r ρ
  | .exc e _ => .exc e ρ
  | .bad => .bad) else .bad
section
variable {c : Cw} {pp : List (Nat × Addr)} {pr fz : Addr → Prop} {σ : L2.St} {H : Hp} {ρ : Env}
theorem rf_vnil : Rf c (RVs c.K) tNil (evV []) := fun pp pr fz σ H ρ Q hp R hq => ok_post hq R (show RepA c.K fz H [] [] from .nil)
theorem rf_vcons {te : TE} {tr : TA} {m : M PyData} {as : List (M PyData)} (ha : Rf c (RV c.K) te m) (hr : Rf c (RVs c.K) tr (evV as)) : Rf c (RVs c.K) (tCons te tr) (evV (m :: as)) := by
  intro pp pr fz σ H ρ Q hp R hq
  refine ha pp pr fz σ H ρ _ hp R (PostG.bnd (f := fun x => bnd (evV as) fun xs ρ => .ok (x :: xs) ρ) hq fun v x fz1 H1 ρ1 F1 R1 r1 P1 => ?_)
  refine hr pp pr fz1 σ H1 ρ1 _ hp R1 (P1.bnd fun w y fz2 H2 ρ2 F2 R2 r2 P2 => ?_)
  exact ok_post P2 R2 (show RepA c.K fz2 H2 (v :: w) (x :: y) from .cons (Rep.ext F2.ext r1) r2)
theorem argsV_all {K : PySem.W.Frag} {pr fz : Addr → Prop} {H : Hp} : ∀ {ks : List PKd} {vs : List V} {xs : List PyData}, (∀ k ∈ ks, k = .v) → ks.length = xs.length → RepA K fz H vs xs → ArgsR K pr fz H ks vs xs ∧ ownAd ks vs = []
  | [], _, _, _, _, .nil => ⟨trivial, rfl⟩
  | k :: ks, v :: vs, x :: xs, h, l, .cons r t => by
    obtain rfl := h k List.mem_cons_self
    obtain ⟨a, b⟩ := argsV_all (pr := pr) (fun j hj => h j (List.mem_cons_of_mem _ hj)) (by simpa using l) t
    exact ⟨⟨r, a⟩, by cases v <;> exact b⟩
  | _ :: _, _, _, _, l, .nil => by simp at l
theorem rf_callX {as bs : List (M PyData)} {n m N : Nat} {f : List PyData → FOut} {π : List Nat} {dvs : List V} {ds : List PyData} {ta tb : TA} {ks : List PKd} (hks : ∀ k ∈ ks, k = .v)
    (hl : ks.length = N) (hd : ∀ fz H, RepA c.K fz H dvs ds) (ha : Rf c (RVs c.K) ta (evV as)) (hb : Rf c (RVs c.K) tb (evV bs)) :
    Rf c (RRt c.K) (tCallX n m (spF c.K c.RX ks f) π dvs (fun σ => WE c.W σ) ta tb) (mcallX n m N f as bs π ds) := by
  intro pp pr fz σ H ρ Q hp R hq
  refine ha pp pr fz σ H ρ _ hp R (PostG.bnd hq fun vs xs fz1 H1 ρ1 F1 R1 r1 P1 => ?_)
  refine hb pp pr fz1 σ H1 ρ1 _ hp R1 (P1.bnd fun zs ys fz2 H2 ρ2 F2 R2 r2 P2 => ?_)
  have r1 : RepA c.K fz2 H2 vs xs := RepA.ext F2.ext r1
  have r2 : RepA c.K fz2 H2 zs ys := r2
  split at P2
  · rename_i hc
    simp only [Bool.and_eq_true, decide_eq_true_eq] at hc
    obtain ⟨⟨h1, h2⟩, h3⟩ := hc
    have rr := pick_rep ((r1.append r2).append (hd fz2 H2)) π
    refine ⟨by rw [r1.length, h1], by rw [r2.length, h2], ?_⟩
    generalize pick π (xs ++ ys ++ ds) = us at *
    obtain ⟨a1, a2⟩ := argsV_all (pr := prC pr σ ρ2 []) hks (by rw [hl, h3]) rr
    have hA : ArgsV c.K σ fz2 H2 [] [] [] := trivial
    refine ⟨prC pr σ ρ2 [], fz2, us, a1, by rw [a2]; exact .nil, R2.fzH, fun a z => ?_, ?_⟩
    · rcases z with z | ⟨j, x, ej, sj, hj⟩
      · exact R2.prH a z
      · obtain ⟨b, sb, _, _, oc⟩ := R2.own_ne ej
        rw [sj] at sb
        cases sb
        exact oc.some
    · cases ef : f us with
      | bad => rw [ef] at P2; exact P2.elim
      | ok r outs =>
        rw [ef] at P2
        intro v fz3 H3 F3 hf3 ho hr
        obtain ⟨F4, R4⟩ := R2.back (outs := []) hA (by exact .nil) (fun i hi => by cases hi) F3 hf3 trivial
        refine P2 v fz3 H3 F4 R4 ?_
        cases r with
        | v d => exact hr
        | o d =>
          obtain ⟨a, rfl, nf, np, na, oc⟩ := hr
          exact ⟨a, rfl, nf, fun z => np (.inl z), fun i x ei si => np (.inr ⟨i, x, ei, si, by simp [lendIx]⟩), oc⟩
      | exc x outs =>
        rw [ef] at P2
        intro cls dx fz3 H3 F3 hf3 ho hr
        obtain ⟨F4, R4⟩ := R2.back (outs := []) hA (by exact .nil) (fun i hi => by cases hi) F3 hf3 trivial
        exact P2 cls dx fz3 H3 F4 R4 hr
  · exact P2.elim
end
/-! ### weakest preconditions -/
section
variable {ρ : Env} {X : XP}
theorem pick_c {α : Type} {i : Nat} {π : List Nat} {l : List α} : pick (i :: π) l = (l[i]?).toList ++ pick π l := by
  unfold pick
  rw [List.filterMap_cons]
  cases l[i]? <;> rfl
theorem tr_vnil {Q : List PyData → Env → Prop} : Tr (evV []) ρ Q X = Q [] ρ := rfl
theorem tr_vcons {m : M PyData} {as : List (M PyData)} {Q : List PyData → Env → Prop} : Tr (evV (m :: as)) ρ Q X = Tr m ρ (fun x r => Tr (evV as) r (fun xs r => Q (x :: xs) r) X) X := by
  simp only [evV, tr_bnd]; rfl
theorem tr_callX {n m N : Nat} {f : List PyData → FOut} {as bs : List (M PyData)} {π : List Nat} {ds : List PyData} {Q : Rt → Env → Prop} :
    Tr (mcallX n m N f as bs π ds) ρ Q X = Tr (evV as) ρ (fun xs r => Tr (evV bs) r (fun ys r => (xs.length = n ∧ ys.length = m ∧ (pick π (xs ++ ys ++ ds)).length = N) ∧ TrF (f (pick π (xs ++ ys ++ ds))) (fun rt _ => Q rt r) (fun e _ => X e r)) X) X := by
  unfold mcallX
  simp only [tr_bnd]
  congr 1; funext xs r
  congr 1; funext ys r
  unfold Tr
  dsimp only
  by_cases h : xs.length = n ∧ ys.length = m ∧ (pick π (xs ++ ys ++ ds)).length = N
  · rw [if_pos (by simp only [Bool.and_eq_true, decide_eq_true_eq]; exact ⟨⟨h.1, h.2.1⟩, h.2.2⟩)]
    unfold TrF
    cases f (pick π (xs ++ ys ++ ds)) <;> simp only [h, true_and, and_self]
  · rw [if_neg (by simp only [Bool.and_eq_true, decide_eq_true_eq]; exact fun z => h ⟨z.1.1, z.1.2, z.2⟩)]
    simp only [eq_iff_iff, false_iff]
    exact fun z => h z.1
end
end PL

/-! PLv: isinstance, x[::-1], written dicts as values, statements that are never reached. -/
namespace PL
open PySem PySem.Spec L2
open PyProof.Rows hiding St

/-! ### isinstance -/
def tyName : PyData → String
  | .none => "NoneType" | .bool _ => "bool" | .int _ => "int" | .str _ => "str" | .list _ => "list" | .tuple _ => "tuple" | .dict _ => "dict"
def isiB (t T : String) : Bool := t == T || (t == "bool" && T == "int")
def isi? (T : String) (d : PyData) : Option PyData := some (.bool (isiB (tyName d) T))
theorem kitB_all : ∀ t ∈ ["NoneType", "bool", "int", "str", "list", "tuple", "dict"], ∀ T ∈ ["int", "bool", "str", "list", "tuple", "dict"], kitB t T = some (isiB t T) := by decide +kernel
theorem tyName_mem (d : PyData) : tyName d ∈ ["NoneType", "bool", "int", "str", "list", "tuple", "dict"] := by cases d <;> simp [tyName]
section
variable {K : PySem.W.Frag} {fz : Addr → Prop} {H : Hp}
theorem tyX_of {v : V} {x : PyData} (h : RepP K fz H v x) : TyX K H v (.type (tyName x)) := by
  cases x with
  | none => rw [h.non]; exact .base .non
  | bool b => rw [h.bl]; exact .base (.bl b)
  | int i => rw [h.int]; exact .base (.int i)
  | str i => rw [h.str]; exact .base (.str i)
  | list ds => obtain ⟨a, vs, rfl, e, _⟩ := h.lst; exact .base (.lst e)
  | tuple ds =>
    obtain ⟨a, vs, rfl, e, _⟩ := h.tup
    rcases e with (e | ⟨o, e⟩) | ⟨o, its, n, e, c, _⟩
    · exact .base (.tup e)
    · exact .fTuple e
    · exact .kTuple e c
  | dict ds =>
    rcases h with h | ⟨a, rfl, _, z⟩
    · cases h with
      | dic h e r => exact .base (.dK e)
    · obtain ⟨kvs, e, _⟩ := z
      exact .base (.dK e)
end
section
variable {c : Cw} {pp : List (Nat × Addr)} {pr fz : Addr → Prop} {σ : L2.St} {H : Hp} {ρ : Env} {te : TE} {m : M PyData}
theorem isi_rule {T : String} (hT : T ∈ ["int", "bool", "str", "list", "tuple", "dict"]) {v : V} {x : PyData} {Q : VK} (h : RepP c.K fz H v x) (q : Q (.bl (isiB (tyName x) T)) H) : rIsi c.K [v, .ty T] H Q :=
  ⟨v, .ty T, _, _, _, rfl, .ty T, tyX_of h, kit_ty (kitB_all _ (tyName_mem x) T hT), q⟩
theorem rf_isi {T : String} (hT : T ∈ ["int", "bool", "str", "list", "tuple", "dict"]) (h : Rf c (RV c.K) te m) : Rf c (RV c.K) (tCB (rIsi c.K) (tCons te (tCons (tC (.ty T)) tNil))) (mc1 (isi? T) m) := by
  intro pp pr fz σ H ρ Q hp R hq
  refine h pp pr fz σ H ρ _ hp R (hq.bnd fun v x fz1 H1 ρ1 F1 R1 r1 P1 => ?_)
  exact isi_rule hT (.inl r1) (P1 _ fz1 H1 Fr.refl R1 (Rep.bl _))
theorem rf_isip {T : String} {i : Nat} (hT : T ∈ ["int", "bool", "str", "list", "tuple", "dict"]) : Rf c (RV c.K) (tCB (rIsi c.K) (tCons (tVar i) (tCons (tC (.ty T)) tNil))) (mc1p (isi? T) i) := by
  intro pp pr fz σ H ρ Q hp R hq
  unfold mc1p at hq
  cases e : peek i ρ with
  | none => rw [e] at hq; exact hq.elim
  | some x =>
    simp only [e] at hq
    obtain ⟨v, hv, rv⟩ := R.peek e
    exact ⟨v, hv, isi_rule hT rv (hq _ fz H Fr.refl R (Rep.bl _))⟩
/-! ### never -/
def mnever : SM := fun _ => .bad
theorem rs_never : RfS c tNever mnever := fun _ _ _ _ _ _ _ _ _ hq => hq.elim
/-! ### dicts written as values -/
def mdict0 : M PyData := fun ρ => .ok (.dict []) ρ
theorem rf_dict0 : Rf c (RO c.K) tDNewK mdict0 := fun pp pr fz σ H ρ Q hp R hq p hn => ro_new (z := .dict []) R hn (fun a n => upd_ne n) ⟨[], upd_same, .nil⟩ hq
def mdict1 (k : Str) (m : M PyData) : M PyData := bnd m fun d ρ => .ok (.dict [(.str k, d)]) ρ
theorem rf_dict1 {k : Str} (h : Rf c (RV c.K) te m) : Rf c (RO c.K) (tDisp [(tC (.str k), te)]) (mdict1 k m) := by
  intro pp pr fz σ H ρ Q hp R hq D hD
  have nD : ¬ fz D := fun z => R.fzH D z hD
  have npD : ¬ pr D := fun z => R.prH D z hD
  have ns : ∀ (i : Nat) (x : PyData), ρ[i]? = some (.own x) → σ[i]? ≠ some (some (V.ref D)) := fun i x e z => by
    obtain ⟨a, s, _, _, o⟩ := R.own_ne e
    rw [z] at s
    cases s
    exact o.some hD
  have R1 : Rel c.K pp (fun a => pr a ∨ a = D) fz σ (upd H D (.dK [])) ρ := (R.other nD ns).wide (by rw [upd_same]; simp) ns
  have F0 : Fr pr fz H fz (upd H D (.dK [])) := ⟨fun _ z => z, fun a z => upd_ne fun q => nD (q ▸ z), fun a z => upd_ne fun q => npD (q ▸ z), fun _ _ z => z⟩
  refine h pp (fun a => pr a ∨ a = D) fz σ (upd H D (.dK [])) ρ _ hp R1 ?_
  unfold mdict1 PL.bnd at hq
  cases e : m ρ with
  | bad => rw [e] at hq; exact hq.elim
  | exc x r =>
    rw [e] at hq
    intro cls dx fz' H' F R2 rx
    have F2 := F.narrow (pr := pr) fun a z => .inl z
    exact hq cls dx fz' H' (F0.trans F2) (R2.narrow fun a z => .inl z) rx
  | ok d r =>
    rw [e] at hq
    intro v fz' H' F R2 rv
    have F2 := F.narrow (pr := pr) fun a z => .inl z
    have R3 : Rel c.K pp pr fz' σ H' r := R2.narrow fun a z => .inl z
    have e1 : H' D = some (.dK []) := (F.keepP D (.inr rfl)).trans upd_same
    have nf : ¬ fz' D := fun z => nD (F.new D (.inr rfl) z)
    have nown : ∀ (i : Nat) (x : PyData), r[i]? = some (.own x) → σ[i]? ≠ some (some (V.ref D)) := fun i x e z => by
      obtain ⟨a, s, _, np, o⟩ := R2.own_ne e
      rw [z] at s
      cases s
      exact np (.inr rfl)
    refine ⟨e1, [(.inr k, v)], rfl, by simp, ?_⟩
    have F3 : Fr pr fz' H' fz' (upd H' D (.dK [(.inr k, v)])) := ⟨fun _ z => z, fun a z => upd_ne fun q => nf (q ▸ z), fun a z => upd_ne fun q => npD (q ▸ z), fun _ _ z => z⟩
    refine hq (.ref D) fz' _ ((F0.trans F2).trans F3) (R3.other nf nown) ⟨D, rfl, nf, npD, nown, [(.inr k, v)], upd_same, ?_⟩
    exact .cons (Rep.ext ⟨fun _ z => z, fun a z => upd_ne fun q => nf (by rw [← q]; exact z)⟩ rv) .nil
end

/-! ### x[::-1] -/
def rev? : PyData → Option PyData
  | .list ds => some (.list ds.reverse)
  | .tuple ds => some (.tuple ds.reverse)
  | _ => none
section
variable {prog : Program} {w : World} {A : Around} {E : Value → Shared → Prop} {s : Shared}
theorem sliceApplied_rev {sl : Addr} {vs : Value} {n : Nat} {Q : Int × Int × Nat → Shared → Prop} (hs : s.heap.IsSliceOf sl .none .none vs) (ps : IsPart vs (some (-1)))
    (h : Q ((n : Int) - 1, -1, n) s) : wpAny (model prog w) A (Builtin.Slice.sliceApplied (.ref sl) (pure (n : Int))) Q E s := by
  obtain ⟨os, hos, hcs, hds⟩ := id hs
  unfold Builtin.Slice.sliceApplied Builtin.Slice.sliceFields
  refine wpAny_bind (wpAny_bind (wpAny_field hos hds (x := .none) rfl (wpAny_bind (wpAny_field hos hds (x := .none) rfl (wpAny_bind (wpAny_field hos hds (x := vs) rfl (wpAny_pure ?_)))))))
  refine wpAny_bind (HT.slicePart_ ps ?_)
  show wpAny _ _ (if ((-1 : Int) == 0) = true then _ else _) _ _ s
  rw [if_neg (by decide)]
  refine wpAny_bind (slicePart_none (wpAny_bind (slicePart_none (wpAny_bind (wpAny_pure ?_)))))
  have e : Builtin.Slice.slicePlaces ((n : Int) - 1) (-1) (-1) = n := by
    unfold Builtin.Slice.slicePlaces
    rw [if_neg (by decide)]
    split
    · rw [show (-(-1) : Int) = 1 by decide, Int.ediv_one]; omega
    · omega
  show wpAny _ _ (pure ((n : Int) - 1, (-1 : Int), Builtin.Slice.slicePlaces ((n : Int) - 1) (-1) (-1))) _ _ s
  rw [e]
  exact wpAny_pure h
theorem fm_congr {α β : Type} {f g : α → Option β} : ∀ {l : List α}, (∀ x ∈ l, f x = g x) → l.filterMap f = l.filterMap g
  | [], _ => rfl
  | x :: l, h => by
    rw [List.filterMap_cons, List.filterMap_cons, h x List.mem_cons_self, fm_congr fun y hy => h y (List.mem_cons_of_mem _ hy)]
theorem pick_rev (xs : Array Value) : ((List.range xs.size).filterMap fun (m : Nat) => xs[(((xs.size : Int) - 1) + (m : Int) * (-1)).toNat]?).toArray = xs.toList.reverse.toArray := by
  have h := PySem.W.krv_all xs
  have e : ((List.range xs.size).filterMap fun (m : Nat) => xs[(((xs.size : Int) - 1) + (m : Int) * (-1)).toNat]?) = ((List.range xs.size).map fun k => xs.size - 1 - k).filterMap (xs[·]?) := by
    rw [List.filterMap_map]
    apply fm_congr
    intro m hm
    have hm : m < xs.size := by simpa using hm
    show xs[_]? = xs[xs.size - 1 - m]?
    congr 1
    omega
  rw [e, PySem.W.krv_range, List.filterMap_reverse, h]
theorem getItem_tuple_rev {t sl : Addr} {items : Array Value} {vs : Value} {Q : Value → Shared → Prop} (ht : IsTup s.heap t items) (hs : s.heap.IsSliceOf sl .none .none vs) (ps : IsPart vs (some (-1)))
    (h : Q (.ref s.heap.objs.size) { s with heap := s.heap.push { cls := .type "tuple", data := .seq items.toList.reverse.toArray } })
    (hsz : items.size ≤ sizeLine) : wpAny (model prog w) A (getItem (.ref t) (.ref sl)) Q E s := by
  have htake : sizeOk (.seq items.toList.reverse.toArray) := by
    show items.toList.reverse.toArray.size ≤ sizeLine
    rw [List.size_toArray, List.length_reverse, Array.length_toList]
    exact hsz
  obtain ⟨os, hos, hcs, hds⟩ := id hs
  have hTs : s.TypeIs (.ref sl) "slice" := ⟨os, hos, hcs⟩
  unfold getItem
  try with_reducible refine wpAny_holding ?_
  first | refine wpAny_bind (wpAny_pure ?_) | skip
  refine wpAny_bind (wpAny_sequenceKey ht.typeIs (by decide) ?_)
  refine wpAny_bind (wpAny_callSpecial?_slot (name := Str.ofString "__getitem__") ht.typeIs PyProof.Rows.slot_tuple_getitem
    (wpAny_call_entry PyProof.Rows.slot_tuple_getitem ht.typeIs entry_tuple_getitem ?_ (args_tuple_getitem _ _)))
  show wpAny _ _ (Builtin.Tuple.tupleItemsOf (.ref t) >>= _) _ _ s
  refine wpAny_bind (tupleItemsOf_ ht ?_)
  refine wpAny_bind (wpAny_typeOf hTs ?_)
  rw [if_pos (by decide)]
  refine wpAny_bind (sliceApplied_rev hs ps ?_)
  have hno : ¬ ((((items.size : Int) - 1) == 0 && (-1 : Int) == 1 && items.size == items.size) = true) := by
    intro q
    rw [Bool.and_eq_true, Bool.and_eq_true] at q
    exact absurd q.1.2 (by decide)
  show wpAny _ _ (if (((items.size : Int) - 1) == 0 && (-1 : Int) == 1 && items.size == items.size) = true then _ else _) _ _ s
  rw [if_neg hno, pick_rev]
  first
    | exact wpAny_bind (m := Builtin.Tuple.tupleExact _) (wpAny_newObj_type (wpAny_pure ⟨_, rfl, wpAny_pure h⟩) htake)
    | exact wpAny_bind (m := Builtin.Tuple.tupleExact _) (wpAny_newObj_type (wpAny_bind (wpAny_pure (wpAny_pure ⟨_, rfl, wpAny_pure h⟩))) htake)
    | exact wpAny_bind (wpAny_bind (m := Builtin.Tuple.tupleExact _) (wpAny_newObj_type (wpAny_pure (wpAny_pure ⟨_, rfl, wpAny_pure h⟩)) htake))
    | exact wpAny_bind (wpAny_bind (m := Builtin.Tuple.tupleExact _) (wpAny_newObj_type (wpAny_pure ⟨_, rfl, wpAny_pure h⟩) htake))
end
def tRevU (K : PySem.W.Frag) (te : TE) : TE := fun σ H Q => te σ H fun x H1 => (∃ a xs, x = .ref a ∧ SqL K H1 a xs ∧ ∀ p, H1 p = none → Q (.ref p) (upd H1 p (.lst xs.reverse))) ∨ ∃ a xs, x = .ref a ∧ SqT K H1 a xs ∧ ∀ p, H1 p = none → Q (.ref p) (upd H1 p (.tup xs.reverse))
theorem pe_revU {X : Cx} {e : Expr} {te : TE} {k : Nat} {p1 p2 p3 pos : Pos} (he : PE X e te) : PE X (.Subscript e (.Slice none none (some (.UnaryOp .USub (.Constant (.int 1) k p1) p2)) p3) pos) (tRevU X.K te) := by
  refine ⟨fun pins s σ H Q I h => ?_⟩
  refine Subscript_ (thn (he.run pins s σ H _ I h) fun v s1 ⟨x, H1, I1, r1, q1⟩ => ?_)
  obtain ⟨a, xs, u, ex, hx, q⟩ : ∃ (a : Addr) (xs : List V) (u : Bool), x = .ref a ∧ SqU X.K u H1 a xs ∧ ∀ p, H1 p = none → Q (.ref p) (upd H1 p (if u then .tup xs.reverse else .lst xs.reverse)) := by
    rcases q1 with ⟨a, xs, ex, hx, q⟩ | ⟨a, xs, ex, hx, q⟩
    · exact ⟨a, xs, false, ex, hx, q⟩
    · exact ⟨a, xs, true, ex, hx, q⟩
  subst ex
  cases r1
  have hst : PO X (some (.UnaryOp .USub (.Constant (.int 1) k p1) p2)) (tPart (tUn (rU fun i => .int (-i)) (tC (.int 1)))) := po_some (pe_un un_neg pe_int)
  refine wpAny_Slice (thn (po_none.run pins s1 σ H1 (fun o H2 => o = none ∧ H2 = H1) I1 ⟨rfl, rfl⟩) fun vl s2 ⟨l, H2, I2, pl, el, e2⟩ => ?_)
  subst el e2
  refine thn (po_none.run pins s2 σ H2 (fun o H3 => o = none ∧ H3 = H2) I2 ⟨rfl, rfl⟩) fun vu s3 ⟨u', H3, I3, pu, eu, e3⟩ => ?_
  subst eu e3
  refine thn (hst.run pins s3 σ H3 (fun o H4 => o = some (-1) ∧ H4 = H3) I3 ⟨1, rfl, -1, rfl, rfl, rfl⟩) fun vs s4 ⟨o, H4, I4, ps, eo, e4⟩ => ?_
  subst eo e4
  have I5 : Inv X pins σ H4 { s4 with heap := s4.heap.push { cls := .type "slice", data := .fields #[vl, vu, vs] } } := I4.kept (t' := s4.toks) fun b ob q => Heap.get?_push_of_some _ q
  show wpAny (model X.prog X.w) X.A (subscriptTail e (.Slice none none (some (.UnaryOp .USub (.Constant (.int 1) k p1) p2)) p3) (.ref a) (.ref s4.heap.objs.size)) (EP X pins σ Q) X.xe { s4 with heap := s4.heap.push { cls := .type "slice", data := .fields #[vl, vu, vs] } }
  cases u with
  | false =>
    obtain ⟨its, r, ht, hz⟩ := I5.list hx
    have hlen := r.length
    refine tail_any (ops := [.ref a, .ref s4.heap.objs.size]) ht.isList.typeIs (PySem.slot_list_getitem.lookup) ?_ (by with_unfolding_all rfl)
    refine wpAny_getItem_list_slice ht.isList (Heap.IsSliceOf.new _ vl vu vs) pl pu ps (by decide) ?_ (by rw [List.size_toArray]; omega)
    rw [PySem.W.krv_pick]
    refine ⟨.ref _, _, I5.laid (t' := s4.toks) (o := .lst xs.reverse) (fun b ob q => Heap.get?_push_of_some _ q) (Nat.le_refl _) ?_, rfl, q _ (I5.hok.fresh (Nat.le_refl _))⟩
    exact ⟨by rw [List.length_reverse]; exact hz, _, 0, r.reverse, Heap.get?_push_size _ rfl⟩
  | true =>
    obtain ⟨its, r, ht, hz⟩ := I5.tuple hx
    have hlen := r.length
    cases pl
    cases pu
    refine tail_any (ops := [.ref a, .ref s4.heap.objs.size]) ht.typeIs (PyProof.Rows.slot_tuple_getitem.lookup) ?_ (by with_unfolding_all rfl)
    refine getItem_tuple_rev ht (Heap.IsSliceOf.new _ .none .none vs) ps ?_ (by rw [List.size_toArray]; omega)
    refine ⟨.ref _, _, I5.laid (t' := s4.toks) (o := .tup xs.reverse) (fun b ob q => Heap.get?_push_of_some _ q) (Nat.le_refl _) ?_, rfl, q _ (I5.hok.fresh (Nat.le_refl _))⟩
    exact ⟨by rw [List.length_reverse]; exact hz, _, r.reverse, IsTup.new _ _⟩
section
variable {c : Cw} {te : TE} {m : M PyData}
theorem rf_rev (h : Rf c (RV c.K) te m) : Rf c (RV c.K) (tRevU c.K te) (mc1 rev? m) := by
  intro pp pr fz σ H ρ Q hp R hq
  refine h pp pr fz σ H ρ _ hp R (hq.bnd fun v x fz1 H1 ρ1 F1 R1 r1 P1 => ?_)
  obtain ⟨z, e, P1⟩ := lftB_post P1
  cases x <;> first | (cases e; done) | skip
  · rename_i ds
    cases e
    obtain ⟨a, vs, rfl, sa, ra⟩ := RepP.lst (.inl r1)
    refine .inl ⟨a, vs, rfl, SqL.of sa, fun p hn => ?_⟩
    have A : Alc fz1 H1 (fun b => fz1 b ∨ b = p) (upd H1 p (.lst vs.reverse)) := Alc.one hn
    exact alc_post P1 R1 A (.lst (.inr rfl) upd_same (RepA.ext (A.ext R1.fzH) ra.reverse))
  · rename_i ds
    cases e
    obtain ⟨a, vs, rfl, sa, ra, _⟩ := RepP.tup (.inl r1)
    refine .inr ⟨a, vs, rfl, sa, fun p hn => ?_⟩
    have A : Alc fz1 H1 (fun b => fz1 b ∨ b = p) (upd H1 p (.tup vs.reverse)) := Alc.one hn
    exact alc_post P1 R1 A (.tup (.inl ⟨.inr rfl, .inl upd_same⟩) (RepA.ext (A.ext R1.fzH) ra.reverse))
end
section
variable {ρ : Env} {X : XP} {P : PS}
theorem tr_dict0 {Q : PyData → Env → Prop} : Tr mdict0 ρ Q X = Q (.dict []) ρ := rfl
theorem tr_dict1 {k : Str} {m : M PyData} {Q : PyData → Env → Prop} : Tr (mdict1 k m) ρ Q X = Tr m ρ (fun d r => Q (.dict [(.str k, d)]) r) X := by
  unfold mdict1; rw [tr_bnd]; rfl
theorem ts_never : Ts mnever ρ P = False := rfl
theorem isi_tt {xs : List PyData} : isi? "tuple" (.tuple xs) = some (.bool true) := rfl
theorem isi_ii {i : Int} : isi? "int" (.int i) = some (.bool true) := rfl
theorem isi_bi {i : Int} : isi? "bool" (.int i) = some (.bool false) := rfl
theorem rev_t {xs : List PyData} : rev? (.tuple xs) = some (.tuple xs.reverse) := rfl
theorem rev_l {xs : List PyData} : rev? (.list xs) = some (.list xs.reverse) := rfl
end
end PL

/-! PLd: dicts whose keys are ints and texts. -/
namespace PL
open PySem PySem.Spec L2
open PyProof.Rows hiding St

def keyOf? : PyData → Option Key
  | .int i => some (.inl i)
  | .str x => some (.inr x)
  | _ => none
def kEq : PyData → PyData → Bool
  | .int i, .int j => decide (i = j)
  | .str x, .str y => decide (x = y)
  | _, _ => false
def dGet (ds : List (PyData × PyData)) (k : PyData) : Option PyData := (ds.find? fun p => kEq p.1 k).map (·.2)
def dPut (ds : List (PyData × PyData)) (k v : PyData) : List (PyData × PyData) := if (ds.any fun p => kEq p.1 k) = true then ds.map (fun p => if kEq p.1 k = true then (p.1, v) else p) else ds ++ [(k, v)]
def dMerge (ds more : List (PyData × PyData)) : List (PyData × PyData) := more.foldl (fun acc p => dPut acc p.1 p.2) ds
theorem keyOf_some {x : PyData} {k : Key} (h : keyOf? x = some k) : x = keyD k := by
  cases x <;> first | (cases h; done) | skip
  · cases h; rfl
  · cases h; rfl
theorem kEq_key (a b : Key) : kEq (keyD a) (keyD b) = decide (a = b) := by
  cases a <;> cases b <;> simp [keyD, kEq]
section
variable {K : PySem.W.Frag} {fz : Addr → Prop} {H : Hp}
theorem RepK.length : ∀ {kvs : List (Key × V)} {ds : List (PyData × PyData)}, RepK K fz H kvs ds → kvs.length = ds.length
  | _, _, .nil => rfl
  | _, _, .cons _ r => by simp [RepK.length r]
theorem repK_get (k : Key) : ∀ {kvs : List (Key × V)} {ds : List (PyData × PyData)}, RepK K fz H kvs ds → (valV kvs k = none ∧ dGet ds (keyD k) = none) ∨ ∃ v d, valV kvs k = some v ∧ dGet ds (keyD k) = some d ∧ Rep K fz H v d
  | _, _, .nil => .inl ⟨rfl, rfl⟩
  | _, _, .cons (k := k') (v := v) (d := d) (ds := ds) h r => by
    by_cases e : k' = k
    · refine .inr ⟨v, d, valV_pos e, ?_, h⟩
      unfold dGet
      rw [List.find?_cons, show kEq (keyD k', d).1 (keyD k) = true by show kEq (keyD k') (keyD k) = true; rw [kEq_key, decide_eq_true e]]
      rfl
    · have q : dGet ((keyD k', d) :: ds) (keyD k) = dGet ds (keyD k) := by
        unfold dGet
        rw [List.find?_cons, show kEq (keyD k', d).1 (keyD k) = false by show kEq (keyD k') (keyD k) = false; rw [kEq_key, decide_eq_false e]]
      rw [valV_neg e, q]
      exact repK_get k r
theorem repK_any (k : Key) : ∀ {kvs : List (Key × V)} {ds : List (PyData × PyData)}, RepK K fz H kvs ds → (kvs.any fun kv => decide (kv.1 = k)) = ds.any fun p => kEq p.1 (keyD k)
  | _, _, .nil => rfl
  | _, _, .cons (k := k') h r => by
    rw [List.any_cons, List.any_cons, repK_any k r]
    show (decide (k' = k) || _) = (kEq (keyD k') (keyD k) || _)
    rw [kEq_key]
theorem repK_snoc {k : Key} {v : V} {d : PyData} (h : Rep K fz H v d) : ∀ {kvs : List (Key × V)} {ds : List (PyData × PyData)}, RepK K fz H kvs ds → RepK K fz H (kvs ++ [(k, v)]) (ds ++ [(keyD k, d)])
  | _, _, .nil => .cons h .nil
  | _, _, .cons g r => .cons g (repK_snoc h r)
theorem repK_map {k : Key} {v : V} {d : PyData} (h : Rep K fz H v d) : ∀ {kvs : List (Key × V)} {ds : List (PyData × PyData)}, RepK K fz H kvs ds → RepK K fz H (kvs.map fun kv => if kv.1 = k then (kv.1, v) else kv) (ds.map fun p => if kEq p.1 (keyD k) = true then (p.1, d) else p)
  | _, _, .nil => .nil
  | _, _, .cons (k := k') g r => by
    rw [List.map_cons, List.map_cons]
    by_cases e : k' = k
    · rw [if_pos e, if_pos (by show kEq (keyD k') (keyD k) = true; rw [kEq_key, decide_eq_true e])]
      exact .cons h (repK_map h r)
    · rw [if_neg e, if_neg (by show ¬ kEq (keyD k') (keyD k) = true; rw [kEq_key, decide_eq_false e]; simp)]
      exact .cons g (repK_map h r)
theorem repK_put {k : Key} {v : V} {d : PyData} (h : Rep K fz H v d) {kvs : List (Key × V)} {ds : List (PyData × PyData)} (r : RepK K fz H kvs ds) : RepK K fz H (putK kvs k v) (dPut ds (keyD k) d) := by
  unfold putK dPut
  rw [repK_any k r]
  split
  · exact repK_map h r
  · exact repK_snoc h r
theorem repK_merge : ∀ {more : List (Key × V)} {ms : List (PyData × PyData)}, RepK K fz H more ms → ∀ {kvs : List (Key × V)} {ds : List (PyData × PyData)}, RepK K fz H kvs ds → RepK K fz H (mergeK kvs more) (dMerge ds ms)
  | _, _, .nil, _, _, r => r
  | _, _, .cons h t, _, _, r => repK_merge t (repK_put h r)
theorem RepP.dic {v : V} {ds : List (PyData × PyData)} (h : RepP K fz H v (.dict ds)) : ∃ a kvs, v = .ref a ∧ H a = some (.dK kvs) ∧ RepK K fz H kvs ds := by
  rcases h with h | ⟨a, rfl, _, z⟩
  · cases h with
    | dic h e r => exact ⟨_, _, rfl, e, r⟩
  · obtain ⟨kvs, e, r⟩ := z
    exact ⟨a, kvs, rfl, e, r⟩
theorem RepP.key {v : V} {x : PyData} {k : Key} (h : RepP K fz H v x) (e : keyOf? x = some k) : v = kV k := by
  cases x <;> first | (cases e; done) | skip
  · cases e; exact h.int
  · cases e; exact h.str
end
/-! ### in, not in, d[k] -/
def din? (x y : PyData) : Option PyData := match y with
  | .dict ds => (keyOf? x).map fun _ => .bool (dGet ds x).isSome
  | _ => none
def dnin? (x y : PyData) : Option PyData := match y with
  | .dict ds => (keyOf? x).map fun _ => .bool (!(dGet ds x).isSome)
  | _ => none
def dget? (y x : PyData) : Option PyData := match y with
  | .dict ds => (keyOf? x).bind fun _ => dGet ds x
  | _ => none
def rDIn (neg : Bool) : R2 := fun x y H Q => ∃ a o, y = .ref a ∧ DGet H a x o ∧ Q (.bl (if neg then !o.isSome else o.isSome)) H
def rDGet : R2 := fun x y H Q => ∃ a v, x = .ref a ∧ DGet H a y (some v) ∧ Q v H
section
variable {X : Cx}
theorem or_din (hu : X.A.units + 65 < cLine) : OpR X (compareOp .In) (rDIn false) := by
  intro pins s σ H x y v u Q I rx ry h
  obtain ⟨a, o, rfl, g, q⟩ := h
  cases ry
  exact d_in (by omega) I g rx fun s' I' => ⟨.bl o.isSome, H, I', rfl, q⟩
theorem or_dnin (hu : X.A.units + 65 < cLine) : OpR X (compareOp .NotIn) (rDIn true) := by
  intro pins s σ H x y v u Q I rx ry h
  obtain ⟨a, o, rfl, g, q⟩ := h
  cases ry
  exact d_notIn (by omega) I g rx fun s' I' => ⟨.bl (!o.isSome), H, I', rfl, q⟩
end
section
variable {K : PySem.W.Frag}
theorem din_core {fz : Addr → Prop} {H : Hp} {v w : V} {x : PyData} {ds : List (PyData × PyData)} {k : Key} (hv : RepP K fz H v x) (hw : RepP K fz H w (.dict ds)) (e : keyOf? x = some k) :
    ∃ a o, w = .ref a ∧ DGet H a v o ∧ o.isSome = (dGet ds x).isSome ∧ ∀ d, dGet ds x = some d → ∃ u, o = some u ∧ Rep K fz H u d := by
  obtain ⟨a, kvs, rfl, ea, r⟩ := hw.dic
  rw [hv.key e, keyOf_some e]
  refine ⟨a, valV kvs k, rfl, DGet.k ea, ?_⟩
  rcases repK_get k r with ⟨h1, h2⟩ | ⟨u, d, h1, h2, h3⟩
  · rw [h1, h2]; exact ⟨rfl, fun d z => nomatch z⟩
  · rw [h1, h2]; exact ⟨rfl, fun d z => by cases z; exact ⟨u, rfl, h3⟩⟩
theorem of_din : OpF K (rDIn false) din? := by
  intro fz H v w x y z hv hw e Q q
  cases y <;> first | (cases e; done) | skip
  rename_i ds
  simp only [din?] at e
  cases ek : keyOf? x with
  | none => rw [ek] at e; cases e
  | some k =>
    rw [ek] at e
    cases e
    obtain ⟨a, o, e1, g, e2, _⟩ := din_core hv hw ek
    refine ⟨a, o, e1, g, ?_⟩
    rw [if_neg (by simp), e2]
    exact Alc.same (.bl _) q
theorem of_dnin : OpF K (rDIn true) dnin? := by
  intro fz H v w x y z hv hw e Q q
  cases y <;> first | (cases e; done) | skip
  rename_i ds
  simp only [dnin?] at e
  cases ek : keyOf? x with
  | none => rw [ek] at e; cases e
  | some k =>
    rw [ek] at e
    cases e
    obtain ⟨a, o, e1, g, e2, _⟩ := din_core hv hw ek
    refine ⟨a, o, e1, g, ?_⟩
    rw [if_pos rfl, e2]
    exact Alc.same (.bl _) q
theorem of_dget : OpF K rDGet dget? := by
  intro fz H v w y x z hv hw e Q q
  cases y <;> first | (cases e; done) | skip
  rename_i ds
  simp only [dget?] at e
  cases ek : keyOf? x with
  | none => rw [ek] at e; cases e
  | some k =>
    rw [ek] at e
    simp only [Option.bind_some] at e
    obtain ⟨a, o, e1, g, _, e3⟩ := din_core hw hv ek
    obtain ⟨u, rfl, r⟩ := e3 z e
    exact ⟨a, u, e1, g, Alc.same r q⟩
end
/-! ### dict(pairs) -/
def entry? : PyData → Option (PyData × PyData)
  | .tuple [k, v] => (keyOf? k).map fun _ => (k, v)
  | _ => none
def entries? : List PyData → Option (List (PyData × PyData))
  | [] => some []
  | d :: ds => (entry? d).bind fun p => (entries? ds).map fun ps => p :: ps
def dictP? : PyData → Option PyData
  | .list ds => (entries? ds).map fun ps => .dict (dMerge [] ps)
  | _ => none
def rDictP (K : PySem.W.Frag) : RL := fun xs H Q => ∃ (a : Addr) (ps : List Addr) (kvs : List (Key × V)), xs = [.ref a] ∧ SqL K H a (ps.map V.ref) ∧ Paired (fun p kv => SqT K H p [kV kv.1, kv.2]) ps kvs ∧
    ∀ p, H p = none → Q (.ref p) (upd H p (.dK (mergeK [] kvs)))
section
variable {K : PySem.W.Frag} {fz : Addr → Prop} {H : Hp}
theorem entries_rep : ∀ {vs : List V} {ds : List PyData} {es : List (PyData × PyData)}, RepA K fz H vs ds → entries? ds = some es → ∃ (ps : List Addr) (kvs : List (Key × V)), vs = ps.map V.ref ∧ Paired (fun p kv => SqT K H p [kV kv.1, kv.2]) ps kvs ∧ RepK K fz H kvs es
  | _, [], es, .nil, e => by cases e; exact ⟨[], [], rfl, .nil, .nil⟩
  | _, d :: ds, es, .cons (v := v) (vs := vs) r t, e => by
    unfold entries? at e
    cases e1 : entry? d with
    | none => rw [e1] at e; cases e
    | some p =>
      rw [e1] at e
      simp only [Option.bind_some] at e
      cases e2 : entries? ds with
      | none => rw [e2] at e; cases e
      | some qs =>
        rw [e2] at e
        cases e
        obtain ⟨ps, kvs, h1, h2, h3⟩ := entries_rep t e2
        unfold entry? at e1
        split at e1
        · rename_i k w
          cases ek : keyOf? k with
          | none => rw [ek] at e1; cases e1
          | some kk =>
            rw [ek] at e1
            cases e1
            cases r with
            | @tup a xs _ h r =>
              cases r with
              | cons r1 r =>
                cases r with
                | cons r2 r =>
                  cases r
                  have ev := RepP.key (.inl r1) ek
                  subst ev
                  refine ⟨a :: ps, (kk, _) :: kvs, by rw [h1]; rfl, .cons h.sq h2, ?_⟩
                  rw [keyOf_some ek]
                  exact .cons r2 h3
        · cases e1
end
section
variable {K : PySem.W.Frag}
theorem co_dictP : CO K (rDictP K) dictP? := by
  intro fz H v x z hv e hf Q q
  cases x <;> first | (cases e; done) | skip
  rename_i ds
  simp only [dictP?] at e
  cases e1 : entries? ds with
  | none => rw [e1] at e; cases e
  | some es =>
    rw [e1] at e
    cases e
    obtain ⟨a, vs, rfl, sa, ra⟩ := hv.lst
    obtain ⟨ps, kvs, h1, h2, h3⟩ := entries_rep ra e1
    subst h1
    refine ⟨a, ps, kvs, rfl, SqL.of sa, h2, fun p hn => ?_⟩
    have E : Ext fz H fz (upd H p (.dK (mergeK [] kvs))) := ⟨fun _ z => z, fun b z => upd_ne fun e => hf b z (e ▸ hn)⟩
    exact q p _ hn (fun b n => upd_ne n) ⟨_, upd_same, RepK.ext E (repK_merge h3 .nil)⟩
end
/-! ### d[k] = v, d.update(e) -/
def ownD (i : Nat) (ρ : Env) : Option (List (PyData × PyData)) := match ρ[i]? with
  | some (.own (.dict ds)) => some ds
  | _ => none
theorem ownD_eq {i : Nat} {ρ : Env} {ds : List (PyData × PyData)} (h : ownD i ρ = some ds) : ρ[i]? = some (.own (.dict ds)) := by
  unfold ownD at h
  split at h
  · rename_i e; cases h; exact e
  · cases h
def mdput (i : Nat) (mk mv : M PyData) : SM := sbnd mv fun v r1 => slft (ownD i r1) fun _ => sbnd mk (fun k r => slft (ownD i r) fun ds => slft (keyOf? k) fun _ => if lenOk (ds.length + 1) = true then .nx (r.set i (.own (.dict (dPut ds k v)))) else .bad) r1
def updK (i : Nat) (d : PyData) (r : Env) : SOut := slft (ownD i r) fun ds => match d with
  | .dict es => if lenOk (ds.length + es.length) = true then .nx (r.set i (.own (.dict (dMerge ds es)))) else .bad
  | _ => .bad
def mupdate (i : Nat) (m : M PyData) : SM := fun ρ => slft (ownD i ρ) fun _ => sbnd m (updK i) ρ
def rUpdate : V → List V → Hp → VK → Prop := fun x xs H Q => ∃ a b kvs more, x = .ref a ∧ xs = [.ref b] ∧ a ≠ b ∧ H a = some (.dK kvs) ∧ H b = some (.dK more) ∧ kvs.length + more.length ≤ sizeLine ∧ Q .non (upd H a (.dK (mergeK kvs more)))
theorem mt_update {X : Cx} : MtR X "dict.update" rUpdate := by
  intro pins s σ H x xs v us Q I rx rxs h
  obtain ⟨a, b, kvs, more, rfl, rfl, hne, ea, eb, hz, q⟩ := h
  cases rx
  cases rxs with
  | cons r1 r2 =>
    cases r1
    cases r2
    obtain ⟨z1, hd1, vs1, rel1, dd1⟩ := dk_of I.hok ea
    obtain ⟨z2, hd2, vs2, rel2, dd2⟩ := dk_of I.hok eb
    refine call_meetsIn PySem.F.slot_dict_update dd1.typeIs PySem.F.entry_dict_update (PySem.F.args_dict_update_2 _ _) (meets_dict_update (mixKind X.prog X.w) a b hne hd2)
      ⟨vs1, vs2, dd1, dd2, by rw [← rel1.length, ← rel2.length]; exact hz, fun h' hmm _ hs => ?_⟩
    have he : ∃ q, h'.get? a = some q := let ⟨q, _, _, hq, _⟩ := hmm; ⟨q, hq⟩
    have hl : (mergeK kvs more).length ≤ sizeLine := Nat.le_trans (length_mergeK more kvs) hz
    exact ⟨.non, upd H a (.dK (mergeK kvs more)), d_write I (t' := s.toks) (by rw [ea]; exact True.intro) hs he (dk_new hl hd1 (KV.merge rel2 rel1) hmm), rfl, q⟩
section
variable {c : Cw} {te : TE} {m : M PyData}
theorem rs_dput {i : Nat} {tk : TE} {mk : M PyData} (h : Rf c (RV c.K) te m) (hk : Rf c (RV c.K) tk mk) : RfS c (sDPut (tVar i) tk te) (mdput i mk m) := by
  intro pp pr fz σ H ρ D hp R hq
  refine h pp pr fz σ H ρ _ hp R (hq.bnd fun v x fz1 H1 ρ1 F1 R1 r1 P1 => ?_)
  cases e : ownD i ρ1 with
  | none => simp only [e, slft] at P1; exact P1.elim
  | some ds0 =>
    simp only [e, slft] at P1
    obtain ⟨a, hs, nf, np, vs0, hH0, _⟩ := R1.own_ne (ownD_eq e)
    refine ⟨_, hs, ?_⟩
    refine hk pp pr fz1 σ H1 ρ1 _ hp R1 (PostS.bnd (f := fun k r => slft (ownD i r) fun ds => slft (keyOf? k) fun _ => if lenOk (ds.length + 1) = true then .nx (r.set i (.own (.dict (dPut ds k x)))) else .bad) P1 fun w j fz2 H2 ρ2 F2 R2 r2 P2 => ?_)
    cases e1 : ownD i ρ2 with
    | none => simp only [e1, slft] at P2; exact P2.elim
    | some ds =>
      simp only [e1, slft] at P2
      cases ek : keyOf? j with
      | none => simp only [ek] at P2; exact P2.elim
      | some k =>
        simp only [ek] at P2
        split at P2
        · rename_i hl
          have er := ownD_eq e1
          obtain ⟨a', hs', nf', np', kvs, hH, ra⟩ := R2.own_ne er
          obtain rfl : a' = a := by rw [hs] at hs'; cases hs'; rfl
          have ew := RepP.key (.inl r2) ek
          subst ew
          have hlen := lenOk_iff.mp hl
          refine ⟨a', upd H2 a' (.dK (putK kvs k v)), rfl, DPut.k hH (by rw [RepK.length ra]; omega), ?_⟩
          have E : Ext fz2 H2 fz2 (upd H2 a' (.dK (putK kvs k v))) := ⟨fun _ z => z, fun b z => upd_ne fun q => nf' (by rw [← q]; exact z)⟩
          have nw : OwnC c.K fz2 (upd H2 a' (.dK (putK kvs k v))) a' (.dict (dPut ds j x)) := ⟨_, upd_same, by
            rw [keyOf_some ek]
            exact RepK.ext E (repK_put (Rep.ext F2.ext r1) ra)⟩
          obtain ⟨F3, R3⟩ := R2.wr (d' := .dict (dPut ds j x)) er hs nw
          exact P2 σ fz2 _ F3 R3
        · exact P2.elim
theorem rs_update {i : Nat} (h : Rf c (RV c.K) te m) : RfS c (tDrop (tBM c.K "dict" rUpdate (tVar i) (tCons te tNil))) (mupdate i m) := by
  intro pp pr fz σ H ρ D hp R hq
  unfold mupdate at hq
  cases e : ownD i ρ with
  | none => simp only [e, slft] at hq; exact hq.elim
  | some ds0 =>
    simp only [e, slft] at hq
    obtain ⟨a, hs, nf, np, vs0, hH0, _⟩ := R.own_ne (ownD_eq e)
    refine ⟨_, hs, .inr (.inr (.inl ⟨rfl, .inl ⟨vs0, hH0⟩⟩)), ?_⟩
    refine h pp pr fz σ H ρ _ hp R (PostS.bnd (f := updK i) hq fun v x fz1 H1 ρ1 F1 R1 r1 P1 => ?_)
    unfold updK at P1
    have r1 : Rep c.K fz1 H1 v x := r1
    cases e1 : ownD i ρ1 with
    | none => simp only [e1, slft] at P1; exact P1.elim
    | some ds =>
      simp only [e1, slft] at P1
      cases x <;> first | exact P1.elim | skip
      rename_i es _
      dsimp only at P1
      split at P1
      · rename_i hl
        have er := ownD_eq e1
        obtain ⟨a', hs', nf', np', kvs, hH, ra⟩ := R1.own_ne er
        obtain rfl : a' = a := by rw [hs] at hs'; cases hs'; rfl
        cases r1 with
        | @dic b more _ hb eb rb =>
          have hne : a' ≠ b := fun z => nf' (z ▸ hb)
          refine ⟨a', b, kvs, more, rfl, rfl, hne, hH, eb, ?_, ?_⟩
          · have := lenOk_iff.mp hl
            rw [RepK.length ra, RepK.length rb]; exact this
          · have E : Ext fz1 H1 fz1 (upd H1 a' (.dK (mergeK kvs more))) := ⟨fun _ z => z, fun b z => upd_ne fun q => nf' (by rw [← q]; exact z)⟩
            obtain ⟨F2, R2⟩ := R1.wr (d' := .dict (dMerge ds es)) er hs ⟨_, upd_same, RepK.ext E (repK_merge rb ra)⟩
            exact P1 σ fz1 _ F2 R2
      · exact P1.elim
end
end PL

/-! PLe: what dicts of numbers hold. -/
namespace PL
open PySem PySem.Spec L2
section
variable {ρ : Env} {X : XP} {P : PS}
def getDc (s : Sl) : Option (List (PyData × PyData)) := match s with
  | .own (.dict ds) => some ds
  | _ => none
theorem getDc_o {ds : List (PyData × PyData)} : getDc (.own (.dict ds)) = some ds := rfl
theorem ownD_at {i : Nat} : ownD i ρ = getDc (at? ρ i) := by
  unfold ownD at? getDc
  cases ρ[i]? with
  | none => rfl
  | some s => cases s with
    | own d => cases d <;> rfl
    | _ => rfl
def asD? : PyData → Option (List (PyData × PyData))
  | .dict es => some es
  | _ => none
theorem asD_d {es : List (PyData × PyData)} : asD? (.dict es) = some es := rfl
theorem ts_dput {i : Nat} {mk mv : M PyData} : Ts (mdput i mk mv) ρ P = Tr mv ρ (fun v r1 => ∃ ds0, getDc (at? r1 i) = some ds0 ∧ Tr mk r1 (fun k r => ∃ ds, getDc (at? r i) = some ds ∧ ∃ kk, keyOf? k = some kk ∧ lenOk (ds.length + 1) = true ∧ P.nx (r.set i (.own (.dict (dPut ds k v))))) P.ex) P.ex := by
  unfold mdput; rw [ts_sbnd]; congr 1; funext v r1
  refine Eq.trans tso_slft ?_
  simp only [ownD_at]
  congr 1; funext ds0
  congr 1
  refine Eq.trans (b := Ts (sbnd mk (fun k r => slft (ownD i r) fun ds => slft (keyOf? k) fun _ => if lenOk (ds.length + 1) = true then .nx (r.set i (.own (.dict (dPut ds k v)))) else .bad)) r1 P) ?_ ?_
  · simp only [ownD_at]; rfl
  rw [ts_sbnd]
  congr 1; funext k r
  refine Eq.trans tso_slft ?_
  simp only [ownD_at, tso_slft, tso_ite]
theorem ts_update {i : Nat} {m : M PyData} : Ts (mupdate i m) ρ P = ∃ ds0, getDc (at? ρ i) = some ds0 ∧ Tr m ρ (fun d r => ∃ ds, getDc (at? r i) = some ds ∧ ∃ es, asD? d = some es ∧ lenOk (ds.length + es.length) = true ∧ P.nx (r.set i (.own (.dict (dMerge ds es))))) P.ex := by
  unfold mupdate
  cases e : ownD i ρ with
  | none =>
    rw [ownD_at] at e
    show TsO (slft (ownD i ρ) fun x => sbnd m (updK i) ρ) P = _
    rw [ownD_at, e]
    simp [slft, TsO]
  | some ds0 =>
    have e' := e
    rw [ownD_at] at e'
    have q : Ts (fun ρ => slft (ownD i ρ) fun _ => sbnd m (updK i) ρ) ρ P = Ts (sbnd m (updK i)) ρ P := by
      show TsO (slft (ownD i ρ) fun x => sbnd m (updK i) ρ) P = _
      rw [e]
      rfl
    rw [q, ts_sbnd, e']
    simp only [Option.some.injEq, exists_eq_left']
    congr 1; funext d r
    show TsO (updK i d r) P = _
    unfold updK
    refine Eq.trans tso_slft ?_
    simp only [ownD_at]
    congr 1; funext ds
    congr 1
    cases d <;> simp only [asD?, Option.some.injEq, exists_eq_left', tso_ite] <;> simp [TsO]
end
theorem din_i {ds : List (PyData × PyData)} {i : Int} : din? (.int i) (.dict ds) = some (.bool (dGet ds (.int i)).isSome) := rfl
theorem dnin_i {ds : List (PyData × PyData)} {i : Int} : dnin? (.int i) (.dict ds) = some (.bool (!(dGet ds (.int i)).isSome)) := rfl
theorem dget_i {ds : List (PyData × PyData)} {i : Int} : dget? (.dict ds) (.int i) = dGet ds (.int i) := rfl
theorem key_i {i : Int} : keyOf? (.int i) = some (.inl i) := rfl
/-! ### the functions that dicts are -/
theorem kEq_i {i j : Int} : kEq (.int i) (.int j) = decide (i = j) := rfl
theorem dGet_nil {k : PyData} : dGet [] k = none := rfl
theorem dGet_cons {p : PyData × PyData} {ds : List (PyData × PyData)} {k : PyData} : dGet (p :: ds) k = if kEq p.1 k = true then some p.2 else dGet ds k := by
  unfold dGet
  rw [List.find?_cons]
  split <;> simp_all
theorem dGet_any {k : PyData} : ∀ {ds : List (PyData × PyData)}, (ds.any fun p => kEq p.1 k) = (dGet ds k).isSome
  | [] => rfl
  | p :: ds => by
    rw [List.any_cons, dGet_cons, dGet_any]
    cases kEq p.1 k <;> simp
theorem dGet_snoc {k v : PyData} {w : PyData} : ∀ {ds : List (PyData × PyData)}, dGet ds k = none → kEq k w = true ∨ kEq k w = false → dGet (ds ++ [(k, v)]) w = match dGet ds w with
    | some x => some x
    | none => if kEq k w = true then some v else none
  | [], _, _ => by rw [List.nil_append, dGet_cons]; rfl
  | p :: ds, h, g => by
    rw [List.cons_append, dGet_cons, dGet_cons]
    have h2 : dGet ds k = none := by
      rw [dGet_cons] at h
      split at h
      · cases h
      · exact h
    split
    · rfl
    · exact dGet_snoc h2 g
theorem kEq_tr {a b c : PyData} (h1 : kEq a b = true) : kEq a c = kEq b c := by
  cases a <;> cases b <;> first | (cases h1; done) | skip
  · simp only [kEq, decide_eq_true_eq] at h1; rw [h1]
  · simp only [kEq, decide_eq_true_eq] at h1; rw [h1]
/-- what d[k] = v does, for ints -/
theorem dGet_put {k w : Int} {v : PyData} : ∀ {ds : List (PyData × PyData)}, dGet (dPut ds (.int k) v) (.int w) = if w = k then some v else dGet ds (.int w) := by
  intro ds
  unfold dPut
  split
  · rename_i h
    have go : ∀ {ds : List (PyData × PyData)}, dGet (ds.map fun p => if kEq p.1 (.int k) = true then (p.1, v) else p) (.int w) = if w = k then (if (dGet ds (.int k)).isSome = true then some v else none) else dGet ds (.int w) := by
      intro ds
      induction ds with
      | nil => simp [dGet_nil]
      | cons p ds ih =>
        rw [List.map_cons, dGet_cons, dGet_cons, dGet_cons, ih]
        by_cases e : kEq p.1 (.int k) = true
        · rw [if_pos e]
          have e2 := kEq_tr (c := .int w) e
          rw [kEq_i] at e2
          by_cases hw : w = k
          · subst hw; simp [e]
          · simp only [e2, hw, e, if_true, if_false, decide_eq_true_eq]
            simp [Ne.symm hw]
        · rw [if_neg e]
          by_cases hw : w = k
          · subst hw; simp [e]
          · simp [hw]
    rw [go]
    rw [dGet_any] at h
    simp [h]
  · rename_i h
    have hn : dGet ds (.int k) = none := by
      rw [dGet_any] at h
      simpa using h
    rw [dGet_snoc hn (by cases kEq (.int k) (.int w) <;> simp)]
    rw [kEq_i]
    by_cases hw : w = k
    · subst hw; simp [hn]
    · have : ¬ k = w := fun z => hw z.symm
      simp only [hw, this, decide_false, if_false]
      cases dGet ds (.int w) <;> simp
theorem dPut_len {ds : List (PyData × PyData)} {k v : PyData} : (dPut ds k v).length ≤ ds.length + 1 := by
  unfold dPut; split <;> simp
theorem dMerge_len : ∀ {ms ds : List (PyData × PyData)}, (dMerge ds ms).length ≤ ds.length + ms.length
  | [], ds => by simp [dMerge]
  | p :: ms, ds => by
    have h1 := dMerge_len (ms := ms) (ds := dPut ds p.1 p.2)
    have h2 := dPut_len (ds := ds) (k := p.1) (v := p.2)
    show (dMerge (dPut ds p.1 p.2) ms).length ≤ _
    simp only [List.length_cons]
    omega
/-- the entries of [(w, x) for w in range] -/
def rngE (lo : Int) (n : Nat) (x : PyData) : List (PyData × PyData) := (List.range n).map fun i : Nat => (.int (lo + i), x)
theorem rngE_succ {lo : Int} {n : Nat} {x : PyData} : rngE lo (n + 1) x = rngE lo n x ++ [(.int (lo + n), x)] := by
  unfold rngE; rw [List.range_succ, List.map_append]; rfl
theorem dMerge_app {ds ms ms' : List (PyData × PyData)} : dMerge ds (ms ++ ms') = dMerge (dMerge ds ms) ms' := by
  unfold dMerge; rw [List.foldl_append]
theorem merge_rng {lo : Int} {x : PyData} {w : Int} : ∀ {n : Nat} {ds : List (PyData × PyData)}, dGet (dMerge ds (rngE lo n x)) (.int w) = if lo ≤ w ∧ w < lo + n then some x else dGet ds (.int w)
  | 0, ds => by
    have : ¬ (lo ≤ w ∧ w < lo + (0 : Nat)) := by omega
    rw [if_neg this]; rfl
  | n + 1, ds => by
    rw [rngE_succ, dMerge_app]
    show dGet (dPut (dMerge ds (rngE lo n x)) (.int (lo + n)) x) (.int w) = _
    rw [dGet_put, merge_rng]
    by_cases h : w = lo + n
    · subst h; rw [if_pos rfl, if_pos (by omega)]
    · rw [if_neg h]
      by_cases h2 : lo ≤ w ∧ w < lo + n
      · rw [if_pos h2, if_pos (by omega)]
      · rw [if_neg h2, if_neg (by omega)]
theorem dGet_rng {lo : Int} {x : PyData} {w : Int} : ∀ {n : Nat}, dGet (rngE lo n x) (.int w) = if lo ≤ w ∧ w < lo + n then some x else none
  | 0 => by
    have : ¬ (lo ≤ w ∧ w < lo + (0 : Nat)) := by omega
    rw [if_neg this]; rfl
  | n + 1 => by
    have h0 : dGet (rngE lo n x) (.int (lo + n)) = none := by rw [dGet_rng, if_neg (by omega)]
    rw [rngE_succ, dGet_snoc h0 (by cases kEq (.int (lo + n)) (.int w) <;> simp), dGet_rng, kEq_i]
    by_cases h2 : lo ≤ w ∧ w < lo + n
    · have h3 : lo ≤ w ∧ w < lo + (n + 1 : Nat) := by omega
      rw [if_pos h2, if_pos h3]
    · rw [if_neg h2]
      by_cases h : lo + n = w
      · have h3 : lo ≤ w ∧ w < lo + (n + 1 : Nat) := by omega
        rw [if_pos h3]; simp [h]
      · have h3 : ¬ (lo ≤ w ∧ w < lo + (n + 1 : Nat)) := by omega
        rw [if_neg h3]; simp [h]
theorem merge_nil_rng {lo : Int} {x : PyData} : ∀ {n : Nat}, dMerge [] (rngE lo n x) = rngE lo n x
  | 0 => rfl
  | n + 1 => by
    rw [rngE_succ, dMerge_app, merge_nil_rng]
    show dPut (rngE lo n x) (.int (lo + n)) x = _
    unfold dPut
    have h3 : ¬ (lo ≤ lo + (n : Int) ∧ lo + (n : Int) < lo + n) := by omega
    rw [dGet_any, dGet_rng, if_neg h3]
    simp
theorem entries_rng {lo : Int} {n : Nat} {x : PyData} : entries? ((List.range n).map fun i : Nat => PyData.tuple [.int (lo + i), x]) = some (rngE lo n x) := by
  unfold rngE
  generalize List.range n = l
  induction l with
  | nil => rfl
  | cons i l ih =>
    rw [List.map_cons]
    show (some (PyData.int (lo + i), x)).bind (fun p => (entries? (l.map _)).map fun ps => p :: ps) = _
    rw [ih]; rfl
theorem dictP_rng {lo : Int} {n : Nat} {x : PyData} : dictP? (.list ((List.range n).map fun i : Nat => PyData.tuple [.int (lo + i), x])) = some (.dict (rngE lo n x)) := by
  show (entries? _).map _ = _
  rw [entries_rng, Option.map_some, merge_nil_rng]
theorem rngE_len {lo : Int} {n : Nat} {x : PyData} : (rngE lo n x).length = n := by simp [rngE]
end PL

namespace PL
open PySem PySem.Spec L2 PyProof.Rows
section
variable {P : Program} {w : World} {A : Around} {E : Value → Shared → Prop} {s : Shared}
theorem call_set_lstI {l : Addr} {items : Array Value} (ns : List Int) {Q : Value → Shared → Prop} (hh : A.handled = none) (hl : s.heap.IsList l items) (hit : IntsAre items.toList ns) (hb : ns.length + 1 < scanBound)
    (h : ∀ (h' : Heap) (tk c : Nat), SetR w h' s.heap.objs.size (fun j => decide (j ∈ ns)) c → c ≤ ns.length → (∀ b o, s.heap.get? b = some o → h'.get? b = some o) → Q (.ref s.heap.objs.size) { s with heap := h', toks := tk }) :
    wpAny (model P w) A (call (.type "set") [.ref l]) Q E s := by
  have hisz : items.size = ns.length := by
    have q := IntsAre.length hit
    rw [Array.length_toList] at q
    exact q
  obtain ⟨c, tl, hmro⟩ := F.called_set.mro
  have hmade := F.called_set.made
  have hsub := F.called_set.sub
  refine wpAny_call (codeAny_of_tree ?_)
  show wpAny _ _ (callAny (.type "set") _) _ _ _
  refine wpAny_pure ⟨Code.quiet_builtin _ (by decide +kernel), codeAny_builtin F.entry_type_call ?_⟩
  rw [Around.under_plain (weight_type_call_type "set" [.ref l] []) rfl]
  have h1 := F.called_set.notType
  have h2 := F.called_set.canCreate
  have hct := F.typeCall_set_1 (.ref l)
  repeat (any_goals (first | assumption | wp_step))

  refine codeAny_mono (code_set_led1 (.ref l) (E := E) (Q₁ := fun obj s₁ => obj = .ref s.heap.objs.size ∧ s₁ = { s with heap := s.heap.push { cls := .type "set", dict := none, data := .set #[] 0 (.fresh 0 0 (!w.params.followText "set-order")) } }) ⟨rfl, rfl⟩) fun r s₁ hr => ?_
  cases r with
  | error e => exact hr
  | ok fl =>
    cases fl with
    | ret obj =>
      obtain ⟨rfl, rfl⟩ := hr
      have hS : (s.heap.push { cls := .type "set", dict := none, data := .set #[] 0 (.fresh 0 0 (!w.params.followText "set-order")) }).get? s.heap.objs.size = some { cls := .type "set", dict := none, data := .set #[] 0 (.fresh 0 0 (!w.params.followText "set-order")) } := Heap.get?_push_size _ rfl
      have hT : Shared.TypeIs { s with heap := s.heap.push { cls := .type "set", dict := none, data := .set #[] 0 (.fresh 0 0 (!w.params.followText "set-order")) } } (.ref s.heap.objs.size) "set" := ⟨_, hS, rfl⟩
      have hli := F.called_set.init.lookup
      have hbi := F.called_set.init.bind (.ref s.heap.objs.size)
      repeat (any_goals (first | assumption | wp_step))

      refine codeAny_mono (codeAny_call_builtin (R := wants (fun r s₂ => r = .none ∧ ∃ h' tk c, s₂ = { s with heap := h', toks := tk } ∧ SetR w h' s.heap.objs.size (fun j => decide (j ∈ ns)) c ∧ c ≤ ns.length ∧
          (∀ b o, s.heap.get? b = some o → h'.get? b = some o)) E) F.called_set.init.plain F.entry_set_init (check_set_init_1 hT ?_)) fun r₂ s₂ hr₂ => ?_
      · obtain ⟨ol, hol, hcl, nl, hdl⟩ := hl
        obtain ⟨ocls, odict, odata, oslots⟩ := ol
        simp only at hcl hdl
        subst hcl; subst hdl
        have hol' : (s.heap.push { cls := .type "set", dict := none, data := .set #[] 0 (.fresh 0 0 (!w.params.followText "set-order")) }).get? l = some { cls := .type "list", dict := odict, data := .seq items nl, slots := oslots } := Heap.get?_push_of_some _ hol
        have hsls := F.sub_list_set
        have hslf := F.sub_list_frozenset
        have hne : (Value.type "list" == Value.type "dict") = false := by decide
        have hl1 : (s.heap.push { cls := .type "set", dict := none, data := .set #[] 0 (.fresh 0 0 (!w.params.followText "set-order")) }).IsList l items := ⟨_, hol', rfl, nl, rfl⟩
        unfold Builtin.«set.__init__» noKeywords Builtin.Frozenset.updateFrom
        generalize hPI : pyIter = PI
        wp_walk
        subst hPI

        refine wpAny_pyIter_list hl1 ?_
        refine wpAny_bind (wpAny_runValue ?_)
        have hlS : l < s.heap.objs.size := Heap.lt_size hol
        have hh3 : A.in1.in1.in1.handled = none := by simp [hh]
        have hz1 : (s.heap.push { cls := .type "set", dict := none, data := .set #[] 0 (.fresh 0 0 (!w.params.followText "set-order")) }).objs.size = s.heap.objs.size + 1 := Heap.size_push ..
        have hneI : l ≠ (s.heap.push { cls := .type "set", dict := none, data := .set #[] 0 (.fresh 0 0 (!w.params.followText "set-order")) }).objs.size := by
          rw [Heap.size_push]; exact Nat.ne_of_lt (Nat.lt_succ_of_lt hlS)
        have hSf : s.heap.objs.size ∉ [(s.heap.push { cls := .type "set", dict := none, data := .set #[] 0 (.fresh 0 0 (!w.params.followText "set-order")) }).objs.size, l] := by
          rw [Heap.size_push]; simp only [List.mem_cons, List.mem_singleton, List.not_mem_nil, or_false, not_or]
          exact ⟨Nat.ne_of_lt (Nat.lt_succ_self _), Nat.ne_of_gt hlS⟩
        have hval : ∀ (i : Nat) (v : Value), items[i]? = some v → ∃ k t, ns[i]? = some k ∧ v = .int k t := fun i v hv => by
          have hi : i < ns.length := by rw [← hisz]; exact (Array.getElem?_eq_some_iff.mp hv).1
          obtain ⟨t, e⟩ := PyProof.Rows.IntsAre.int_at hit i v (by rw [Array.getElem?_toList]; exact hv)
          refine ⟨ns[i], t, List.getElem?_eq_getElem hi, ?_⟩
          rw [e, List.getD_eq_getElem?_getD, List.getElem?_eq_getElem hi] <;> rfl
        refine set_update_ints ((Walks.list hh3 _ l hneI items).toS) s.heap.objs.size
          hSf ns hisz hb hval (items.size - 0) 0 _ (by omega) (Nat.zero_le _)
          ⟨⟨_, Heap.get?_push_size _ rfl, rfl, rfl⟩, (hl1.push _)⟩ ?hS0 ?hR
        case hS0 =>
          have hget : ((s.heap.push { cls := .type "set", dict := none, data := .set #[] 0 (.fresh 0 0 (!w.params.followText "set-order")) }).push { cls := .type "list_iterator", data := .fields #[.ref l, .int 0 0] }).get? s.heap.objs.size
              = some { cls := .type "set", dict := none, data := .set #[] 0 (.fresh 0 0 (!w.params.followText "set-order")) } := Heap.get?_push_of_some _ hS
          exact ⟨0, Nat.le_refl 0, setR_new_at hget⟩
        case hR =>
          intro s' c' hm hc' hS'
          obtain ⟨h', g2, d', tk', os'⟩ := s'
          have eg : g2 = s.gens := hm.gens
          have ed : d' = s.drawn := hm.drawn
          have eo : os' = s.os := hm.os
          subst eg; subst ed; subst eo
          show wpAny _ _ _ _ _ _
          refine wpAny_pure ?_
          show wpAny _ _ (ret Value.none) _ _ _
          rw [hisz] at hc'
          refine wpAny_pure ⟨rfl, h', tk', c', rfl, hS', hc', fun b o e => ?_⟩
          have hb0 : b < s.heap.objs.size := Heap.lt_size e
          have hb1 : b ≠ s.heap.objs.size := Nat.ne_of_lt hb0
          have hb2 : b ≠ (s.heap.push { cls := .type "set", dict := none, data := .set #[] 0 (.fresh 0 0 (!w.params.followText "set-order")) }).objs.size := by
            rw [Heap.size_push]; exact Nat.ne_of_lt (Nat.lt_succ_of_lt hb0)
          exact hm.heap b o (by simp only [List.mem_cons, List.mem_singleton, List.not_mem_nil, or_false, not_or]; exact ⟨hb1, hb2⟩) (Heap.get?_push_of_some _ (Heap.get?_push_of_some _ e))

      · cases r₂ with
        | error e => exact hr₂
        | ok fl₂ =>
          cases fl₂ with
          | ret r =>
            obtain ⟨rfl, h', tk, c', rfl, hS', hc', hk'⟩ := hr₂
            repeat (any_goals (first | assumption | wp_step))
            exact h _ _ _ hS' hc' hk'
          | _ => exact hr₂.elim
    | _ => exact hr.elim
end
end PL

/-! PLh: sets of ints of any number, of pairs of ints below 64: what they are, what is done with them. -/
namespace PL
open PySem PySem.Spec L2
open PyProof.Rows hiding St
section
variable {α : Type} [DecidableEq α]
/-- each once -/
def nub : List α → List α
  | [] => []
  | x :: xs => if x ∈ nub xs then nub xs else x :: nub xs
theorem mem_nub {x : α} : ∀ {l : List α}, x ∈ nub l ↔ x ∈ l
  | [] => Iff.rfl
  | y :: l => by
    have ih := mem_nub (x := x) (l := l)
    have ihy := mem_nub (x := y) (l := l)
    unfold nub
    split
    · rename_i h
      rw [ih, List.mem_cons]
      constructor
      · exact .inr
      · rintro (rfl | h2)
        · exact ih.mp h
        · exact h2
    · rw [List.mem_cons, List.mem_cons, ih]
theorem nub_nodup : ∀ {l : List α}, (nub l).Nodup
  | [] => List.Pairwise.nil
  | y :: l => by
    unfold nub
    split
    · exact nub_nodup
    · rename_i h; exact List.nodup_cons.mpr ⟨h, nub_nodup⟩
theorem nub_len : ∀ {l : List α}, (nub l).length ≤ l.length
  | [] => Nat.le_refl 0
  | y :: l => by
    have := nub_len (l := l)
    unfold nub
    split
    · simp; omega
    · simp; omega
theorem nub_id : ∀ {l : List α}, l.Nodup → nub l = l
  | [], _ => rfl
  | y :: l, h => by
    have h2 := List.nodup_cons.mp h
    unfold nub
    rw [nub_id h2.2, if_neg h2.1]
theorem nub_perm {l k : List α} (h : k.Nodup) (e : ∀ x, x ∈ k ↔ x ∈ l) : k.Perm (nub l) :=
  (List.perm_ext_iff_of_nodup h nub_nodup).mpr fun x => (e x).trans mem_nub.symm
end
def lst? : PyData → Option (List PyData)
  | .list ds => some ds
  | _ => none
/-- set(list of ints), set(list of pairs of ints): a set stands as the list of its members -/
def set? (x : PyData) : Option PyData := (lst? x).bind fun ds => match ints? ds with
  | some ns => if ns.length ≤ 4000 then some (.list ((nub ns).map PyData.int)) else none
  | none => (pairs? ds).bind fun ps => if ps.length < 64 then some (.list ((nub ps).map prI)) else none
/-- sorted of a set -/
def sset? (x : PyData) : Option PyData := (lst? x).bind fun ds => match ints? ds with
  | some ns => some (.list ((isort ns).map PyData.int))
  | none => (pairs? ds).bind fun ps => if (ps.all fun p => decide (0 ≤ p.1) && decide (0 ≤ p.2)) = true then some (.list ((psort ps).map prI)) else none
/-- len of a set of ints -/
def slen? (x : PyData) : Option PyData := (lst? x).bind fun ds => (ints? ds).map fun ns => .int ns.length
def pr2 (l : List Int) : Int × Int := (l.getD 0 0, l.getD 1 0)
/-- a set's value -/
def RS (P : Program) (w : World) (K : PySem.W.Frag) : RT PyData V := fun _ _ fz H _ v d => ∃ a, v = .ref a ∧
  ((∃ (ns : List Int) (S : Int → Bool), d = .list (ns.map PyData.int) ∧ ns.Nodup ∧ (∀ k, S k = true ↔ k ∈ ns) ∧ H a = some (SetO w a S ns.length)) ∨
   (∃ (ps : List (Int × Int)) (L : List (Addr × List Int)), d = .list (ps.map prI) ∧ ps ≠ [] ∧ ps.Nodup ∧ (∀ q ∈ L, pr2 q.2 ∈ ps ∧ q.2 = [(pr2 q.2).1, (pr2 q.2).2] ∧ Rep K fz H (.ref q.1) (prI (pr2 q.2))) ∧ (∀ p ∈ ps, ∃ q ∈ L, pr2 q.2 = p) ∧ H a = some (SetTO P w a L)))
theorem ints_some {ns : List Int} : ints? (ns.map PyData.int) = some ns := ints_map ns
theorem ints_prs {ps : List (Int × Int)} (h : ps ≠ []) : ints? (ps.map prI) = none := by
  cases ps with
  | nil => exact absurd rfl h
  | cons p ps => rfl
/-! ### rules -/
section
variable {X : Cx}
def rSetL (K : PySem.W.Frag) (w : World) : RL := fun xs H Q => ∃ l ns, xs = [V.ref l] ∧ SqL K H l (ns.map V.int) ∧ ns.length ≤ 4000 ∧ ∀ a S, H a = none → (∀ k, S k = true ↔ k ∈ nub ns) → Q (.ref a) (upd H a (SetO w a S (nub ns).length))
theorem setR_count {w : World} {h : Heap} {a : Addr} {S : Int → Bool} {n : Nat} {ns : List Int} (R : SetR w h a S n) (e : ∀ k, S k = true ↔ k ∈ ns) : n = (nub ns).length := by
  obtain ⟨o, es, ep, t, ho, hex, hd, g, nd, hm, hb, hf, hn, _⟩ := R
  have p : (es.toList.map keyOf).Perm (nub ns) := nub_perm nd fun x => (hm x).symm.trans (e x)
  have := p.length_eq
  rw [List.length_map, Array.length_toList] at this
  omega
theorem cr_setL (hc : X.calm = true) : CallR X (.type "set") (rSetL X.K X.w) := by
  intro pins s σ H xs us Q I r h
  obtain ⟨l, ns, rfl, hl, hz, q⟩ := h
  rw [Vals.ref1 r]
  obtain ⟨its, rv, pl, _⟩ := I.list hl
  refine call_set_lstI (P := X.prog) (w := X.w) ns (I.ok.hd hc) pl.isList (by simpa using rv.ints) (by unfold scanBound; omega) fun h' tk c R hcl k => ?_
  have hn : H s.heap.objs.size = none := I.hok.fresh (Nat.le_refl _)
  have ec := setR_count (ns := ns) R (fun k => by simp)
  subst ec
  exact ⟨.ref s.heap.objs.size, upd H s.heap.objs.size (SetO X.w s.heap.objs.size (fun j => decide (j ∈ ns)) (nub ns).length), I.laid (t' := tk) k (Nat.le_refl _) (setO_new R), rfl, q _ _ hn fun k => by rw [mem_nub]; simp⟩
def rSSet (w : World) : RL := fun vs H Q => ∃ (a : Addr) (S : Int → Bool) (n : Nat), vs = [V.ref a] ∧ H a = some (SetO w a S n) ∧
  ∀ (ns : List Int) (p : Addr), ns.Pairwise (· < ·) → (∀ k : Int, k ∈ ns ↔ S k = true) → H p = none → Q (.ref p) (upd H p (.lst (ns.map V.int)))
theorem cr_sset (hc : X.calm = true) : CallR X (.builtin "sorted") (rSSet X.w) := by
  intro pins s σ H vs us Q I r h
  obtain ⟨a, S, n, rfl, ha, q⟩ := h
  have R := setO_get I ha
  rw [Vals.ref1 r]
  obtain ⟨o, es, ep, t, ho, hex, hd, g, nd, hm, hb, hf, hn, hr, hl⟩ := R
  refine Calls.call_function_entry kind_sorted plain_sorted PyProof.Rows.entry_sorted (PyProof.Rows.args_sorted1 _) ?_
  unfold Builtin.«sorted»
  refine wpAny_bind (wpAny_pure ?_)
  refine wpAny_bind (collect_set (A := X.A.in1) (I.ok.hd hc) ⟨o, ho, hex.1, hd⟩ hf hb hr hl fun s1 vs k1 hz g1 o1 pm => ?_)
  have hvl : vs.length = es.size := by rw [pm.length_eq, List.length_map, Array.length_toList]
  have lz : vs.length ≤ sizeLine := by rw [hvl]; exact fits_of_scanBound hb
  have hI : IntsAre vs (vs.map Builtin.Re.reRawOf) := L2.ints_of vs fun v hv => by
    obtain ⟨e, he, q⟩ := List.mem_map.mp (pm.mem_iff.mp hv)
    obtain ⟨k, tk, h1, _⟩ := g e he
    exact ⟨k, tk, by rw [← q]; exact h1⟩
  have pk : (vs.map Builtin.Re.reRawOf).Perm (es.toList.map keyOf) := by
    have q := pm.map Builtin.Re.reRawOf
    rw [List.map_map] at q
    exact q
  refine wpAny_bind (wpAny_newList ?_ lz)
  have oL : (s1.heap.push (seqObj "list" vs.toArray 0)).get? s1.heap.objs.size = some (seqObj "list" vs.toArray 0) := Heap.get?_push_size _ rfl
  refine wpAny_bind (wpAny_holding (wpAny_call_entry PyProof.Rows.slot_list_sort ⟨_, oL, rfl⟩ PyProof.Rows.entry_list_sort
    (SrtO.list_sort_ord SrtO.swo_int oL lz (fun h2 => SrtO.ints_sortable hI h2) fun out h1 h2 => ⟨_, rfl, ?_⟩) (PyProof.Rows.args_list_sort _)))
  obtain ⟨k1', k2, k3⟩ := SrtO.ints_out hI h1 h2
  obtain ⟨ep', he⟩ := PyProof.Rows.sortedHeap_at (vs := vs) (out := out.toArray) oL
  have pn : (out.map SrtO.iv).Perm (es.toList.map keyOf) := k2.trans pk
  have hlen : ((out.map SrtO.iv).map V.int).length ≤ sizeLine := by
    rw [List.length_map, k2.length_eq, List.length_map]
    exact lz
  have hnp : H s1.heap.objs.size = none := I.hok.fresh hz
  have old : ∀ b u, s.heap.get? b = some u → (sortedHeap (s1.heap.push (seqObj "list" vs.toArray 0)) s1.heap.objs.size vs out.toArray).get? b = some u := fun b u e => by
    have q := k1 b u e
    have hlt := Heap.lt_size q
    rw [PyProof.Rows.sortedHeap_old (Nat.ne_of_lt hlt) (by rw [Heap.size_push]; exact Nat.lt_succ_of_lt hlt)]
    exact Heap.get?_push_of_some _ q
  have J : Inv X pins σ (upd H s1.heap.objs.size (.lst ((out.map SrtO.iv).map V.int))) { s with heap := sortedHeap (s1.heap.push (seqObj "list" vs.toArray 0)) s1.heap.objs.size vs out.toArray, gens := s1.gens, drawn := s1.drawn, toks := s1.toks } :=
    I.call (ch := []) (Un.laid old hz hnp) (I.hok.laid old hz ⟨hlen, out, ep', vals_of_ints k1', he⟩) (by rw [g1]; exact I.bare) (fun _ z => nomatch z)
  refine wpAny_pure ⟨_, rfl, ?_⟩
  have e : ({ s1 with heap := sortedHeap (s1.heap.push (seqObj "list" vs.toArray 0)) s1.heap.objs.size vs out.toArray } : Shared) = { s with heap := sortedHeap (s1.heap.push (seqObj "list" vs.toArray 0)) s1.heap.objs.size vs out.toArray, gens := s1.gens, drawn := s1.drawn, toks := s1.toks } := by
    cases s1
    cases s
    cases o1
    rfl
  show EP X pins σ Q _ ({ s1 with heap := sortedHeap (s1.heap.push (seqObj "list" vs.toArray 0)) s1.heap.objs.size vs out.toArray } : Shared)
  rw [e]
  exact ⟨.ref s1.heap.objs.size, _, J, rfl, q _ _ (lt_of_le_nodup _ k3 (pn.nodup_iff.mpr nd)) (fun k => by rw [pn.mem_iff, ← hm k]) hnp⟩
def rLenS (w : World) : RL := fun vs H Q => ∃ (a : Addr) (S : Int → Bool) (n : Nat), vs = [V.ref a] ∧ H a = some (SetO w a S n) ∧ Q (.int n) H
theorem cr_lenS : CallR X (.builtin "len") (rLenS X.w) := by
  intro pins s σ H vs us Q I r h
  obtain ⟨a, S, n, rfl, ha, q⟩ := h
  have R := setO_get I ha
  rw [Vals.ref1 r]
  obtain ⟨o, es, ep, t, ho, hex, hd, g, nd, hm, hb, hf, hn, hr, hl⟩ := R
  unfold scanBound at hb
  exact call_len_set ho hex hd hf (by omega) ⟨.int n, H, (I.tok _).tok _, ⟨_, by rw [hn]⟩, q⟩
end
end PL

/-! PLj: sets in expressions: set(list), sorted(set), len(set). -/
namespace PL
open PySem PySem.Spec L2
open PyProof.Rows hiding St
section
variable {P : Program} {w : World} {c : Cw} {te : TE} {m : M PyData}
theorem RepP.lst? {K : PySem.W.Frag} {fz : Addr → Prop} {H : Hp} {v : V} {x : PyData} {ds : List PyData} (h : RepP K fz H v x) (e : lst? x = some ds) : ∃ a vs, v = .ref a ∧ H a = some (.lst vs) ∧ RepA K fz H vs ds := by
  cases x <;> first | (cases e; done) | skip
  cases e
  exact h.lst
theorem pairs_keys {K : PySem.W.Frag} {fz : Addr → Prop} {H : Hp} : ∀ {vs : List V} {ps : List (Int × Int)}, RepA K fz H vs (ps.map prI) → ∃ ks : List (Addr × List Int), vs = ks.map (fun p => V.ref p.1) ∧ ks.map (fun p => pr2 p.2) = ps ∧ ∀ p ∈ ks, SqT K H p.1 (p.2.map V.int) ∧ p.2 = [(pr2 p.2).1, (pr2 p.2).2] ∧ Rep K fz H (.ref p.1) (prI (pr2 p.2))
  | [], [], _ => ⟨[], rfl, rfl, fun _ h => nomatch h⟩
  | v :: vs, [], r => nomatch r
  | [], p :: ps, r => nomatch r
  | v :: vs, p :: ps, .cons r t => by
    obtain ⟨ks, e1, e2, h⟩ := pairs_keys t
    obtain ⟨a, rfl, sq⟩ := rep_pair r
    refine ⟨(a, [p.1, p.2]) :: ks, by rw [e1]; rfl, by rw [List.map_cons, e2]; rfl, fun q hq => ?_⟩
    rcases List.mem_cons.mp hq with rfl | hq
    · exact ⟨sq, rfl, r⟩
    · exact h q hq
theorem rf_set (h : Rf c (RV c.K) te m) : Rf c (RS P w c.K) (tCB (fun xs H Q => rSetL c.K w xs H Q ∨ rSetOfT c.K P w xs H Q) (tCons te tNil)) (mc1 set? m) := by
  intro pp pr fz σ H ρ Q hp R hq
  refine h pp pr fz σ H ρ _ hp R (hq.bnd fun v x fz1 H1 ρ1 F1 R1 r1 P1 => ?_)
  obtain ⟨z, e, P1⟩ := lftB_post P1
  unfold set? at e
  cases el : lst? x with
  | none => rw [el] at e; cases e
  | some ds =>
  rw [el] at e
  simp only [Option.bind_some] at e
  obtain ⟨a, vs, rfl, ha, ra⟩ := RepP.lst? (Rep.p r1) el
  have new : ∀ {b : Addr} {o : HO}, H1 b = none → Alc fz1 H1 fz1 (upd H1 b o) → True := fun _ _ => trivial
  cases e1 : ints? ds with
  | some ns =>
    rw [e1] at e
    dsimp only at e
    split at e
    · rename_i hz
      cases e
      left
      have ev := ints_rep ra e1
      subst ev
      refine ⟨a, ns, rfl, SqL.of ha, hz, fun b S hb hS => ?_⟩
      have nb : ¬ fz1 b := fun z => R1.fzH b z hb
      have npb : ¬ pr b := fun z => R1.prH b z hb
      have F2 : Fr pr fz1 H1 fz1 (upd H1 b (SetO w b S (nub ns).length)) := ⟨fun _ z => z, fun a z => upd_ne fun q => nb (q ▸ z), fun a z => upd_ne fun q => npb (q ▸ z), fun _ _ z => z⟩
      have nown : ∀ (i : Nat) (x : PyData), ρ1[i]? = some (.own x) → σ[i]? ≠ some (some (V.ref b)) := fun i x e z => by
        obtain ⟨a', s', _, _, o⟩ := R1.own_ne e
        rw [z] at s'
        cases s'
        exact o.some hb
      exact P1 _ fz1 _ F2 (R1.other nb nown) ⟨b, rfl, .inl ⟨nub ns, S, rfl, nub_nodup, hS, upd_same⟩⟩
    · cases e
  | none =>
    rw [e1] at e
    dsimp only at e
    cases e2 : pairs? ds with
    | none => rw [e2] at e; cases e
    | some ps =>
      rw [e2] at e
      simp only [Option.bind_some] at e
      split at e
      · rename_i hz
        cases e
        right
        obtain ⟨ed, _⟩ := pairs_rep ra e2
        subst ed
        obtain ⟨ks, e3, e4, hk⟩ := pairs_keys ra
        subst e3
        have hkl : ks.length = ps.length := by rw [← e4, List.length_map]
        refine ⟨a, ks, rfl, SqL.of ha, fun p hp => (hk p hp).1, by omega, fun b L hb hL1 hL2 => ?_⟩
        have nb : ¬ fz1 b := fun z => R1.fzH b z hb
        have npb : ¬ pr b := fun z => R1.prH b z hb
        have F2 : Fr pr fz1 H1 fz1 (upd H1 b (SetTO P w b L)) := ⟨fun _ z => z, fun a z => upd_ne fun q => nb (q ▸ z), fun a z => upd_ne fun q => npb (q ▸ z), fun _ _ z => z⟩
        have nown : ∀ (i : Nat) (x : PyData), ρ1[i]? = some (.own x) → σ[i]? ≠ some (some (V.ref b)) := fun i x e z => by
          obtain ⟨a', s', _, _, o⟩ := R1.own_ne e
          rw [z] at s'
          cases s'
          exact o.some hb
        have hne : ps ≠ [] := fun z => by rw [z] at e1; cases e1
        refine P1 _ fz1 _ F2 (R1.other nb nown) ⟨b, rfl, .inr ⟨nub ps, L, rfl, fun z => ?_, nub_nodup, fun q hq => ?_, fun p hp => ?_, upd_same⟩⟩
        · obtain ⟨p, ps', rfl⟩ := List.exists_cons_of_ne_nil hne
          have : p ∈ nub (p :: ps') := mem_nub.mpr (by simp)
          rw [z] at this
          cases this
        · obtain ⟨_, h2, h3⟩ := hk q (hL1 q hq)
          refine ⟨?_, h2, Rep.ext F2.ext h3⟩
          rw [mem_nub, ← e4]
          exact List.mem_map_of_mem (hL1 q hq)
        · rw [mem_nub, ← e4] at hp
          obtain ⟨q, hq, rfl⟩ := List.mem_map.mp hp
          obtain ⟨q2, hq2, e5⟩ := List.mem_map.mp (hL2 q hq)
          exact ⟨q2, hq2, by rw [e5]⟩
      · cases e
theorem cr_ssetA {X : Cx} (hc : X.calm = true) : CallR X (.builtin "sorted") (fun vs H Q => rSSet X.w vs H Q ∨ rSortedT X.K X.prog X.w vs H Q) := (cr_sset hc).or (cr_sortedT hc)
theorem cr_setA {X : Cx} (hc : X.calm = true) (hu : X.A.units + 64 < cLine) : CallR X (.type "set") (fun vs H Q => rSetL X.K X.w vs H Q ∨ rSetOfT X.K X.prog X.w vs H Q) := (cr_setL hc).or (cr_setOfT hc hu)
theorem code2 {B x y : Int} : TS.code B [x, y] = x * B + y := by
  have e : B ^ 1 = B := by rw [Int.pow_succ, Int.pow_zero, Int.one_mul]
  simp [TS.code, e]
theorem code_le {B x y x' y' : Int} (h : TS.code B [x, y] ≤ TS.code B [x', y']) (b2 : 0 ≤ y) (b3 : 0 ≤ y') (b4 : y' < B) : x < x' ∨ (x = x' ∧ y ≤ y') := by
  rw [code2, code2] at h
  rcases Int.lt_trichotomy x x' with c | c | c
  · exact .inl c
  · subst c; exact .inr ⟨rfl, by omega⟩
  · have := Int.mul_le_mul_of_nonneg_right (a := x' + 1) (b := x) (c := B) (by omega) (by omega)
    rw [Int.add_mul, Int.one_mul] at this
    omega
theorem bound2 : ∀ ps : List (Int × Int), ∃ B : Int, ∀ p ∈ ps, p.1 < B ∧ p.2 < B
  | [] => ⟨0, fun _ h => nomatch h⟩
  | p :: ps => by
    obtain ⟨B, h⟩ := bound2 ps
    refine ⟨max B (max (p.1 + 1) (p.2 + 1)), fun q hq => ?_⟩
    rcases List.mem_cons.mp hq with rfl | hq
    · omega
    · have := h q hq; omega
theorem rf_ss (h : Rf c (RS P w c.K) te m) : Rf c (RO c.K) (tCB (fun xs H Q => rSSet w xs H Q ∨ rSortedT c.K P w xs H Q) (tCons te tNil)) (mc1 sset? m) := by
  intro pp pr fz σ H ρ Q hp R hq
  refine h pp pr fz σ H ρ _ hp R (hq.bnd fun v x fz1 H1 ρ1 F1 R1 r1 P1 => ?_)
  obtain ⟨z, e, P1⟩ := lftB_post P1
  obtain ⟨a, rfl, hs⟩ := r1
  rcases hs with ⟨ns, S, rfl, hnd, hS, ha⟩ | ⟨ps, L, rfl, hne, hnd, hL1, hL2, ha⟩
  · left
    have e : some (PyData.list ((isort ns).map PyData.int)) = some z := by
      rw [← e]; unfold sset?; show _ = (match ints? (ns.map PyData.int) with | some ns => _ | none => _); rw [ints_some]
    cases e
    refine ⟨a, S, _, rfl, ha, fun ns' p h1 h2 h3 => ?_⟩
    have e2 : ns' = isort ns := sorted_unique (((List.perm_ext_iff_of_nodup (h1.imp (fun h => Int.ne_of_lt h)) hnd).mpr fun k => (h2 k).trans (hS k)).trans (isort_perm ns).symm) (h1.imp Int.le_of_lt) (isort_sorted ns)
    subst e2
    have oc : OwnC c.K fz1 (upd H1 p (.lst ((isort ns).map V.int))) p (.list ((isort ns).map PyData.int)) := ⟨_, upd_same, RepA.of_ints _⟩
    exact ro_new R1 h3 (fun b n => upd_ne n) oc P1
  · right
    have e : (if (ps.all fun p => decide (0 ≤ p.1) && decide (0 ≤ p.2)) = true then some (PyData.list ((psort ps).map prI)) else none) = some z := by
      rw [← e]; unfold sset?; show _ = (match ints? (ps.map prI) with | some ns => _ | none => _); rw [ints_prs hne, pairs_map]; rfl
    split at e
    · rename_i h0
      cases e
      rw [List.all_eq_true] at h0
      have h0' : ∀ p ∈ ps, 0 ≤ p.1 ∧ 0 ≤ p.2 := fun p hp => by have := h0 p hp; simpa using this
      obtain ⟨B, hB⟩ := bound2 ps
      refine ⟨a, L, 2, B, rfl, ha, fun p hp => ?_, by decide, fun p hp => ?_, fun L' p h1 h2 h3 h4 h5 => ?_⟩
      · obtain ⟨_, h6, h7⟩ := hL1 p hp
        obtain ⟨t, et, sq⟩ := rep_pair h7
        cases et
        rw [h6]; exact sq
      · obtain ⟨h6, h7, _⟩ := hL1 p hp
        have b1 := h0' _ h6
        have b2 := hB _ h6
        refine ⟨by rw [h7]; rfl, fun n hn => ?_⟩
        rw [h7] at hn
        simp only [List.mem_cons, List.not_mem_nil, or_false] at hn
        rcases hn with rfl | rfl
        · exact ⟨b1.1, b2.1⟩
        · exact ⟨b1.2, b2.2⟩
      · have hm : ∀ q ∈ L', q ∈ L := fun q hq => h1.mem_iff.mp hq
        have inj : (L'.map fun q => pr2 q.2).Nodup := by
          rw [show (L'.map fun q => pr2 q.2) = (L'.map (·.2)).map pr2 by rw [List.map_map]; rfl]
          refine List.pairwise_map.mpr (List.Pairwise.imp_of_mem (fun {x y} hx hy hne e => hne ?_) h2)
          obtain ⟨q, hq, rfl⟩ := List.mem_map.mp hx
          obtain ⟨q', hq', rfl⟩ := List.mem_map.mp hy
          rw [(hL1 q (hm q hq)).2.1, (hL1 q' (hm q' hq')).2.1, e]
        have pm : (L'.map fun q => pr2 q.2).Perm ps := (List.perm_ext_iff_of_nodup inj hnd).mpr fun p => by
          rw [List.mem_map]
          constructor
          · rintro ⟨q, hq, rfl⟩; exact (hL1 q (hm q hq)).1
          · intro hp
            obtain ⟨q, hq, e⟩ := hL2 p hp
            exact ⟨q, h1.mem_iff.mpr hq, e⟩
        have es : (L'.map fun q => pr2 q.2) = psort ps := by
          refine psort_unique (pm.trans (psort_perm ps).symm) ?_ (psort_sorted ps)
          rw [List.pairwise_map]
          refine List.Pairwise.imp_of_mem (fun {x y} hx hy hle => ?_) h4
          obtain ⟨a1, a2, _⟩ := hL1 x (hm x hx)
          obtain ⟨b1, b2, _⟩ := hL1 y (hm y hy)
          rw [a2, b2] at hle
          rw [leP_iff]
          exact code_le hle (h0' _ a1).2 (h0' _ b1).2 (hB _ b1).2
        have rr : RepA c.K fz1 H1 (L'.map fun q => V.ref q.1) ((psort ps).map prI) := by
          rw [← es]
          have go : ∀ l : List (Addr × List Int), (∀ q ∈ l, q ∈ L) → RepA c.K fz1 H1 (l.map fun q => V.ref q.1) ((l.map fun q => pr2 q.2).map prI) := by
            intro l
            induction l with
            | nil => intro _; exact .nil
            | cons q l ih => intro h; exact .cons (hL1 q (h q (by simp))).2.2 (ih fun q' h' => h q' (by simp [h']))
          exact go L' hm
        have E : Ext fz1 H1 fz1 (upd H1 p (.lst (L'.map fun q => V.ref q.1))) := ⟨fun _ z => z, fun b z => upd_ne fun e => R1.fzH b z (e ▸ h5)⟩
        have oc : OwnC c.K fz1 (upd H1 p (.lst (L'.map fun q => V.ref q.1))) p (.list ((psort ps).map prI)) := ⟨_, upd_same, rr.ext E⟩
        exact ro_new R1 h5 (fun b n => upd_ne n) oc P1
    · cases e
theorem rf_slen (h : Rf c (RS P w c.K) te m) : Rf c (RV c.K) (tCB (rLenS w) (tCons te tNil)) (mc1 slen? m) := by
  intro pp pr fz σ H ρ Q hp R hq
  refine h pp pr fz σ H ρ _ hp R (hq.bnd fun v x fz1 H1 ρ1 F1 R1 r1 P1 => ?_)
  obtain ⟨z, e, P1⟩ := lftB_post P1
  obtain ⟨a, rfl, hs⟩ := r1
  rcases hs with ⟨ns, S, rfl, hnd, hS, ha⟩ | ⟨ps, L, rfl, hne, hnd, hL1, hL2, ha⟩
  · have e : some (PyData.int ns.length) = some z := by
      rw [← e]; unfold slen?; show _ = (ints? (ns.map PyData.int)).map _; rw [ints_some]; rfl
    cases e
    exact ⟨a, S, _, rfl, ha, ok_post P1 R1 (.int _)⟩
  · exfalso
    unfold slen? at e
    have : (ints? (ps.map prI)).map (fun ns : List Int => PyData.int ns.length) = some z := e
    rw [ints_prs hne] at this
    cases this
theorem set_m {ns : List Int} (h : ns.length ≤ 4000) : set? (.list (ns.map PyData.int)) = some (.list ((nub ns).map PyData.int)) := by
  show (match ints? (ns.map PyData.int) with | some ns => _ | none => _) = _
  rw [ints_some]
  exact if_pos h
theorem sset_m {ns : List Int} : sset? (.list (ns.map PyData.int)) = some (.list ((isort ns).map PyData.int)) := by
  show (match ints? (ns.map PyData.int) with | some ns => _ | none => _) = _
  rw [ints_some]
theorem slen_m {ns : List Int} : slen? (.list (ns.map PyData.int)) = some (.int ns.length) := by
  show (ints? (ns.map PyData.int)).map _ = _
  rw [ints_some]; rfl
end
end PL

/-! PLl: list(d.values()), list(range(..)). -/
namespace PL
open PySem PySem.Spec L2
open PyProof.Rows hiding St
section
variable {X : Cx} {o : Expr} {p pos apos mpos : Pos} {td : TE}
def tListVals (td : TE) : TE := fun σ H Q => td σ H fun x H1 => ∃ a kvs, x = V.ref a ∧ H1 a = some (.dK kvs) ∧ ∀ q, H1 q = none → Q (.ref q) (upd H1 q (.lst (kvs.map (·.2))))
theorem kv_vals : ∀ {kvs : List (Key × V)} {vs : List (Key × Value)}, KV kvs vs → Vals (kvs.map (·.2)) (vs.map (·.2)) := by
  intro kvs vs r
  unfold KV at r
  induction r with
  | nil => exact .nil
  | cons h t ih => exact .cons h.2 ih
theorem pe_listVals (hc : X.calm = true) (hg : Gl X "list") (hm : X.mg "list" = none) (hd : PE X o td) (hbase : attributeBase o "values" X.env (eval o X.env) = eval o X.env := by rfl) (hline : (apos.endLine == mpos.line) = true := by rfl)
    (na : starEach [Expr.Call (.Attribute o "values" apos) [] [] mpos] X.env = (false, eval (Expr.Call (.Attribute o "values" apos) [] [] mpos) X.env) :: starEach [] X.env := by rfl) :
    PE X (.Call (.Name "list" p) [.Call (.Attribute o "values" apos) [] [] mpos] [] pos) (tListVals td) := by
  refine ⟨fun pins s σ H Q I h => ?_⟩
  refine Call_ (ld_blt I hg hm boot_list (PyProof.Rows.callWith_type1 (args_cons ?_ na) na))
  refine wpAny_Call_method0_late hbase hline (thn (hd.run pins s σ H _ I h) fun v s1 ⟨x, H1, I1, r1, a, kvs, ex, ha, q⟩ => ?_)
  subst ex
  obtain rfl : v = Value.ref a := r1
  obtain ⟨z, hsys, vs, rel, dof⟩ := (show ObjOk X.prog X.w H1 s1.heap a (.dK kvs) from I1.hok a _ ha)
  obtain ⟨ep, dat⟩ := dof.dictAt
  have dat' := dat
  obtain ⟨ob, es, ho, ex, hdat, hko, hpr, hnd⟩ := dat'
  refine ⟨"dict", "dict.values", F.plainAttrs_dict, F.slot_dict_values, F.type_dict_values, ⟨ob, ho, ex.1⟩, fun b e => ?_, Calls.callWith_builtin rfl (PySem.evalArgs_none ?_)⟩
  · cases e
    exact ⟨ob, ho, ex.2.1⟩
  refine call_meetsIn F.slot_dict_values ⟨ob, ho, ex.1⟩ F.entry_dict_values (F.args_dict_values_1 _) (meets_dict_values (mixKind X.prog X.w) a hsys) ⟨⟨vs, dof⟩, ?_⟩
  have k1 : ∀ b u, s1.heap.get? b = some u → (s1.heap.push { cls := .type "dict_values", data := .fields #[.ref a] }).get? b = some u := fun b u e => Heap.get?_push_of_some _ e
  have dat1 : (s1.heap.push { cls := .type "dict_values", data := .fields #[.ref a] }).DictAt (mixKind X.prog X.w) a vs ep := dat.keep k1
  have hl : kvs.length = vs.length := Paired.length rel
  have I2 : Inv X pins σ H1 { s1 with heap := s1.heap.push { cls := .type "dict_values", data := .fields #[.ref a] } } := I1.kept (t' := s1.toks) k1
  refine args_nil ?_
  refine PySem.W.kdl_call (s := { s1 with heap := s1.heap.push { cls := .type "dict_values", data := .fields #[.ref a] } }) (PySem.W.kdl_values (knd := mixKind X.prog X.w) (kvs := vs) (ep := ep) (r := s1.heap.objs.size) (d := a)) (I2.ok.hd hc) ⟨⟨_, Heap.get?_push_size _ rfl, rfl, rfl⟩, dat1⟩ (by rw [← hl]; exact z) fun h' tk acc' c' hkeep hS hacc => ?_
  have ev : acc'.toList = vs.map (·.2) := PySem.W.kdl_vals_eq acc'.toList (by rw [Array.length_toList]; exact hacc.1) fun j v hv => hacc.2 j v (by rw [← hv, Array.getElem?_toList])
  refine ⟨.ref (s1.heap.push { cls := .type "dict_values", data := .fields #[.ref a] }).objs.size, upd H1 _ (.lst (kvs.map (·.2))), I2.laid hkeep (Nat.le_refl _) (show ObjOk X.prog X.w _ _ _ (.lst (kvs.map (·.2))) from ⟨?_, acc'.toList, c', ?_, ?_⟩), rfl, q _ (I2.hok.fresh (Nat.le_refl _))⟩
  · rw [List.length_map]; exact z
  · rw [ev]; exact kv_vals rel
  · rw [Array.toArray_toList]; exact hS
end
theorem hu64 {k : Nat} {A : Around} (r : Room k A) : A.units + 64 < cLine := by have := hu65 r; omega
/-- list(d.values()) -/
def dvals? : PyData → Option PyData
  | .dict ds => some (.list (ds.map (·.2)))
  | _ => none
/-- list(range(n)) -/
def lrng1? : PyData → Option PyData
  | .int j => if (rOk j && decide (j.toNat ≤ 16777216)) = true then some (.list (rangeL 0 j.toNat)) else none
  | _ => none
section
variable {c : Cw} {ta : TE} {m : M PyData}
theorem repK_vals {K : PySem.W.Frag} {fz : Addr → Prop} {H : Hp} : ∀ {kvs : List (Key × V)} {ds : List (PyData × PyData)}, RepK K fz H kvs ds → RepA K fz H (kvs.map (·.2)) (ds.map (·.2))
  | _, _, .nil => .nil
  | _, _, .cons r t => .cons r (repK_vals t)
theorem rf_dvals {i : Nat} : Rf c (RO c.K) (tListVals (tVar i)) (mc1p dvals? i) := by
  intro pp pr fz σ H ρ Q hp R hq
  unfold mc1p at hq
  cases e : peek i ρ with
  | none => rw [e] at hq; exact hq.elim
  | some x =>
    simp only [e] at hq
    obtain ⟨v, hv, rv⟩ := R.peek e
    obtain ⟨z, e1, P1⟩ := lftB_post hq
    cases x <;> first | (cases e1; done) | skip
    rename_i ds
    cases e1
    obtain ⟨a, kvs, rfl, ha, rk⟩ := rv.dic
    refine ⟨_, hv, a, kvs, rfl, ha, fun q hq => ?_⟩
    have E : Ext fz H fz (upd H q (.lst (kvs.map (·.2)))) := ⟨fun _ z => z, fun b z => upd_ne fun e => R.fzH b z (e ▸ hq)⟩
    have oc : OwnC c.K fz (upd H q (.lst (kvs.map (·.2)))) q (.list (ds.map (·.2))) := ⟨_, upd_same, (repK_vals rk).ext E⟩
    exact ro_new R hq (fun b n => upd_ne n) oc P1
theorem rf_lrng1 (h : Rf c (RV c.K) ta m) : Rf c (RO c.K) (tLstRg (tRg1 ta)) (mc1 lrng1? m) := by
  intro pp pr fz σ H ρ Q hp R hq
  refine h pp pr fz σ H ρ _ hp R (hq.bnd fun v x fz1 H1 ρ1 F1 R1 r1 P1 => ?_)
  obtain ⟨z, e, P1⟩ := lftB_post P1
  cases x <;> first | (cases e; done) | skip
  simp only [lrng1?] at e
  split at e
  · rename_i j h
    cases e
    cases r1
    rw [Bool.and_eq_true, decide_eq_true_eq] at h
    obtain ⟨h1, h2⟩ := rOk_iff h.1
    refine ⟨j, rfl, ⟨by omega, by omega, h1, h2, by have := h.2; omega⟩, fun q hq => ?_⟩
    have e1 : rgV 0 j = ((List.range j.toNat).map fun i : Nat => (0 : Int) + i).map V.int := by unfold rgV; rw [Int.sub_zero, List.map_map]; rfl
    have e2 : rangeL 0 j.toNat = ((List.range j.toNat).map fun i : Nat => (0 : Int) + i).map PyData.int := by unfold rangeL; rw [List.map_map]; rfl
    have oc : OwnC c.K fz1 (upd H1 q (.lst (rgV 0 j))) q (.list (rangeL 0 j.toNat)) := ⟨_, upd_same, by rw [e1, e2]; exact RepA.of_ints _⟩
    exact ro_new R1 hq (fun b n => upd_ne n) oc P1
  · cases e
theorem dvals_d {ds : List (PyData × PyData)} : dvals? (.dict ds) = some (.list (ds.map (·.2))) := rfl
theorem lrng_i {j : Int} : lrng1? (.int j) = if (rOk j && decide (j.toNat ≤ 16777216)) = true then some (.list (rangeL 0 j.toNat)) else none := rfl
end
end PL

/-! PLg: set comprehensions. -/
namespace PL
open PySem PySem.Spec L2
open PyProof.Rows hiding St
abbrev ADT := Addr → V → Hp → (Hp → Prop) → Prop
/-- D.add(y) does what ad says -/
def AddOk (X : Cx) (ad : ADT) : Prop := ∀ {pins : List (Addr × Obj)} {σ : L2.St} {H : Hp} {s : Shared} {E : Value → Shared → Prop} {D : Addr} {y : V} {u : Value} {Nx : Hp → Prop} {Q : Value → Shared → Prop},
  Inv X pins σ H s → RelV y u → ad D y H Nx → (∀ s' H', Inv X pins σ H' s' → Nx H' → Q .none s') → wpAny (model X.prog X.w) X.A (call (.builtin "set.add") [.ref D, u]) Q E s
def tSg (new : Addr → HO) (ad : ADT) (wi : TI) (g : TG) (tt : TT) (te : TE) (vs : List Nat) : TE := fun σ H Q => wi σ H fun J H1 => ∀ D, H1 D = none → ∃ W : Nat → Nat → Hp → Prop, (∃ m, W 0 m (upd H1 D (new D))) ∧ ∀ i m H, W i m H →
  (J.stop i H ∧ Q (.ref D) H) ∨ (J.go i H ∧ ∃ Nx : Hp → Prop, (∀ H', Nx H' → ∃ m', m' < m ∧ W (i + 1) m' H') ∧ ∀ x H', J.yld i H x H' → g x (wipe σ vs) H' fun σ2 H2 => wipe σ2 vs = wipe σ vs ∧ tt σ2 H2 fun b H3 =>
    if b = true then te σ2 H3 fun y H4 => ad D y H4 Nx else Nx H3)
section
variable {X : Cx} {new : Addr → HO} {ad : ADT}
theorem sg_core {pins : List (Addr × Obj)} {s : Shared} {σ : L2.St} {H : Hp} {Q : VK} {elt tg iter : Expr} {ifs : List Expr} {scope : Scope} {own : List (PySem.Str × Nat)} {pos pos' : Pos} {wi : TI} {g : TG} {tt : TT} {te : TE} {use : Option (Value → Sem Unit)} {Qf : Value → Shared → Prop}
    (hnew : ∀ (H : Hp) (h : Heap), ObjOk X.prog X.w H (h.push { cls := .type "set", dict := none, data := .set #[] 0 (.fresh 0 0 (!X.w.params.followText "set-order")) }) h.objs.size (new h.objs.size)) (hadd : ∀ (s : Shared) (H : Hp) (scope : Scope) (ce : PySem.Env) (fp : List Addr), AddOk (X.blk s H scope ce fp) ad) (hc : X.calm = true) (hN : X.N.Nodup) (I : Inv X pins σ H s) (hi : PI X tg iter wi) (ok : BlkOk X.N X.env.scope scope own)
    (hg : ∀ (s : Shared) (H : Hp) (C : Addr) (cl : List (PySem.Str × Addr)) (fp : List Addr), PG (X.blk s H scope (compEnvC scope cl C X.env) fp) tg g) (ht : ∀ (s : Shared) (H : Hp) (C : Addr) (cl : List (PySem.Str × Addr)) (fp : List Addr), PTs (X.blk s H scope (compEnvC scope cl C X.env) fp) ifs tt)
    (he : ∀ (s : Shared) (H : Hp) (C : Addr) (cl : List (PySem.Str × Addr)) (fp : List Addr), PE (X.blk s H scope (compEnvC scope cl C X.env) fp) elt te) (hs : ∀ x, foldedSetIterable iter X.env x = pure x)
    (h : tSg new ad wi g tt te (own.map (·.2)) σ H Q)
    (hRR : ∀ D C s' m H', Inv X pins σ H' s' → Q (.ref D) H' → s'.heap.Ns C m → FpOk X pins H' C → compPost (model X.prog X.w) X.A X.xe use Qf (.ref D) C (.ok .next) s') :
    wpAny (model X.prog X.w) X.A (comprehension (.SetComp elt [⟨tg, iter, ifs, 0⟩] scope pos) scope X.env pos' (newSet (.type "set")) false (eval iter X.env) use) Qf X.xe s := by
  have hfree : ∀ y ∈ scope.names, y.2 = .free → ∃ c, X.env.cells.lookup y.1 = some c := fun y hy e => by
    rcases ok.free y hy e with k | k
    · exact I.ok.has _ (.inl k)
    · exact I.ok.has _ (.inr k)
  refine wpAny_comprehension_free (use := use) rfl hs (closure_ok hfree) ok.kind (fun y hy e => by rw [ok.uniq y hy, e])
    (thn (hi.run pins s σ H _ I h) fun xv s1 hx => thn hx fun itv s2 h2 => ?_)
  obtain ⟨it, fp, tn, J, H2, e, I2, T, st2, f2, q⟩ := h2
  subst e
  refine PpSet.newSet_ok (newEnv_comp ?_)
  generalize hD : s2.heap.objs.size = D
  have hDn : H2 D = none := I2.hok.fresh (Nat.le_of_eq hD)
  obtain ⟨W, ⟨m0, w0⟩, turn⟩ := q D hDn
  -- the new list
  generalize hs3 : ({ s2 with heap := s2.heap.push { cls := .type "set", dict := none, data := .set #[] 0 (.fresh 0 0 (!X.w.params.followText "set-order")) } } : Shared) = s3
  have I3 : Inv X pins σ (upd H2 D (new D)) s3 := by
    rw [← hs3]
    refine I2.laid (t' := s2.toks) (fun b o e => Heap.get?_push_of_some _ e) (Nat.le_of_eq hD) ?_
    rw [← hD]
    exact hnew _ _
  have h3 : s3.heap = s2.heap.push { cls := .type "set", dict := none, data := .set #[] 0 (.fresh 0 0 (!X.w.params.followText "set-order")) } := by rw [← hs3]
  have sz : ∀ b ∈ fp, b < s2.heap.objs.size := fun b hb => by
    obtain ⟨o, e, _⟩ := T.obj _ _ st2 b hb
    exact Heap.lt_size e
  have f3 : ∀ b ∈ fp, FpOk X pins (upd H2 D (new D)) b ∧ b < s3.heap.objs.size := fun b hb => by
    have hlt := sz b hb
    refine ⟨⟨?_, (f2 b hb).2⟩, by rw [h3, Heap.size_push]; exact Nat.lt_succ_of_lt hlt⟩
    rw [upd_ne (by rw [← hD]; exact Nat.ne_of_lt hlt)]
    exact (f2 b hb).1
  have st3 : tn 0 s3.heap := T.keep _ _ _ st2 fun b _ o e => by rw [h3]; exact Heap.get?_push_of_some _ e
  have I4 := block_start I3 ok hN f3
  have pg := hg s3 (upd H2 D (new D)) s3.heap.objs.size (cellsFrom (s3.heap.objs.size + 1) scope.names (cloFrom X.env.cells scope.names [])) fp
  have pt := ht s3 (upd H2 D (new D)) s3.heap.objs.size (cellsFrom (s3.heap.objs.size + 1) scope.names (cloFrom X.env.cells scope.names [])) fp
  have pe := he s3 (upd H2 D (new D)) s3.heap.objs.size (cellsFrom (s3.heap.objs.size + 1) scope.names (cloFrom X.env.cells scope.names [])) fp
  show codeAny _ _ (.compStart (.SetComp elt [⟨tg, iter, ifs, 0⟩] scope pos) 0 (.ref it) (.ref D) (compEnvC scope (cellsFrom (s3.heap.objs.size + 1) scope.names (cloFrom X.env.cells scope.names [])) s3.heap.objs.size X.env)) (compPost (model X.prog X.w) X.A X.xe use Qf (.ref D) s3.heap.objs.size) { s3 with heap := pushCells (s3.heap.push { cls := .type "dict", data := .dict #[] }) scope.names }
  have nfp : ∀ b ∈ fp, (upd H2 D (new D)) b = none := fun b hb => (f3 b hb).1.1
  generalize hce : compEnvC scope (cellsFrom (s3.heap.objs.size + 1) scope.names (cloFrom X.env.cells scope.names [])) s3.heap.objs.size X.env = ce at I4 pg pt pe ⊢
  have cL : ce.locals = s3.heap.objs.size := by subst hce; rfl
  generalize hH3 : upd H2 D (new D) = H3 at I3 I4 pg pt pe w0 nfp f3
  generalize hs4 : ({ s3 with heap := pushCells (s3.heap.push { cls := .type "dict", data := .dict #[] }) scope.names } : Shared) = s4 at I4 ⊢
  have st4 : tn 0 s4.heap := T.keep _ _ _ st3 fun b _ o e => by rw [← hs4]; exact pushCells_keeps _ _ _ _ (Heap.get?_push_of_some _ e)
  have stat : ∀ {σ' : L2.St} {H' : Hp} {s' : Shared}, Inv (X.blk s3 H3 scope ce fp) [] σ' H' s' → (∀ b ∈ fp, H' b = none) → ∀ b ∈ fp, FpOk (X.blk s3 H3 scope ce fp) [] H' b := fun {σ' H' s'} I' hn b hb =>
    ⟨hn b hb, (I'.ok.exf b hb).1, I'.ok.exfs b hb, .inl hb, fun x c e => (I'.ok.exf b hb).2 x c e, fun p hp => absurd (show p ∈ ([] : List (Addr × Obj)) ++ [] from hp) (by simp)⟩
  have loop : codeAny (model X.prog X.w) X.A (.compLoop (.SetComp elt [⟨tg, iter, ifs, 0⟩] scope pos) 0 (.ref it) (.ref D) ce) (compPost (model X.prog X.w) X.A X.xe use Qf (.ref D) s3.heap.objs.size) s4 := by
    refine PpSet.compLoopS_any (fun n s' => ∃ i H', Inv (X.blk s3 H3 scope ce fp) [] (wipe σ (own.map (·.2))) H' s' ∧ tn i s'.heap ∧ (∀ b ∈ fp, H' b = none) ∧ W i n H') ?_ m0 ⟨0, H3, I4, st4, nfp, w0⟩
    rintro n s5 ⟨i, H5, I5, st5, n5, w5⟩
    rcases turn i n H5 w5 with ⟨stop, qq⟩ | ⟨go, Nx, hNx, step⟩
    · have td := T.done (X.blk s3 H3 scope ce fp) rfl rfl rfl hc i [] s5 _ H5 (fun _ _ => False) I5 (stat I5 n5) st5 stop
      refine thnF td fun r s6 ⟨hr, I6⟩ => ?_
      subst hr
      -- back in the def's context
      have I7 : Inv X pins σ H5 s6 := I3.call' (ch := fp) I6.os I6.base I6.hok I6.bare fun b hb => ⟨(f3 b hb).1.2.2.2.1, (f3 b hb).1.2.1, (f3 b hb).1.2.2.2.2.1, (f3 b hb).1.2.2.2.2.2⟩
      have nC : H5 s3.heap.objs.size = none := by
        have z : H5 ce.locals = none := I6.free
        rw [cL] at z
        exact z
      obtain ⟨m, hn, _⟩ := I6.loc
      have hn : s6.heap.Ns ce.locals m := hn
      rw [cL] at hn
      exact hRR D s3.heap.objs.size s6 m H5 I7 qq hn (I3.fpOk (Nat.le_refl _) nC)
    · have ti := T.item (X.blk s3 H3 scope ce fp) rfl rfl rfl hc i [] s5 _ H5 (fun _ _ => False) I5 (stat I5 n5) st5 go
      refine thnF ti fun r s6 ⟨u, hr, h6⟩ => ?_
      subst hr
      refine thnF h6 fun _ s7 ⟨x, H7, I7, r7, y7, st7, n7⟩ => ?_
      have I7' := I7.pinned (stat I7 n7) (T.obj _ _ st7)
      refine thnF (pg.run _ s7 _ H7 x u _ I7' r7 (step x H7 y7)) fun _ s8 ⟨σ8, H8, I8, hw8, q8⟩ => ?_
      refine thnF (pt.run _ s8 σ8 H8 _ I8 q8) fun b s9 ⟨H9, I9, q9⟩ => ?_
      -- the turn's end
      have fin : ∀ {s' : Shared} {H' : Hp}, Inv (X.blk s3 H3 scope ce fp) ([] ++ pinsAt fp s7.heap) σ8 H' s' → Nx H' → ∃ m, m < n ∧ ∃ i H', Inv (X.blk s3 H3 scope ce fp) [] (wipe σ (own.map (·.2))) H' s' ∧ tn i s'.heap ∧ (∀ b ∈ fp, H' b = none) ∧ W i m H' := fun {s' H'} I' nx => by
        obtain ⟨m', hm, w'⟩ := hNx H' nx
        have pin' : ∀ b ∈ fp, ∀ o, s7.heap.get? b = some o → s'.heap.get? b = some o ∧ H' b = none := fun b hb o e =>
          let z := I'.pin (b, o) (List.mem_append_right _ (List.mem_append_right _ (mem_pinsAt hb e)))
          ⟨z.1, z.2.1⟩
        have hl : (wipe σ (own.map (·.2))).length = σ8.length := by rw [← hw8, wipe_length]
        refine ⟨m', hm, i + 1, H', (I'.unpinned (pins := [])).weak hl (fun j v e => ?_), T.keep _ _ _ st7 fun b hb o e => (pin' b hb o e).1, fun b hb => ?_, w'⟩
        · rw [← hw8] at e
          exact (wipe_some e).1
        · obtain ⟨o, e, _⟩ := T.obj _ _ st7 b hb
          exact (pin' b hb o e).2
      cases b with
      | false =>
        simp only [Bool.false_eq_true, if_false] at q9 ⊢
        exact fin I9 q9
      | true =>
        simp only [if_true] at q9 ⊢
        refine thnF (pe.run _ s9 σ8 H9 _ I9 q9) fun z s10 ⟨yv, H10, I10, r10, hq⟩ => ?_
        exact hadd s3 H3 scope ce fp I10 r10 hq fun s11 H11 I11 nx => fin I11 nx
  exact PpSet.codeAny_compStart_set loop (T.self X.A 0 _ _ _ st4 loop)
/-- as a value -/
theorem pe_sg {elt tg iter : Expr} {ifs : List Expr} {scope : Scope} {own : List (PySem.Str × Nat)} {pos : Pos} {wi : TI} {g : TG} {tt : TT} {te : TE} (hnew : ∀ (H : Hp) (h : Heap), ObjOk X.prog X.w H (h.push { cls := .type "set", dict := none, data := .set #[] 0 (.fresh 0 0 (!X.w.params.followText "set-order")) }) h.objs.size (new h.objs.size)) (hadd : ∀ (s : Shared) (H : Hp) (scope : Scope) (ce : PySem.Env) (fp : List Addr), AddOk (X.blk s H scope ce fp) ad) (hc : X.calm = true) (hN : X.N.Nodup) (hi : PI X tg iter wi) (ok : BlkOk X.N X.env.scope scope own)
    (hg : ∀ (s : Shared) (H : Hp) (C : Addr) (cl : List (PySem.Str × Addr)) (fp : List Addr), PG (X.blk s H scope (compEnvC scope cl C X.env) fp) tg g) (ht : ∀ (s : Shared) (H : Hp) (C : Addr) (cl : List (PySem.Str × Addr)) (fp : List Addr), PTs (X.blk s H scope (compEnvC scope cl C X.env) fp) ifs tt)
    (he : ∀ (s : Shared) (H : Hp) (C : Addr) (cl : List (PySem.Str × Addr)) (fp : List Addr), PE (X.blk s H scope (compEnvC scope cl C X.env) fp) elt te) (hs : ∀ x, foldedSetIterable iter X.env x = pure x := by intro _; rfl) :
    PE X (.SetComp elt [⟨tg, iter, ifs, 0⟩] scope pos) (tSg new ad wi g tt te (own.map (·.2))) := by
  refine ⟨fun pins s σ H Q I h => ?_⟩
  rw [PpSet.eval_SetComp]
  refine sg_core hnew hadd hc hN I hi ok hg ht he hs h fun D C s' m H' I' q hn f => ⟨m, hn, fun h'' sb => ?_⟩
  obtain ⟨f0, f1, f2, f3, f4, f5⟩ := f
  exact ⟨.ref D, H', I'.turned (t' := s'.toks) (fun b o hb e => (sb.2 b hb).trans e) f0 f1 f3 f4 f5, rfl, q⟩
end
/-! ### sets of ints -/
def AD1 (w : World) : ADT := fun D y H Nx => ∃ (k : Int) (S : Int → Bool) (n : Nat), y = .int k ∧ H D = some (SetO w D S n) ∧ n + 1 < scanBound ∧ Nx (upd H D (SetO w D (fun j => S j || decide (j = k)) (if S k = true then n else n + 1)))
theorem add_ints {X : Cx} : AddOk X (AD1 X.w) := by
  intro pins σ H s E D y u Nx Q I r h hQ
  obtain ⟨k, S, n, rfl, hD, hz, nx⟩ := h
  obtain ⟨tk, rfl⟩ := r
  have R := setO_get I hD
  refine setR_add R hz fun h' sb new => ?_
  have he : ∃ u, h'.get? D = some u := by
    have ⟨o, _, _, _, ho, _⟩ := new
    exact ⟨o, ho⟩
  exact hQ _ _ (I.write (e := D) (t' := s.toks + 1) (by rw [hD]; trivial) (.inl rfl) (fun b u hb hu => (sb.2 b hb).trans hu) he (setO_new new)) nx
theorem new_ints {P : Program} {w : World} (H : Hp) (h : Heap) : ObjOk P w H (h.push { cls := .type "set", dict := none, data := .set #[] 0 (.fresh 0 0 (!w.params.followText "set-order")) }) h.objs.size (SetO w h.objs.size (fun _ => false) 0) :=
  setO_new ⟨_, #[], 0, _, Heap.get?_push_size _ rfl, ⟨rfl, rfl, rfl⟩, rfl, (fun e he => by simp at he), (by simp), (fun k => by simp), (by decide), (by rfl), rfl, List.Pairwise.nil, by
    show _ ∨ (!w.params.followText "set-order") = true
    cases w.params.followText "set-order"
    · exact .inr rfl
    · exact .inl rfl⟩
/-! ### sets of tuples of ints -/
def AD2 (P : Program) (w : World) (K : PySem.W.Frag) : ADT := fun D y H Nx => ∃ (t : Addr) (ks : List Int) (L : List (Addr × List Int)), y = .ref t ∧ SqT K H t (ks.map V.int) ∧ H D = some (SetTO P w D L) ∧ (∀ p ∈ L, SqT K H p.1 (p.2.map V.int)) ∧ L.length + 1 < 64 ∧
  ∀ L', (ks ∈ L.map (·.2) → L' = L) → (ks ∉ L.map (·.2) → L'.Perm ((t, ks) :: L)) → Nx (upd H D (SetTO P w D L'))
theorem add_tups {X : Cx} (hu : X.A.units + 64 < cLine) : AddOk X (AD2 X.prog X.w X.K) := by
  intro pins σ H s E D y u Nx Q I r h hQ
  obtain ⟨t, ks, L, rfl, ht, hD, hL, hz, nx⟩ := h
  obtain rfl : u = Value.ref t := r
  have R0 : SetT0 X.prog X.w s.heap D L := (I.hok D _ hD).1
  obtain ⟨es, ep, tb, R⟩ := R0.full fun p hp => I.isT (hL p hp)
  have hx : IsT X.prog X.w s.heap ks t := I.isT ht
  obtain ⟨o, ho, hex, hd⟩ := R.ob
  refine wpAny_call_entry F.slot_set_add ⟨o, ho, hex.1⟩ F.entry_set_add ?_ (F.args_set_add_2 _ _)
  unfold Builtin.«set.add» Builtin.Frozenset.oneOther
  simp only [List.isEmpty_nil, bind_assoc]
  unfold Builtin.Frozenset.addrOf setAdd
  refine wpAny_bind (wpAny_pure ?_)
  try dsimp only
  refine wpAny_bind (wpAny_pure ?_)
  try dsimp only
  refine wpAny_bind ?_
  refine wpAny_holding ?_
  refine wpAny_bind (wpAny_pyHash_tuple (by show X.A.in1.units < cLine; unfold Around.in1; simp; omega) hx ?_)
  refine add_at (s := { s with toks := s.toks + (ks.length + 1) }) (R := R) (x := t) (k := ks) hx (by show X.A.in1.units < cLine; unfold Around.in1; simp; omega) hz fun b h' L' es' ep' t' sb R2 c1 c2 => ?_
  have he : ∃ u, h'.get? D = some u := by
    obtain ⟨o, ho, _⟩ := R2.ob
    exact ⟨o, ho⟩
  show wpAny _ _ (ret Value.none) _ _ _
  exact wpAny_pure ⟨_, rfl, hQ _ _ (I.write (e := D) (t' := s.toks + (ks.length + 1)) (by rw [hD]; trivial) (.inl rfl) (fun b u hb hu => (sb.2 b hb).trans hu) he (setTO_new R2.t0)) (nx L' c1 c2)⟩
theorem new_tups {P : Program} {w : World} (H : Hp) (h : Heap) : ObjOk P w H (h.push { cls := .type "set", dict := none, data := .set #[] 0 (.fresh 0 0 (!w.params.followText "set-order")) }) h.objs.size (SetTO P w h.objs.size []) :=
  setTO_new (setTR_fresh (Heap.get?_push_size _ rfl)).t0
end PL

/-! PLm: the set of a comprehension is the set of its list. -/
namespace PL
open PySem PySem.Spec L2
open PyProof.Rows hiding St
theorem compL_pre {asg : Asg} {test : M Bool} {elt : M PyData} {vs : List Nat} : ∀ {ds : List PyData} {ρ : Env} {acc : List PyData} {d : PyData} {ρF : Env}, compL asg test elt vs ds ρ acc = .ok d ρF → ∃ more, d = .list (acc ++ more)
  | [], ρ, acc, d, ρF, e => by unfold compL at e; cases e; exact ⟨[], by simp⟩
  | x :: ds, ρ, acc, d, ρF, e => by
    unfold compL at e
    cases ea : asg x ρ with
    | none => simp only [ea] at e; cases e
    | some ρ1 =>
      simp only [ea] at e
      cases et : test ρ1 with
      | bad => simp only [et] at e; cases e
      | exc y r => simp only [et] at e; cases e
      | ok b ρ2 =>
        simp only [et] at e
        split at e
        · cases ee : elt ρ2 with
          | bad => simp only [ee] at e; cases e
          | exc y r => simp only [ee] at e; cases e
          | ok y ρ3 =>
            simp only [ee] at e
            split at e
            · obtain ⟨more, h⟩ := compL_pre e
              exact ⟨y :: more, by rw [h]; simp⟩
            · cases e
        · exact compL_pre e
section
variable {c : Cw} {wi : TI} {g : TG} {tt : TT} {te : TE} {items : M (List PyData)} {asg : Asg} {test : M Bool} {elt : M PyData} {vs ts : List Nat} {new : Addr → HO} {ad : ADT}
theorem rf_sgG (hi : Rf c (RIt c.K) wi items) (hg : RfG c.calm0 ts g asg) (ht : Rf c.calm0 RB tt test) (he : Rf c.calm0 (RV c.K) te elt) (hts : ∀ i ∈ ts, i ∈ vs) (hvs : ∀ i ∈ vs, i ∉ c.ps) (fin : List PyData)
    (Sta : (Addr → Prop) → Hp → Addr → List PyData → Prop) (hnew : ∀ fz H D, H D = none → Sta fz (upd H D (new D)) D [])
    (hext : ∀ fz H fz' H' D acc, Ext fz H fz' H' → H' D = H D → Sta fz H D acc → Sta fz' H' D acc)
    (hstep : ∀ fz H D acc y w (Nx : Hp → Prop), Sta fz H D acc → (acc ++ [y]) <+: fin → Rep c.K fz H w y → ¬ fz D → (∀ o, Sta fz (upd H D o) D (acc ++ [y]) → Nx (upd H D o)) → ad D w H Nx)
    {pp : List (Nat × Addr)} {pr fz : Addr → Prop} {σ : L2.St} {H : Hp} {ρ ρ' : Env} {Q : VK} (hp : pp.map (·.1) = c.ps) (R : Rel c.K pp pr fz σ H ρ) (e : mlc items asg test elt vs ρ = .ok (.list fin) ρ')
    (hq : ∀ D fz' H', Fr pr fz H fz' H' → Rel c.K pp pr fz' σ H' ρ' → Sta fz' H' D fin → Q (.ref D) H') : tSg new ad wi g tt te vs σ H Q := by
  unfold mlc bnd at e
  refine hi pp pr fz σ H ρ _ hp R ?_
  cases ei : items ρ with
  | bad => rw [ei] at e; cases e
  | exc x r => rw [ei] at e; cases e
  | ok ds ρ1 =>
  simp only [ei] at e
  intro J fz1 H1 F1 R1 J1 D hD
  cases eo : compL asg test elt vs ds (wipeE ρ1 vs) [] with
  | bad => rw [eo] at e; cases e
  | exc x r => rw [eo] at e; cases e
  | ok dF ρF =>
  rw [eo] at e
  obtain ⟨rfl, rfl⟩ : dF = .list fin ∧ unw ρ1 ρF vs = ρ' := by cases e; exact ⟨rfl, rfl⟩
  have hvp : ∀ i ∈ vs, i ∉ pp.map (·.1) := fun i h => by rw [hp]; exact hvs i h
  have nD : ¬ fz1 D := fun z => R1.fzH D z hD
  have npD : ¬ pr D := fun z => R1.prH D z hD
  let prD : Addr → Prop := fun a => pr a ∨ a = D
  let W : Nat → Nat → Hp → Prop := fun i m H2 => m = ds.length - i ∧ i ≤ ds.length ∧ ∃ (fz2 : Addr → Prop) (ρ2 : Env) (acc : List PyData), Fr pr fz1 H1 fz2 H2 ∧ Rel c.K pp prD fz2 (wipe σ vs) H2 ρ2 ∧ ¬ fz2 D ∧ H2 D ≠ none ∧ Sta fz2 H2 D acc ∧
    compL asg test elt vs (ds.drop i) ρ2 acc = .ok (.list fin) ρF
  refine ⟨W, ⟨_, rfl, Nat.zero_le _, fz1, wipeE ρ1 vs, [], ?_, ?_, nD, by rw [upd_same]; simp, hnew _ _ _ hD, by rw [List.drop_zero]; exact eo⟩, fun i m H2 hW => ?_⟩
  · exact ⟨fun _ z => z, fun a z => upd_ne fun q => nD (q ▸ z), fun a z => upd_ne fun q => npD (q ▸ z), fun _ _ z => z⟩
  · have Rw := R1.wipe hvp
    have ns : ∀ (i : Nat) (x : PyData), (wipeE ρ1 vs)[i]? = some (.own x) → (wipe σ vs)[i]? ≠ some (some (V.ref D)) := fun i x e z => by
      obtain ⟨a, s, _, _, o⟩ := Rw.own_ne e
      rw [z] at s
      cases s
      exact o.some hD
    exact (Rw.other nD ns).wide (by rw [upd_same]; simp) ns
  · obtain ⟨rfl, hil, fz2, ρ2, acc, F2, R2, nf2, hD2, ra, ec⟩ := hW
    have nown : ∀ {fz3 : Addr → Prop} {σ3 : L2.St} {H3 : Hp} {ρ3 : Env}, Rel c.K pp prD fz3 σ3 H3 ρ3 → ∀ (i : Nat) (x : PyData), ρ3[i]? = some (.own x) → σ3[i]? ≠ some (some (V.ref D)) := fun R3 i x e z => by
      obtain ⟨a, s, _, np, o⟩ := R3.own_ne e
      rw [z] at s
      cases s
      exact np (.inr rfl)
    by_cases hlt : i < ds.length
    · obtain ⟨go, yld⟩ := (J1 fz2 H2 F2.ext R2.fzH i).1 ds[i] (List.getElem?_eq_getElem hlt)
      rw [List.drop_eq_getElem_cons hlt] at ec
      unfold compL at ec
      refine .inr ⟨go, W (i + 1) (ds.length - (i + 1)), fun H' h => ⟨_, by omega, h⟩, fun x H3 hx => ?_⟩
      obtain ⟨fz3, A3, r3⟩ := yld x H3 hx
      have R3 := A3.rel R2
      have F3 := A3.fr R2
      cases ea : asg ds[i] ρ2 with
      | none => rw [ea] at ec; cases ec
      | some ρ3 =>
        simp only [ea] at ec
        refine hg pp prD fz3 (wipe σ vs) H3 ρ2 ρ3 x ds[i] _ hp R3 r3 ea fun σ4 R4 l4 k4 => ?_
        have w4 : wipe σ4 vs = wipe σ vs := wipe_congr (l4.trans (wipe_length σ vs)) fun j hj => (k4 j fun z => hj (hts j z)).trans (wipe_out hj)
        refine ⟨w4, ?_⟩
        cases et : test ρ3 with
        | bad => simp only [et] at ec; cases ec
        | exc x r => simp only [et] at ec; cases ec
        | ok b ρ5 =>
          simp only [et] at ec
          refine ht pp prD fz3 σ4 H3 ρ3 _ hp R4 ?_
          rw [et]
          intro b' fz5 H5 F5 R5 hb
          obtain rfl : b' = b := hb
          have e35 : H5 D = H2 D := by rw [F5.keepP D (.inr rfl), F3.keepP D (.inr rfl)]
          cases b' with
          | false =>
            rw [if_neg (by simp)] at ec ⊢
            have R6 := R5.wipe hvp
            rw [w4] at R6
            exact ⟨rfl, hlt, fz5, _, acc, F2.trans ((F3.trans F5).narrow fun a z => .inl z), R6, fun z => nf2 (F3.new D (.inr rfl) (F5.new D (.inr rfl) z)), by rw [e35]; exact hD2, hext _ _ _ _ _ _ (F3.trans F5).ext e35 ra, ec⟩
          | true =>
            rw [if_pos rfl] at ec ⊢
            cases ee : elt ρ5 with
            | bad => simp only [ee] at ec; cases ec
            | exc x r => simp only [ee] at ec; cases ec
            | ok y ρ6 =>
              simp only [ee] at ec
              split at ec
              · rename_i hlen
                refine he pp prD fz5 σ4 H5 ρ5 _ hp R5 ?_
                rw [ee]
                intro w fz6 H6 F6 R6 rw6
                have e36 : H6 D = H2 D := by rw [F6.keepP D (.inr rfl), e35]
                have nf6 : ¬ fz6 D := fun z => nf2 (F3.new D (.inr rfl) (F5.new D (.inr rfl) (F6.new D (.inr rfl) z)))
                have ra6 := hext _ _ _ _ _ _ ((F3.trans F5).trans F6).ext e36 ra
                have R7 := R6.wipe hvp
                rw [w4] at R7
                obtain ⟨more, em⟩ := compL_pre ec
                have pre : (acc ++ [y]) <+: fin := ⟨more, by cases em; rfl⟩
                refine hstep fz6 H6 D acc y w _ ra6 pre rw6 nf6 fun o hs => ?_
                refine ⟨rfl, hlt, fz6, _, acc ++ [y], ?_, R7.other nf6 (nown R7), nf6, by rw [upd_same]; simp, hs, ec⟩
                have F := F2.trans (((F3.trans F5).trans F6).narrow fun a z => Or.inl z)
                exact ⟨F.mono, fun a z => (upd_ne fun q => nf6 (by rw [← q]; exact F.mono a z)).trans (F.keep a z), fun a z => (upd_ne fun q => npD (by rw [← q]; exact z)).trans (F.keepP a z), F.new⟩
              · cases ec
    · have e : i = ds.length := by omega
      subst e
      rw [List.drop_length] at ec
      unfold compL at ec
      obtain ⟨rfl, rfl⟩ : acc = fin ∧ ρ2 = ρF := by cases ec; exact ⟨rfl, rfl⟩
      refine .inl ⟨(J1 fz2 H2 F2.ext R2.fzH _).2 (Nat.le_refl _), ?_⟩
      have Rn : Rel c.K pp pr fz2 (wipe σ vs) H2 ρ2 := R2.narrow fun a z => .inl z
      have Ru := R1.unw Rn F2 hvp
      exact hq D fz2 H2 (F1.trans F2) Ru ra
/-! ### the two kinds -/
theorem pairs_of : ∀ {ds : List PyData} {ps : List (Int × Int)}, pairs? ds = some ps → ds = ps.map prI
  | [], ps, e => by cases e; rfl
  | d :: ds, ps, e => by
    unfold pairs? at e
    cases e1 : pair? d with
    | none => rw [e1] at e; cases e
    | some p =>
      rw [e1] at e
      simp only [Option.bind_some] at e
      cases e2 : pairs? ds with
      | none => rw [e2] at e; cases e
      | some qs =>
        rw [e2] at e
        cases e
        rw [List.map_cons, ← pairs_of e2]
        congr 1
        unfold pair? at e1
        split at e1
        · cases e1; rfl
        · cases e1
def StI (w : World) : (Addr → Prop) → Hp → Addr → List PyData → Prop := fun _ H D acc => ∃ (ns : List Int) (S : Int → Bool), acc = ns.map PyData.int ∧ (∀ k, S k = true ↔ k ∈ ns) ∧ H D = some (SetO w D S (nub ns).length)
def StP (P : Program) (w : World) (K : PySem.W.Frag) : (Addr → Prop) → Hp → Addr → List PyData → Prop := fun fz H D acc => ∃ (ps : List (Int × Int)) (L : List (Addr × List Int)), acc = ps.map prI ∧ L.length ≤ ps.length ∧
  (∀ q ∈ L, pr2 q.2 ∈ ps ∧ q.2 = [(pr2 q.2).1, (pr2 q.2).2] ∧ Rep K fz H (.ref q.1) (prI (pr2 q.2))) ∧ (∀ p ∈ ps, ∃ q ∈ L, pr2 q.2 = p) ∧ H D = some (SetTO P w D L)
theorem nub_snoc {α : Type} [DecidableEq α] {l : List α} {x : α} : (nub (l ++ [x])).length = if x ∈ l then (nub l).length else (nub l).length + 1 := by
  split
  · rename_i h
    have p : (nub l).Perm (nub (l ++ [x])) := nub_perm nub_nodup fun y => by
      rw [mem_nub, List.mem_append, List.mem_singleton]
      constructor
      · exact .inl
      · rintro (h1 | rfl)
        · exact h1
        · exact h
    exact p.length_eq.symm
  · rename_i h
    have p : (x :: nub l).Perm (nub (l ++ [x])) := nub_perm (List.nodup_cons.mpr ⟨fun z => h (mem_nub.mp z), nub_nodup⟩) fun y => by
      rw [List.mem_cons, mem_nub, List.mem_append, List.mem_singleton]
      exact Or.comm
    exact p.length_eq.symm
theorem map_pre {α β : Type} {f : α → β} {xs : List α} {l : List β} {y : β} (h : (l ++ [y]) <+: xs.map f) : ∃ x, y = f x ∧ x ∈ xs ∧ l.length < xs.length := by
  obtain ⟨t, e⟩ := h
  have hl := congrArg List.length e
  simp at hl
  have h1 : (xs.map f)[l.length]? = some y := by rw [← e]; simp
  rw [List.getElem?_map] at h1
  obtain ⟨x, h2, rfl⟩ := Option.map_eq_some_iff.mp h1
  exact ⟨x, rfl, List.mem_of_getElem? h2, by omega⟩
theorem rf_sg {P : Program} {w : World} (hi : Rf c (RIt c.K) wi items) (hg : RfG c.calm0 ts g asg) (ht : Rf c.calm0 RB tt test) (he : Rf c.calm0 (RV c.K) te elt) (hts : ∀ i ∈ ts, i ∈ vs) (hvs : ∀ i ∈ vs, i ∉ c.ps) :
    Rf c (RS P w c.K) (fun σ H Q => tSg (fun D => SetO w D (fun _ => false) 0) (AD1 w) wi g tt te vs σ H Q ∨ tSg (fun D => SetTO P w D []) (AD2 P w c.K) wi g tt te vs σ H Q) (mc1 set? (mlc items asg test elt vs)) := by
  intro pp pr fz σ H ρ Q hp R hq
  unfold mc1 bnd at hq
  cases e : mlc items asg test elt vs ρ with
  | bad => rw [e] at hq; exact hq.elim
  | exc x r =>
    rw [e] at hq
    unfold mlc bnd at e
    left
    refine hi pp pr fz σ H ρ _ hp R ?_
    cases ei : items ρ with
    | bad => rw [ei] at e; cases e
    | exc x' r' => rw [ei] at e; cases e; exact hq
    | ok ds ρ1 =>
      exfalso
      rw [ei] at e
      dsimp only at e
      split at e <;> cases e
  | ok x ρ' =>
  rw [e] at hq
  obtain ⟨z, ez, P1⟩ := lftB_post hq
  unfold set? at ez
  cases el : lst? x with
  | none => rw [el] at ez; cases ez
  | some fin =>
  have ex : x = .list fin := by cases x <;> first | (cases el; done) | (cases el; rfl)
  subst ex
  rw [el] at ez
  simp only [Option.bind_some] at ez
  cases e1 : ints? fin with
  | some ns =>
    rw [e1] at ez
    dsimp only at ez
    split at ez
    · rename_i hz
      cases ez
      left
      have ef := ints_of e1
      subst ef
      refine rf_sgG hi hg ht he hts hvs (ns.map PyData.int) (StI w) (fun fz H D hD => ⟨[], _, rfl, fun k => by simp, upd_same⟩) (fun fz H fz' H' D acc E k hs => ?_) (fun fz H D acc y v Nx hs pre r nf nx => ?_) hp R e (fun D fz' H' F R' hs => ?_)
      · obtain ⟨ns', S, h1, h2, h3⟩ := hs
        exact ⟨ns', S, h1, h2, k.trans h3⟩
      · obtain ⟨ns', S, rfl, h2, h3⟩ := hs
        obtain ⟨k, rfl, hk, hl⟩ := map_pre pre
        cases r
        rw [List.length_map] at hl
        have := nub_len (l := ns')
        refine ⟨k, S, _, rfl, h3, by unfold scanBound; omega, nx _ ⟨ns' ++ [k], fun j => S j || decide (j = k), by simp, fun j => ?_, ?_⟩⟩
        · rw [Bool.or_eq_true, h2, List.mem_append, List.mem_singleton, decide_eq_true_eq]
        · rw [upd_same, nub_snoc]
          have : (S k = true) = (k ∈ ns') := propext (h2 k)
          simp only [this]
      · obtain ⟨ns', S, h1, h2, h3⟩ := hs
        have : ns' = ns := by
          have := congrArg ints? h1
          rw [ints_some, ints_some] at this
          exact (Option.some.inj this).symm
        subst this
        exact P1 _ fz' H' F R' ⟨D, rfl, .inl ⟨nub ns', S, rfl, nub_nodup, fun k => (h2 k).trans mem_nub.symm, h3⟩⟩
    · cases ez
  | none =>
    rw [e1] at ez
    dsimp only at ez
    cases e2 : pairs? fin with
    | none => rw [e2] at ez; cases ez
    | some ps =>
      rw [e2] at ez
      simp only [Option.bind_some] at ez
      split at ez
      · rename_i hz
        cases ez
        right
        have ef := pairs_of e2
        subst ef
        have hne : ps ≠ [] := fun z => by rw [z] at e1; cases e1
        refine rf_sgG hi hg ht he hts hvs (ps.map prI) (StP P w c.K) (fun fz H D hD => ⟨[], [], rfl, Nat.le_refl _, by simp, by simp, upd_same⟩) (fun fz H fz' H' D acc E k hs => ?_) (fun fz H D acc y v Nx hs pre r nf nx => ?_) hp R e (fun D fz' H' F R' hs => ?_)
        · obtain ⟨ps', L, h1, h2, h3, h4, h5⟩ := hs
          exact ⟨ps', L, h1, h2, fun q hq => ⟨(h3 q hq).1, (h3 q hq).2.1, Rep.ext E (h3 q hq).2.2⟩, h4, k.trans h5⟩
        · obtain ⟨ps', L, rfl, h2, h3, h4, h5⟩ := hs
          obtain ⟨p, rfl, hk, hl⟩ := map_pre pre
          rw [List.length_map] at hl
          obtain ⟨t, rfl, sq⟩ := rep_pair r
          refine ⟨t, [p.1, p.2], L, rfl, sq, h5, fun q hq => ?_, by omega, fun L' c1 c2 => nx _ ?_⟩
          · obtain ⟨_, g2, g3⟩ := h3 q hq
            obtain ⟨t', et, sq'⟩ := rep_pair g3
            cases et
            rw [g2]; exact sq'
          · have E : Ext fz H fz (upd H D (SetTO P w D L')) := ⟨fun _ z => z, fun a z => upd_ne fun q => nf (q ▸ z)⟩
            have hLp : ∀ q ∈ L', (q ∈ L ∨ q = (t, [p.1, p.2])) ∧ (∀ q ∈ L, q ∈ L') ∧ L'.length ≤ L.length + 1 := fun q hq => by
              by_cases hm : [p.1, p.2] ∈ L.map (·.2)
              · have := c1 hm; subst this
                exact ⟨.inl hq, fun _ h => h, by omega⟩
              · have pm := c2 hm
                refine ⟨?_, fun q h => pm.mem_iff.mpr (List.mem_cons_of_mem _ h), by rw [pm.length_eq]; simp⟩
                rcases List.mem_cons.mp (pm.mem_iff.mp hq) with h | h
                · exact .inr h
                · exact .inl h
            have hp' : ∃ q ∈ L', pr2 q.2 = p := by
              by_cases hm : [p.1, p.2] ∈ L.map (·.2)
              · obtain ⟨q, hq, e⟩ := List.mem_map.mp hm
                rw [c1 hm]
                exact ⟨q, hq, by rw [e]; rfl⟩
              · exact ⟨(t, [p.1, p.2]), (c2 hm).mem_iff.mpr (by simp), rfl⟩
            obtain ⟨q0, hq0, e0⟩ := hp'
            refine ⟨ps' ++ [p], L', by simp, by have := (hLp q0 hq0).2.2; simp; omega, fun q hq => ?_, fun x hx => ?_, upd_same⟩
            · rcases (hLp q hq).1 with h | h
              · obtain ⟨g1, g2, g3⟩ := h3 q h
                exact ⟨List.mem_append_left _ g1, g2, Rep.ext E g3⟩
              · subst h
                exact ⟨by simp [pr2], rfl, Rep.ext E r⟩
            · rcases List.mem_append.mp hx with h | h
              · obtain ⟨q, hq, e⟩ := h4 x h
                exact ⟨q, (hLp q0 hq0).2.1 q hq, e⟩
              · rw [List.mem_singleton.mp h]; exact ⟨q0, hq0, e0⟩
        · obtain ⟨ps', L, h1, h2, h3, h4, h5⟩ := hs
          have : ps' = ps := by
            have := congrArg pairs? h1
            rw [pairs_map, pairs_map] at this
            exact (Option.some.inj this).symm
          subst this
          refine P1 _ fz' H' F R' ⟨D, rfl, .inr ⟨nub ps', L, rfl, fun z => ?_, nub_nodup, fun q hq => ?_, fun p hp => h4 p (mem_nub.mp hp), h5⟩⟩
          · obtain ⟨p, ps'', rfl⟩ := List.exists_cons_of_ne_nil hne
            have : p ∈ nub (p :: ps'') := mem_nub.mpr (by simp)
            rw [z] at this
            cases this
          · exact ⟨mem_nub.mpr (h3 q hq).1, (h3 q hq).2⟩
      · cases ez
end
section
variable {X : Cx}
theorem pe_sgA {elt tg iter : Expr} {ifs : List Expr} {scope : Scope} {own : List (PySem.Str × Nat)} {pos : Pos} {wi : TI} {g : TG} {tt : TT} {te : TE} (hu : X.A.units + 64 < cLine) (hc : X.calm = true) (hN : X.N.Nodup) (hi : PI X tg iter wi) (ok : BlkOk X.N X.env.scope scope own)
    (hg : ∀ (s : Shared) (H : Hp) (C : Addr) (cl : List (PySem.Str × Addr)) (fp : List Addr), PG (X.blk s H scope (compEnvC scope cl C X.env) fp) tg g) (ht : ∀ (s : Shared) (H : Hp) (C : Addr) (cl : List (PySem.Str × Addr)) (fp : List Addr), PTs (X.blk s H scope (compEnvC scope cl C X.env) fp) ifs tt)
    (he : ∀ (s : Shared) (H : Hp) (C : Addr) (cl : List (PySem.Str × Addr)) (fp : List Addr), PE (X.blk s H scope (compEnvC scope cl C X.env) fp) elt te) (hs : ∀ x, foldedSetIterable iter X.env x = pure x := by intro _; rfl) :
    PE X (.SetComp elt [⟨tg, iter, ifs, 0⟩] scope pos) (fun σ H Q => tSg (fun D => SetO X.w D (fun _ => false) 0) (AD1 X.w) wi g tt te (own.map (·.2)) σ H Q ∨ tSg (fun D => SetTO X.prog X.w D []) (AD2 X.prog X.w X.K) wi g tt te (own.map (·.2)) σ H Q) :=
  ⟨fun pins s σ H Q I h => h.elim (fun h => (pe_sg (new := fun D => SetO X.w D (fun _ => false) 0) (ad := AD1 X.w) new_ints (fun s H sc ce fp => add_ints (X := X.blk s H sc ce fp)) hc hN hi ok hg ht he hs).run pins s σ H Q I h)
    (fun h => (pe_sg (new := fun D => SetTO X.prog X.w D []) (ad := AD2 X.prog X.w X.K) new_tups (fun s H sc ce fp => add_tups (X := X.blk s H sc ce fp) hu) hc hN hi ok hg ht he hs).run pins s σ H Q I h)⟩
end
end PL

/-! PLn: sets of lists in which few pairs are different. -/
namespace PL
open PySem PySem.Spec L2 PyProof.Rows
theorem nodup_len {α : Type} [DecidableEq α] : ∀ (l D : List α), l.Nodup → (∀ x ∈ l, x ∈ D) → l.length ≤ D.length
  | [], _, _, _ => Nat.zero_le _
  | x :: l, D, hn, hs => by
    obtain ⟨h1, h2⟩ := List.nodup_cons.mp hn
    have hx : x ∈ D := hs x List.mem_cons_self
    have ih := nodup_len l (D.erase x) h2 fun y hy => by
      have hne : y ≠ x := fun e => h1 (e ▸ hy)
      exact (List.mem_erase_of_ne hne).2 (hs y (List.mem_cons_of_mem _ hy))
    have e := List.length_erase_of_mem hx
    have hp : 0 < D.length := List.length_pos_of_mem hx
    rw [List.length_cons]
    omega
theorem nub_cover {L ks : List (Addr × List Int)} (h : (L.map (·.2)).Nodup) (hs : ∀ p ∈ L, p ∈ ks) : L.length ≤ (nub (ks.map (·.2))).length := by
  have := nodup_len (L.map (·.2)) (nub (ks.map (·.2))) h fun x hx => by
    obtain ⟨p, hp, rfl⟩ := List.mem_map.mp hx
    exact mem_nub.mpr (List.mem_map_of_mem (hs p hp))
  rwa [List.length_map] at this
section
variable {P : Program} {w : World} {A : Around} {E : Value → Shared → Prop} {s : Shared}
theorem set_updN {I : Addr} {fp wr : List Addr} {G : Array GenState → Array GenState → Prop} {n : Nat} {Pv : Nat → Value → Prop} {St : Nat → Shared → Prop} {R : Result → Shared → Prop}
    (W : WalksS P w A.in1 I fp wr G n Pv St) (S : Addr) (hSf : S ∉ fp) (ks : List (Addr × List Int)) (hn : n = ks.length) (hfew : (nub (ks.map (·.2))).length + 1 < 64) (hval : ∀ i v, Pv i v → ∃ p, ks[i]? = some p ∧ v = .ref p.1)
    (h0 : Heap) (hk : ∀ p ∈ ks, IsT P w h0 p.2 p.1) (hS0 : h0.get? S = none) (hw0 : ∀ b ∈ wr, h0.get? b = none) (hu : A.in1.units < cLine) :
    ∀ (k i : Nat) (s : Shared), n - i = k → i ≤ n → St i s → (∀ b o, h0.get? b = some o → s.heap.get? b = some o) → (∃ L es ep t, SetTR P w s.heap S L es ep t ∧ Got ks i L) →
      (∀ s' L es ep t, Moved (S :: wr) G s s' → SetTR P w s'.heap S L es ep t → Got ks n L → (∀ b o, h0.get? b = some o → s'.heap.get? b = some o) → R (.ok (.ret .none)) s') →
      codeAny (model P w) A (.builtin "set.update.loop" ⟨[.ref S, .ref I], []⟩) R s := by
  have hSw : S ∉ wr := fun h => hSf (W.sub _ h)
  have hsub : ∀ b ∈ wr, b ∈ S :: wr := fun b hb => List.mem_cons_of_mem _ hb
  have keepM : ∀ {s s' : Shared}, Moved wr G s s' → (∀ b o, h0.get? b = some o → s.heap.get? b = some o) → ∀ b o, h0.get? b = some o → s'.heap.get? b = some o := fun hm hkp b o e =>
    hm.heap b o (fun hb => by rw [hw0 b hb] at e; cases e) (hkp b o e)
  intro k
  induction k with
  | zero =>
    intro i s hk' hi hst hkp ⟨L, es, ep, t, hS, g⟩ hR
    have hin : i = n := by omega
    subst hin
    refine codeAny_builtin F.entry_set_update_loop ?_
    rw [Around.under_plainId F.plain_set_update_loop _]
    show wpAny _ A.in1 (pyNext (.ref I) >>= _) _ _ s
    refine wpAny_bind (W.done s _ _ hst fun s' hm => ?_)
    show wpAny _ A.in1 (ret Value.none) _ _ s'
    have hkp' := keepM hm hkp
    have sub : ∀ p ∈ L, p ∈ ks := fun p hp => List.mem_of_mem_take (g.sub p hp)
    exact wpAny_pure (hR s' L es ep t (hm.mono hsub) (hS.keep (fun o e => hm.heap S o hSw e) fun p hp => isT_keep (hk p (sub p hp)) hkp') g hkp')
  | succ k ih =>
    intro i s hk' hi hst hkp ⟨L, es, ep, t, hS, g⟩ hR
    have hlt : i < n := by omega
    refine codeAny_builtin F.entry_set_update_loop ?_
    rw [Around.under_plainId F.plain_set_update_loop _]
    show wpAny _ A.in1 (pyNext (.ref I) >>= _) _ _ s
    refine wpAny_bind (W.item i s _ _ hlt hst fun v s' hP hst' hm => ?_)
    obtain ⟨p, hp, rfl⟩ := hval i v hP
    have hkp' := keepM hm hkp
    have sub : ∀ p ∈ L, p ∈ ks := fun p hp => List.mem_of_mem_take (g.sub p hp)
    have hS' : SetTR P w s'.heap S L es ep t := hS.keep (fun o e => hm.heap S o hSw e) fun q hq => isT_keep (hk q (sub q hq)) hkp'
    have hx : IsT P w s'.heap p.2 p.1 := isT_keep (hk p (List.mem_of_getElem? hp)) hkp'
    show wpAny _ A.in1 (holding [Value.ref p.1] (setAdd S (.ref p.1)) >>= _) _ _ s'
    refine wpAny_bind (wpAny_holding ?_)
    unfold setAdd
    refine wpAny_holding ?_
    refine wpAny_bind (wpAny_pyHash_tuple hu hx ?_)
    refine add_at (s := { s' with toks := s'.toks + (p.2.length + 1) }) hS' hx hu (by have := nub_cover hS'.nd sub; omega) fun b h' L' es' ep' t' hsb hS2 c1 c2 => ?_
    have g' : Got ks (i + 1) L' := by
      rcases Classical.em (p.2 ∈ L.map (·.2)) with c | c
      · rw [c1 c]; exact g.same hp c
      · exact g.more hp (c2 c)
    have hkp2 : ∀ b o, h0.get? b = some o → h'.get? b = some o := fun b o e => (hsb.2 b (fun z => by rw [z, hS0] at e; cases e)).trans (hkp' b o e)
    refine wpAny_pure ⟨plainId_quiet F.plain_set_update_loop _, ih (i + 1) _ (by omega) hlt (W.frame _ s' _ _ hst' (Nat.le_add_right _ _) fun b hb o e => ?_) hkp2 ⟨L', es', ep', t', hS2, g'⟩ fun s'' L2 es2 ep2 t2 hm'' hS'' g'' hkp'' => ?_⟩
    · rw [hsb.2 b (fun h : b = S => hSf (by rw [← h]; exact hb))]; exact e
    · refine hR s'' L2 es2 ep2 t2 (Moved.trans W.gtrans ((hm.mono hsub).then_heap (Nat.le_add_right _ _) fun b o hb e => ?_) hm'') hS'' g'' hkp''
      rw [hsb.2 b (fun h : b = S => hb (by rw [h]; exact List.mem_cons_self))]; exact e

set_option maxHeartbeats 3200000 in
/-- set(xs) -/
theorem call_setN {l : Addr} {items : Array Value} (ks : List (Addr × List Int)) {Q : Value → Shared → Prop} (hh : A.handled = none) (hl : s.heap.IsList l items) (hit : items.toList = ks.map fun p => Value.ref p.1)
    (hk : ∀ p ∈ ks, IsT P w s.heap p.2 p.1) (hfew : (nub (ks.map (·.2))).length + 1 < 64) (hu : A.units + 3 < cLine)
    (h : ∀ (h' : Heap) (tk : Nat) L es ep t, SetTR P w h' s.heap.objs.size L es ep t → Got ks ks.length L → (∀ b o, s.heap.get? b = some o → h'.get? b = some o) → Q (.ref s.heap.objs.size) { s with heap := h', toks := tk }) :
    wpAny (model P w) A (call (.type "set") [.ref l]) Q E s := by
  have hisz : items.size = ks.length := by
    have q := congrArg List.length hit
    rw [Array.length_toList, List.length_map] at q
    exact q
  obtain ⟨c, tl, hmro⟩ := F.called_set.mro
  have hmade := F.called_set.made
  have hsub := F.called_set.sub
  refine wpAny_call (codeAny_of_tree ?_)
  show wpAny _ _ (callAny (.type "set") _) _ _ _
  refine wpAny_pure ⟨Code.quiet_builtin _ (by decide +kernel), codeAny_builtin F.entry_type_call ?_⟩
  rw [Around.under_plain (weight_type_call_type "set" [.ref l] []) rfl]
  have h1 := F.called_set.notType
  have h2 := F.called_set.canCreate
  have hct := F.typeCall_set_1 (.ref l)
  repeat (any_goals (first | assumption | wp_step))

  refine codeAny_mono (code_set_led1 (.ref l) (E := E) (Q₁ := fun obj s₁ => obj = .ref s.heap.objs.size ∧ s₁ = { s with heap := s.heap.push { cls := .type "set", dict := none, data := .set #[] 0 (.fresh 0 0 (!w.params.followText "set-order")) } }) ⟨rfl, rfl⟩) fun r s₁ hr => ?_
  cases r with
  | error e => exact hr
  | ok fl =>
    cases fl with
    | ret obj =>
      obtain ⟨rfl, rfl⟩ := hr
      have hS : (s.heap.push { cls := .type "set", dict := none, data := .set #[] 0 (.fresh 0 0 (!w.params.followText "set-order")) }).get? s.heap.objs.size = some { cls := .type "set", dict := none, data := .set #[] 0 (.fresh 0 0 (!w.params.followText "set-order")) } := Heap.get?_push_size _ rfl
      have hT : Shared.TypeIs { s with heap := s.heap.push { cls := .type "set", dict := none, data := .set #[] 0 (.fresh 0 0 (!w.params.followText "set-order")) } } (.ref s.heap.objs.size) "set" := ⟨_, hS, rfl⟩
      have hli := F.called_set.init.lookup
      have hbi := F.called_set.init.bind (.ref s.heap.objs.size)
      repeat (any_goals (first | assumption | wp_step))

      refine codeAny_mono (codeAny_call_builtin (R := wants (fun r s₂ => r = .none ∧ ∃ h' tk L es ep t, s₂ = { s with heap := h', toks := tk } ∧ SetTR P w h' s.heap.objs.size L es ep t ∧ Got ks ks.length L ∧
          (∀ b o, s.heap.get? b = some o → h'.get? b = some o)) E) F.called_set.init.plain F.entry_set_init (check_set_init_1 hT ?_)) fun r₂ s₂ hr₂ => ?_
      · obtain ⟨ol, hol, hcl, nl, hdl⟩ := hl
        obtain ⟨ocls, odict, odata, oslots⟩ := ol
        simp only at hcl hdl
        subst hcl; subst hdl
        have hol' : (s.heap.push { cls := .type "set", dict := none, data := .set #[] 0 (.fresh 0 0 (!w.params.followText "set-order")) }).get? l = some { cls := .type "list", dict := odict, data := .seq items nl, slots := oslots } := Heap.get?_push_of_some _ hol
        have hsls := F.sub_list_set
        have hslf := F.sub_list_frozenset
        have hne : (Value.type "list" == Value.type "dict") = false := by decide
        have hl1 : (s.heap.push { cls := .type "set", dict := none, data := .set #[] 0 (.fresh 0 0 (!w.params.followText "set-order")) }).IsList l items := ⟨_, hol', rfl, nl, rfl⟩
        unfold Builtin.«set.__init__» noKeywords Builtin.Frozenset.updateFrom
        generalize hPI : pyIter = PI
        wp_walk
        subst hPI

        refine wpAny_pyIter_list hl1 ?_
        refine wpAny_bind (wpAny_runValue ?_)
        have hlS : l < s.heap.objs.size := Heap.lt_size hol
        have hh3 : A.in1.in1.in1.handled = none := by simp [hh]
        have hz1 : (s.heap.push { cls := .type "set", dict := none, data := .set #[] 0 (.fresh 0 0 (!w.params.followText "set-order")) }).objs.size = s.heap.objs.size + 1 := Heap.size_push ..
        have hneI : l ≠ (s.heap.push { cls := .type "set", dict := none, data := .set #[] 0 (.fresh 0 0 (!w.params.followText "set-order")) }).objs.size := by
          rw [Heap.size_push]; exact Nat.ne_of_lt (Nat.lt_succ_of_lt hlS)
        have hSf : s.heap.objs.size ∉ [(s.heap.push { cls := .type "set", dict := none, data := .set #[] 0 (.fresh 0 0 (!w.params.followText "set-order")) }).objs.size, l] := by
          rw [Heap.size_push]; simp only [List.mem_cons, List.mem_singleton, List.not_mem_nil, or_false, not_or]
          exact ⟨Nat.ne_of_lt (Nat.lt_succ_self _), Nat.ne_of_gt hlS⟩
        have hval : ∀ (i : Nat) (v : Value), items[i]? = some v → ∃ p, ks[i]? = some p ∧ v = .ref p.1 := fun i v hv => by
          have q : items.toList[i]? = some v := by rw [Array.getElem?_toList]; exact hv
          rw [hit, List.getElem?_map] at q
          cases hq : ks[i]? with
          | none => rw [hq] at q; cases q
          | some p =>
            rw [hq] at q
            exact ⟨p, rfl, (Option.some.inj q).symm⟩
        have none_of : ∀ b, s.heap.objs.size ≤ b → s.heap.get? b = none := fun b hb => by
          cases q : s.heap.get? b with
          | none => rfl
          | some o => exact absurd (Nat.lt_of_lt_of_le (Heap.lt_size q) hb) (Nat.lt_irrefl _)
        refine set_updN ((Walks.list hh3 _ l hneI items).toS) s.heap.objs.size
          hSf ks hisz hfew hval s.heap hk (none_of _ (Nat.le_refl _)) (fun b hb => none_of b (by
            rw [List.mem_singleton.mp hb, Heap.size_push]
            exact Nat.le_succ _)) hu (items.size - 0) 0 _ (by omega) (Nat.zero_le _)
          ⟨⟨_, Heap.get?_push_size _ rfl, rfl, rfl⟩, (hl1.push _)⟩ (fun b o e => Heap.get?_push_of_some _ (Heap.get?_push_of_some _ e)) ?hS0 ?hR
        case hS0 =>
          have hget : ((s.heap.push { cls := .type "set", dict := none, data := .set #[] 0 (.fresh 0 0 (!w.params.followText "set-order")) }).push { cls := .type "list_iterator", data := .fields #[.ref l, .int 0 0] }).get? s.heap.objs.size
              = some { cls := .type "set", dict := none, data := .set #[] 0 (.fresh 0 0 (!w.params.followText "set-order")) } := Heap.get?_push_of_some _ hS
          exact ⟨[], #[], 0, _, setTR_fresh hget, Got.zero ks⟩
        case hR =>
          intro s' L es ep t hm hS' g' hkp
          obtain ⟨h', g2, d', tk', os'⟩ := s'
          have eg : g2 = s.gens := hm.gens
          have ed : d' = s.drawn := hm.drawn
          have eo : os' = s.os := hm.os
          subst eg; subst ed; subst eo
          show wpAny _ _ _ _ _ _
          refine wpAny_pure ?_
          show wpAny _ _ (ret Value.none) _ _ _
          rw [hisz] at g'
          exact wpAny_pure ⟨rfl, h', tk', L, es, ep, t, rfl, hS', g', hkp⟩

      · cases r₂ with
        | error e => exact hr₂
        | ok fl₂ =>
          cases fl₂ with
          | ret r =>
            obtain ⟨rfl, h', tk, L, es, ep, t, rfl, hS', g', hk'⟩ := hr₂
            repeat (any_goals (first | assumption | wp_step))
            exact h _ _ _ _ _ _ hS' g' hk'
          | _ => exact hr₂.elim
    | _ => exact hr.elim
end
section
variable {X : Cx}
def rSetN (K : PySem.W.Frag) (P : Program) (w : World) : List V → Hp → VK → Prop := fun xs H Q => ∃ (l : Addr) (ks : List (Addr × List Int)), xs = [V.ref l] ∧ SqL K H l (ks.map fun p => V.ref p.1) ∧ (∀ p ∈ ks, SqT K H p.1 (p.2.map V.int)) ∧ (nub (ks.map (·.2))).length + 1 < 64 ∧
  ∀ a L, H a = none → (∀ p ∈ L, p ∈ ks) → (∀ p ∈ ks, p.2 ∈ L.map (·.2)) → Q (.ref a) (upd H a (SetTO P w a L))
theorem cr_setN (hc : X.calm = true) (hu : X.A.units + 64 < cLine) : CallR X (.type "set") (rSetN X.K X.prog X.w) := by
  intro pins s σ H xs us Q I r h
  obtain ⟨l, ks, rfl, hl, hk, hf, q⟩ := h
  rw [Vals.ref1 r]
  obtain ⟨its, rv, pl, hz⟩ := I.list hl
  have hn : H s.heap.objs.size = none := I.hok.fresh (Nat.le_refl _)
  refine call_setN (P := X.prog) (w := X.w) ks (I.ok.hd hc) pl.isList (by simpa using refs_of_vals rv) (fun p hp => I.isT (hk p hp)) hf (by omega) fun h' tk L es ep t R g k => ?_
  refine ⟨.ref s.heap.objs.size, upd H s.heap.objs.size (SetTO X.prog X.w s.heap.objs.size L), I.laid (t' := tk) k (Nat.le_refl _) (setTO_new R.t0), rfl, q _ L hn (fun p hp => ?_) fun p hp => ?_⟩
  · exact List.mem_of_mem_take (g.sub p hp)
  · exact g.all p (by rw [List.take_length]; exact hp)
end
/-- set(list of ints), set(list of pairs of which few are different) -/
def setN? (x : PyData) : Option PyData := (lst? x).bind fun ds => match ints? ds with
  | some ns => if ns.length ≤ 4000 then some (.list ((nub ns).map PyData.int)) else none
  | none => (pairs? ds).bind fun ps => if (nub ps).length < 63 then some (.list ((nub ps).map prI)) else none
theorem cr_setNA {X : Cx} (hc : X.calm = true) (hu : X.A.units + 64 < cLine) : CallR X (.type "set") (fun vs H Q => rSetL X.K X.w vs H Q ∨ rSetN X.K X.prog X.w vs H Q) := (cr_setL hc).or (cr_setN hc hu)
theorem nub_map {α β : Type} [DecidableEq α] [DecidableEq β] {f : α → β} (hf : ∀ a b, f a = f b → a = b) (l : List α) : (nub (l.map f)).length = (nub l).length := by
  have p : ((nub l).map f).Perm (nub (l.map f)) := nub_perm (List.pairwise_map.mpr (List.Pairwise.imp (fun h e => h (hf _ _ e)) nub_nodup)) fun x => by
    simp only [List.mem_map, mem_nub]
  have := p.length_eq
  rw [List.length_map] at this
  exact this.symm
theorem rf_setN {P : Program} {w : World} {c : Cw} {te : TE} {m : M PyData} (h : Rf c (RV c.K) te m) : Rf c (RS P w c.K) (tCB (fun xs H Q => rSetL c.K w xs H Q ∨ rSetN c.K P w xs H Q) (tCons te tNil)) (mc1 setN? m) := by
  intro pp pr fz σ H ρ Q hp R hq
  refine h pp pr fz σ H ρ _ hp R (hq.bnd fun v x fz1 H1 ρ1 F1 R1 r1 P1 => ?_)
  obtain ⟨z, e, P1⟩ := lftB_post P1
  unfold setN? at e
  cases el : lst? x with
  | none => rw [el] at e; cases e
  | some ds =>
  rw [el] at e
  simp only [Option.bind_some] at e
  obtain ⟨a, vs, rfl, ha, ra⟩ := RepP.lst? (Rep.p r1) el
  have new : ∀ {b : Addr} {o : HO}, H1 b = none → Alc fz1 H1 fz1 (upd H1 b o) → True := fun _ _ => trivial
  cases e1 : ints? ds with
  | some ns =>
    rw [e1] at e
    dsimp only at e
    split at e
    · rename_i hz
      cases e
      left
      have ev := ints_rep ra e1
      subst ev
      refine ⟨a, ns, rfl, SqL.of ha, hz, fun b S hb hS => ?_⟩
      have nb : ¬ fz1 b := fun z => R1.fzH b z hb
      have npb : ¬ pr b := fun z => R1.prH b z hb
      have F2 : Fr pr fz1 H1 fz1 (upd H1 b (SetO w b S (nub ns).length)) := ⟨fun _ z => z, fun a z => upd_ne fun q => nb (q ▸ z), fun a z => upd_ne fun q => npb (q ▸ z), fun _ _ z => z⟩
      have nown : ∀ (i : Nat) (x : PyData), ρ1[i]? = some (.own x) → σ[i]? ≠ some (some (V.ref b)) := fun i x e z => by
        obtain ⟨a', s', _, _, o⟩ := R1.own_ne e
        rw [z] at s'
        cases s'
        exact o.some hb
      exact P1 _ fz1 _ F2 (R1.other nb nown) ⟨b, rfl, .inl ⟨nub ns, S, rfl, nub_nodup, hS, upd_same⟩⟩
    · cases e
  | none =>
    rw [e1] at e
    dsimp only at e
    cases e2 : pairs? ds with
    | none => rw [e2] at e; cases e
    | some ps =>
      rw [e2] at e
      simp only [Option.bind_some] at e
      split at e
      · rename_i hz
        cases e
        right
        obtain ⟨ed, _⟩ := pairs_rep ra e2
        subst ed
        obtain ⟨ks, e3, e4, hk⟩ := pairs_keys ra
        subst e3
        have hkn : (nub (ks.map (·.2))).length + 1 < 64 := by
          have e5 : ks.map (·.2) = ps.map (fun p => [p.1, p.2]) := by
            rw [← e4, List.map_map]
            exact List.map_congr_left fun p hp => (hk p hp).2.1
          rw [e5, nub_map (fun a b e => by
            simp only [List.cons.injEq, and_true] at e
            exact Prod.ext e.1 e.2)]
          omega
        refine ⟨a, ks, rfl, SqL.of ha, fun p hp => (hk p hp).1, hkn, fun b L hb hL1 hL2 => ?_⟩
        have nb : ¬ fz1 b := fun z => R1.fzH b z hb
        have npb : ¬ pr b := fun z => R1.prH b z hb
        have F2 : Fr pr fz1 H1 fz1 (upd H1 b (SetTO P w b L)) := ⟨fun _ z => z, fun a z => upd_ne fun q => nb (q ▸ z), fun a z => upd_ne fun q => npb (q ▸ z), fun _ _ z => z⟩
        have nown : ∀ (i : Nat) (x : PyData), ρ1[i]? = some (.own x) → σ[i]? ≠ some (some (V.ref b)) := fun i x e z => by
          obtain ⟨a', s', _, _, o⟩ := R1.own_ne e
          rw [z] at s'
          cases s'
          exact o.some hb
        have hne : ps ≠ [] := fun z => by rw [z] at e1; cases e1
        refine P1 _ fz1 _ F2 (R1.other nb nown) ⟨b, rfl, .inr ⟨nub ps, L, rfl, fun z => ?_, nub_nodup, fun q hq => ?_, fun p hp => ?_, upd_same⟩⟩
        · obtain ⟨p, ps', rfl⟩ := List.exists_cons_of_ne_nil hne
          have : p ∈ nub (p :: ps') := mem_nub.mpr (by simp)
          rw [z] at this
          cases this
        · obtain ⟨_, h2, h3⟩ := hk q (hL1 q hq)
          refine ⟨?_, h2, Rep.ext F2.ext h3⟩
          rw [mem_nub, ← e4]
          exact List.mem_map_of_mem (hL1 q hq)
        · rw [mem_nub, ← e4] at hp
          obtain ⟨q, hq, rfl⟩ := List.mem_map.mp hp
          obtain ⟨q2, hq2, e5⟩ := List.mem_map.mp (hL2 q hq)
          exact ⟨q2, hq2, by rw [e5]⟩
      · cases e

end PL

/-! BT: the bounds of a chain, in plain numbers. -/
namespace BT

/-- chunks, rounded up -/
def cc (w z : Int) : Int := -(-w / z)
section
variable {w v z k : Int}
theorem cc_le (h : 0 < z) : cc w z ≤ k ↔ w ≤ k * z := by
  unfold cc
  constructor
  · intro h1
    have h2 : -k ≤ -w / z := by omega
    have h3 := (Int.le_ediv_iff_mul_le h).mp h2
    grind
  · intro h1
    have h3 : -k * z ≤ -w := by grind
    have h2 := (Int.le_ediv_iff_mul_le h).mpr h3
    omega
theorem lt_cc (h : 0 < z) : k < cc w z ↔ k * z < w := by
  have := cc_le (w := w) (k := k) h
  omega
theorem cc_mono (h : 0 < z) (hw : w ≤ v) : cc w z ≤ cc v z := by
  rw [cc_le h]
  exact Int.le_trans hw ((cc_le h).mp (Int.le_refl _))
theorem cc_ub (h : 0 < z) : w ≤ cc w z * z := (cc_le h).mp (Int.le_refl _)
theorem cc_lb (h : 0 < z) : cc w z * z < w + z := by
  have := (lt_cc (w := w) (k := cc w z - 1) h).mp (by omega)
  grind
theorem cc_self (h : 0 < z) : cc (k * z) z = k := by
  unfold cc
  have : -(k * z) = (-k) * z := by grind
  rw [this, Int.mul_ediv_cancel _ (by omega)]
  omega
theorem cc_self' (h : 0 < z) : cc (z * k) z = k := by rw [Int.mul_comm]; exact cc_self h
theorem cc_zero (h : 0 < z) : cc 0 z = 0 := by have := cc_self (k := 0) h; simpa using this
theorem cc_nonneg (h : 0 < z) (hw : 0 ≤ w) : 0 ≤ cc w z := by
  have := cc_mono h hw
  rwa [cc_zero h] at this
theorem cc_one : cc w 1 = w := by unfold cc; omega
theorem cc_cc {r : Int} (h : 0 < z) (hr : 0 < r) : cc (cc w z) r = cc w (z * r) := by
  apply Int.le_antisymm
  · rw [cc_le hr, cc_le h]
    have := cc_ub (w := w) (z := z * r) (Int.mul_pos h hr)
    grind
  · rw [cc_le (Int.mul_pos h hr)]
    have h1 := (cc_le (w := cc w z) (k := cc (cc w z) r) hr).mp (Int.le_refl _)
    have h2 := (cc_le (w := w) (k := cc (cc w z) r * r) h).mp h1
    grind
/-- a step more takes at most one chunk more -/
theorem cc_step {r : Int} (hr : 0 < r) : cc (w + k) r ≤ cc w r + k ∨ k < 0 := by
  by_cases hk : k < 0
  · exact .inr hk
  · refine .inl ?_
    rw [cc_le hr]
    have h1 := cc_ub (w := w) hr
    have h2 : k ≤ k * r := by
      have := Int.mul_le_mul_of_nonneg_left (a := 1) (b := r) (c := k) (by omega) (by omega)
      omega
    grind
end

/-- the chunks counted so far -/
def pv (n : Nat → Int) (z : Int) : Nat → Int
  | 0 => 0
  | k + 1 => cc (n k) z
theorem pv_s {n : Nat → Int} {z : Int} {k : Nat} : pv n z (k + 1) = cc (n k) z := rfl
theorem pv_0 {n : Nat → Int} {z : Int} : pv n z 0 = 0 := rfl
/-- the least live words -/
def LL (s n : Nat → Int) (z : Int) : Nat → Int
  | 0 => 0
  | k + 1 => LL s n z k + (cc (n k) z - pv n z k) * s k
def AB (s n : Nat → Int) (z : Int) : Nat → Int
  | 0 => 0
  | k + 1 => AB s n z k + cc (n k) z * (s (k + 1) - s k)
theorem abel (s n : Nat → Int) (z : Int) (k : Nat) : s k * pv n z k - LL s n z k = AB s n z k := by
  induction k with
  | zero => simp [pv, LL, AB]
  | succ k ih => simp only [pv_s, LL, AB]; grind

/-- the sizes of a chain -/
structure Szs (s : Nat → Int) : Prop where
  s0 : s 0 = 1
  mul : ∀ i, ∃ q : Int, 1 ≤ q ∧ s (i + 1) = s i * q
theorem Szs.pos {s : Nat → Int} (h : Szs s) : ∀ i, 0 < s i
  | 0 => by rw [h.s0]; decide
  | i + 1 => by
    obtain ⟨q, hq, e⟩ := h.mul i
    rw [e]; exact Int.mul_pos (h.pos i) (by omega)
theorem Szs.step {s : Nat → Int} (h : Szs s) (i : Nat) : s i ≤ s (i + 1) := by
  obtain ⟨q, hq, e⟩ := h.mul i
  have hp := h.pos i
  rw [e]
  have := Int.mul_le_mul_of_nonneg_left (a := 1) (b := q) (c := s i) hq (by omega)
  omega
theorem Szs.mono {s : Nat → Int} (h : Szs s) {i j : Nat} (hij : i ≤ j) : s i ≤ s j := by
  induction j with
  | zero => have : i = 0 := by omega
            subst this; exact Int.le_refl _
  | succ j ih =>
    by_cases e : i = j + 1
    · subst e; exact Int.le_refl _
    · exact Int.le_trans (ih (by omega)) (h.step j)
theorem Szs.dvd {s : Nat → Int} (h : Szs s) {i j : Nat} (hij : i ≤ j) : ∃ q : Int, 1 ≤ q ∧ s j = s i * q := by
  induction j with
  | zero => have : i = 0 := by omega
            subst this; exact ⟨1, by decide, by omega⟩
  | succ j ih =>
    by_cases e : i = j + 1
    · subst e; exact ⟨1, by decide, by omega⟩
    · obtain ⟨q, hq, e1⟩ := ih (by omega)
      obtain ⟨r, hr, e2⟩ := h.mul j
      refine ⟨q * r, ?_, by rw [e2, e1, Int.mul_assoc]⟩
      have := Int.mul_pos (a := q) (b := r) (by omega) (by omega)
      omega

/-- the numbers of bounds, m of them behind the first -/
structure Nums (s n : Nat → Int) (M : Int) (m : Nat) : Prop where
  n0 : n 0 = M
  nx : ∀ i, i < m → n (i + 1) = s (i + 1) * (cc (n i) (s (i + 1)) + max 0 (M - LL s n (s (i + 1)) (i + 1)) / s (i + 1))
section
variable {s n : Nat → Int} {M : Int} {m : Nat}
theorem Nums.rise (h : Szs s) (N : Nums s n M m) {i : Nat} (hi : i < m) : n i ≤ n (i + 1) := by
  have hp := h.pos (i + 1)
  rw [N.nx i hi]
  have h1 := cc_ub (w := n i) hp
  have h2 : 0 ≤ max 0 (M - LL s n (s (i + 1)) (i + 1)) / s (i + 1) := Int.ediv_nonneg (by omega) (by omega)
  have h3 := Int.mul_nonneg (a := s (i + 1)) (by omega) h2
  rw [Int.mul_add, Int.mul_comm (s (i + 1)) (cc _ _)]
  omega
theorem Nums.mono (h : Szs s) (N : Nums s n M m) {i j : Nat} (hij : i ≤ j) (hj : j ≤ m) : n i ≤ n j := by
  induction j with
  | zero => have : i = 0 := by omega
            subst this; exact Int.le_refl _
  | succ j ih =>
    by_cases e : i = j + 1
    · subst e; exact Int.le_refl _
    · exact Int.le_trans (ih (by omega) (by omega)) (N.rise h (by omega))
theorem Nums.nonneg (h : Szs s) (N : Nums s n M m) (hM : 0 ≤ M) {i : Nat} (hi : i ≤ m) : 0 ≤ n i := by
  have := N.mono h (Nat.zero_le i) hi
  rw [N.n0] at this
  omega
/-- thinned out, no more words -/
theorem thin (h : Szs s) {z r : Int} (hz : 0 < z) (hr : 0 < r) (k : Nat) (h0 : ∀ j, j + 1 < k → n j ≤ n (j + 1)) (hn : 0 < k → 0 ≤ n 0) :
    LL s n (z * r) k ≤ LL s n z k ∧ 0 ≤ LL s n z k := by
  have pvm : ∀ j, j < k → pv n z j ≤ cc (n j) z := fun j hj => by
    cases j with
    | zero => exact cc_nonneg hz (hn (by omega))
    | succ j => exact cc_mono hz (h0 j hj)
  have pvr : ∀ j, j ≤ k → pv n (z * r) j = cc (pv n z j) r := fun j hj => by
    cases j with
    | zero => exact (cc_zero hr).symm
    | succ j => exact (cc_cc hz hr).symm
  induction k with
  | zero => exact ⟨Int.le_refl _, Int.le_refl _⟩
  | succ k ih =>
    obtain ⟨i1, i2⟩ := ih (fun j hj => h0 j (by omega)) (fun hk => hn (by omega)) (fun j hj => pvm j (by omega)) (fun j hj => pvr j (by omega))
    simp only [LL]
    have hs := h.pos k
    have h1 := pvm k (by omega)
    rw [pvr k (by omega), ← cc_cc hz hr]
    have h2 : cc (cc (n k) z) r - cc (pv n z k) r ≤ cc (n k) z - pv n z k := by
      rcases cc_step (w := pv n z k) (k := cc (n k) z - pv n z k) hr with h3 | h3
      · have e : pv n z k + (cc (n k) z - pv n z k) = cc (n k) z := by omega
        rw [e] at h3
        omega
      · omega
    have h4 := Int.mul_le_mul_of_nonneg_right h2 (Int.le_of_lt hs)
    have h5 := Int.mul_nonneg (a := cc (n k) z - pv n z k) (b := s k) (by omega) (by omega)
    omega
/-- the least live words never exceed the limit -/
theorem Nums.ll (h : Szs s) (N : Nums s n M m) (hM : 0 ≤ M) : ∀ i, i ≤ m → LL s n (s i) i ≤ M ∧ LL s n (s i) (i + 1) ≤ M ∧ (i < m → LL s n (s (i + 1)) (i + 1) ≤ M ∧ 0 ≤ LL s n (s (i + 1)) (i + 1))
  | 0, _ => by
    have hr := h.mul 0
    obtain ⟨q, hq, e⟩ := hr
    have h1 : LL s n (s 0) 1 = M := by simp only [LL, pv_0]; rw [N.n0, h.s0, cc_one]; omega
    refine ⟨hM, by rw [h1]; omega, fun hm => ?_⟩
    have t := thin h (n := n) (z := s 1) (r := 1) (h.pos 1) (by decide) 1 (fun j hj => by omega) (fun _ => by rw [N.n0]; exact hM)
    have t2 := thin h (n := n) (z := s 0) (r := q) (h.pos 0) (by omega) 1 (fun j hj => by omega) (fun _ => by rw [N.n0]; exact hM)
    have t3 : LL s n (s (0 + 1)) (0 + 1) ≤ LL s n (s 0) 1 := by rw [e]; exact t2.1
    exact ⟨Int.le_trans t3 (by rw [h1]; omega), t.2⟩
  | i + 1, hi => by
    obtain ⟨_, h2, h3⟩ := N.ll h hM i (by omega)
    obtain ⟨h4, h5⟩ := h3 (by omega)
    have hp := h.pos (i + 1)
    have e1 : LL s n (s (i + 1)) (i + 1 + 1) ≤ M := by
      rw [LL, pv_s]
      have e2 := N.nx i (by omega)
      have e3 : cc (n (i + 1)) (s (i + 1)) = cc (n i) (s (i + 1)) + max 0 (M - LL s n (s (i + 1)) (i + 1)) / s (i + 1) := by
        rw [e2, cc_self' hp]
      rw [e3]
      have e4 : max 0 (M - LL s n (s (i + 1)) (i + 1)) = M - LL s n (s (i + 1)) (i + 1) := by omega
      rw [e4]
      generalize LL s n (s (i + 1)) (i + 1) = l at *
      have h6 := Int.ediv_mul_le (M - l) (Int.ne_of_gt hp)
      have h7 : (cc (n i) (s (i + 1)) + (M - l) / s (i + 1) - cc (n i) (s (i + 1))) * s (i + 1) = (M - l) / s (i + 1) * s (i + 1) := by grind
      rw [h7]; omega
    refine ⟨h4, e1, fun hm => ?_⟩
    obtain ⟨q, hq, e⟩ := h.mul (i + 1)
    have mono : ∀ j, j + 1 < i + 1 + 1 → n j ≤ n (j + 1) := fun j hj => N.rise h (by omega)
    have h0 : 0 < i + 1 + 1 → 0 ≤ n 0 := fun _ => by rw [N.n0]; exact hM
    have t := thin h (n := n) (z := s (i + 1)) (r := q) hp (by omega) (i + 1 + 1) mono h0
    have t2 := thin h (n := n) (z := s (i + 1 + 1)) (r := 1) (h.pos _) (by decide) (i + 1 + 1) mono h0
    rw [← e] at t
    exact ⟨by omega, t2.2⟩
/-- a number by the limit and the numbers before it -/
theorem Nums.form (h : Szs s) (N : Nums s n M m) (hM : 0 ≤ M) {i : Nat} (hi : i < m) : n (i + 1) = s (i + 1) * ((M + AB s n (s (i + 1)) (i + 1)) / s (i + 1)) := by
  have hp := h.pos (i + 1)
  obtain ⟨h4, h5⟩ := (N.ll h hM i (by omega)).2.2 hi
  rw [N.nx i hi]
  congr 1
  have e := abel s n (s (i + 1)) (i + 1)
  have e4 : max 0 (M - LL s n (s (i + 1)) (i + 1)) = M - LL s n (s (i + 1)) (i + 1) := by omega
  rw [e4, ← e]
  have e5 : M + (s (i + 1) * pv n (s (i + 1)) (i + 1) - LL s n (s (i + 1)) (i + 1)) = (M - LL s n (s (i + 1)) (i + 1)) + s (i + 1) * cc (n i) (s (i + 1)) := by simp only [pv_s]; omega
  rw [e5, Int.add_mul_ediv_left _ _ (Int.ne_of_gt hp)]
  omega
theorem Nums.mult (h : Szs s) (N : Nums s n M m) {i : Nat} (hi : i ≤ m) : ∃ k, n i = s i * k := by
  cases i with
  | zero => exact ⟨n 0, by rw [h.s0]; omega⟩
  | succ i => exact ⟨_, N.nx i (by omega)⟩
/-- a piece of the sum -/
theorem ab_piece (h : Szs s) {z x : Int} (hz : 0 < z) {a : Nat} : ∀ b, a ≤ b → (∀ t, a ≤ t → t < b → x ≤ cc (n t) z) → x * (s b - s a) ≤ AB s n z b - AB s n z a
  | 0, hb, _ => by have : a = 0 := by omega
                   subst this; simp
  | b + 1, hb, hx => by
    by_cases e : a = b + 1
    · subst e; simp
    · have i1 := ab_piece h hz b (by omega) (fun t h1 h2 => hx t h1 (by omega))
      have i2 := hx b (by omega) (by omega)
      have h3 := Int.mul_le_mul_of_nonneg_right i2 (show 0 ≤ s (b + 1) - s b by have := h.step b; omega)
      simp only [AB]
      grind
/-- more words and more sizes: no number is less -/
theorem Nums.less (h : Szs s) (N : Nums s n M m) {s' n' : Nat → Int} {M' : Int} {m' : Nat} (h' : Szs s') (N' : Nums s' n' M' m') (hM : 0 ≤ M') (hMM : M' ≤ M) (e : Nat → Nat) (e0 : e 0 = 0)
    (em : ∀ i, i < m' → e i < e (i + 1)) (es : ∀ i, i ≤ m' → s' i = s (e i)) (ee : ∀ i, i ≤ m' → e i ≤ m) : ∀ i, i ≤ m' → n' i ≤ n (e i) := by
  intro i
  induction i using Nat.strongRecOn with
  | _ i ih =>
    intro hi
    cases i with
    | zero => rw [e0, N.n0, N'.n0]; exact hMM
    | succ i =>
      have hp := h'.pos (i + 1)
      obtain ⟨t, ht⟩ : ∃ t, e (i + 1) = t + 1 := ⟨e (i + 1) - 1, by have := em i (by omega); omega⟩
      have hs : s' (i + 1) = s (t + 1) := by rw [es (i + 1) hi, ht]
      have htm : t < m := by have := ee (i + 1) hi; omega
      rw [ht, N'.form h' hM (by omega), N.form h (by omega) htm, ← hs]
      refine Int.mul_le_mul_of_nonneg_left ?_ (Int.le_of_lt hp)
      refine Int.ediv_le_ediv hp ?_
      have go : ∀ k, k ≤ i + 1 → AB s' n' (s' (i + 1)) k ≤ AB s n (s' (i + 1)) (e k) := by
        intro k
        induction k with
        | zero => intro _; rw [e0]; exact Int.le_refl _
        | succ k ihk =>
          intro hk
          have i1 := ihk (by omega)
          have i2 := ab_piece (n := n) (x := cc (n' k) (s' (i + 1))) h hp (a := e k) (e (k + 1)) (by have := em k (by omega); omega) (fun t h1 h2 => by
            refine cc_mono hp ?_
            refine Int.le_trans (ih k (by omega) (by omega)) (N.mono h h1 ?_)
            have := ee (k + 1) (by omega); omega)
          simp only [AB]
          rw [es k (by omega), es (k + 1) (by omega)]
          omega
      have := go (i + 1) (Nat.le_refl _)
      rw [ht] at this
      omega
/-- a page more of words needs a page more -/
theorem Nums.page (h : Szs s) (N : Nums s n M m) {n' : Nat → Int} {M' : Int} (N' : Nums s n' M' m) (hM : 0 ≤ M) (hMM : M + s m ≤ M') : n m + s m ≤ n' m := by
  have hp := h.pos m
  have lt := N'.less h h N hM (by omega) id rfl (fun i _ => by simp) (fun i _ => rfl) (fun i h => h)
  cases m with
  | zero => rw [N.n0, N'.n0]; exact hMM
  | succ i =>
    have hMM2 : 0 ≤ M' := by omega
    rw [N.form h hM (by omega), N'.form h hMM2 (by omega)]
    have hAB : AB s n (s (i + 1)) (i + 1) ≤ AB s n' (s (i + 1)) (i + 1) := by
      have go : ∀ k, k ≤ i + 1 → AB s n (s (i + 1)) k ≤ AB s n' (s (i + 1)) k := by
        intro k
        induction k with
        | zero => intro _; exact Int.le_refl _
        | succ k ihk =>
          intro hk
          have i1 := ihk (by omega)
          have i2 : cc (n k) (s (i + 1)) ≤ cc (n' k) (s (i + 1)) := cc_mono hp (lt k (by omega))
          have h3 := Int.mul_le_mul_of_nonneg_right i2 (show 0 ≤ s (k + 1) - s k by have := h.step k; omega)
          simp only [AB]
          omega
      exact go (i + 1) (Nat.le_refl _)
    have e1 : (M + AB s n (s (i + 1)) (i + 1) + s (i + 1) * 1) / s (i + 1) = (M + AB s n (s (i + 1)) (i + 1)) / s (i + 1) + 1 := Int.add_mul_ediv_left _ _ (Int.ne_of_gt hp)
    have e2 : (M + AB s n (s (i + 1)) (i + 1) + s (i + 1) * 1) / s (i + 1) ≤ (M' + AB s n' (s (i + 1)) (i + 1)) / s (i + 1) := Int.ediv_le_ediv hp (by omega)
    rw [e1] at e2
    have := Int.mul_le_mul_of_nonneg_left e2 (Int.le_of_lt hp)
    rw [Int.mul_add] at this
    omega
/-- the careless pages suffice -/
theorem Nums.careless (h : Szs s) (N : Nums s n M m) (hM : 0 ≤ M) {P : Int} (hP0 : 0 ≤ P) (hP : ∀ i, i ≤ m → s i ≤ M → ∀ q, s m = s i * q → 1 + (M - s i) / q ≤ P) : ∀ i, i ≤ m → n i ≤ s m * P
  | 0, _ => by
    rw [N.n0]
    by_cases h0 : 1 ≤ M
    · have := hP 0 (by omega) (by rw [h.s0]; exact h0) (s m) (by rw [h.s0]; omega)
      rw [h.s0] at this
      have h1 : (M - 1) / s m < P := by omega
      have h2 := (Int.ediv_lt_iff_lt_mul (h.pos m)).mp h1
      have : P * s m = s m * P := Int.mul_comm _ _
      omega
    · have := Int.mul_nonneg (Int.le_of_lt (h.pos m)) hP0
      omega
  | i + 1, hi => by
    have ih := N.careless h hM hP0 hP i (by omega)
    have hp := h.pos (i + 1)
    obtain ⟨q, hq, eq⟩ := h.dvd (i := i + 1) (j := m) hi
    obtain ⟨h4, h5⟩ := (N.ll h hM i (by omega)).2.2 (by omega)
    rw [N.nx i (by omega), eq, Int.mul_assoc]
    refine Int.mul_le_mul_of_nonneg_left ?_ (Int.le_of_lt hp)
    have e4 : max 0 (M - LL s n (s (i + 1)) (i + 1)) = M - LL s n (s (i + 1)) (i + 1) := by omega
    rw [e4]
    have c1 : cc (n i) (s (i + 1)) ≤ q * P := by
      rw [cc_le hp]
      rw [eq] at ih
      grind
    have l1 : cc (n i) (s (i + 1)) ≤ LL s n (s (i + 1)) (i + 1) := by
      have go : ∀ k, k ≤ i + 1 → pv n (s (i + 1)) k ≤ LL s n (s (i + 1)) k := by
        intro k
        induction k with
        | zero => intro _; exact Int.le_refl _
        | succ k ihk =>
          intro hk
          have i1 := ihk (by omega)
          have i2 : pv n (s (i + 1)) k ≤ cc (n k) (s (i + 1)) := by
            cases k with
            | zero => exact cc_nonneg hp (by rw [N.n0]; exact hM)
            | succ k => exact cc_mono hp (N.rise h (by omega))
          have h3 := Int.mul_le_mul_of_nonneg_left (a := 1) (b := s k) (c := cc (n k) (s (i + 1)) - pv n (s (i + 1)) k) (by have := h.pos k; omega) (by omega)
          simp only [LL, pv_s]
          omega
      exact go (i + 1) (Nat.le_refl _)
    generalize cc (n i) (s (i + 1)) = c at *
    generalize LL s n (s (i + 1)) (i + 1) = l at *
    apply Int.le_of_not_gt
    intro hgt
    have h6 : q * P - c + 1 ≤ (M - l) / s (i + 1) := by omega
    have h7 := (Int.le_ediv_iff_mul_le hp).mp h6
    have hx : 0 ≤ q * P - c := by omega
    have h8 := Int.mul_le_mul_of_nonneg_left (a := 1) (b := s (i + 1)) (c := q * P - c) (by omega) hx
    have h9 : (q * P - c + 1) * s (i + 1) = (q * P - c) * s (i + 1) + s (i + 1) := by grind
    have h10 : q * P + s (i + 1) ≤ M := by omega
    have h11 := hP (i + 1) hi (by have := Int.mul_nonneg (a := q) (b := P) (by omega) hP0; omega) q eq
    have h12 : P ≤ (M - s (i + 1)) / q := (Int.le_ediv_iff_mul_le (by omega)).mpr (by rw [Int.mul_comm]; omega)
    omega
end
end BT

/-! CH: chains by their ratios; the numbers of bounds as lists. -/
namespace BT
open PySem PySem.Spec L2 PL

def prodQ (qs : List Nat) : Nat := qs.foldr (· * ·) 1
theorem prodQ_snoc (qs : List Nat) (q : Nat) : prodQ (qs ++ [q]) = prodQ qs * q := by
  induction qs with
  | nil => simp [prodQ]
  | cons p qs ih => unfold prodQ at *; simp [ih, Nat.mul_assoc]
theorem prodQ_append (a b : List Nat) : prodQ (a ++ b) = prodQ a * prodQ b := by
  induction a with
  | nil => simp [prodQ]
  | cons p qs ih => unfold prodQ at *; simp [ih, Nat.mul_assoc]
theorem prodQ_pos {qs : List Nat} (h : ∀ q ∈ qs, 1 ≤ q) : 0 < prodQ qs := by
  induction qs with
  | nil => simp [prodQ]
  | cons p qs ih =>
    have h1 := h p (by simp)
    have h2 := ih fun q z => h q (List.mem_cons_of_mem _ z)
    exact Nat.mul_pos (by omega) h2
/-- size i of a chain -/
def sz (qs : List Nat) (i : Nat) : Int := (prodQ (qs.take i) : Nat)
theorem sz_szs {qs : List Nat} (h : ∀ q ∈ qs, 1 ≤ q) : Szs (sz qs) := by
  refine ⟨rfl, fun i => ?_⟩
  unfold sz
  by_cases hi : i < qs.length
  · refine ⟨(qs[i] : Nat), ?_, ?_⟩
    · have := h qs[i] (List.getElem_mem hi)
      omega
    · rw [List.take_succ_eq_append_getElem hi, prodQ_snoc, Int.natCast_mul]
  · exact ⟨1, by decide, by rw [List.take_of_length_le (by omega), List.take_of_length_le (by omega)]; omega⟩
/-- the chain with these ratios -/
def chn (qs : List Nat) : List Int := (List.range (qs.length + 1)).map (sz qs)
theorem chn_len (qs : List Nat) : (chn qs).length = qs.length + 1 := by simp [chn]
theorem chn_at {qs : List Nat} {i : Nat} (h : i ≤ qs.length) : (chn qs)[i]? = some (sz qs i) := by
  unfold chn
  rw [List.getElem?_map, List.getElem?_range (by omega)]; rfl
theorem chn_snoc (qs : List Nat) (q : Nat) : chn (qs ++ [q]) = chn qs ++ [sz qs qs.length * q] := by
  unfold chn
  rw [List.length_append, List.length_singleton, List.range_succ, List.map_append]
  congr 1
  · apply List.map_congr_left
    intro i hi
    have : i < qs.length + 1 := by simpa using hi
    unfold sz
    rw [List.take_append_of_le_length (by omega)]
  · simp only [List.map_cons, List.map_nil]
    unfold sz
    rw [List.take_of_length_le (by simp), List.take_length, prodQ_snoc, Int.natCast_mul]
theorem chn_nil : chn [] = [1] := rfl
/-- the page -/
theorem sz_page (qs : List Nat) : sz qs qs.length = (prodQ qs : Nat) := by unfold sz; rw [List.take_length]

theorem LL_congr {s n n' : Nat → Int} {z : Int} : ∀ {k : Nat}, (∀ j, j < k → n j = n' j) → LL s n z k = LL s n' z k
  | 0, _ => rfl
  | k + 1, h => by
    rw [LL, LL, LL_congr (k := k) (fun j hj => h j (by omega)), h k (by omega)]
    congr 3
    cases k with
    | zero => rfl
    | succ k => rw [pv_s, pv_s, h k (by omega)]
/-- the numbers, with first reaches -/
def nxt (s f : Nat → Int) (M : Int) (l : List Int) (k : Nat) : Int :=
  max (s (k + 1) * (cc (l.getD k 0) (s (k + 1)) + max 0 (M - LL s (fun j => l.getD j 0) (s (k + 1)) (k + 1)) / s (k + 1))) (f (k + 1))
def numL (s f : Nat → Int) (M : Int) : Nat → List Int
  | 0 => [max M (f 0)]
  | k + 1 => numL s f M k ++ [nxt s f M (numL s f M k) k]
def num (s f : Nat → Int) (M : Int) (k : Nat) : Int := (numL s f M k).getD k 0
section
variable {s f : Nat → Int} {M : Int}
theorem numL_len : ∀ k, (numL s f M k).length = k + 1
  | 0 => rfl
  | k + 1 => by simp [numL, numL_len k]
theorem numL_at : ∀ {k j : Nat}, j ≤ k → (numL s f M k).getD j 0 = num s f M j
  | 0, j, h => by have : j = 0 := by omega
                  subst this; rfl
  | k + 1, j, h => by
    by_cases e : j = k + 1
    · subst e; rfl
    · have := numL_at (k := k) (j := j) (by omega)
      rw [← this]
      show (numL s f M k ++ [_]).getD j 0 = _
      rw [List.getD_eq_getElem?_getD, List.getD_eq_getElem?_getD, List.getElem?_append_left (by rw [numL_len]; omega)]
theorem numL_eq (k : Nat) : numL s f M k = (List.range (k + 1)).map (num s f M) := by
  apply List.ext_getElem?
  intro i
  by_cases h : i < k + 1
  · rw [List.getElem?_map, List.getElem?_range h]
    have := numL_at (s := s) (f := f) (M := M) (k := k) (j := i) (by omega)
    rw [List.getD_eq_getElem?_getD] at this
    have hl : i < (numL s f M k).length := by rw [numL_len]; exact h
    rw [List.getElem?_eq_getElem hl] at this ⊢
    simp only [Option.getD_some] at this
    simp only [Option.map_some, this]
  · rw [List.getElem?_eq_none (by rw [numL_len]; omega), List.getElem?_eq_none (by simp; omega)]
theorem num_0 : num s f M 0 = max M (f 0) := rfl
theorem num_s (k : Nat) : num s f M (k + 1) = max (s (k + 1) * (cc (num s f M k) (s (k + 1)) + max 0 (M - LL s (num s f M) (s (k + 1)) (k + 1)) / s (k + 1))) (f (k + 1)) := by
  show (numL s f M k ++ [nxt s f M (numL s f M k) k]).getD (k + 1) 0 = _
  rw [List.getD_eq_getElem?_getD, List.getElem?_append_right (by rw [numL_len]; omega), numL_len]
  simp only [Nat.sub_self, List.getElem?_cons_zero, Option.getD_some]
  unfold nxt
  rw [numL_at (Nat.le_refl k), LL_congr (n' := num s f M) (fun j hj => numL_at (by omega))]
theorem num_nums (h : Szs s) (hM : 0 ≤ M) (hf : ∀ i, f i = 0) (m : Nat) : Nums s (num s f M) M m := by
  have n0 : num s f M 0 = M := by rw [num_0, hf]; omega
  have go : ∀ i, 0 ≤ num s f M i ∧ num s f M (i + 1) = s (i + 1) * (cc (num s f M i) (s (i + 1)) + max 0 (M - LL s (num s f M) (s (i + 1)) (i + 1)) / s (i + 1)) := by
    intro i
    have pos : 0 ≤ num s f M i → 0 ≤ s (i + 1) * (cc (num s f M i) (s (i + 1)) + max 0 (M - LL s (num s f M) (s (i + 1)) (i + 1)) / s (i + 1)) := fun hn => by
      have hp := h.pos (i + 1)
      have h1 := cc_nonneg hp hn
      have h2 : 0 ≤ max 0 (M - LL s (num s f M) (s (i + 1)) (i + 1)) / s (i + 1) := Int.ediv_nonneg (by omega) (by omega)
      exact Int.mul_nonneg (by omega) (by omega)
    induction i with
    | zero =>
      have h0 : 0 ≤ num s f M 0 := by rw [n0]; exact hM
      refine ⟨h0, ?_⟩
      have := pos h0
      rw [num_s, hf]
      omega
    | succ i ih =>
      have h0 : 0 ≤ num s f M (i + 1) := by
        rw [num_s]
        rw [hf]
        exact Int.le_max_right _ _
      refine ⟨h0, ?_⟩
      have := pos h0
      rw [num_s, hf]
      omega
  exact ⟨n0, fun i _ => (go i).2⟩
end
/-- the careless pages -/
def CLL (s : Nat → Int) (M : Int) (m : Nat) : List Int := ((List.range (m + 1)).filter fun i => decide (s i ≤ M)).map (fun i => 1 + (M - s i) / (s m / s i)) ++ [0]
def CLS (s : Nat → Int) (M : Int) (m : Nat) : Int := maxL (CLL s M m)
theorem LL_sum {s n : Nat → Int} {z : Int} : ∀ {k : Nat}, ((List.range k).map fun j => (pv n z (j + 1) - pv n z j) * s j).sum = LL s n z k
  | 0 => rfl
  | k + 1 => by
    rw [List.range_succ, List.map_append, List.sum_append, LL_sum (k := k), LL]
    simp [pv_s]
theorem filt_true {α : Type} (l : List α) : l.filter (fun _ => true) = l := List.filter_eq_self.mpr (by simp)
end BT

/-! BT2: exact numbers; the smooth bound. -/
namespace BT
/-- the sum of what each ratio leaves -/
def EX (r : Nat → Int) (M : Int) : Nat → Int
  | 0 => 0
  | k + 1 => EX r M k + (M - M / r k)
section
variable {s n : Nat → Int} {M : Int} {m : Nat}
theorem Nums.exact (h : Szs s) (N : Nums s n M m) (hM : 0 ≤ M) (r u : Nat → Int) (hr : ∀ i, i < m → s (i + 1) = s i * r i ∧ 1 ≤ r i) {t : Int} (ht : M = s m * t) (hu : ∀ i, i < m → M = s m * (r i * u i)) :
    ∀ i, i ≤ m → n i = M + EX r M i ∧ ∃ k, n i = s m * k := by
  have div : ∀ i, i < m → M / r i = s m * u i := fun i hi => by
    have e : M = (s m * u i) * r i := by rw [hu i hi]; grind
    have := (hr i hi).2
    rw [e, Int.mul_ediv_cancel _ (by omega)]
  intro i
  induction i using Nat.strongRecOn with
  | _ i ih =>
    intro hi
    cases i with
    | zero => exact ⟨by rw [N.n0]; simp [EX], t, by rw [N.n0]; exact ht⟩
    | succ i =>
      have hp := h.pos (i + 1)
      obtain ⟨q, hq, eq⟩ := h.dvd (i := i + 1) (j := m) hi
      have hz : s (i + 1) ≠ 0 := by omega
      -- the words shown
      have L : ∀ k, k ≤ i → LL s n (s (i + 1)) (k + 1) = q * t * s k := by
        intro k
        induction k with
        | zero =>
          intro _
          have e1 : cc (n 0) (s (i + 1)) = q * t := by
            rw [N.n0, ht, eq, Int.mul_assoc]
            exact cc_self' hp
          simp only [LL, pv_0, e1]
          grind
        | succ k ihk =>
          intro hk
          rw [LL, ihk (by omega), pv_s]
          obtain ⟨e1, k1, f1⟩ := ih k (by omega) (by omega)
          obtain ⟨e2, k2, f2⟩ := ih (k + 1) (by omega) (by omega)
          have c1 : cc (n k) (s (i + 1)) = q * k1 := by rw [f1, eq, Int.mul_assoc]; exact cc_self' hp
          have c2 : cc (n (k + 1)) (s (i + 1)) = q * k2 := by rw [f2, eq, Int.mul_assoc]; exact cc_self' hp
          have d1 : n (k + 1) - n k = M - s m * u k := by
            rw [e1, e2, EX, div k (by omega)]; omega
          have hs := hr k (by omega)
          have hm : s m ≠ 0 := by have := h.pos m; omega
          have k12 : k2 - k1 = t - u k := by
            rw [f1, f2] at d1
            rw [ht] at d1
            have : s m * (k2 - k1) = s m * (t - u k) := by grind
            exact Int.eq_of_mul_eq_mul_left hm this
          have tu : t = r k * u k := by
            have := hu k (by omega)
            rw [ht] at this
            exact Int.eq_of_mul_eq_mul_left hm this
          rw [c1, c2, hs.1]
          have e3 : q * k2 - q * k1 = q * (t - u k) := by rw [← k12]; grind
          rw [e3, tu]
          grind
      have L1 := L i (Nat.le_refl _)
      obtain ⟨e1, k1, f1⟩ := ih i (by omega) (by omega)
      have c1 : cc (n i) (s (i + 1)) = q * k1 := by rw [f1, eq, Int.mul_assoc]; exact cc_self' hp
      have hs := hr i (by omega)
      have hm : s m ≠ 0 := by have := h.pos m; omega
      have tu : t = r i * u i := by
        have := hu i (by omega)
        rw [ht] at this
        exact Int.eq_of_mul_eq_mul_left hm this
      have mx : max 0 (M - LL s n (s (i + 1)) (i + 1)) = M - LL s n (s (i + 1)) (i + 1) := by
        have := ((N.ll h hM i (by omega)).2.2 (by omega)).1
        omega
      have e5 : M - LL s n (s (i + 1)) (i + 1) = s (i + 1) * (q * (t - u i)) := by
        rw [L1]
        have : q * t * s i = s (i + 1) * (q * u i) := by rw [hs.1, tu]; grind
        rw [this, ht, eq]; grind
      have e6 : n (i + 1) = s m * (k1 + (t - u i)) := by
        rw [N.nx i (by omega), mx, e5, Int.mul_ediv_cancel_left _ hz, c1, eq]; grind
      refine ⟨?_, _, e6⟩
      rw [e6, EX, div i (by omega)]
      rw [f1] at e1
      have : s m * (k1 + (t - u i)) = s m * k1 + (s m * t - s m * u i) := by grind
      rw [this, ← ht]
      omega
/-- at most so much more than the smooth number -/
theorem Nums.smooth (h : Szs s) (N : Nums s n M m) (hM : 0 ≤ M) (r : Nat → Int) (hr : ∀ i, i < m → s (i + 1) = s i * r i ∧ 1 ≤ r i) (left under : Nat → Int) (l0 : left 0 = M) (u0 : under 0 = 1)
    (ls : ∀ i, i < m → left (i + 1) = left i * r i + M * under i * (r i - 1)) (us : ∀ i, i < m → under (i + 1) = under i * r i) : True := trivial
end
end BT

/-! BT3: the smooth bound. -/
namespace BT
def lf (s r : Nat → Int) (M : Int) : Nat → Int
  | 0 => M
  | i + 1 => lf s r M i * r i + M * s i * (r i - 1)
def LF (s r : Nat → Int) (M : Int) : Nat → Int
  | 0 => 0
  | i + 1 => LF s r M i + lf s r M i * (r i - 1)
def SS (s n : Nat → Int) : Nat → Int
  | 0 => 0
  | k + 1 => SS s n k + n k * (s (k + 1) - s k)
section
variable {s n r : Nat → Int} {M : Int} {m : Nat}
theorem lf_eq (h0 : s 0 = 1) (hr : ∀ i, i < m → s (i + 1) = s i * r i ∧ 1 ≤ r i) : ∀ i, i ≤ m → lf s r M i = M * s i + LF s r M i
  | 0, _ => by rw [lf, LF, h0]; omega
  | i + 1, hi => by
    have ih := lf_eq h0 hr i (by omega)
    rw [lf, LF, (hr i (by omega)).1]
    grind
theorem Nums.smoothly (h : Szs s) (N : Nums s n M m) (hM : 0 ≤ M) (hr : ∀ i, i < m → s (i + 1) = s i * r i ∧ 1 ≤ r i) : ∀ i, i ≤ m → n i * s i ≤ lf s r M i + 2 * (i : Int) * (s i * s i) := by
  intro i
  induction i using Nat.strongRecOn with
  | _ i ih =>
    intro hi
    cases i with
    | zero => rw [N.n0, h.s0, lf]; omega
    | succ i =>
      have hz := h.pos (i + 1)
      generalize ez : s (i + 1) = z at *
      have f1 : n (i + 1) ≤ M + AB s n z (i + 1) := by
        rw [N.form h hM (by omega), ez, Int.mul_comm]
        exact Int.ediv_mul_le _ (Int.ne_of_gt hz)
      have f2 : ∀ k, k ≤ i + 1 → AB s n z k * z ≤ SS s n k + z * (s k - 1) := by
        intro k
        induction k with
        | zero => intro _; rw [AB, SS, h.s0]; omega
        | succ k ihk =>
          intro hk
          have a := ihk (by omega)
          have b := cc_lb (w := n k) hz
          have d : 0 ≤ s (k + 1) - s k := by have := h.step k; omega
          have e := Int.mul_le_mul_of_nonneg_right (show cc (n k) z * z ≤ n k + z by omega) d
          rw [AB, SS]
          grind
      have f3 : ∀ k, k ≤ i + 1 → SS s n k ≤ LF s r M k + 2 * (i : Int) * z * (s k - 1) := by
        intro k
        induction k with
        | zero => intro _; rw [SS, LF, h.s0]; omega
        | succ k ihk =>
          intro hk
          have a := ihk (by omega)
          have b := ih k (by omega) (by omega)
          have hs := hr k (by omega)
          have e := Int.mul_le_mul_of_nonneg_right b (show 0 ≤ r k - 1 by omega)
          have p := h.pos k
          have q : s k ≤ z := by rw [← ez]; exact h.mono (by omega)
          have d : 0 ≤ s k * (r k - 1) := Int.mul_nonneg (by omega) (by omega)
          have g1 : (k : Int) * s k ≤ (i : Int) * z := Int.mul_le_mul (by omega) q (by omega) (by omega)
          have g2 := Int.mul_le_mul_of_nonneg_right g1 d
          rw [SS, LF, hs.1]
          grind
      have f4 := f2 (i + 1) (Nat.le_refl _)
      have f5 := f3 (i + 1) (Nat.le_refl _)
      have f6 := lf_eq (M := M) h.s0 hr (i + 1) hi
      rw [ez] at f4 f5 f6
      have f7 := Int.mul_le_mul_of_nonneg_right f1 (Int.le_of_lt hz)
      have f8 : 0 ≤ (i : Int) * z := Int.mul_nonneg (by omega) (by omega)
      have f9 : 0 ≤ z * z := Int.mul_nonneg (by omega) (by omega)
      have e1 : (M + AB s n z (i + 1)) * z = M * z + AB s n z (i + 1) * z := by grind
      have e2 : 2 * (i : Int) * z * (z - 1) = 2 * ((i : Int) * (z * z)) - 2 * ((i : Int) * z) := by grind
      have e3 : z * (z - 1) = z * z - z := by grind
      have e4 : 2 * ((i + 1 : Nat) : Int) * (z * z) = 2 * ((i : Int) * (z * z)) + 2 * (z * z) := by
        rw [Int.natCast_add]; grind
      rw [e1] at f7
      rw [e2] at f5
      rw [e3] at f4
      rw [e4]
      omega
end
end BT

/-! BT4: the least live words, chunk by chunk. -/
namespace BT
def LC (s n : Nat → Int) (z c : Int) : Nat → Int
  | 0 => 0
  | k + 1 => LC s n z c k + (min c (cc (n k) z) - min c (pv n z k)) * s k
section
variable {s n : Nat → Int} {z c : Int}
theorem LC_zero (hn : ∀ j, 0 ≤ cc (n j) z) : ∀ k, LC s n z 0 k = 0
  | 0 => rfl
  | k + 1 => by
    have h1 := hn k
    have h2 : 0 ≤ pv n z k := by
      cases k with
      | zero => exact Int.le_refl _
      | succ k => exact hn k
    have e1 : min 0 (cc (n k) z) = 0 := by omega
    have e2 : min 0 (pv n z k) = 0 := by omega
    rw [LC, LC_zero hn k, e1, e2]; simp
theorem LC_end : ∀ k, (∀ j, j < k → cc (n j) z ≤ c) → (0 ≤ c) → LC s n z c k = LL s n z k
  | 0, _, _ => rfl
  | k + 1, h, hc => by
    have h1 := h k (by omega)
    have h2 : pv n z k ≤ c := by
      cases k with
      | zero => exact hc
      | succ k => exact h k (by omega)
    have e1 : min c (cc (n k) z) = cc (n k) z := by omega
    have e2 : min c (pv n z k) = pv n z k := by omega
    rw [LC, LL, LC_end k (fun j hj => h j (by omega)) hc, e1, e2]
theorem LC_below {f : Nat} (hc : 0 ≤ c) : ∀ k, k ≤ f → (∀ j, j < f → cc (n j) z ≤ c) → LC s n z (c + 1) k = LC s n z c k
  | 0, _, _ => rfl
  | k + 1, hk, h => by
    have h1 := h k (by omega)
    have h2 : pv n z k ≤ c := by
      cases k with
      | zero => exact hc
      | succ k => exact h k (by omega)
    have e1 : min (c + 1) (cc (n k) z) = min c (cc (n k) z) := by omega
    have e2 : min (c + 1) (pv n z k) = min c (pv n z k) := by omega
    rw [LC, LC, LC_below hc k (by omega) h, e1, e2]
/-- a chunk more shows the smallest size that still reaches it -/
theorem LC_step {f : Nat} (hc : 0 ≤ c) (hf : c < cc (n f) z) (hb : ∀ j, j < f → cc (n j) z ≤ c) (mono : ∀ j, cc (n j) z ≤ cc (n (j + 1)) z) : ∀ k, f < k → LC s n z (c + 1) k = LC s n z c k + s f
  | 0, h => by omega
  | k + 1, h => by
    by_cases e : k = f
    · subst e
      have h2 : pv n z k ≤ c := by
        cases k with
        | zero => exact hc
        | succ k => exact hb k (by omega)
      have e1 : min (c + 1) (cc (n k) z) = c + 1 := by omega
      have e2 : min (c + 1) (pv n z k) = pv n z k := by omega
      have e3 : min c (cc (n k) z) = c := by omega
      have e4 : min c (pv n z k) = pv n z k := by omega
      rw [LC, LC, LC_below hc k (Nat.le_refl k) hb, e1, e2, e3, e4]
      grind
    · have up : ∀ j, f ≤ j → c < cc (n j) z := fun j hj => by
        induction j with
        | zero => have : f = 0 := by omega
                  subst this; exact hf
        | succ j ih =>
          by_cases q : f = j + 1
          · subst q; exact hf
          · have := ih (by omega); have := mono j; omega
      have h1 := up k (by omega)
      have h2 : c < pv n z k := by
        cases k with
        | zero => omega
        | succ k => exact up k (by omega)
      have e1 : min (c + 1) (cc (n k) z) = c + 1 := by omega
      have e2 : min (c + 1) (pv n z k) = c + 1 := by omega
      have e3 : min c (cc (n k) z) = c := by omega
      have e4 : min c (pv n z k) = c := by omega
      rw [LC, LC, LC_step hc hf hb mono k (by omega), e1, e2, e3, e4]
      grind
end
theorem filter_first {p : Nat → Bool} {f k : Nat} (hf : f < k) (h : p f = true) (hb : ∀ j, j < f → p j = false) : ∃ r, (List.range k).filter p = f :: r := by
  have e : List.range k = List.range f ++ (List.range (k - f)).map (f + ·) := by
    have := List.range_add (n := f) (m := k - f)
    rw [← this]
    congr 1; omega
  rw [e, List.filter_append]
  have e1 : (List.range f).filter p = [] := by
    rw [List.filter_eq_nil_iff]
    intro j hj
    rw [hb j (by simpa using hj)]
    simp
  have e2 : k - f = (k - f - 1) + 1 := by omega
  rw [e1, e2, List.range_succ_eq_map, List.map_cons, List.nil_append, List.filter_cons]
  have : p (f + 0) = true := h
  rw [if_pos this]
  exact ⟨_, rfl⟩
theorem least {p : Nat → Prop} [DecidablePred p] : ∀ k, p k → ∃ f, f ≤ k ∧ p f ∧ ∀ j, j < f → ¬ p j := by
  intro k
  induction k using Nat.strongRecOn with
  | _ k ih =>
    intro hk
    by_cases h : ∃ j, j < k ∧ p j
    · obtain ⟨j, hj, hp⟩ := h
      obtain ⟨f, h1, h2, h3⟩ := ih j hj hp
      exact ⟨f, by omega, h2, h3⟩
    · exact ⟨k, Nat.le_refl k, hk, fun j hj hp => h ⟨j, hj, hp⟩⟩
end BT

/-! TP: tuples of numbers. -/
namespace BT
open PySem PySem.Spec L2 PL
theorem zip_rng {g k : Nat → PyData} {a b : Nat} (hab : b ≤ a) : zipP ((List.range a).map g) ((List.range b).map k) = (List.range b).map fun i => .tuple [g i, k i] := by
  unfold zipP
  apply List.ext_getElem?
  intro i
  rw [List.getElem?_map, List.getElem?_map]
  by_cases h : i < b
  · rw [List.getElem?_range h]
    have : ((List.range a).map g).zip ((List.range b).map k) = ((List.range a).map g).zip ((List.range b).map k) := rfl
    rw [List.getElem?_eq_getElem (by simp; omega)]
    simp
  · rw [List.getElem?_eq_none (by simp; omega), List.getElem?_eq_none (by simp; omega)]
    rfl
theorem len_map {f : Nat → PyData} {k : Nat} : ((List.range k).map f).length = k := by simp
theorem at_map {f : Nat → PyData} {k i : Nat} (h : i < k) : atI ((List.range k).map f) (i : Int) = some (f i) :=
  atI_nat (by rw [List.getElem?_map, List.getElem?_range h]; rfl)
theorem last_map {f : Nat → PyData} {k : Nat} : atI ((List.range (k + 1)).map f) (-1) = some (f k) := by
  rw [List.range_succ, List.map_append]
  exact atI_last _ _
/-- the tuple of f's first k numbers -/
def tup (k : Nat) (f : Nat → Int) : PyData := .tuple ((List.range k).map fun i => .int (f i))
theorem szs_hs {s : Nat → Int} {m : Nat} (h : Szs s) (hb : s m < 18446744073709551616) : ∀ i, i ≤ m → 0 < s i ∧ s i < 18446744073709551616 := fun i hi => ⟨h.pos i, by have := h.mono hi; omega⟩
theorem drop_rng {f : Nat → PyData} {n : Nat} : ((List.range (n + 1)).map f).drop 1 = (List.range n).map fun i => f (i + 1) := by
  rw [List.range_succ_eq_map, List.map_cons, List.map_map]
  rfl
theorem tup_ints {k : Nat} {f : Nat → Int} : tup k f = .tuple (((List.range k).map f).map PyData.int) := by
  unfold tup; rw [List.map_map]; rfl
theorem tup_at0 {k : Nat} {f : Nat → Int} : item? (tup (k + 1) f) (.int 0) = some (.int (f 0)) := at_map (f := fun i => PyData.int (f i)) (k := k + 1) (i := 0) (by omega)
theorem tup_last {k : Nat} {f : Nat → Int} : item? (tup (k + 1) f) (.int (-1)) = some (.int (f k)) := last_map
def lstI (k : Nat) (f : Nat → Int) : PyData := .list (((List.range k).map f).map PyData.int)
theorem tup_list {k : Nat} {f : Nat → Int} : list? (tup k f) = some (lstI k f) := by rw [tup_ints]; rfl
theorem tup_sort {k : Nat} {f : Nat → Int} (h : ∀ i, i + 1 < k → f i ≤ f (i + 1)) : sortI? (tup k f) = some (lstI k f) := by
  rw [tup_ints, sort_t, isort_id]
  · rfl
  · rw [List.pairwise_map]
    have mono : ∀ j i, i ≤ j → j < k → f i ≤ f j := fun j => by
      induction j with
      | zero => intro i hi _; have : i = 0 := by omega
                subst this; exact Int.le_refl _
      | succ j ih =>
        intro i hi hj
        by_cases e : i = j + 1
        · subst e; exact Int.le_refl _
        · exact Int.le_trans (ih i (by omega) (by omega)) (h j hj)
    refine List.Pairwise.imp_of_mem (R := (· < ·)) (fun {a b} ha hb hab => mono b a (Nat.le_of_lt hab) (by simpa using hb)) List.pairwise_lt_range
theorem ne_lstI {k : Nat} {f g : Nat → Int} : ne? (lstI k f) (lstI k g) = some (.bool (!decide ((List.range k).map f = (List.range k).map g))) := ne_lst
theorem tup_repr {k : Nat} {f : Nat → Int} (h : ∀ i, i < k → (f i).natAbs < 2 ^ 1000) (hk : k ≤ 8000) : ∃ x, repr? (tup k f) = some (.str x) := by
  rw [tup_ints]
  exact ⟨_, repr_tup (fun n hn => by
    obtain ⟨i, hi, rfl⟩ := List.mem_map.mp hn
    exact h i (by simpa using hi)) (by simpa using hk)⟩
theorem tup_len {k : Nat} {f : Nat → Int} : len? (tup k f) = some (.int k) := by unfold tup; rw [len_t]; simp
theorem tup_zip {k : Nat} {f g : Nat → Int} : zip? (tup k f) (tup k g) = some ((List.range k).map fun i => .tuple [.int (f i), .int (g i)]) := by
  unfold tup
  rw [zip_t, zip_rng (Nat.le_refl k)]
theorem cut_take {α : Type} (xs : List α) (k : Nat) : cut xs none (some (k : Int)) = xs.take k := by
  unfold cut
  rw [HT.sIx_nat]
  show (xs.drop 0).take (min k xs.length - 0) = _
  rw [List.drop_zero, Nat.sub_zero, ← List.take_take, List.take_length]
theorem cut_drop {α : Type} (xs : List α) (k : Nat) : cut xs (some (k : Int)) none = xs.drop k := by
  unfold cut
  rw [HT.sIx_nat]
  show (xs.drop (min k xs.length)).take (xs.length - min k xs.length) = _
  rw [List.take_of_length_le (by simp)]
  by_cases h : k ≤ xs.length
  · rw [Nat.min_eq_left h]
  · rw [Nat.min_eq_right (by omega), List.drop_length, List.drop_of_length_le (by omega)]
theorem cut_1n {α : Type} (xs : List α) : cut xs (some 1) none = xs.drop 1 := cut_drop xs 1
theorem sIx_m1 {n d : Nat} : HT.sIx (n + 1) d (some (-1)) = n := by
  show (if (-1 : Int) < 0 then ((-1 : Int) + ((n + 1 : Nat) : Int)).toNat else min (-1 : Int).toNat (n + 1)) = n
  rw [if_pos (by decide)]
  omega
theorem cut_mid {f : Nat → PyData} {m : Nat} (hm : 1 ≤ m) : cut ((List.range (m + 1)).map f) (some 1) (some (-1)) = (List.range (m - 1)).map fun i => f (i + 1) := by
  unfold cut
  rw [List.length_map, List.length_range, sIx_m1]
  have e : HT.sIx (m + 1) 0 (some 1) = 1 := by
    have := HT.sIx_nat (m + 1) 0 1
    rw [show ((1 : Nat) : Int) = 1 from rfl] at this
    rw [this]; omega
  rw [e, drop_rng, ← List.map_take, List.take_range]
  congr 2
  omega
theorem cut_last {f : Nat → PyData} {m : Nat} : cut ((List.range (m + 1)).map f) (some (-1)) none = [f m] := by
  unfold cut
  rw [List.length_map, List.length_range, sIx_m1]
  show (((List.range (m + 1)).map f).drop m).take (m + 1 - m) = _
  rw [List.range_succ, List.map_append, List.drop_left' (by simp)]
  have : m + 1 - m = 1 := by omega
  rw [this]; rfl
theorem CLS_pos {s : Nat → Int} {M : Int} {m : Nat} : 0 ≤ CLS s M m := maxL_ge (by unfold CLL; simp)
theorem CLS_ge {s : Nat → Int} {M : Int} {m i : Nat} (hi : i ≤ m) (h : s i ≤ M) : 1 + (M - s i) / (s m / s i) ≤ CLS s M m := by
  refine maxL_ge ?_
  unfold CLL
  refine List.mem_append_left _ (List.mem_map.mpr ⟨i, List.mem_filter.mpr ⟨by simp; omega, by simpa using h⟩, rfl⟩)
theorem CLS_le {s : Nat → Int} {M : Int} {m : Nat} (h : Szs s) (hM : 0 ≤ M) : CLS s M m ≤ 1 + M := by
  refine maxL_le (by unfold CLL; simp) fun x hx => ?_
  unfold CLL at hx
  rcases List.mem_append.mp hx with hx | hx
  · obtain ⟨i, hi, rfl⟩ := List.mem_map.mp hx
    have h1 := (List.mem_filter.mp hi).2
    have h2 : s i ≤ M := by simpa using h1
    have h3 := h.pos i
    have : (M - s i) / (s m / s i) ≤ M - s i := Int.ediv_le_self _ (by omega)
    omega
  · have : x = 0 := by simpa using hx
    omega
theorem num_le {s : Nat → Int} {M : Int} {m : Nat} (h : Szs s) (hM : 0 ≤ M) {i : Nat} (hi : i ≤ m) : 0 ≤ num s (fun _ => 0) M i ∧ num s (fun _ => 0) M i ≤ s m * CLS s M m := by
  have N := num_nums (f := fun _ => 0) h hM (fun _ => rfl) m
  refine ⟨N.nonneg h hM hi, N.careless h hM CLS_pos (fun j hj h1 q e => ?_) i hi⟩
  have hp := h.pos j
  have := CLS_ge (m := m) hj h1
  have e2 : s m / s j = q := by rw [e]; exact Int.mul_ediv_cancel_left _ (by omega)
  rwa [e2] at this
theorem tup_chn {qs : List Nat} : PyData.tuple ((chn qs).map PyData.int) = tup (qs.length + 1) (sz qs) := by
  unfold tup chn
  rw [List.map_map]
  rfl
theorem chn_last {qs : List Nat} : atI ((chn qs).map PyData.int) (-1) = some (.int (prodQ qs : Nat)) := by
  unfold chn
  rw [List.range_succ, List.map_append, List.map_append]
  show atI (((List.range qs.length).map (sz qs)).map PyData.int ++ [PyData.int (sz qs qs.length)]) (-1) = _
  rw [sz_page]
  exact atI_last _ _
def rt (s : Nat → Int) (i : Nat) : Int := s (i + 1) / s i
theorem rt_ok {s : Nat → Int} (h : Szs s) (i : Nat) : s (i + 1) = s i * rt s i ∧ 1 ≤ rt s i := by
  obtain ⟨q, hq, e⟩ := h.mul i
  have hp := h.pos i
  have : rt s i = q := by unfold rt; rw [e]; exact Int.mul_ediv_cancel_left _ (by omega)
  rw [this]
  exact ⟨e, hq⟩
theorem rt_lt {s : Nat → Int} {m : Nat} (h : Szs s) (hb : s m < 18446744073709551616) : ∀ i, i < m → 0 < rt s i ∧ rt s i < 18446744073709551616 := fun i hi => by
  have hs := szs_hs h hb
  obtain ⟨e, h1⟩ := rt_ok h i
  have h2 := hs (i + 1) (by omega)
  have h3 := hs i (by omega)
  have := Int.mul_le_mul_of_nonneg_right (a := 1) (b := s i) (c := rt s i) (by omega) (by omega)
  omega
end BT

/-! RB: blocks, reaches, numbers from any reaches. -/
namespace BT
open PySem PySem.Spec L2 PL
theorem cc_alt {w z : Int} (h : 0 < z) : (w + z - 1) / z = cc w z := by
  have h1 := Int.mul_ediv_add_emod (w + z - 1) z
  have h2 := Int.emod_nonneg (w + z - 1) (Int.ne_of_gt h)
  have h3 := Int.emod_lt_of_pos (w + z - 1) h
  generalize (w + z - 1) / z = k at *
  generalize (w + z - 1) % z = r at *
  have h4 : cc w z ≤ k := (cc_le h).mpr (by rw [Int.mul_comm]; omega)
  have h5 : k - 1 < cc w z := (lt_cc h).mpr (by rw [Int.sub_mul, Int.mul_comm]; omega)
  omega
theorem maxL_swap {l : List Int} : maxL (0 :: l) = maxL (l ++ [0]) := by
  refine Int.le_antisymm (maxL_le (by simp) fun x hx => maxL_ge ?_) (maxL_le (by simp) fun x hx => maxL_ge ?_)
  · simp only [List.mem_cons, List.mem_append, List.not_mem_nil, or_false] at *
    exact hx.symm
  · simp only [List.mem_cons, List.mem_append, List.not_mem_nil, or_false] at *
    exact hx.symm
theorem nl_ints : ∀ ns : List Int, noListA (ns.map PyData.int) = true
  | [] => rfl
  | n :: ns => by simp only [List.map_cons, noListA, noList, nl_ints ns, Bool.and_self]
theorem flat_ints {ns : List Int} : flatC (.list (ns.map PyData.int)) = true := nl_ints ns
theorem flat_rng {k : Nat} {f : Nat → Int} : flatC (.list ((List.range k).map fun i => PyData.int (f i))) = true := by
  have := flat_ints (ns := (List.range k).map f)
  rwa [List.map_map] at this
def endL (s : Int) (bs : List (Int × Int)) : List Int := 0 :: (bs.filter fun b => decide (b.2 ≤ s)).map fun b => b.1 + b.2
def rch (s : Nat → Int) (bs : List (Int × Int)) (i : Nat) : Int := maxL (endL (s i) bs)
theorem rch_nn {s : Nat → Int} {bs : List (Int × Int)} {i : Nat} : 0 ≤ rch s bs i := maxL_ge (by simp [endL])
theorem rch_le {s : Nat → Int} {bs : List (Int × Int)} {i : Nat} {B : Int} (h0 : 0 ≤ B) (h : ∀ b ∈ bs, b.1 + b.2 ≤ B) : rch s bs i ≤ B := by
  refine maxL_le (by simp [endL]) fun x hx => ?_
  unfold endL at hx
  rcases List.mem_cons.mp hx with rfl | hx
  · exact h0
  · obtain ⟨b, hb, rfl⟩ := List.mem_map.mp hx
    exact h b (List.mem_filter.mp hb).1
theorem rch_ge {s : Nat → Int} {bs : List (Int × Int)} {i : Nat} {b : Int × Int} (h : b ∈ bs) (hs : b.2 ≤ s i) : b.1 + b.2 ≤ rch s bs i :=
  maxL_ge (List.mem_cons_of_mem _ (List.mem_map.mpr ⟨b, List.mem_filter.mpr ⟨h, by simpa using hs⟩, rfl⟩))
theorem rch_sub {s : Nat → Int} {bs bs' : List (Int × Int)} {i : Nat} (h : ∀ b ∈ bs', b ∈ bs) : rch s bs' i ≤ rch s bs i := by
  refine maxL_le (by simp [endL]) fun x hx => ?_
  unfold endL at hx
  rcases List.mem_cons.mp hx with rfl | hx
  · exact rch_nn
  · obtain ⟨b, hb, rfl⟩ := List.mem_map.mp hx
    have h2 := List.mem_filter.mp hb
    exact rch_ge (h b h2.1) (by simpa using h2.2)
theorem rch_nil {s : Nat → Int} {i : Nat} : rch s [] i = 0 := rfl
theorem zip_lu {k : Nat} {f : Nat → PyData} {g : Nat → Int} : zip? (.list ((List.range k).map f)) (tup k g) = some ((List.range k).map fun i => .tuple [f i, .int (g i)]) := by
  unfold tup
  rw [zip_lt, zip_rng (Nat.le_refl k)]
theorem zip_ul {k : Nat} {f : Nat → PyData} {g : Nat → Int} : zip? (tup k g) (.list ((List.range k).map f)) = some ((List.range k).map fun i => .tuple [.int (g i), f i]) := by
  unfold tup
  rw [zip_tl, zip_rng (Nat.le_refl k)]
section
variable {s f f' : Nat → Int} {M M' : Int}
theorem num_rise (h : Szs s) (i : Nat) : num s f M i ≤ num s f M (i + 1) := by
  rw [num_s]
  have hz := h.pos (i + 1)
  have h1 := cc_ub (w := num s f M i) hz
  have h2 : 0 ≤ max 0 (M - LL s (num s f M) (s (i + 1)) (i + 1)) / s (i + 1) := Int.ediv_nonneg (by omega) (by omega)
  have h3 : s (i + 1) * cc (num s f M i) (s (i + 1)) ≤ s (i + 1) * (cc (num s f M i) (s (i + 1)) + max 0 (M - LL s (num s f M) (s (i + 1)) (i + 1)) / s (i + 1)) := Int.mul_le_mul_of_nonneg_left (by omega) (by omega)
  rw [Int.mul_comm] at h1
  omega
theorem num_up (h : Szs s) {i j : Nat} (hij : i ≤ j) : num s f M i ≤ num s f M j := by
  induction j with
  | zero => have : i = 0 := by omega
            subst this; exact Int.le_refl _
  | succ j ih =>
    by_cases e : i = j + 1
    · subst e; exact Int.le_refl _
    · exact Int.le_trans (ih (by omega)) (num_rise h j)
theorem num_nn (h : Szs s) (hM : 0 ≤ M) (i : Nat) : 0 ≤ num s f M i := by
  have := num_up (f := f) (M := M) h (Nat.zero_le i)
  rw [num_0] at this
  omega
theorem LL_nn {n : Nat → Int} {z : Int} (h : Szs s) (hz : 0 < z) (n0 : 0 ≤ n 0) (up : ∀ j, n j ≤ n (j + 1)) : ∀ k, 0 ≤ LL s n z k
  | 0 => Int.le_refl 0
  | k + 1 => by
    have h1 := LL_nn h hz n0 up k
    have h2 : pv n z k ≤ cc (n k) z := by
      cases k with
      | zero => exact cc_nonneg hz n0
      | succ k => exact cc_mono hz (up k)
    have h3 := Int.mul_nonneg (a := cc (n k) z - pv n z k) (b := s k) (by omega) (by have := h.pos k; omega)
    unfold LL
    omega
theorem num_ge (i : Nat) : f i ≤ num s f M i := by
  cases i with
  | zero => rw [num_0]; omega
  | succ i => rw [num_s]; omega
theorem AB_mono {n n' : Nat → Int} {z : Int} (h : Szs s) (hz : 0 < z) : ∀ k, (∀ j, j < k → n j ≤ n' j) → AB s n z k ≤ AB s n' z k
  | 0, _ => Int.le_refl _
  | k + 1, hk => by
    have h1 := AB_mono h hz k fun j hj => hk j (by omega)
    have h2 := cc_mono hz (hk k (by omega))
    have h3 := h.step k
    have h4 := Int.mul_le_mul_of_nonneg_left (a := cc (n k) z) (b := cc (n' k) z) (c := s (k + 1) - s k) h2 (by omega)
    unfold AB
    rw [Int.mul_comm (cc (n k) z), Int.mul_comm (cc (n' k) z)] at *
    omega
theorem num_mono (h : Szs s) (hf : ∀ i, f i ≤ f' i) (hM : M ≤ M') : ∀ i, num s f M i ≤ num s f' M' i := by
  intro i
  induction i using Nat.strongRecOn with
  | _ i ih =>
    cases i with
    | zero => rw [num_0, num_0]; have := hf 0; omega
    | succ i =>
      rw [num_s, num_s]
      have hz := h.pos (i + 1)
      have hA := AB_mono (s := s) (n := num s f M) (n' := num s f' M') h hz (i + 1) fun j hj => ih j hj
      have a1 := abel s (num s f M) (s (i + 1)) (i + 1)
      have a2 := abel s (num s f' M') (s (i + 1)) (i + 1)
      rw [pv_s] at a1 a2
      have hc := cc_mono hz (ih i (by omega))
      generalize LL s (num s f M) (s (i + 1)) (i + 1) = L at *
      generalize LL s (num s f' M') (s (i + 1)) (i + 1) = L' at *
      generalize cc (num s f M i) (s (i + 1)) = c at *
      generalize cc (num s f' M' i) (s (i + 1)) = c' at *
      generalize AB s (num s f M) (s (i + 1)) (i + 1) = A at *
      generalize AB s (num s f' M') (s (i + 1)) (i + 1) = A' at *
      generalize s (i + 1) = z at *
      have e : ∀ c D : Int, z * (c + D / z) = z * ((z * c + D) / z) := fun c D => by
        rw [Int.add_comm (z * c), Int.add_mul_ediv_left _ _ (by omega), Int.add_comm]
      have goal : z * (c + max 0 (M - L) / z) ≤ z * (c' + max 0 (M' - L') / z) := by
        refine Int.mul_le_mul_of_nonneg_left ?_ (by omega)
        by_cases hd : 0 ≤ M - L
        · have e1 : max 0 (M - L) = M - L := by omega
          rw [e1]
          have h1 : c + (M - L) / z = (z * c + (M - L)) / z := by rw [Int.add_comm (z * c), Int.add_mul_ediv_left _ _ (by omega), Int.add_comm]
          have h2 : c' + (M' - L') / z = (z * c' + (M' - L')) / z := by rw [Int.add_comm (z * c'), Int.add_mul_ediv_left _ _ (by omega), Int.add_comm]
          have h3 : (M' - L') / z ≤ max 0 (M' - L') / z := Int.ediv_le_ediv hz (by omega)
          have h4 : (z * c + (M - L)) / z ≤ (z * c' + (M' - L')) / z := Int.ediv_le_ediv hz (by omega)
          omega
        · have e1 : max 0 (M - L) = 0 := by omega
          rw [e1]
          have h3 : 0 ≤ max 0 (M' - L') / z := Int.ediv_nonneg (by omega) (by omega)
          simp
          omega
      have := hf (i + 1)
      omega
theorem num_ub (h : Szs s) (hM : 0 ≤ M) {S F : Int} {m : Nat} (hS : ∀ i, i ≤ m → s i ≤ S) (hF0 : 0 ≤ F) (hF : ∀ i, f i ≤ F) : ∀ i, i ≤ m → num s f M i ≤ F + M + i * (M + S)
  | 0, _ => by rw [num_0]; have := hF 0; simp; omega
  | i + 1, hi => by
    have ih := num_ub h hM hS hF0 hF i (by omega)
    rw [num_s]
    have hz := h.pos (i + 1)
    have hl := LL_nn (n := num s f M) h hz (num_nn h hM 0) (num_rise h) (i + 1)
    have h1 := cc_lb (w := num s f M i) hz
    have h2 : max 0 (M - LL s (num s f M) (s (i + 1)) (i + 1)) / s (i + 1) * s (i + 1) ≤ max 0 (M - LL s (num s f M) (s (i + 1)) (i + 1)) := Int.ediv_mul_le _ (by omega)
    have h3 := hS (i + 1) hi
    have h4 := hF (i + 1)
    have h5 : (((i + 1 : Nat) : Int)) * (M + S) = i * (M + S) + (M + S) := by
      rw [Int.natCast_add, Int.add_mul]; simp
    have h6 : 0 ≤ (i : Int) * (M + S) := Int.mul_nonneg (by omega) (by have := hS 0 (by omega); have := h.pos 0; omega)
    rw [Int.mul_add, Int.mul_comm (s (i + 1)) (cc _ _), Int.mul_comm (s (i + 1)) (_ / _)]
    generalize cc (num s f M i) (s (i + 1)) * s (i + 1) = a at *
    generalize max 0 (M - LL s (num s f M) (s (i + 1)) (i + 1)) / s (i + 1) * s (i + 1) = b at *
    rw [h5]
    generalize (i : Int) * (M + S) = g at *
    omega
end
/-- two sizes -/
def s2 (r : Int) (i : Nat) : Int := if i = 0 then 1 else r
theorem s2_szs {r : Int} (h : 1 ≤ r) : Szs (s2 r) := ⟨rfl, fun i => by
  cases i with
  | zero => exact ⟨r, h, by simp [s2]⟩
  | succ i => exact ⟨1, Int.le_refl _, by simp [s2]⟩⟩
theorem tup_s2 {r : Int} : tup 2 (s2 r) = .tuple [.int 1, .int r] := rfl
theorem num_s2 {r M : Int} (h : 1 ≤ r) (hM : 0 ≤ M) : num (s2 r) (fun _ => 0) M 0 = M ∧ num (s2 r) (fun _ => 0) M 1 = r * (cc M r + (M - cc M r) / r) := by
  have h0 : num (s2 r) (fun _ => 0) M 0 = M := by rw [num_0]; omega
  refine ⟨h0, ?_⟩
  have h1 := num_s (s := s2 r) (f := fun _ => 0) (M := M) 0
  have e1 : s2 r (0 + 1) = r := rfl
  have e2 : s2 r 0 = 1 := rfl
  simp only [LL, pv_0, h0, e1, e2] at h1
  have hc : cc M r ≤ M := (cc_le (by omega)).mpr (by
    have := Int.mul_le_mul_of_nonneg_left (a := 1) (b := r) (c := M) (by omega) hM
    omega)
  have hc0 := cc_nonneg (w := M) (z := r) (by omega) hM
  have e3 : max 0 (M - (0 + (cc M r - 0) * 1)) = M - cc M r := by omega
  rw [e3] at h1
  have h2 : 0 ≤ (M - cc M r) / r := Int.ediv_nonneg (by omega) (by omega)
  have h3 : 0 ≤ r * (cc M r + (M - cc M r) / r) := Int.mul_nonneg (by omega) (by omega)
  rw [h1]
  omega
theorem sz_succ {qs : List Nat} {j : Nat} (h : j < qs.length) : sz qs (j + 1) = sz qs j * (qs[j] : Nat) := by
  unfold sz
  rw [List.take_succ, List.getElem?_eq_getElem h]
  show ((prodQ (qs.take j ++ [qs[j]]) : Nat) : Int) = _
  rw [prodQ_snoc, Int.natCast_mul]
theorem sz_rt {qs : List Nat} {j : Nat} (hq : ∀ q ∈ qs, 1 ≤ q) (h : j < qs.length) : rt (sz qs) j = (qs[j] : Nat) := by
  unfold rt
  rw [sz_succ h]
  exact Int.mul_ediv_cancel_left _ (by have := (sz_szs hq).pos j; omega)
end BT

namespace BT
open PySem PySem.Spec L2 PL
theorem all_b {α : Type} {xs : List α} {f : α → Bool} : all? (.list (xs.map fun x => PyData.bool (f x))) = some (.bool (xs.all f)) := by
  have e := all_m (ns := xs.map f)
  rw [List.map_map] at e
  have e2 : (xs.map fun x => PyData.bool (f x)) = xs.map (PyData.bool ∘ f) := rfl
  rw [e2, e, List.all_map]
  rfl
theorem any_b {α : Type} {xs : List α} {f : α → Bool} : any? (.list (xs.map fun x => PyData.bool (f x))) = some (.bool (xs.any f)) := by
  have e := any_m (ns := xs.map f)
  rw [List.map_map] at e
  have e2 : (xs.map fun x => PyData.bool (f x)) = xs.map (PyData.bool ∘ f) := rfl
  rw [e2, e, List.any_map]
  rfl
def nbs {α : Type} (ns : List α) : List (α × α) := ns.zip (ns.drop 1)
theorem zip_nbs {α : Type} {ns : List α} {D : α → PyData} : zipP (ns.map D) ((ns.map D).drop 1) = (nbs ns).map fun p => PyData.tuple [D p.1, D p.2] := by
  unfold zipP nbs
  rw [← List.map_drop]
  apply List.ext_getElem (by simp)
  intro i h1 h2
  simp
theorem nbs_mem {α : Type} {ns : List α} {p : α × α} (h : p ∈ nbs ns) : p.1 ∈ ns ∧ p.2 ∈ ns := by
  have := List.of_mem_zip (show (p.1, p.2) ∈ ns.zip (ns.drop 1) from h)
  exact ⟨this.1, List.mem_of_mem_drop this.2⟩
theorem nbs_len {α : Type} {ns : List α} : (nbs ns).length ≤ ns.length := by unfold nbs; simp
theorem nbs_two {α : Type} {a b : α} {r : List α} : nbs (a :: b :: r) = (a, b) :: nbs (b :: r) := rfl
theorem nbs_snoc {α : Type} {b c : α} : ∀ {r : List α}, nbs (r ++ [b] ++ [c]) = nbs (r ++ [b]) ++ [(b, c)]
  | [] => rfl
  | [a] => rfl
  | a :: a' :: r => by
    show nbs (a :: a' :: (r ++ [b] ++ [c])) = nbs (a :: a' :: (r ++ [b])) ++ _
    rw [nbs_two, nbs_two]
    have h : nbs (a' :: (r ++ [b] ++ [c])) = nbs (a' :: (r ++ [b])) ++ [(b, c)] := nbs_snoc (b := b) (c := c) (r := a' :: r)
    rw [h]; rfl
theorem rep_b (b : Bool) : ∃ x, repr? (.bool b) = some (.str x) := by
  cases b
  · exact ⟨_, rfl⟩
  · exact ⟨_, rfl⟩
theorem cut_len {α : Type} {xs : List α} {lo hi : Option Int} : (cut xs lo hi).length ≤ xs.length := by
  unfold cut
  simp; omega
theorem cut_map {α β : Type} {f : α → β} {xs : List α} {lo hi : Option Int} : cut (xs.map f) lo hi = (cut xs lo hi).map f := by
  unfold cut
  rw [List.length_map, List.map_take, List.map_drop]
theorem prs_lay : ∀ ps : List (Int × Int), PyData.canLayAll0 (ps.map prI) = true
  | [] => rfl
  | p :: ps => by simp [PyData.canLayAll0, PyData.canLay0, prI, prs_lay ps]
theorem prs_dep : ∀ ps : List (Int × Int), PyData.depthAll (ps.map prI) ≤ 1
  | [] => by decide
  | p :: ps => by
    have h := prs_dep ps
    have e : PyData.depthAll ((p :: ps).map prI) = max (prI p).depth (PyData.depthAll (ps.map prI)) := by simp [PyData.depthAll]
    have e2 : (prI p).depth = 1 := by simp [prI, PyData.depth, PyData.depthAll]
    rw [e, e2]
    omega
theorem shp_prs {ps : List (Int × Int)} : SeqAt.shaped (.tuple (ps.map prI)) = true := by
  have h := prs_dep ps
  show (PyData.canLayAll0 (ps.map prI) && decide (PyData.depthAll (ps.map prI) + 1 ≤ 64)) = true
  rw [prs_lay, decide_eq_true (by omega)]; rfl
theorem eqv_prs : ∀ xs ys : List (Int × Int), PyData.eqvAll (xs.map prI) (ys.map prI) = decide (xs = ys)
  | [], [] => rfl
  | [], y :: ys => rfl
  | x :: xs, [] => rfl
  | x :: xs, y :: ys => by
    have ih := eqv_prs xs ys
    rw [List.map_cons, List.map_cons]
    simp only [PyData.eqvAll, ih, List.cons.injEq]
    obtain ⟨a, b⟩ := x
    obtain ⟨c, d⟩ := y
    by_cases h1 : a = c <;> by_cases h2 : b = d <;> simp [h1, h2, prI, PyData.eqv, PyData.eqvAll]
theorem eq_prs {xs ys : List (Int × Int)} : eq? (.tuple (xs.map prI)) (.tuple (ys.map prI)) = some (.bool (decide (xs = ys))) := by
  unfold eq? cmpOk
  rw [shp_prs, shp_prs, if_pos (by simp)]
  simp only [PyData.eqv, eqv_prs]
theorem flat_i {i : Int} : flatD (.int i) = true := rfl
theorem flat_is : ∀ {ns : List Int}, (ns.map PyData.int).all flatD = true
  | [] => rfl
  | n :: ns => by rw [List.map_cons, List.all_cons, flat_is, flat_i]; rfl
theorem any_eqv {n : Int} : ∀ {ns : List Int}, ((ns.map PyData.int).any fun z => PyData.eqv z (.int n)) = decide (n ∈ ns)
  | [] => rfl
  | m :: ns => by
    rw [List.map_cons, List.any_cons, any_eqv]
    simp only [PyData.eqv]
    by_cases h : m = n
    · subst h; simp
    · have : ¬ n = m := fun z => h z.symm
      by_cases h2 : n ∈ ns <;> simp [h, this, h2]
theorem in_tup {n : Int} {ns : List Int} : in? (.int n) (.tuple (ns.map PyData.int)) = some (.bool (decide (n ∈ ns))) := by
  unfold in?
  dsimp only
  rw [flat_i, flat_is, if_pos (by rfl), any_eqv]
theorem in_tupS {n : Int} {k : Nat} {s : Nat → Int} : in? (.int n) (tup k s) = some (.bool (decide (n ∈ (List.range k).map s))) := by rw [tup_ints]; exact in_tup
theorem nin_tupS {n : Int} {k : Nat} {s : Nat → Int} : notIn? (.int n) (tup k s) = some (.bool (!decide (n ∈ (List.range k).map s))) := by
  unfold notIn?; rw [in_tupS]; rfl
end BT

/-! ST: states (lists of blocks). -/
namespace BT
open PySem PySem.Spec L2 PL
section
variable {s : Nat → Int} {m : Nat} {N : Int}
def OkB (s : Nat → Int) (m : Nat) (N : Int) (p : Int × Int) : Prop := (∃ i, i ≤ m ∧ p.2 = s i) ∧ 0 ≤ p.1 ∧ p.1 % p.2 = 0 ∧ p.1 + p.2 ≤ N * s m
def Dsj (p q : Int × Int) : Prop := p.1 + p.2 ≤ q.1 ∨ q.1 + q.2 ≤ p.1
def Bef (p q : Int × Int) : Prop := p.1 + p.2 ≤ q.1
structure Stt (s : Nat → Int) (m : Nat) (N : Int) (bs : List (Int × Int)) : Prop where
  blk : ∀ b ∈ bs, OkB s m N b
  ord : bs.Pairwise Bef
theorem OkB.pos {p : Int × Int} (hs : Szs s) (h : OkB s m N p) : 0 < p.2 := by
  obtain ⟨⟨i, _, e⟩, _⟩ := h
  rw [e]; exact hs.pos i
theorem OkB.le {p : Int × Int} (hs : Szs s) (h : OkB s m N p) : p.2 ≤ s m := by
  obtain ⟨⟨i, hi, e⟩, _⟩ := h
  rw [e]; exact hs.mono hi
theorem leP_le {p q : Int × Int} (h : leP p q = true) : p.1 ≤ q.1 := by
  unfold leP SrtO.lexB at h
  split at h
  · omega
  · simp at h; exact h
theorem Dsj.symm {p q : Int × Int} (h : Dsj p q) : Dsj q p := Or.symm h
theorem stt_sort {bs : List (Int × Int)} (hs : Szs s) (h1 : ∀ b ∈ bs, OkB s m N b) (h2 : bs.Pairwise Dsj) : Stt s m N (psort bs) := by
  have hp := psort_perm bs
  have h1' : ∀ b ∈ psort bs, OkB s m N b := fun b hb => h1 b (hp.mem_iff.mp hb)
  refine ⟨h1', ?_⟩
  have h3 : (psort bs).Pairwise Dsj := (hp.pairwise_iff (fun {x y} h => Dsj.symm h)).mpr h2
  refine List.Pairwise.imp_of_mem (R := fun p q => Dsj p q ∧ leP p q = true) ?_ (h3.and (psort_sorted bs))
  intro a b ha hb h
  obtain ⟨hd, hl⟩ := h
  have hl := leP_le hl
  have pa := (h1' a ha).pos hs
  have pb := (h1' b hb).pos hs
  rcases hd with hd | hd
  · exact hd
  · unfold Bef; omega
/-- a word is within a block of bs -/
def InW (bs : List (Int × Int)) (w : Int) : Prop := ∃ b ∈ bs, b.1 ≤ w ∧ w < b.1 + b.2
theorem inW_snoc {bs : List (Int × Int)} {p : Int × Int} {w : Int} : InW (bs ++ [p]) w ↔ InW bs w ∨ (p.1 ≤ w ∧ w < p.1 + p.2) := by
  unfold InW
  constructor
  · rintro ⟨b, hb, h⟩
    rcases List.mem_append.mp hb with hb | hb
    · exact .inl ⟨b, hb, h⟩
    · rw [List.mem_singleton.mp hb] at h
      exact .inr h
  · rintro (⟨b, hb, h⟩ | h)
    · exact ⟨b, List.mem_append_left _ hb, h⟩
    · exact ⟨p, by simp, h⟩
theorem dsj_new {bs : List (Int × Int)} {p : Int × Int} (hb : ∀ b ∈ bs, 0 < b.2) (hp : 0 < p.2) (h : ∀ w, p.1 ≤ w → w < p.1 + p.2 → ¬ InW bs w) : ∀ b ∈ bs, Dsj b p := fun b hbm => by
  unfold Dsj
  by_cases h1 : b.1 + b.2 ≤ p.1
  · exact .inl h1
  · by_cases h2 : p.1 + p.2 ≤ b.1
    · exact .inr h2
    · exfalso
      have hb := hb b hbm
      by_cases h3 : b.1 ≤ p.1
      · exact h p.1 (by omega) (by omega) ⟨b, hbm, h3, by omega⟩
      · exact h b.1 (by omega) (by omega) ⟨b, hbm, by omega, by omega⟩
theorem pw_snoc {α : Type} {R : α → α → Prop} {l : List α} {a : α} (h : l.Pairwise R) (h2 : ∀ b ∈ l, R b a) : (l ++ [a]).Pairwise R := by
  rw [List.pairwise_append]
  exact ⟨h, List.pairwise_singleton _ _, fun x hx y hy => by rw [List.mem_singleton.mp hy]; exact h2 x hx⟩
theorem tup_at {k : Nat} {f : Nat → Int} {d : Int} (h0 : 0 ≤ d) (h1 : d < k) : item? (tup k f) (.int d) = some (.int (f d.toNat)) := by
  have := at_map (f := fun i => PyData.int (f i)) (k := k) (i := d.toNat) (by omega)
  rw [Int.toNat_of_nonneg h0] at this
  exact this
theorem atI_back {α : Type} {xs : List α} {d : Int} {v : α} (h0 : 0 ≤ d) (h1 : d < xs.length) (e : xs[xs.length - 1 - d.toNat]? = some v) : atI xs (-1 - d) = some v := by
  have e1 : ixN xs.length (-1 - d) = some (xs.length - 1 - d.toNat) := by
    unfold ixN
    rw [if_neg (by omega), if_pos (by omega)]
    congr 1; omega
  show (ixN xs.length (-1 - d)).bind _ = _
  rw [e1]; exact e
theorem tup_back {k : Nat} {f : Nat → Int} {d : Int} (h0 : 0 ≤ d) (h1 : d < k) : item? (tup k f) (.int (-1 - d)) = some (.int (f (k - 1 - d.toNat))) := by
  refine atI_back h0 (by simpa using h1) ?_
  rw [List.length_map, List.length_range, List.getElem?_map, List.getElem?_range (by omega)]
  rfl
end
end BT

/-! CK: the blocks of a chunk. -/
namespace BT
open PySem PySem.Spec L2 PL
theorem rngC_map {z : Int} {d : Nat} : rangeC 0 z d = (List.range d).map fun i : Nat => PyData.int (0 + (i : Int) * z) := rfl
theorem rng3_mul {z : Int} {d : Nat} (hz : 0 < z) (hz2 : z < 100000) (hd : d ≤ 100000) : rng3? (.int 0) (.int (z * d)) (.int z) = some (rangeC 0 z d) := by
  have hb : z * d ≤ 100000 * 100000 := Int.mul_le_mul (by omega) (by omega) (by omega) (by omega)
  have h0 : 0 ≤ z * (d : Int) := Int.mul_nonneg (by omega) (by omega)
  have e : Builtin.Range.rangeSize 0 (z * d) z = d := by
    unfold Builtin.Range.rangeSize
    rw [if_pos (by omega)]
    cases d with
    | zero => simp
    | succ d =>
      have h1 : 0 < z * ((d + 1 : Nat) : Int) := Int.mul_pos hz (by omega)
      rw [if_pos h1]
      have : z * ((d + 1 : Nat) : Int) - 0 - 1 = z * d + (z - 1) := by rw [Int.natCast_add, Int.mul_add]; simp; omega
      rw [this, Int.add_comm (z * (d : Int)), Int.add_mul_ediv_left _ _ (by omega), Int.ediv_eq_zero_of_lt (by omega) (by omega)]
      omega
  have hs : Builtin.Range.small 0 (z * d) z = true := by
    unfold Builtin.Range.small
    rw [e]
    simp only [Builtin.Range.rangeFitsLong, Bool.and_eq_true, Bool.or_eq_true, decide_eq_true_eq, beq_iff_eq]
    refine ⟨⟨⟨⟨⟨by omega, by omega⟩, by omega, by omega⟩, by omega, by omega⟩, by omega, by omega⟩, .inr ?_⟩
    rw [if_pos hz]
    simp only [Bool.and_eq_true, decide_eq_true_eq]
    omega
  unfold rng3?
  simp only [e, hs]
  rw [if_pos (by simp; omega)]
  rfl
/-! ### whose word -/
def ownStep (w : Int) (o : Option (Int × Int)) (b : Int × Int) : Option (Int × Int) := if b.1 ≤ w ∧ w < b.1 + b.2 then some b else o
def own (bs : List (Int × Int)) (w : Int) : Option (Int × Int) := bs.foldl (ownStep w) none
theorem own_snoc {bs : List (Int × Int)} {b : Int × Int} {w : Int} : own (bs ++ [b]) w = if b.1 ≤ w ∧ w < b.1 + b.2 then some b else own bs w := by
  unfold own; rw [List.foldl_append]; rfl
theorem own_go {w : Int} : ∀ {bs : List (Int × Int)} {o : Option (Int × Int)} {b : Int × Int}, bs.foldl (ownStep w) o = some b → o = some b ∨ (b ∈ bs ∧ b.1 ≤ w ∧ w < b.1 + b.2)
  | [], o, b, e => .inl e
  | c :: bs, o, b, e => by
    rcases own_go (bs := bs) e with h | ⟨h1, h2⟩
    · unfold ownStep at h
      split at h
      · rename_i h3
        cases h
        exact .inr ⟨by simp, h3⟩
      · exact .inl h
    · exact .inr ⟨List.mem_cons_of_mem _ h1, h2⟩
theorem own_some {bs : List (Int × Int)} {b : Int × Int} {w : Int} (h : own bs w = some b) : b ∈ bs ∧ b.1 ≤ w ∧ w < b.1 + b.2 := by
  rcases own_go h with h | h
  · cases h
  · exact h
/-- the dict tells of each word whose it is -/
def OwnD (tk : List (PyData × PyData)) (bs : List (Int × Int)) : Prop := ∀ w, dGet tk (.int w) = (own bs w).map prI
theorem ownD_rng {tk : List (PyData × PyData)} {bs : List (Int × Int)} {b : Int × Int} {n : Nat} (h : OwnD tk bs) (hn : (n : Int) = b.2) : OwnD (dMerge tk (rngE b.1 n (prI b))) (bs ++ [b]) := fun w => by
  rw [merge_rng, own_snoc, h w, hn]
  split <;> rfl
def lot (bs : List (Int × Int)) (a : Int) (n : Nat) : List (Int × Int) := (List.range n).filterMap fun i : Nat => own bs (a + i)
theorem lot_len {bs : List (Int × Int)} {a : Int} {n : Nat} : (lot bs a n).length ≤ n := by
  unfold lot
  have := List.length_filterMap_le (fun i : Nat => own bs (a + i)) (List.range n)
  simpa using this
theorem lot_mem {bs : List (Int × Int)} {a : Int} {n : Nat} {b : Int × Int} (h : b ∈ lot bs a n) : b ∈ bs := by
  unfold lot at h
  obtain ⟨i, _, e⟩ := List.mem_filterMap.mp h
  exact (own_some e).1
theorem lot_map {tk : List (PyData × PyData)} {bs : List (Int × Int)} {a : Int} (h : OwnD tk bs) : ∀ {n : Nat}, ((List.range n).filter fun i : Nat => (dGet tk (.int (a + i))).isSome).map (fun i : Nat => (dGet tk (.int (a + i))).getD .none) = (lot bs a n).map prI := by
  intro n
  unfold lot
  generalize List.range n = l
  induction l with
  | nil => rfl
  | cons i l ih =>
    rw [List.filter_cons, List.filterMap_cons, h (a + i)]
    cases e : own bs (a + i) with
    | none => simpa [e] using ih
    | some b => simp [e, ih, h (a + i)]
def lots (bs : List (Int × Int)) (a : Int) (n : Nat) : List (Int × Int) := psort (nub (lot bs a n))
theorem lots_mem {bs : List (Int × Int)} {a : Int} {n : Nat} {b : Int × Int} (h : b ∈ lots bs a n) : b ∈ bs := lot_mem (mem_nub.mp ((psort_perm _).mem_iff.mp h))
theorem lots_len {bs : List (Int × Int)} {a : Int} {n : Nat} : (lots bs a n).length ≤ n := by
  unfold lots
  rw [(psort_perm _).length_eq]
  exact Nat.le_trans nub_len lot_len
theorem psort_nil : psort [] = [] := by
  have := (psort_perm []).length_eq
  exact List.length_eq_zero_iff.mp (by simpa using this)
theorem set_prs {ps : List (Int × Int)} (h : ps.length < 64) : set? (.list (ps.map prI)) = some (.list ((nub ps).map prI)) := by
  by_cases hne : ps = []
  · subst hne; rfl
  · show (match ints? (ps.map prI) with | some ns => _ | none => _) = _
    rw [ints_prs hne]
    show (pairs? (ps.map prI)).bind _ = _
    rw [pairs_map]
    exact if_pos h
theorem sset_prs {ps : List (Int × Int)} (h : ∀ p ∈ ps, 0 ≤ p.1 ∧ 0 ≤ p.2) : sset? (.list (ps.map prI)) = some (.list ((psort ps).map prI)) := by
  by_cases hne : ps = []
  · subst hne
    rw [psort_nil]
    have e : isort [] = [] := List.length_eq_zero_iff.mp (by have := (isort_perm []).length_eq; simpa using this)
    have h2 := sset_m (ns := [])
    rw [e] at h2
    exact h2
  · show (match ints? (ps.map prI) with | some ns => _ | none => _) = _
    rw [ints_prs hne]
    show (pairs? (ps.map prI)).bind _ = _
    rw [pairs_map]
    refine if_pos (List.all_eq_true.mpr fun p hp => ?_)
    have := h p hp
    simpa using this
theorem set_lots {bs : List (Int × Int)} {a : Int} {n : Nat} (hn : n < 64) (hb : ∀ b ∈ bs, 0 ≤ b.1 ∧ 0 ≤ b.2) :
    set? (.list ((lot bs a n).map prI)) = some (.list ((nub (lot bs a n)).map prI)) ∧ sset? (.list ((nub (lot bs a n)).map prI)) = some (.list ((lots bs a n).map prI)) :=
  ⟨set_prs (Nat.lt_of_le_of_lt lot_len hn), sset_prs fun p hp => hb p (lot_mem (mem_nub.mp hp))⟩
/-! ### lists of pairs, told apart -/
theorem shp_prsL {ps : List (Int × Int)} : SeqAt.shaped (.list (ps.map prI)) = true := by
  have h := prs_dep ps
  show (PyData.canLayAll0 (ps.map prI) && decide (PyData.depthAll (ps.map prI) + 1 ≤ 64)) = true
  rw [prs_lay, decide_eq_true (by omega)]; rfl
theorem eq_prsL {xs ys : List (Int × Int)} : eq? (.list (xs.map prI)) (.list (ys.map prI)) = some (.bool (decide (xs = ys))) := by
  unfold eq? cmpOk
  rw [shp_prsL, shp_prsL, if_pos (by simp)]
  simp only [PyData.eqv, eqv_prs]
theorem ne_prsL {xs ys : List (Int × Int)} : ne? (.list (xs.map prI)) (.list (ys.map prI)) = some (.bool (!decide (xs = ys))) := by
  unfold ne? cmpOk
  rw [shp_prsL, shp_prsL, if_pos (by simp)]
  simp only [PyData.eqv, eqv_prs]
theorem eq_prs0 {xs : List (Int × Int)} : eq? (.list (xs.map prI)) (.list []) = some (.bool (decide (xs = []))) := eq_prsL (ys := [])
theorem ne_prs0 {xs : List (Int × Int)} : ne? (.list (xs.map prI)) (.list []) = some (.bool (!decide (xs = []))) := ne_prsL (ys := [])
theorem in_prs0 {f : Nat → List (Int × Int)} {d : Nat} : in? (.list []) (.list ((List.range d).map fun i => PyData.list ((f i).map prI))) = some (.bool ((List.range d).any fun i => decide (f i = []))) := by
  have hl : ∀ l : List Nat, PyData.canLayAll0 (l.map fun i => PyData.list ((f i).map prI)) = true := fun l => by
    induction l with
    | nil => rfl
    | cons i l ih => simp [PyData.canLayAll0, PyData.canLay0, prs_lay, ih]
  have hd : ∀ l : List Nat, PyData.depthAll (l.map fun i => PyData.list ((f i).map prI)) ≤ 2 := fun l => by
    induction l with
    | nil => simp [PyData.depthAll]
    | cons i l ih =>
      have h := prs_dep (f i)
      simp only [List.map_cons, PyData.depthAll, PyData.depth]
      omega
  unfold in?
  dsimp only
  rw [if_neg (by simp [flatD])]
  have hs : SeqAt.shaped (.list ((List.range d).map fun i => PyData.list ((f i).map prI))) = true := by
    have h := hd (List.range d)
    show (PyData.canLayAll0 _ && decide (PyData.depthAll _ + 1 ≤ 64)) = true
    rw [hl, decide_eq_true (by omega)]; rfl
  have h0 : SeqAt.shaped (.list []) = true := shp_prsL (ps := [])
  rw [h0, hs, if_pos (by rfl), List.any_map]
  congr 3
  funext i
  have := eqv_prs (f i) []
  simpa [PyData.eqv] using this
theorem in_lst {n : Int} {ns : List Int} : in? (.int n) (.list (ns.map PyData.int)) = some (.bool (decide (n ∈ ns))) := by
  unfold in?
  dsimp only
  rw [flat_i, flat_is, if_pos (by rfl), any_eqv]
theorem nin_lst {n : Int} {ns : List Int} : notIn? (.int n) (.list (ns.map PyData.int)) = some (.bool (!decide (n ∈ ns))) := by
  unfold notIn?; rw [in_lst]; rfl
theorem item_hd {l : List (Int × Int)} (h : l ≠ []) : item? (.list (l.map prI)) (.int 0) = some (.tuple [.int (l.headD (0, 0)).1, .int (l.headD (0, 0)).2]) := by
  obtain ⟨a, r, rfl⟩ := List.exists_cons_of_ne_nil h
  rw [item_l, List.map_cons, atI_0]
  rfl
theorem hd_mem {l : List (Int × Int)} (h : l ≠ []) : l.headD (0, 0) ∈ l := by
  obtain ⟨a, r, rfl⟩ := List.exists_cons_of_ne_nil h
  simp
theorem prs_show : ∀ ps : List (Int × Int), (∀ p ∈ ps, p.1.natAbs < 2 ^ 1000 ∧ p.2.natAbs < 2 ^ 1000) → PyData.showableAll (ps.map prI) = true
  | [], _ => rfl
  | p :: ps, h => by
    simp only [List.map_cons, PyData.showableAll, Bool.and_eq_true]
    refine ⟨?_, prs_show ps fun m hm => h m (List.mem_cons_of_mem _ hm)⟩
    have h1 := ints_show [p.1, p.2] (fun n hn => by
      simp only [List.mem_cons, List.not_mem_nil, or_false] at hn
      rcases hn with rfl | rfl
      · exact (h p (by simp)).1
      · exact (h p (by simp)).2)
    exact h1
theorem prs_dict : ∀ ps : List (Int × Int), PyData.hasDictAll (ps.map prI) = false
  | [] => rfl
  | p :: ps => by
    have h := ints_dict [p.1, p.2]
    simp only [List.map_cons, PyData.hasDictAll, Bool.or_eq_false_iff]
    exact ⟨h, prs_dict ps⟩
theorem prs_cost : ∀ ps : List (Int × Int), costA (ps.map prI) = 4009 * ps.length + 3
  | [] => rfl
  | p :: ps => by
    have h : cost (prI p) = 4007 := ints_cost [p.1, p.2]
    simp only [List.map_cons, costA, h, prs_cost ps, List.length_cons]; omega
theorem repr_prs {ps : List (Int × Int)} (h : ∀ p ∈ ps, p.1.natAbs < 2 ^ 1000 ∧ p.2.natAbs < 2 ^ 1000) (hl : ps.length ≤ 4000) : ∃ x, repr? (.tuple (ps.map prI)) = some (.str x) := by
  refine ⟨PyData.shown (.tuple (ps.map prI)), ?_⟩
  show (if reprOk (.tuple (ps.map prI)) = true then some (PyData.str (PyData.shown (.tuple (ps.map prI)))) else none) = _
  rw [if_pos]
  refine reprOk_of (prs_show ps h) (prs_dict ps) ?_ ?_
  · show PyData.depthAll (ps.map prI) + 1 ≤ 60
    have := prs_dep ps; omega
  · show costA (ps.map prI) ≤ 16777216
    rw [prs_cost]; omega
theorem repr_none : repr? .none = some (.str "None") := by
  rfl
theorem repr_int {i : Int} (h : i.natAbs < 2 ^ 1000) : ∃ x, repr? (.int i) = some (.str x) := ⟨toString i, by
  rw [repr_i, if_pos (by have := log2_lt (k := 1000) (by decide) h; omega)]⟩
theorem Stt.bs {s : Nat → Int} {m : Nat} {N : Int} {bs : List (Int × Int)} (hs : Szs s) (h : Stt s m N bs) (hl : bs.length ≤ 300) (hN : N * s m ≤ 100000) (hm : s m ≤ 1000) : bs.length ≤ 300 ∧ ∀ b ∈ bs, 0 ≤ b.1 ∧ b.1 ≤ 1000000 ∧ 0 ≤ b.2 ∧ b.2 ≤ 1000 :=
  ⟨hl, fun b hb => by
    have h1 := h.blk b hb
    have h2 := h1.pos hs
    have h3 := h1.le hs
    obtain ⟨_, h4, _, h5⟩ := h1
    omega⟩
end BT

/-! KP: keepers, places, used pages of states; states moved. -/
namespace BT
open PySem PySem.Spec L2 PL
theorem setN_prs {ps : List (Int × Int)} (h : (nub ps).length < 63) : setN? (.list (ps.map prI)) = some (.list ((nub ps).map prI)) := by
  by_cases hne : ps = []
  · subst hne; rfl
  · show (match ints? (ps.map prI) with | some ns => _ | none => _) = _
    rw [ints_prs hne]
    show (pairs? (ps.map prI)).bind _ = _
    rw [pairs_map]
    exact if_pos h
theorem setN_m {ns : List Int} (h : ns.length ≤ 4000) : setN? (.list (ns.map PyData.int)) = some (.list ((nub ns).map PyData.int)) := by
  show (match ints? (ns.map PyData.int) with | some ns => _ | none => _) = _
  rw [ints_some]
  exact if_pos h
theorem psort_same {a b : List (Int × Int)} (h : ∀ x, x ∈ a ↔ x ∈ b) : psort (nub a) = psort (nub b) := by
  have p : (nub a).Perm (nub b) := nub_perm nub_nodup fun x => mem_nub.trans (h x)
  exact psort_unique ((psort_perm _).trans (p.trans (psort_perm _).symm)) (psort_sorted _) (psort_sorted _)
/-- a list that is in order and tells each once -/
theorem psort_is {a L : List (Int × Int)} (h : ∀ x, x ∈ L ↔ x ∈ a) (hs : L.Pairwise fun p q => leP p q = true) (hn : L.Nodup) : psort (nub a) = L :=
  psort_unique ((psort_perm _).trans (nub_perm hn h).symm) (psort_sorted _) hs
theorem isort_is {a L : List Int} (h : ∀ x, x ∈ L ↔ x ∈ a) (hs : L.Pairwise (· < ·)) : isort (nub a) = L :=
  sorted_unique ((isort_perm _).trans (nub_perm (hs.imp fun h => Int.ne_of_lt h) h).symm) (isort_sorted _) (hs.imp Int.le_of_lt)
theorem kps_sorted {a : List (Int × Int)} : (psort (nub a)).Pairwise (fun p q => leP p q = true) := psort_sorted _
theorem kps_nodup {a : List (Int × Int)} : (psort (nub a)).Nodup := (psort_perm _).nodup_iff.mpr nub_nodup
theorem mem_ps {a : List (Int × Int)} {x : Int × Int} : x ∈ psort (nub a) ↔ x ∈ a := (psort_perm _).mem_iff.trans mem_nub
theorem mem_is {a : List Int} {x : Int} : x ∈ isort (nub a) ↔ x ∈ a := (isort_perm _).mem_iff.trans mem_nub
theorem isort_lt {a : List Int} : (isort (nub a)).Pairwise (· < ·) := L2.lt_of_le_nodup _ (isort_sorted _) ((isort_perm _).nodup_iff.mpr nub_nodup)
/-! ### dicts whose entries are found by their keys -/
def Good (ds : List (PyData × PyData)) : Prop := ∀ p ∈ ds, ∃ w : Int, p.1 = .int w ∧ dGet ds (.int w) = some p.2
theorem good_nil : Good [] := fun _ h => nomatch h
theorem good_put {ds : List (PyData × PyData)} {k : Int} {v : PyData} (h : Good ds) : Good (dPut ds (.int k) v) := fun p hp => by
  have key : ∀ q ∈ ds, (kEq q.1 (.int k) = true → ∃ w : Int, q.1 = .int w ∧ dGet (dPut ds (.int k) v) (.int w) = some v) ∧ (¬ kEq q.1 (.int k) = true → ∃ w : Int, q.1 = .int w ∧ dGet (dPut ds (.int k) v) (.int w) = some q.2) := fun q hq => by
    obtain ⟨w, e1, e2⟩ := h q hq
    rw [e1, kEq_i, decide_eq_true_eq]
    refine ⟨fun e => ⟨w, rfl, ?_⟩, fun e => ⟨w, rfl, ?_⟩⟩
    · rw [dGet_put, if_pos e]
    · rw [dGet_put, if_neg e, e2]
  by_cases ha : (ds.any fun p => kEq p.1 (.int k)) = true
  · have hd : dPut ds (.int k) v = ds.map (fun p => if kEq p.1 (.int k) = true then (p.1, v) else p) := by unfold dPut; rw [if_pos ha]
    rw [hd] at hp
    obtain ⟨q, hq, rfl⟩ := List.mem_map.mp hp
    obtain ⟨k1, k2⟩ := key q hq
    by_cases hk : kEq q.1 (.int k) = true
    · rw [if_pos hk]; exact k1 hk
    · rw [if_neg hk]; exact k2 hk
  · have hd : dPut ds (.int k) v = ds ++ [(.int k, v)] := by unfold dPut; rw [if_neg ha]
    have hp2 := hp
    rw [hd] at hp2
    rcases List.mem_append.mp hp2 with hq | hq
    · refine (key p hq).2 fun z => ha ?_
      exact List.any_eq_true.mpr ⟨p, hq, z⟩
    · rw [List.mem_singleton.mp hq]
      exact ⟨k, rfl, by rw [dGet_put, if_pos rfl]⟩
theorem dGet_mem {ds : List (PyData × PyData)} {k v : PyData} (h : dGet ds k = some v) : ∃ p ∈ ds, p.2 = v := by
  unfold dGet at h
  obtain ⟨p, hp, e⟩ := Option.map_eq_some_iff.mp h
  exact ⟨p, List.mem_of_find?_eq_some hp, e⟩
theorem good_vals {ds : List (PyData × PyData)} (h : Good ds) {v : PyData} : v ∈ ds.map (·.2) ↔ ∃ w : Int, dGet ds (.int w) = some v := by
  constructor
  · intro hv
    obtain ⟨p, hp, rfl⟩ := List.mem_map.mp hv
    obtain ⟨w, _, e⟩ := h p hp
    exact ⟨w, e⟩
  · rintro ⟨w, e⟩
    obtain ⟨p, hp, rfl⟩ := dGet_mem e
    exact List.mem_map_of_mem hp
/-! ### keepers -/
def kCov (z : Int) (b : Int × Int) (k : Int) : Prop := b.1 / z * z ≤ k ∧ k < b.1 + b.2 ∧ k % z = 0
instance (z : Int) (b : Int × Int) (k : Int) : Decidable (kCov z b k) := by unfold kCov; infer_instance
def kStep (z k : Int) (o : Option (Int × Int)) (b : Int × Int) : Option (Int × Int) := if kCov z b k then (match o with
  | none => some b
  | some c => if b.2 < c.2 then some b else some c) else o
def kd (bs : List (Int × Int)) (z k : Int) : Option (Int × Int) := bs.foldl (kStep z k) none
theorem kd_snoc {bs : List (Int × Int)} {b : Int × Int} {z k : Int} : kd (bs ++ [b]) z k = kStep z k (kd bs z k) b := by
  unfold kd; rw [List.foldl_append]; rfl
theorem kd_go {z k : Int} : ∀ {bs : List (Int × Int)} {o : Option (Int × Int)} {b : Int × Int}, bs.foldl (kStep z k) o = some b → o = some b ∨ (b ∈ bs ∧ kCov z b k)
  | [], o, b, e => .inl e
  | c :: bs, o, b, e => by
    rcases kd_go (bs := bs) e with h | ⟨h1, h2⟩
    · unfold kStep at h
      split at h
      · rename_i h3
        cases o with
        | none => cases h; exact .inr ⟨by simp, h3⟩
        | some c' =>
          dsimp only at h
          split at h
          · cases h; exact .inr ⟨by simp, h3⟩
          · exact .inl h
      · exact .inl h
    · exact .inr ⟨List.mem_cons_of_mem _ h1, h2⟩
theorem kd_some {bs : List (Int × Int)} {z k : Int} {b : Int × Int} (h : kd bs z k = some b) : b ∈ bs ∧ kCov z b k := by
  rcases kd_go h with h | h
  · cases h
  · exact h
theorem kd_skip {z k : Int} : ∀ {bs : List (Int × Int)} {o : Option (Int × Int)}, (∀ b ∈ bs, ¬ kCov z b k) → bs.foldl (kStep z k) o = o
  | [], o, _ => rfl
  | b :: bs, o, h => by
    rw [List.foldl_cons]
    have : kStep z k o b = o := if_neg (h b (by simp))
    rw [this]
    exact kd_skip fun c hc => h c (List.mem_cons_of_mem _ hc)
/-- the keepers of a state of d chunks of z words -/
def kps (bs : List (Int × Int)) (z : Int) (d : Nat) : List (Int × Int) := psort (nub ((List.range d).filterMap fun i : Nat => kd bs z (i * z)))
theorem kps_mem {bs : List (Int × Int)} {z : Int} {d : Nat} {b : Int × Int} : b ∈ kps bs z d ↔ ∃ i, i < d ∧ kd bs z (i * z) = some b := by
  unfold kps
  rw [mem_ps, List.mem_filterMap]
  simp
theorem kps_sub {bs : List (Int × Int)} {z : Int} {d : Nat} {b : Int × Int} (h : b ∈ kps bs z d) : b ∈ bs := by
  obtain ⟨i, _, e⟩ := kps_mem.mp h
  exact (kd_some e).1
theorem kps_len {bs : List (Int × Int)} {z : Int} {d : Nat} : (kps bs z d).length ≤ bs.length := nodup_len _ _ ((psort_perm _).nodup_iff.mpr nub_nodup) fun x hx => kps_sub hx
/-- what a dict of keepers leads to -/
theorem kps_of {bs : List (Int × Int)} {z : Int} {d : Nat} {ds : List (PyData × PyData)} (hg : Good ds) (hk : ∀ w, dGet ds (.int w) = (kd bs z w).map prI) (hz : 0 < z) (hb : ∀ b ∈ bs, 0 ≤ b.1 ∧ b.1 + b.2 ≤ d * z) :
    ∃ vs : List (Int × Int), ds.map (·.2) = vs.map prI ∧ psort (nub vs) = kps bs z d := by
  have hv : ∀ v ∈ ds.map (·.2), ∃ b, v = prI b ∧ ∃ w, kd bs z w = some b := fun v hv => by
    obtain ⟨w, e⟩ := (good_vals hg).mp hv
    rw [hk] at e
    obtain ⟨b, e1, e2⟩ := Option.map_eq_some_iff.mp e
    exact ⟨b, e2.symm, w, e1⟩
  have go : ∀ l : List PyData, (∀ v ∈ l, ∃ b, v = prI b ∧ ∃ w, kd bs z w = some b) → ∃ vs : List (Int × Int), l = vs.map prI := by
    intro l
    induction l with
    | nil => intro _; exact ⟨[], rfl⟩
    | cons v l ih =>
      intro h
      obtain ⟨vs, e⟩ := ih fun v hv => h v (List.mem_cons_of_mem _ hv)
      obtain ⟨b, e1, _⟩ := h v (by simp)
      exact ⟨b :: vs, by rw [e, e1]; rfl⟩
  obtain ⟨vs, ev⟩ := go _ hv
  refine ⟨vs, ev, psort_same fun b => ?_⟩
  have inj : ∀ {x y : Int × Int}, prI x = prI y → x = y := fun {x y} e => by
    simp only [prI, PyData.tuple.injEq, List.cons.injEq, PyData.int.injEq, and_true] at e
    exact Prod.ext e.1 e.2
  have hm : b ∈ vs ↔ ∃ w, kd bs z w = some b := by
    have h1 : prI b ∈ ds.map (·.2) ↔ b ∈ vs := by
      rw [ev, List.mem_map]
      constructor
      · rintro ⟨x, hx, e⟩; rw [← inj e]; exact hx
      · intro hx; exact ⟨b, hx, rfl⟩
    rw [← h1, good_vals hg]
    constructor
    · rintro ⟨w, e⟩
      rw [hk] at e
      obtain ⟨b', e1, e2⟩ := Option.map_eq_some_iff.mp e
      rw [inj e2] at e1
      exact ⟨w, e1⟩
    · rintro ⟨w, e⟩; exact ⟨w, by rw [hk, e]; rfl⟩
  rw [hm, List.mem_filterMap]
  constructor
  · rintro ⟨w, e⟩
    obtain ⟨hbm, h1, h2, h3⟩ := kd_some e
    have hb' := hb b hbm
    have h4 : 0 ≤ b.1 / z := Int.ediv_nonneg hb'.1 (by omega)
    have h5 : 0 ≤ b.1 / z * z := Int.mul_nonneg h4 (by omega)
    have h6 : w = w / z * z := (Int.ediv_mul_cancel (Int.dvd_of_emod_eq_zero h3)).symm
    have h7 : 0 ≤ w / z := Int.ediv_nonneg (by omega) (by omega)
    have h8 : w / z < d := by
      apply Int.not_le.mp
      intro h9
      have := Int.mul_le_mul_of_nonneg_right (a := (d : Int)) (b := w / z) (c := z) h9 (by omega)
      omega
    refine ⟨(w / z).toNat, by simp; omega, ?_⟩
    rw [Int.toNat_of_nonneg h7, ← h6]
    exact e
  · rintro ⟨i, _, e⟩; exact ⟨_, e⟩
/-! ### a state beside another -/
def mvd (S : Int) (bs : List (Int × Int)) : List (Int × Int) := bs.map fun b => (b.1 + S, b.2)
section
variable {A B : List (Int × Int)} {z : Int} {dA dB : Nat} {S : Int}
theorem cov_mv {b : Int × Int} {k : Int} (hz : 0 < z) (hS : S = dA * z) : kCov z (b.1 + S, b.2) (k + S) ↔ kCov z b k := by
  have e1 : (b.1 + S) / z = b.1 / z + dA := by rw [hS, Int.add_mul_ediv_right _ _ (by omega)]
  have e2 : (k + S) % z = k % z := by rw [hS, Int.add_mul_emod_self_right]
  unfold kCov
  dsimp only
  rw [e1, e2, Int.add_mul, ← hS]
  omega
theorem kd_mv (hz : 0 < z) (hS : S = dA * z) {k : Int} : kd (mvd S B) z (k + S) = (kd B z k).map fun b => (b.1 + S, b.2) := by
  unfold kd mvd
  have go : ∀ (l : List (Int × Int)) (o : Option (Int × Int)), (l.map fun b => (b.1 + S, b.2)).foldl (kStep z (k + S)) (o.map fun b => (b.1 + S, b.2)) = (l.foldl (kStep z k) o).map fun b => (b.1 + S, b.2) := by
    intro l
    induction l with
    | nil => intro o; rfl
    | cons b l ih =>
      intro o
      rw [List.map_cons, List.foldl_cons, List.foldl_cons, ← ih]
      congr 1
      unfold kStep
      by_cases h : kCov z b k
      · rw [if_pos h, if_pos ((cov_mv hz hS).mpr h)]
        cases o with
        | none => rfl
        | some c =>
          dsimp only [Option.map_some]
          split <;> rfl
      · rw [if_neg h, if_neg fun q => h ((cov_mv hz hS).mp q)]
  exact go B none
theorem kd_lo (hB : ∀ b ∈ B, 0 ≤ b.1) (hz : 0 < z) (hS : S = dA * z) {k : Int} (hk : k < S) : kd (A ++ mvd S B) z k = kd A z k := by
  unfold kd
  rw [List.foldl_append]
  refine kd_skip fun b hb h => ?_
  unfold mvd at hb
  obtain ⟨c, hc, rfl⟩ := List.mem_map.mp hb
  have h1 := h.1
  dsimp only at h1
  have e1 : (c.1 + S) / z = c.1 / z + dA := by rw [hS, Int.add_mul_ediv_right _ _ (by omega)]
  rw [e1, Int.add_mul, ← hS] at h1
  have := Int.mul_nonneg (Int.ediv_nonneg (hB c hc) (show 0 ≤ z by omega)) (show 0 ≤ z by omega)
  omega
theorem kd_hi (hA : ∀ b ∈ A, b.1 + b.2 ≤ S) {k : Int} (hk : S ≤ k) : kd (A ++ mvd S B) z k = kd (mvd S B) z k := by
  unfold kd
  rw [List.foldl_append, kd_skip (bs := A)]
  intro b hb h
  have := hA b hb
  have := h.2.1
  omega
theorem kps_cat (hA : ∀ b ∈ A, b.1 + b.2 ≤ S ∧ 0 < b.2) (hB : ∀ b ∈ B, 0 ≤ b.1) (hz : 0 < z) (hS : S = dA * z) : kps (A ++ mvd S B) z (dA + dB) = kps A z dA ++ mvd S (kps B z dB) := by
  unfold kps
  refine psort_is (fun x => ?_) ?_ ?_
  · rw [List.mem_append]
    have h1 : x ∈ psort (nub ((List.range dA).filterMap fun i : Nat => kd A z (i * z))) ↔ ∃ i, i < dA ∧ kd A z (i * z) = some x := kps_mem
    have h2 : x ∈ mvd S (psort (nub ((List.range dB).filterMap fun i : Nat => kd B z (i * z)))) ↔ ∃ i, i < dB ∧ kd (mvd S B) z (i * z + S) = some x := by
      unfold mvd
      rw [List.mem_map]
      constructor
      · rintro ⟨b, hb, rfl⟩
        obtain ⟨i, hi, e⟩ := kps_mem.mp hb
        exact ⟨i, hi, by have := kd_mv (B := B) (k := i * z) hz hS; unfold mvd at this; rw [this, e]; rfl⟩
      · rintro ⟨i, hi, e⟩
        have := kd_mv (B := B) (k := i * z) hz hS
        unfold mvd at this
        rw [this] at e
        obtain ⟨b, e1, e2⟩ := Option.map_eq_some_iff.mp e
        exact ⟨b, kps_mem.mpr ⟨i, hi, e1⟩, e2⟩
    rw [h1, h2, List.mem_filterMap]
    have lo : ∀ i : Nat, i < dA → (i : Int) * z < S := fun i hi => by
      have := Int.mul_le_mul_of_nonneg_right (a := (i : Int) + 1) (b := dA) (c := z) (by omega) (by omega)
      rw [Int.add_mul] at this
      omega
    constructor
    · rintro (⟨i, hi, e⟩ | ⟨i, hi, e⟩)
      · exact ⟨i, by simp; omega, by rw [kd_lo hB hz hS (lo i hi)]; exact e⟩
      · refine ⟨dA + i, by simp; omega, ?_⟩
        have e2 : ((dA + i : Nat) : Int) * z = i * z + S := by rw [Int.natCast_add, Int.add_mul, hS]; omega
        have := Int.mul_nonneg (show (0 : Int) ≤ i by omega) (show 0 ≤ z by omega)
        rw [e2, kd_hi (fun b hb => (hA b hb).1) (by omega)]
        exact e
    · rintro ⟨i, hi, e⟩
      have hi : i < dA + dB := by simpa using hi
      by_cases hc : i < dA
      · left
        rw [kd_lo hB hz hS (lo i hc)] at e
        exact ⟨i, hc, e⟩
      · right
        obtain ⟨j, rfl⟩ : ∃ j, i = dA + j := ⟨i - dA, by omega⟩
        have e2 : ((dA + j : Nat) : Int) * z = j * z + S := by rw [Int.natCast_add, Int.add_mul, hS]; omega
        have := Int.mul_nonneg (show (0 : Int) ≤ j by omega) (show 0 ≤ z by omega)
        rw [e2, kd_hi (fun b hb => (hA b hb).1) (by omega)] at e
        exact ⟨j, by omega, e⟩
  · rw [List.pairwise_append]
    refine ⟨kps_sorted, ?_, fun a ha b hb => ?_⟩
    · unfold mvd
      rw [List.pairwise_map]
      refine List.Pairwise.imp (fun {p q} h => ?_) kps_sorted
      rw [leP_iff] at *
      dsimp only
      omega
    · have h1 := hA a (kps_sub (z := z) (d := dA) ha)
      unfold mvd at hb
      obtain ⟨c, hc, rfl⟩ := List.mem_map.mp hb
      have h2 := hB c (kps_sub (z := z) (d := dB) hc)
      rw [leP_iff]
      dsimp only
      omega
  · rw [List.nodup_append]
    refine ⟨kps_nodup, ?_, fun a ha b hb e => ?_⟩
    · unfold mvd
      refine List.pairwise_map.mpr (List.Pairwise.imp (fun {p q} h e => h ?_) kps_nodup)
      simp only [Prod.mk.injEq] at e
      exact Prod.ext (by omega) e.2
    · subst e
      have h1 := hA a (kps_sub (z := z) (d := dA) ha)
      unfold mvd at hb
      obtain ⟨c, hc, rfl⟩ := List.mem_map.mp hb
      have h2 := hB c (kps_sub (z := z) (d := dB) hc)
      dsimp only at h1
      omega
end
end BT

/-! MV: places, used pages, reaches, live words of states, and of two beside each other. -/
namespace BT
open PySem PySem.Spec L2 PL
def live (bs : List (Int × Int)) : Int := (bs.map (·.2)).sum
theorem live_cat {A B : List (Int × Int)} {S : Int} : live (A ++ mvd S B) = live A + live B := by
  unfold live mvd
  rw [List.map_append, List.sum_append, List.map_map]
  rfl
def usd (P : Int) (bs : List (Int × Int)) : List Int := isort (nub (bs.map fun b => b.1 / P))
section
variable {A B : List (Int × Int)} {z : Int} {dA dB : Nat} {S : Int}
theorem usd_cat (hA : ∀ b ∈ A, b.1 + b.2 ≤ S ∧ 0 < b.2) (hB : ∀ b ∈ B, 0 ≤ b.1) (hz : 0 < z) (hS : S = dA * z) : usd z (A ++ mvd S B) = usd z A ++ (usd z B).map (fun k : Int => k + (dA : Int)) := by
  unfold usd
  have e1 : ∀ b : Int × Int, (b.1 + S) / z = b.1 / z + dA := fun b => by rw [hS, Int.add_mul_ediv_right _ _ (by omega)]
  refine isort_is (fun x => ?_) ?_
  · rw [List.mem_append, mem_is, List.map_append, List.mem_append]
    unfold mvd
    rw [List.map_map]
    constructor
    · rintro (h | h)
      · exact .inl h
      · obtain ⟨k, hk, rfl⟩ := List.mem_map.mp h
        obtain ⟨b, hb, rfl⟩ := List.mem_map.mp (mem_is.mp hk)
        exact .inr (List.mem_map.mpr ⟨b, hb, e1 b⟩)
    · rintro (h | h)
      · exact .inl h
      · obtain ⟨b, hb, rfl⟩ := List.mem_map.mp h
        exact .inr (List.mem_map.mpr ⟨b.1 / z, mem_is.mpr (List.mem_map.mpr ⟨b, hb, rfl⟩), (e1 b).symm⟩)
  · rw [List.pairwise_append]
    refine ⟨isort_lt, ?_, fun a ha c hc => ?_⟩
    · rw [List.pairwise_map]
      exact isort_lt.imp fun h => by omega
    · obtain ⟨b, hb, rfl⟩ := List.mem_map.mp (mem_is.mp ha)
      obtain ⟨k, hk, rfl⟩ := List.mem_map.mp hc
      obtain ⟨b', hb', rfl⟩ := List.mem_map.mp (mem_is.mp hk)
      have h1 := hA b hb
      have h2 : 0 ≤ b'.1 / z := Int.ediv_nonneg (hB b' hb') (by omega)
      have h3 : b.1 / z < dA := Int.ediv_lt_of_lt_mul hz (by rw [← hS]; omega)
      omega
theorem usd_len {P : Int} {bs : List (Int × Int)} : (usd P bs).length ≤ bs.length := by
  unfold usd
  rw [(isort_perm _).length_eq]
  exact Nat.le_trans nub_len (by simp)
/-! ### places -/
def fre (bs : List (Int × Int)) (z : Int) (i : Nat) : Bool := (List.range z.toNat).all fun k : Nat => (own bs (i * z + k)).isNone
def plc (bs : List (Int × Int)) (z : Int) (d : Nat) : List Int := ((List.range d).filter fun i => fre bs z i).map fun i : Nat => (i : Int) * z
theorem own_skip {w : Int} : ∀ {bs : List (Int × Int)} {o : Option (Int × Int)}, (∀ b ∈ bs, ¬ (b.1 ≤ w ∧ w < b.1 + b.2)) → bs.foldl (ownStep w) o = o
  | [], o, _ => rfl
  | b :: bs, o, h => by
    rw [List.foldl_cons]
    have : ownStep w o b = o := if_neg (h b (by simp))
    rw [this]
    exact own_skip fun c hc => h c (List.mem_cons_of_mem _ hc)
theorem own_mv {w : Int} : own (mvd S B) (w + S) = (own B w).map fun b => (b.1 + S, b.2) := by
  unfold own mvd
  have go : ∀ (l : List (Int × Int)) (o : Option (Int × Int)), (l.map fun b => (b.1 + S, b.2)).foldl (ownStep (w + S)) (o.map fun b => (b.1 + S, b.2)) = (l.foldl (ownStep w) o).map fun b => (b.1 + S, b.2) := by
    intro l
    induction l with
    | nil => intro o; rfl
    | cons b l ih =>
      intro o
      rw [List.map_cons, List.foldl_cons, List.foldl_cons, ← ih]
      congr 1
      unfold ownStep
      dsimp only
      by_cases h : b.1 ≤ w ∧ w < b.1 + b.2
      · rw [if_pos h, if_pos (by omega)]; rfl
      · rw [if_neg h, if_neg (by omega)]
  exact go B none
theorem own_lo (hB : ∀ b ∈ B, 0 ≤ b.1) {w : Int} (hw : w < S) : own (A ++ mvd S B) w = own A w := by
  unfold own
  rw [List.foldl_append]
  refine own_skip fun b hb h => ?_
  unfold mvd at hb
  obtain ⟨c, hc, rfl⟩ := List.mem_map.mp hb
  have := hB c hc
  have := h.1
  dsimp only at this
  omega
theorem own_hi (hA : ∀ b ∈ A, b.1 + b.2 ≤ S) {w : Int} (hw : S ≤ w) : own (A ++ mvd S B) w = own (mvd S B) w := by
  unfold own
  rw [List.foldl_append, own_skip (bs := A)]
  intro b hb h
  have := hA b hb
  omega
theorem fre_lo (hB : ∀ b ∈ B, 0 ≤ b.1) (hz : 0 < z) (hS : S = dA * z) {i : Nat} (hi : i < dA) : fre (A ++ mvd S B) z i = fre A z i := by
  unfold fre
  have h1 := Int.mul_le_mul_of_nonneg_right (a := (i : Int) + 1) (b := dA) (c := z) (by omega) (by omega)
  rw [Int.add_mul] at h1
  rw [Bool.eq_iff_iff, List.all_eq_true, List.all_eq_true]
  refine forall_congr' fun k => imp_congr_right fun hk => ?_
  have hk : k < z.toNat := by simpa using hk
  rw [own_lo hB (by omega)]
theorem fre_hi (hA : ∀ b ∈ A, b.1 + b.2 ≤ S) (hz : 0 < z) (hS : S = dA * z) {i : Nat} : fre (A ++ mvd S B) z (dA + i) = fre B z i := by
  unfold fre
  rw [Bool.eq_iff_iff, List.all_eq_true, List.all_eq_true]
  refine forall_congr' fun k => imp_congr_right fun hk => ?_
  have e2 : ((dA + i : Nat) : Int) * z + k = i * z + k + S := by rw [Int.natCast_add, Int.add_mul, hS]; omega
  have := Int.mul_nonneg (show (0 : Int) ≤ i by omega) (show 0 ≤ z by omega)
  rw [e2, own_hi hA (by omega), own_mv]
  cases own B (i * z + k) <;> simp
theorem plc_cat (hA : ∀ b ∈ A, b.1 + b.2 ≤ S) (hB : ∀ b ∈ B, 0 ≤ b.1) (hz : 0 < z) (hS : S = dA * z) : plc (A ++ mvd S B) z (dA + dB) = plc A z dA ++ (plc B z dB).map fun k => k + S := by
  unfold plc
  rw [List.range_add, List.filter_append, List.map_append]
  congr 1
  · rw [List.filter_congr (q := fun i => fre A z i) fun i hi => fre_lo hB hz hS (by simpa using hi)]
  · rw [List.filter_map, List.map_map, List.map_map]
    have : ((fun i => fre (A ++ mvd S B) z i) ∘ fun x => dA + x) = fun i => fre B z i := by
      funext i
      exact fre_hi hA hz hS
    rw [this]
    refine List.map_congr_left fun i hi => ?_
    show ((dA + i : Nat) : Int) * z = i * z + S
    rw [Int.natCast_add, Int.add_mul, hS]; omega
theorem plc_len {bs : List (Int × Int)} {z : Int} {d : Nat} : (plc bs z d).length ≤ d := by
  unfold plc
  rw [List.length_map]
  exact Nat.le_trans (List.length_filter_le _ _) (by simp)
/-! ### reaches -/
theorem rch_cat {s : Nat → Int} {i : Nat} (hA : ∀ b ∈ A, b.1 + b.2 ≤ S) (hB : ∀ b ∈ B, 0 ≤ b.1 ∧ 0 < b.2) (hS : 0 ≤ S) : rch s (A ++ mvd S B) i = if rch s B i = 0 then rch s A i else rch s B i + S := by
  have hmem : ∀ {bs : List (Int × Int)}, rch s bs i = 0 ∨ ∃ b ∈ bs, b.2 ≤ s i ∧ rch s bs i = b.1 + b.2 := fun {bs} => by
    have h := (maxL_spec (endL (s i) bs) (by simp [endL])).1
    unfold rch
    unfold endL at h ⊢
    rcases List.mem_cons.mp h with e | e
    · exact .inl e
    · obtain ⟨b, hb, e2⟩ := List.mem_map.mp e
      have h2 := List.mem_filter.mp hb
      exact .inr ⟨b, h2.1, by simpa using h2.2, e2.symm⟩
  have up : ∀ {X : Int}, 0 ≤ X → (∀ b ∈ A, b.2 ≤ s i → b.1 + b.2 ≤ X) → (∀ b ∈ B, b.2 ≤ s i → b.1 + S + b.2 ≤ X) → rch s (A ++ mvd S B) i ≤ X := fun {X} h0 h1 h2 => by
    rcases hmem (bs := A ++ mvd S B) with e | ⟨b, hb, hs, e⟩
    · omega
    · rw [e]
      rcases List.mem_append.mp hb with hb | hb
      · exact h1 b hb hs
      · unfold mvd at hb
        obtain ⟨c, hc, rfl⟩ := List.mem_map.mp hb
        exact h2 c hc hs
  split
  · rename_i h0
    have none : ∀ b ∈ B, ¬ b.2 ≤ s i := fun b hb hs => by
      have h1 := rch_ge (s := s) (i := i) hb hs
      have h2 := hB b hb
      omega
    refine Int.le_antisymm (up rch_nn (fun b hb hs => rch_ge hb hs) fun b hb hs => absurd hs (none b hb)) (rch_sub fun b hb => List.mem_append_left _ hb)
  · rename_i h0
    have hn := rch_nn (s := s) (bs := B) (i := i)
    refine Int.le_antisymm (up (by omega) (fun b hb hs => by have := hA b hb; omega) fun b hb hs => by have := rch_ge (s := s) (i := i) hb hs; omega) ?_
    rcases hmem (bs := B) with e | ⟨b, hb, hs, e⟩
    · exact absurd e h0
    · have h3 : (b.1 + S, b.2) ∈ A ++ mvd S B := List.mem_append_right _ (List.mem_map.mpr ⟨b, hb, rfl⟩)
      have := rch_ge (s := s) (i := i) h3 hs
      dsimp only at this
      omega
end
end BT

/-! pure functions of the law k16, printed by gen.py -/
namespace Lk16
open PySem PL

/-- _law_pot(_law_script, _law_k); slots 0:l_script 1:l_k 2:l_cell 3:l_great -/
noncomputable def m_l_pot : SM :=
  (mseq (massign (op2 add? (op2r mul? (mcon (.int 3)) 1) (mlenS 0)) (aname 2))
   (mseq (mifS (asB (op2l lt? 1 (mlenS 0))) (massign (mixS 0 (mvar 1)) (aname 2)) mnext)
   (mseq (massign (op2 mul? (op2 mod? (mc1p abs? 2) (mc1 int? (op2 add? (mcon (.str "1")) (op2 mul? (mcon (.str "0")) (mcon (.int 900)))))) (mc1 int? (op2 ge? (mc1p abs? 2) (op2 pow? (mcon (.int 10)) (mcon (.int 18)))))) (aname 3))
   (mretO (mlst (acons (mvar 3) (acons (op2 mod? (op2 mul? (op2 add? (op2 add? (op2l mod? 2 (mcon (.int 2305843009213693951))) (op2r mul? (op2r mul? (mcon (.int 7919)) 1) 1)) (mcon (.int 11))) (mcon (.int 48271))) (mcon (.int 2305843009213693951))) anil)))))))
noncomputable def f_l_pot : List PyData → FOut := bodyF 4 [.s, .v] m_l_pot

/-- _law_take(_law_pot_here, _law_upto); slots 0:l_pot_here 1:l_upto 2:l_digit -/
noncomputable def m_l_take : SM :=
  (mseq (mifS (asB (op2 gt? (op2l item? 0 (mcon (.int 0))) (mcon (.int 0)))) (mseq (massign (op2r mod? (op2l item? 0 (mcon (.int 0))) 1) (aname 2))
   (mseq (mstore 0 (mcon (.int 0)) (op2r fdiv? (op2l item? 0 (mcon (.int 0))) 1))
   (mret (mvar 2)))) mnext)
   (mseq (mstore 0 (mcon (.int 1)) (op2 mod? (op2 add? (op2 mul? (op2l item? 0 (mcon (.int 1))) (mcon (.int 1181783497276652981))) (mcon (.int 12345678910987))) (mcon (.int 2305843009213693951))))
   (mret (op2r mod? (op2 fdiv? (op2 mod? (op2 mul? (op2 fdiv? (op2l item? 0 (mcon (.int 1))) (mcon (.int 65537))) (op2 add? (op2 mod? (op2l item? 0 (mcon (.int 1))) (mcon (.int 65537))) (mcon (.int 3)))) (mcon (.int 2305843009213693921))) (mcon (.int 97))) 1))))
noncomputable def f_l_take : List PyData → FOut := bodyF 3 [.o, .v] m_l_take

/-- _law_of(_law_pot_here, _law_some); slots 0:l_pot_here 1:l_some -/
noncomputable def m_l_of : SM :=
  (mret (op2l item? 1 (rtV (mcall f_l_take [.lend 0, .v (mc1p len? 1)]))))
noncomputable def f_l_of : List PyData → FOut := bodyF 2 [.o, .v] m_l_of

/-- _law_links(_law_pot_here, _law_most); slots 0:l_pot_here 1:l_most 2:l_found 3:l_turn 4:l_ratio -/
noncomputable def m_l_links : SM :=
  (mseq (mown (mlst (acons (mcon (.int 1)) anil)) 2)
   (mseq (mfor (mrng1 (rtV (mcall f_l_take [.lend 0, .v (mcon (.int 6))]))) (aname 3) (mseq (massign (rtV (mcall f_l_of [.lend 0, .v (mlst (acons (mcon (.int 2)) (acons (mcon (.int 2)) (acons (mcon (.int 2)) (acons (mcon (.int 3)) (acons (mcon (.int 4)) (acons (op2 add? (mcon (.int 2)) (rtV (mcall f_l_take [.lend 0, .v (mcon (.int 5))]))) anil)))))))])) (aname 4))
   (mifS (mand (asB (op2r le? (op2r mul? (op2l item? 2 (mneg (mcon (.int 1)))) 4) 1)) (asB (op2 lt? (mc1p len? 2) (mcon (.int 12))))) (mappend 2 (op2r mul? (op2l item? 2 (mneg (mcon (.int 1)))) 4)) mnext)))
   (mret (mc1p tuple? 2))))
noncomputable def f_l_links : List PyData → FOut := bodyF 5 [.o, .v] m_l_links

/-- _law_drawn(_law_pot_here, _law_links_here, _law_many, _law_tries); slots 0:l_pot_here 1:l_links_here 2:l_many 3:l_tries 4:l_found 5:l_taken 6:l_turn 7:l_words 8:l_start 9:l_word -/
noncomputable def m_l_drawn : SM :=
  (mseq (mpar [.o (mlst anil), .o mdict0] [4, 5])
   (mseq (mfor (mrng1 (op2l mul? 3 (mc1 int? (op2l gt? 2 (mcon (.int 0)))))) (aname 6) (mseq (massign (rtV (mcall f_l_of [.lend 0, .v (mlst (acons (op2l item? 1 (mcon (.int 0))) (acons (op2l item? 1 (rtV (mcall f_l_take [.lend 0, .v (mc1p len? 1)]))) (acons (op2l item? 1 (op2 sub? (mneg (mcon (.int 1))) (rtV (mcall f_l_take [.lend 0, .v (mc1p len? 1)])))) anil))))])) (aname 7))
   (mseq (massign (op2l mul? 7 (rtV (mcall f_l_take [.lend 0, .v (op2r fdiv? (op2l mul? 2 (op2l item? 1 (mneg (mcon (.int 1))))) 7)]))) (aname 8))
   (mifS (mnot (trB (mc1 any? (mlc (mrng2 (mvar 8) (op2b add? 8 7)) (aname 9) myes (op2b din? 9 5) [9])))) (mseq (mupdate 5 (mc1 dictP? (mlc (mrng2 (mvar 8) (op2b add? 8 7)) (aname 9) myes (mtup (acons (mvar 9) (acons (mcon (.bool true)) anil))) [9])))
   (mappend 4 (mtup (acons (mvar 8) (acons (mvar 7) anil))))) mnext))))
   (mret (mc1 tuple? (mc1p sortI? 4)))))
noncomputable def f_l_drawn : List PyData → FOut := bodyF 10 [.o, .v, .v, .v] m_l_drawn

/-- used_pages(chain, state); slots 0:chain 1:state 2:address 3:size -/
noncomputable def m_used_pages : SM :=
  (mret (mc1 tuple? (mc1 sset? (mc1 set? (mlc (mseqI (mvar 1)) (atup 2 (agcons (aname 2) (agcons (aname 3) agnil))) myes (op2l fdiv? 2 (op2l item? 0 (mneg (mcon (.int 1))))) [2, 3])))))
noncomputable def f_used_pages : List PyData → FOut := bodyF 4 [.v, .v] m_used_pages

/-- _law_moved(_law_heaped, _law_words); slots 0:l_heaped 1:l_words 2:l_start 3:l_size -/
noncomputable def m_l_moved : SM :=
  (mret (mc1 tuple? (mlc (mseqI (mvar 0)) (atup 2 (agcons (aname 2) (agcons (aname 3) agnil))) myes (mtup (acons (op2b add? 2 1) (acons (mvar 3) anil))) [2, 3])))
noncomputable def f_l_moved : List PyData → FOut := bodyF 4 [.v, .v] m_l_moved

/-- end_of(block); slots 0:block -/
noncomputable def m_end_of : SM :=
  (mret (op2 add? (op2l item? 0 (mcon (.int 0))) (op2l item? 0 (mcon (.int 1)))))
noncomputable def f_end_of : List PyData → FOut := bodyF 1 [.v] m_end_of

/-- is_integer(value, least, most); slots 0:value 1:least 2:most -/
noncomputable def m_is_integer : SM :=
  (mseq (mifS (mor (mnot (trB (mc1p (isi? "int") 0))) (mor (trB (mc1p (isi? "bool") 0)) (asB (op2b lt? 0 1)))) (mret (mcon (.bool false))) mnext)
   (mret (morV (op2l isN? 2 (mcon .none)) (op2b le? 0 2))))
noncomputable def f_is_integer : List PyData → FOut := bodyF 3 [.v, .v, .v] m_is_integer

/-- is_block(chain, pages, value); slots 0:chain 1:pages 2:value 3:address 4:size -/
noncomputable def m_is_block : SM :=
  (mseq (mifS (mor (mnot (trB (mc1p (isi? "tuple") 2))) (asB (op2 ne? (mc1p len? 2) (mcon (.int 2))))) (mret (mcon (.bool false))) mnext)
   (mseq (massign (mvar 2) (atup 2 (agcons (aname 3) (agcons (aname 4) agnil))))
   (mseq (mifS (mor (mnot (trB (rtV (mcallX 2 0 3 f_is_integer [(mvar 4), (mcon (.int 1))] [] [0, 1, 2] [.none])))) (mor (asB (op2b notIn? 4 0)) (mnot (trB (rtV (mcallX 2 0 3 f_is_integer [(mvar 3), (mcon (.int 0))] [] [0, 1, 2] [.none])))))) (mret (mcon (.bool false))) mnext)
   (mret (mandV (op2 eq? (op2b mod? 3 4) (mcon (.int 0))) (op2 le? (op2b add? 3 4) (op2l mul? 1 (op2l item? 0 (mneg (mcon (.int 1)))))))))))
noncomputable def f_is_block : List PyData → FOut := bodyF 5 [.v, .v, .v] m_is_block

/-- is_state(chain, pages, value); slots 0:chain 1:pages 2:value 3:block 4:later -/
noncomputable def m_is_state : SM :=
  (mseq (mifS (mor (mnot (trB (mc1p (isi? "tuple") 2))) (mnot (trB (mc1 all? (mlc (mseqI (mvar 2)) (aname 3) myes (rtV (mcall f_is_block [.v (mvar 0), .v (mvar 1), .v (mvar 3)])) [3]))))) (mret (mcon (.bool false))) mnext)
   (mret (mc1 all? (mlc (mzip (mvar 2) (mslp 2 (mps (mcon (.int 1))) mpn)) (atup 2 (agcons (aname 3) (agcons (aname 4) agnil))) myes (op2 le? (rtV (mcall f_end_of [.v (mvar 3)])) (op2l item? 4 (mcon (.int 0)))) [3, 4]))))
noncomputable def f_is_state : List PyData → FOut := bodyF 5 [.v, .v, .v] m_is_state

/-- live_words(state); slots 0:state 1:address 2:size -/
noncomputable def m_live_words : SM :=
  (mret (mc1 sum? (mlc (mseqI (mvar 0)) (atup 2 (agcons (aname 1) (agcons (aname 2) agnil))) myes (mvar 2) [1, 2])))
noncomputable def f_live_words : List PyData → FOut := bodyF 3 [.v] m_live_words

/-- look_at_size(chain, size); slots 0:chain 1:size -/
noncomputable def m_look_at_size : SM :=
  (mifS (mor (mnot (trB (rtV (mcallX 2 0 3 f_is_integer [(mvar 1), (mcon (.int 1))] [] [0, 1, 2] [.none])))) (asB (op2b notIn? 1 0))) mnever mnext)
noncomputable def f_look_at_size : List PyData → FOut := bodyF 2 [.v, .v] m_look_at_size

/-- occupied(state); slots 0:state 1:found 2:block 3:word -/
noncomputable def m_occupied : SM :=
  (mseq (mown mdict0 1)
   (mseq (mfor (mseqI (mvar 0)) (aname 2) (mfor (mrng2 (op2l item? 2 (mcon (.int 0))) (rtV (mcall f_end_of [.v (mvar 2)]))) (aname 3) (mdput 1 (mvar 3) (mvar 2))))
   (mret (mvar 1))))
noncomputable def f_occupied : List PyData → FOut := bodyF 4 [.v] m_occupied

/-- places(chain, pages, state, size); slots 0:chain 1:pages 2:state 3:size 4:words 5:found 6:start 7:word -/
noncomputable def m_places : SM :=
  (mseq (mexpr (rtV (mcall f_look_at_size [.v (mvar 0), .v (mvar 3)])))
   (mseq (massign (rtV (mcall f_occupied [.v (mvar 2)])) (aname 4))
   (mseq (mown (mlst anil) 5)
   (mseq (mfor (mrng3 (mcon (.int 0)) (op2l mul? 1 (op2l item? 0 (mneg (mcon (.int 1))))) (mvar 3)) (aname 6) (mifS (mnot (trB (mc1 any? (mlc (mrng2 (mvar 6) (op2b add? 6 3)) (aname 7) myes (op2b din? 7 4) [7])))) (mappend 5 (mvar 6)) mnext))
   (mret (mc1p tuple? 5))))))
noncomputable def f_places : List PyData → FOut := bodyF 8 [.v, .v, .v, .v] m_places

/-- keepers(chain, state, size); slots 0:chain 1:state 2:size 3:smallest 4:address 5:words 6:start -/
noncomputable def m_keepers : SM :=
  (mseq (mexpr (rtV (mcall f_look_at_size [.v (mvar 0), .v (mvar 2)])))
   (mseq (mown mdict0 3)
   (mseq (mfor (mseqI (mvar 1)) (atup 2 (agcons (aname 4) (agcons (aname 5) agnil))) (mfor (mrng3 (op2r mul? (op2b fdiv? 4 2) 2) (op2b add? 4 5) (mvar 2)) (aname 6) (mifS (mor (asB (op2b dnin? 6 3)) (asB (op2l lt? 5 (op2 item? (op2b dget? 3 6) (mcon (.int 1)))))) (mdput 3 (mvar 6) (mtup (acons (mvar 4) (acons (mvar 5) anil)))) mnext)))
   (mret (mc1 tuple? (mc1 sset? (mc1 setN? (mc1p dvals? 3))))))))
noncomputable def f_keepers : List PyData → FOut := bodyF 7 [.v, .v, .v] m_keepers

/-- reaches(chain, state); slots 0:chain 1:state 2:size 3:block -/
noncomputable def m_reaches : SM :=
  (mret (mc1 tuple? (mlc (mseqI (mvar 0)) (aname 2) myes (mc1 max? (op2 add? (mlst (acons (mcon (.int 0)) anil)) (mlc (mseqI (mvar 1)) (aname 3) (asB (op2r le? (op2l item? 3 (mcon (.int 1))) 2)) (rtV (mcall f_end_of [.v (mvar 3)])) [3]))) [2])))
noncomputable def f_reaches : List PyData → FOut := bodyF 4 [.v, .v] m_reaches

/-- _law_parts_right(_law_links_here, _law_many, _law_first, _law_second, _law_gap); slots 0:l_links_here 1:l_many 2:l_first 3:l_second 4:l_gap 5:l_shift 6:l_whole 7:l_total 8:l_pages_due 9:l_size 10:l_spots 11:l_ends 12:l_low 13:l_high 14:l_number 15:l_at -/
noncomputable def m_l_parts_right : SM :=
  (mseq (massign (op2l mul? 1 (op2l item? 0 (mneg (mcon (.int 1))))) (aname 5))
   (mseq (mpar [.v (op2l add? 2 (rtV (mcall f_l_moved [.v (mvar 3), .v (mvar 5)]))), .v (op2b add? 1 4)] [6, 7])
   (mseq (mifS (mor (asB (op2 isNB? (rtV (mcall f_is_state [.v (mvar 0), .v (mvar 7), .v (mvar 6)])) (mcon (.bool true)))) (asB (op2 ne? (rtV (mcall f_live_words [.v (mvar 6)])) (op2 add? (rtV (mcall f_live_words [.v (mvar 2)])) (rtV (mcall f_live_words [.v (mvar 3)])))))) (mret (mcon (.bool false))) mnext)
   (mseq (massign (op2 add? (rtV (mcall f_used_pages [.v (mvar 0), .v (mvar 2)])) (mc1 tuple? (mlc (mseqI (rtV (mcall f_used_pages [.v (mvar 0), .v (mvar 3)]))) (aname 14) myes (op2b add? 14 1) [14]))) (aname 8))
   (mseq (mifS (asB (op2r ne? (rtV (mcall f_used_pages [.v (mvar 0), .v (mvar 6)])) 8)) (mret (mcon (.bool false))) mnext)
   (mseq (mfor (mseqI (mvar 0)) (aname 9) (mseq (massign (op2 add? (rtV (mcall f_places [.v (mvar 0), .v (mvar 1), .v (mvar 2), .v (mvar 9)])) (mc1 tuple? (mlc (mseqI (rtV (mcall f_places [.v (mvar 0), .v (mvar 4), .v (mvar 3), .v (mvar 9)]))) (aname 15) myes (op2b add? 15 5) [15]))) (aname 10))
   (mseq (mifS (asB (op2r ne? (rtV (mcall f_places [.v (mvar 0), .v (mvar 7), .v (mvar 6), .v (mvar 9)])) 10)) (mret (mcon (.bool false))) mnext)
   (mifS (asB (op2 ne? (rtV (mcall f_keepers [.v (mvar 0), .v (mvar 6), .v (mvar 9)])) (op2 add? (rtV (mcall f_keepers [.v (mvar 0), .v (mvar 2), .v (mvar 9)])) (rtV (mcall f_l_moved [.v (rtV (mcall f_keepers [.v (mvar 0), .v (mvar 3), .v (mvar 9)])), .v (mvar 5)]))))) (mret (mcon (.bool false))) mnext))))
   (mseq (massign (mlc (mzip (rtV (mcall f_reaches [.v (mvar 0), .v (mvar 2)])) (rtV (mcall f_reaches [.v (mvar 0), .v (mvar 3)]))) (atup 2 (agcons (aname 12) (agcons (aname 13) agnil))) myes (mif (asB (op2l eq? 13 (mcon (.int 0)))) (mvar 12) (op2b add? 13 5)) [12, 13]) (aname 11))
   (mret (op2r eq? (mc1 list? (rtV (mcall f_reaches [.v (mvar 0), .v (mvar 6)]))) 11)))))))))
noncomputable def f_l_parts_right : List PyData → FOut := bodyF 16 [.v, .v, .v, .v, .v] m_l_parts_right

/-- law(_law_script); slots 0:l_script 1:l_k 2:l_pot_here 3:l_turn 4:l_links_here 5:l_many 6:l_gap 7:l_first 8:l_second -/
noncomputable def m_law : SM :=
  (mseq (mfor (mrng1 (op2 max2? (mcon (.int 1)) (op2 min2? (mcon (.int 3)) (mlenS 0)))) (aname 1) (mseq (mown (rtO (mcall f_l_pot [.scr 0, .v (mvar 1)])) 2)
   (mfor (mrng1 (mcon (.int 3))) (aname 3) (mseq (mpar [.v (rtV (mcall f_l_links [.lend 2, .v (mcon (.int 60))])), .v (op2 add? (mcon (.int 1)) (rtV (mcall f_l_take [.lend 2, .v (mcon (.int 4))]))), .v (op2 add? (mcon (.int 1)) (rtV (mcall f_l_take [.lend 2, .v (mcon (.int 4))])))] [4, 5, 6])
   (mseq (mpar [.v (rtV (mcall f_l_drawn [.lend 2, .v (mvar 4), .v (mvar 5), .v (mcon (.int 15))])), .v (rtV (mcall f_l_drawn [.lend 2, .v (mvar 4), .v (mvar 6), .v (mcon (.int 15))]))] [7, 8])
   (mseq (mifS (mor (asB (op2 isNB? (rtV (mcall f_is_state [.v (mvar 4), .v (op2l add? 5 (mcon (.int 3))), .v (mvar 7)])) (mcon (.bool true)))) (mnot (trB (rtV (mcall f_l_parts_right [.v (mvar 4), .v (mvar 5), .v (mvar 7), .v (mvar 8), .v (mvar 6)]))))) (mret (mcon (.bool false))) mnext)
   (mifS (mnot (trB (rtV (mcall f_l_parts_right [.v (mvar 4), .v (mvar 5), .v (mtup anil), .v (mvar 8), .v (mvar 6)])))) (mret (mcon (.bool false))) mnext)))))))
   (mret (mcon (.bool true))))
noncomputable def f_law : List PyData → FOut := bodyF 9 [.s] m_law

end Lk16

namespace Lk16
open PySem PySem.Spec L2 PL BT
def inB (d : PyData) (lo : Int) (hi : Option Int) : Bool := match d with
  | .int i => decide (lo ≤ i) && (match hi with
    | some h => decide (i ≤ h)
    | none => true)
  | _ => false
theorem isint_h {d : PyData} {lo hi : Int} : f_is_integer [d, .int lo, .int hi] = .ok (.v (.bool (inB d lo (some hi)))) [] := by
  apply trF_eq
  unfold f_is_integer m_is_integer
  rw [trF_body]
  cases d <;> simp only [tr_bnd, tr_lft, tr_con, tr_op2, tr_op2r, tr_op2b, tr_asB, tr_trB, tr_trBp, tr_and, tr_or, tr_not, tr_if, tr_andV, tr_orV, tr_notV, tr_neg, tr_chain, tr_nil, tr_cons, tr_tup, tr_lst, tr_pn, tr_ps, tr_sl, tr_c1, tr_c1p, tr_seqI, tr_rng1, tr_rng2, tr_rng3, tr_zip, tr_enum, tr_rtV, tr_rtO, tr_aNil, tr_aV, tr_call, tr_callT, ts_next, ts_break, ts_cont, ts_seq, ts_ret, ts_retO, ts_retN, ts_expr, ts_assign, as_name, as_nil, as_cons, as_tup, ts_own, ts_if, ts_for, ts_store, varK_v, varK_o, tr_yes, wipe_n, wipe_c, unw_n, unw_c, unw1_v, unw1_e, unw1_n, getQ_0, getQ_s, isOS_v, isOS_e, nl_i, nl_b, nl_n, nl_s, nl_t, eq_self, ts_par, pev_n, pev_v, pev_o, sets_n, sets_c, tr_bor, bor_c, bor_n, sok_e, sok_vv, sok_int, sok_ss, sok_o, rtd_v, rtd_o, rto_o, tu_var, tu_op2l, tu_slp, getO_o, getS_s, getX_v, tu_aL, tu_aS, tu_take, tu_aug, tu_append, tu_pop, tu_lenS, tu_ixS, outA, scrA, isOA, isSA, outS_o, scrS_s, isO_o, isS_s, lok_gen, lix_nil, lix_v, lix_l, lix_s, sok_nil, sok_v, sok_l, sok_s, at_0, at_1, getV_v, getV_o, getL_o, add_ii, sub_ii, mul_ii, mul_ti, mul_li, fdiv_ii, mod_ii, pow_ii, neg_i, cmp_ii, addI_ii, mulI_ii, eq_ii, ne_ii, eq_ss, ne_ss, asB_b, truth_b, truth_i, truth_l, truth_t, truth_n, asI_i, item_l, item_t, len_l, len_t, abs_i, int_i, int_b, tuple_l, tuple_t, list_l, list_t, max2_ii, min2_ii, seq_l, seq_t, slice_l, slice_t, rng1_i, rng2_i, zip_l, zip_t, zip_tl, zip_lt, enum_l, add_tt, add_ll, add_ss, repr_i, atI_0, atI_1, atI_2, ixN_0, ixN_1, ixN_2, ite_some, map_some, ex_and, ex_eq, bind_some, List.set_cons_zero, List.set_cons_succ, List.length_cons, List.length_nil, Option.some.injEq, decide_eq_true_eq, Bool.not_true, Bool.not_false, Bool.and_eq_true, Bool.or_eq_true, fillA, wbA, entry, entrySls, entrySl, List.replicate, List.cons_append, List.nil_append, trF_ok, List.append_nil, List.map_nil, List.map_cons, ownIx, and_assoc, exists_and_left, exists_eq_left', exists_eq_left, Rt.v.injEq, Rt.o.injEq, List.cons.injEq, PyData.int.injEq, PyData.list.injEq, PyData.tuple.injEq, and_true, true_and, List.all_cons, List.all_nil, List.nodup_cons, List.nodup_nil, decide_true, decide_false, Bool.and_true, Bool.true_and, List.mem_cons, List.not_mem_nil, not_false_eq_true, Nat.sub_self, Nat.reduceSub, Nat.reduceAdd, if_true, if_false, Bool.false_eq_true, reduceCtorEq, false_and, and_false, or_false, false_or, and_self, Nat.zero_add, exists_eq', exists_eq, Sl.val.injEq, Sl.own.injEq, exists_const, tr_vnil, tr_vcons, tr_callX, pick_c, pick_n, List.getElem?_cons_zero, List.getElem?_cons_succ, Option.toList_some, tr_dict0, tr_dict1, ts_never, isi_tt, isi_ii, isi_bi, rev_t, rev_l, ts_dput, ts_update, getDc_o, asD_d, din_i, dnin_i, dget_i, key_i, Option.isSome_some, Option.isSome_none, isi?, tyName, isiB, inB]
  all_goals first | (simp; done) | skip
  rename_i i
  by_cases h : i < lo
  · simp [h, show ¬ lo ≤ i by omega]
  · simp [h, show lo ≤ i by omega, isN?, isNb, tr_bnd, tr_lft, tr_con, tr_op2, tr_op2r, tr_op2b, tr_asB, tr_trB, tr_trBp, tr_and, tr_or, tr_not, tr_if, tr_andV, tr_orV, tr_notV, tr_neg, tr_chain, tr_nil, tr_cons, tr_tup, tr_lst, tr_pn, tr_ps, tr_sl, tr_c1, tr_c1p, tr_seqI, tr_rng1, tr_rng2, tr_rng3, tr_zip, tr_enum, tr_rtV, tr_rtO, tr_aNil, tr_aV, tr_call, tr_callT, ts_next, ts_break, ts_cont, ts_seq, ts_ret, ts_retO, ts_retN, ts_expr, ts_assign, as_name, as_nil, as_cons, as_tup, ts_own, ts_if, ts_for, ts_store, varK_v, varK_o, tr_yes, wipe_n, wipe_c, unw_n, unw_c, unw1_v, unw1_e, unw1_n, getQ_0, getQ_s, isOS_v, isOS_e, nl_i, nl_b, nl_n, nl_s, nl_t, eq_self, ts_par, pev_n, pev_v, pev_o, sets_n, sets_c, tr_bor, bor_c, bor_n, sok_e, sok_vv, sok_int, sok_ss, sok_o, rtd_v, rtd_o, rto_o, tu_var, tu_op2l, tu_slp, getO_o, getS_s, getX_v, tu_aL, tu_aS, tu_take, tu_aug, tu_append, tu_pop, tu_lenS, tu_ixS, outA, scrA, isOA, isSA, outS_o, scrS_s, isO_o, isS_s, lok_gen, lix_nil, lix_v, lix_l, lix_s, sok_nil, sok_v, sok_l, sok_s, at_0, at_1, getV_v, getV_o, getL_o, add_ii, sub_ii, mul_ii, mul_ti, mul_li, fdiv_ii, mod_ii, pow_ii, neg_i, cmp_ii, addI_ii, mulI_ii, eq_ii, ne_ii, eq_ss, ne_ss, asB_b, truth_b, truth_i, truth_l, truth_t, truth_n, asI_i, item_l, item_t, len_l, len_t, abs_i, int_i, int_b, tuple_l, tuple_t, list_l, list_t, max2_ii, min2_ii, seq_l, seq_t, slice_l, slice_t, rng1_i, rng2_i, zip_l, zip_t, zip_tl, zip_lt, enum_l, add_tt, add_ll, add_ss, repr_i, atI_0, atI_1, atI_2, ixN_0, ixN_1, ixN_2, ite_some, map_some, ex_and, ex_eq, bind_some, List.set_cons_zero, List.set_cons_succ, List.length_cons, List.length_nil, Option.some.injEq, decide_eq_true_eq, Bool.not_true, Bool.not_false, Bool.and_eq_true, Bool.or_eq_true, fillA, wbA, entry, entrySls, entrySl, List.replicate, List.cons_append, List.nil_append, trF_ok, List.append_nil, List.map_nil, List.map_cons, ownIx, and_assoc, exists_and_left, exists_eq_left', exists_eq_left, Rt.v.injEq, Rt.o.injEq, List.cons.injEq, PyData.int.injEq, PyData.list.injEq, PyData.tuple.injEq, and_true, true_and, List.all_cons, List.all_nil, List.nodup_cons, List.nodup_nil, decide_true, decide_false, Bool.and_true, Bool.true_and, List.mem_cons, List.not_mem_nil, not_false_eq_true, Nat.sub_self, Nat.reduceSub, Nat.reduceAdd, if_true, if_false, Bool.false_eq_true, reduceCtorEq, false_and, and_false, or_false, false_or, and_self, Nat.zero_add, exists_eq', exists_eq, Sl.val.injEq, Sl.own.injEq, exists_const, tr_vnil, tr_vcons, tr_callX, pick_c, pick_n, List.getElem?_cons_zero, List.getElem?_cons_succ, Option.toList_some, tr_dict0, tr_dict1, ts_never, isi_tt, isi_ii, isi_bi, rev_t, rev_l, ts_dput, ts_update, getDc_o, asD_d, din_i, dnin_i, dget_i, key_i, Option.isSome_some, Option.isSome_none]
theorem isint_n {d : PyData} {lo : Int} : f_is_integer [d, .int lo, .none] = .ok (.v (.bool (inB d lo none))) [] := by
  apply trF_eq
  unfold f_is_integer m_is_integer
  rw [trF_body]
  cases d <;> simp only [tr_bnd, tr_lft, tr_con, tr_op2, tr_op2r, tr_op2b, tr_asB, tr_trB, tr_trBp, tr_and, tr_or, tr_not, tr_if, tr_andV, tr_orV, tr_notV, tr_neg, tr_chain, tr_nil, tr_cons, tr_tup, tr_lst, tr_pn, tr_ps, tr_sl, tr_c1, tr_c1p, tr_seqI, tr_rng1, tr_rng2, tr_rng3, tr_zip, tr_enum, tr_rtV, tr_rtO, tr_aNil, tr_aV, tr_call, tr_callT, ts_next, ts_break, ts_cont, ts_seq, ts_ret, ts_retO, ts_retN, ts_expr, ts_assign, as_name, as_nil, as_cons, as_tup, ts_own, ts_if, ts_for, ts_store, varK_v, varK_o, tr_yes, wipe_n, wipe_c, unw_n, unw_c, unw1_v, unw1_e, unw1_n, getQ_0, getQ_s, isOS_v, isOS_e, nl_i, nl_b, nl_n, nl_s, nl_t, eq_self, ts_par, pev_n, pev_v, pev_o, sets_n, sets_c, tr_bor, bor_c, bor_n, sok_e, sok_vv, sok_int, sok_ss, sok_o, rtd_v, rtd_o, rto_o, tu_var, tu_op2l, tu_slp, getO_o, getS_s, getX_v, tu_aL, tu_aS, tu_take, tu_aug, tu_append, tu_pop, tu_lenS, tu_ixS, outA, scrA, isOA, isSA, outS_o, scrS_s, isO_o, isS_s, lok_gen, lix_nil, lix_v, lix_l, lix_s, sok_nil, sok_v, sok_l, sok_s, at_0, at_1, getV_v, getV_o, getL_o, add_ii, sub_ii, mul_ii, mul_ti, mul_li, fdiv_ii, mod_ii, pow_ii, neg_i, cmp_ii, addI_ii, mulI_ii, eq_ii, ne_ii, eq_ss, ne_ss, asB_b, truth_b, truth_i, truth_l, truth_t, truth_n, asI_i, item_l, item_t, len_l, len_t, abs_i, int_i, int_b, tuple_l, tuple_t, list_l, list_t, max2_ii, min2_ii, seq_l, seq_t, slice_l, slice_t, rng1_i, rng2_i, zip_l, zip_t, zip_tl, zip_lt, enum_l, add_tt, add_ll, add_ss, repr_i, atI_0, atI_1, atI_2, ixN_0, ixN_1, ixN_2, ite_some, map_some, ex_and, ex_eq, bind_some, List.set_cons_zero, List.set_cons_succ, List.length_cons, List.length_nil, Option.some.injEq, decide_eq_true_eq, Bool.not_true, Bool.not_false, Bool.and_eq_true, Bool.or_eq_true, fillA, wbA, entry, entrySls, entrySl, List.replicate, List.cons_append, List.nil_append, trF_ok, List.append_nil, List.map_nil, List.map_cons, ownIx, and_assoc, exists_and_left, exists_eq_left', exists_eq_left, Rt.v.injEq, Rt.o.injEq, List.cons.injEq, PyData.int.injEq, PyData.list.injEq, PyData.tuple.injEq, and_true, true_and, List.all_cons, List.all_nil, List.nodup_cons, List.nodup_nil, decide_true, decide_false, Bool.and_true, Bool.true_and, List.mem_cons, List.not_mem_nil, not_false_eq_true, Nat.sub_self, Nat.reduceSub, Nat.reduceAdd, if_true, if_false, Bool.false_eq_true, reduceCtorEq, false_and, and_false, or_false, false_or, and_self, Nat.zero_add, exists_eq', exists_eq, Sl.val.injEq, Sl.own.injEq, exists_const, tr_vnil, tr_vcons, tr_callX, pick_c, pick_n, List.getElem?_cons_zero, List.getElem?_cons_succ, Option.toList_some, tr_dict0, tr_dict1, ts_never, isi_tt, isi_ii, isi_bi, rev_t, rev_l, ts_dput, ts_update, getDc_o, asD_d, din_i, dnin_i, dget_i, key_i, Option.isSome_some, Option.isSome_none, isi?, tyName, isiB, inB]
  all_goals first | (simp; done) | skip
  rename_i i
  by_cases h : i < lo
  · simp [h, show ¬ lo ≤ i by omega]
  · simp [h, show lo ≤ i by omega, isN?, isNb, tr_bnd, tr_lft, tr_con, tr_op2, tr_op2r, tr_op2b, tr_asB, tr_trB, tr_trBp, tr_and, tr_or, tr_not, tr_if, tr_andV, tr_orV, tr_notV, tr_neg, tr_chain, tr_nil, tr_cons, tr_tup, tr_lst, tr_pn, tr_ps, tr_sl, tr_c1, tr_c1p, tr_seqI, tr_rng1, tr_rng2, tr_rng3, tr_zip, tr_enum, tr_rtV, tr_rtO, tr_aNil, tr_aV, tr_call, tr_callT, ts_next, ts_break, ts_cont, ts_seq, ts_ret, ts_retO, ts_retN, ts_expr, ts_assign, as_name, as_nil, as_cons, as_tup, ts_own, ts_if, ts_for, ts_store, varK_v, varK_o, tr_yes, wipe_n, wipe_c, unw_n, unw_c, unw1_v, unw1_e, unw1_n, getQ_0, getQ_s, isOS_v, isOS_e, nl_i, nl_b, nl_n, nl_s, nl_t, eq_self, ts_par, pev_n, pev_v, pev_o, sets_n, sets_c, tr_bor, bor_c, bor_n, sok_e, sok_vv, sok_int, sok_ss, sok_o, rtd_v, rtd_o, rto_o, tu_var, tu_op2l, tu_slp, getO_o, getS_s, getX_v, tu_aL, tu_aS, tu_take, tu_aug, tu_append, tu_pop, tu_lenS, tu_ixS, outA, scrA, isOA, isSA, outS_o, scrS_s, isO_o, isS_s, lok_gen, lix_nil, lix_v, lix_l, lix_s, sok_nil, sok_v, sok_l, sok_s, at_0, at_1, getV_v, getV_o, getL_o, add_ii, sub_ii, mul_ii, mul_ti, mul_li, fdiv_ii, mod_ii, pow_ii, neg_i, cmp_ii, addI_ii, mulI_ii, eq_ii, ne_ii, eq_ss, ne_ss, asB_b, truth_b, truth_i, truth_l, truth_t, truth_n, asI_i, item_l, item_t, len_l, len_t, abs_i, int_i, int_b, tuple_l, tuple_t, list_l, list_t, max2_ii, min2_ii, seq_l, seq_t, slice_l, slice_t, rng1_i, rng2_i, zip_l, zip_t, zip_tl, zip_lt, enum_l, add_tt, add_ll, add_ss, repr_i, atI_0, atI_1, atI_2, ixN_0, ixN_1, ixN_2, ite_some, map_some, ex_and, ex_eq, bind_some, List.set_cons_zero, List.set_cons_succ, List.length_cons, List.length_nil, Option.some.injEq, decide_eq_true_eq, Bool.not_true, Bool.not_false, Bool.and_eq_true, Bool.or_eq_true, fillA, wbA, entry, entrySls, entrySl, List.replicate, List.cons_append, List.nil_append, trF_ok, List.append_nil, List.map_nil, List.map_cons, ownIx, and_assoc, exists_and_left, exists_eq_left', exists_eq_left, Rt.v.injEq, Rt.o.injEq, List.cons.injEq, PyData.int.injEq, PyData.list.injEq, PyData.tuple.injEq, and_true, true_and, List.all_cons, List.all_nil, List.nodup_cons, List.nodup_nil, decide_true, decide_false, Bool.and_true, Bool.true_and, List.mem_cons, List.not_mem_nil, not_false_eq_true, Nat.sub_self, Nat.reduceSub, Nat.reduceAdd, if_true, if_false, Bool.false_eq_true, reduceCtorEq, false_and, and_false, or_false, false_or, and_self, Nat.zero_add, exists_eq', exists_eq, Sl.val.injEq, Sl.own.injEq, exists_const, tr_vnil, tr_vcons, tr_callX, pick_c, pick_n, List.getElem?_cons_zero, List.getElem?_cons_succ, Option.toList_some, tr_dict0, tr_dict1, ts_never, isi_tt, isi_ii, isi_bi, rev_t, rev_l, ts_dput, ts_update, getDc_o, asD_d, din_i, dnin_i, dget_i, key_i, Option.isSome_some, Option.isSome_none]
end Lk16

namespace Lk16
open PySem PySem.Spec L2 PL BT
theorem end_ok {b : Int × Int} : f_end_of [prI b] = .ok (.v (.int (b.1 + b.2))) [] := by
  apply trF_eq
  unfold f_end_of m_end_of
  rw [trF_body]
  simp only [tr_bnd, tr_lft, tr_con, tr_op2, tr_op2r, tr_op2b, tr_asB, tr_trB, tr_trBp, tr_and, tr_or, tr_not, tr_if, tr_andV, tr_orV, tr_notV, tr_neg, tr_chain, tr_nil, tr_cons, tr_tup, tr_lst, tr_pn, tr_ps, tr_sl, tr_c1, tr_c1p, tr_seqI, tr_rng1, tr_rng2, tr_rng3, tr_zip, tr_enum, tr_rtV, tr_rtO, tr_aNil, tr_aV, tr_call, tr_callT, ts_next, ts_break, ts_cont, ts_seq, ts_ret, ts_retO, ts_retN, ts_expr, ts_assign, as_name, as_nil, as_cons, as_tup, ts_own, ts_if, ts_for, ts_store, varK_v, varK_o, tr_yes, wipe_n, wipe_c, unw_n, unw_c, unw1_v, unw1_e, unw1_n, getQ_0, getQ_s, isOS_v, isOS_e, nl_i, nl_b, nl_n, nl_s, nl_t, eq_self, ts_par, pev_n, pev_v, pev_o, sets_n, sets_c, tr_bor, bor_c, bor_n, sok_e, sok_vv, sok_int, sok_ss, sok_o, rtd_v, rtd_o, rto_o, tu_var, tu_op2l, tu_slp, getO_o, getS_s, getX_v, tu_aL, tu_aS, tu_take, tu_aug, tu_append, tu_pop, tu_lenS, tu_ixS, outA, scrA, isOA, isSA, outS_o, scrS_s, isO_o, isS_s, lok_gen, lix_nil, lix_v, lix_l, lix_s, sok_nil, sok_v, sok_l, sok_s, at_0, at_1, getV_v, getV_o, getL_o, add_ii, sub_ii, mul_ii, mul_ti, mul_li, fdiv_ii, mod_ii, pow_ii, neg_i, cmp_ii, addI_ii, mulI_ii, eq_ii, ne_ii, eq_ss, ne_ss, asB_b, truth_b, truth_i, truth_l, truth_t, truth_n, asI_i, item_l, item_t, len_l, len_t, abs_i, int_i, int_b, tuple_l, tuple_t, list_l, list_t, max2_ii, min2_ii, seq_l, seq_t, slice_l, slice_t, rng1_i, rng2_i, zip_l, zip_t, zip_tl, zip_lt, enum_l, add_tt, add_ll, add_ss, repr_i, atI_0, atI_1, atI_2, ixN_0, ixN_1, ixN_2, ite_some, map_some, ex_and, ex_eq, bind_some, List.set_cons_zero, List.set_cons_succ, List.length_cons, List.length_nil, Option.some.injEq, decide_eq_true_eq, Bool.not_true, Bool.not_false, Bool.and_eq_true, Bool.or_eq_true, fillA, wbA, entry, entrySls, entrySl, List.replicate, List.cons_append, List.nil_append, trF_ok, List.append_nil, List.map_nil, List.map_cons, ownIx, and_assoc, exists_and_left, exists_eq_left', exists_eq_left, Rt.v.injEq, Rt.o.injEq, List.cons.injEq, PyData.int.injEq, PyData.list.injEq, PyData.tuple.injEq, and_true, true_and, List.all_cons, List.all_nil, List.nodup_cons, List.nodup_nil, decide_true, decide_false, Bool.and_true, Bool.true_and, List.mem_cons, List.not_mem_nil, not_false_eq_true, Nat.sub_self, Nat.reduceSub, Nat.reduceAdd, if_true, if_false, Bool.false_eq_true, reduceCtorEq, false_and, and_false, or_false, false_or, and_self, Nat.zero_add, exists_eq', exists_eq, Sl.val.injEq, Sl.own.injEq, exists_const, tr_vnil, tr_vcons, tr_callX, pick_c, pick_n, List.getElem?_cons_zero, List.getElem?_cons_succ, Option.toList_some, tr_dict0, tr_dict1, ts_never, isi_tt, isi_ii, isi_bi, rev_t, rev_l, ts_dput, ts_update, getDc_o, asD_d, din_i, dnin_i, dget_i, key_i, Option.isSome_some, Option.isSome_none, prI]
theorem reaches_ok {s : Nat → Int} {bs : List (Int × Int)} {m : Nat} (hm : m ≤ 900) (hl : bs.length ≤ 100000) :
    f_reaches [tup (m + 1) s, .tuple (bs.map prI)] = .ok (.v (tup (m + 1) (rch s bs))) [] := by
  apply trF_eq
  unfold f_reaches m_reaches
  rw [trF_body]
  simp only [tr_bnd, tr_lft, tr_con, tr_op2, tr_op2r, tr_op2b, tr_asB, tr_trB, tr_trBp, tr_and, tr_or, tr_not, tr_if, tr_andV, tr_orV, tr_notV, tr_neg, tr_chain, tr_nil, tr_cons, tr_tup, tr_lst, tr_pn, tr_ps, tr_sl, tr_c1, tr_c1p, tr_seqI, tr_rng1, tr_rng2, tr_rng3, tr_zip, tr_enum, tr_rtV, tr_rtO, tr_aNil, tr_aV, tr_call, tr_callT, ts_next, ts_break, ts_cont, ts_seq, ts_ret, ts_retO, ts_retN, ts_expr, ts_assign, as_name, as_nil, as_cons, as_tup, ts_own, ts_if, ts_for, ts_store, varK_v, varK_o, tr_yes, wipe_n, wipe_c, unw_n, unw_c, unw1_v, unw1_e, unw1_n, getQ_0, getQ_s, isOS_v, isOS_e, nl_i, nl_b, nl_n, nl_s, nl_t, eq_self, ts_par, pev_n, pev_v, pev_o, sets_n, sets_c, tr_bor, bor_c, bor_n, sok_e, sok_vv, sok_int, sok_ss, sok_o, rtd_v, rtd_o, rto_o, tu_var, tu_op2l, tu_slp, getO_o, getS_s, getX_v, tu_aL, tu_aS, tu_take, tu_aug, tu_append, tu_pop, tu_lenS, tu_ixS, outA, scrA, isOA, isSA, outS_o, scrS_s, isO_o, isS_s, lok_gen, lix_nil, lix_v, lix_l, lix_s, sok_nil, sok_v, sok_l, sok_s, at_0, at_1, getV_v, getV_o, getL_o, add_ii, sub_ii, mul_ii, mul_ti, mul_li, fdiv_ii, mod_ii, pow_ii, neg_i, cmp_ii, addI_ii, mulI_ii, eq_ii, ne_ii, eq_ss, ne_ss, asB_b, truth_b, truth_i, truth_l, truth_t, truth_n, asI_i, item_l, item_t, len_l, len_t, abs_i, int_i, int_b, tuple_l, tuple_t, list_l, list_t, max2_ii, min2_ii, seq_l, seq_t, slice_l, slice_t, rng1_i, rng2_i, zip_l, zip_t, zip_tl, zip_lt, enum_l, add_tt, add_ll, add_ss, repr_i, atI_0, atI_1, atI_2, ixN_0, ixN_1, ixN_2, ite_some, map_some, ex_and, ex_eq, bind_some, List.set_cons_zero, List.set_cons_succ, List.length_cons, List.length_nil, Option.some.injEq, decide_eq_true_eq, Bool.not_true, Bool.not_false, Bool.and_eq_true, Bool.or_eq_true, fillA, wbA, entry, entrySls, entrySl, List.replicate, List.cons_append, List.nil_append, trF_ok, List.append_nil, List.map_nil, List.map_cons, ownIx, and_assoc, exists_and_left, exists_eq_left', exists_eq_left, Rt.v.injEq, Rt.o.injEq, List.cons.injEq, PyData.int.injEq, PyData.list.injEq, PyData.tuple.injEq, and_true, true_and, List.all_cons, List.all_nil, List.nodup_cons, List.nodup_nil, decide_true, decide_false, Bool.and_true, Bool.true_and, List.mem_cons, List.not_mem_nil, not_false_eq_true, Nat.sub_self, Nat.reduceSub, Nat.reduceAdd, if_true, if_false, Bool.false_eq_true, reduceCtorEq, false_and, and_false, or_false, false_or, and_self, Nat.zero_add, exists_eq', exists_eq, Sl.val.injEq, Sl.own.injEq, exists_const, tr_vnil, tr_vcons, tr_callX, pick_c, pick_n, List.getElem?_cons_zero, List.getElem?_cons_succ, Option.toList_some, tr_dict0, tr_dict1, ts_never, isi_tt, isi_ii, isi_bi, rev_t, rev_l, ts_dput, ts_update, getDc_o, asD_d, din_i, dnin_i, dget_i, key_i, Option.isSome_some, Option.isSome_none, tup]
  refine tr_lcA (fun i : Nat => PyData.int (s i)) (List.range (m + 1)) (fun i => PyData.int (rch s bs i)) ?_
  simp only [tr_bnd, tr_lft, tr_con, tr_op2, tr_op2r, tr_op2b, tr_asB, tr_trB, tr_trBp, tr_and, tr_or, tr_not, tr_if, tr_andV, tr_orV, tr_notV, tr_neg, tr_chain, tr_nil, tr_cons, tr_tup, tr_lst, tr_pn, tr_ps, tr_sl, tr_c1, tr_c1p, tr_seqI, tr_rng1, tr_rng2, tr_rng3, tr_zip, tr_enum, tr_rtV, tr_rtO, tr_aNil, tr_aV, tr_call, tr_callT, ts_next, ts_break, ts_cont, ts_seq, ts_ret, ts_retO, ts_retN, ts_expr, ts_assign, as_name, as_nil, as_cons, as_tup, ts_own, ts_if, ts_for, ts_store, varK_v, varK_o, tr_yes, wipe_n, wipe_c, unw_n, unw_c, unw1_v, unw1_e, unw1_n, getQ_0, getQ_s, isOS_v, isOS_e, nl_i, nl_b, nl_n, nl_s, nl_t, eq_self, ts_par, pev_n, pev_v, pev_o, sets_n, sets_c, tr_bor, bor_c, bor_n, sok_e, sok_vv, sok_int, sok_ss, sok_o, rtd_v, rtd_o, rto_o, tu_var, tu_op2l, tu_slp, getO_o, getS_s, getX_v, tu_aL, tu_aS, tu_take, tu_aug, tu_append, tu_pop, tu_lenS, tu_ixS, outA, scrA, isOA, isSA, outS_o, scrS_s, isO_o, isS_s, lok_gen, lix_nil, lix_v, lix_l, lix_s, sok_nil, sok_v, sok_l, sok_s, at_0, at_1, getV_v, getV_o, getL_o, add_ii, sub_ii, mul_ii, mul_ti, mul_li, fdiv_ii, mod_ii, pow_ii, neg_i, cmp_ii, addI_ii, mulI_ii, eq_ii, ne_ii, eq_ss, ne_ss, asB_b, truth_b, truth_i, truth_l, truth_t, truth_n, asI_i, item_l, item_t, len_l, len_t, abs_i, int_i, int_b, tuple_l, tuple_t, list_l, list_t, max2_ii, min2_ii, seq_l, seq_t, slice_l, slice_t, rng1_i, rng2_i, zip_l, zip_t, zip_tl, zip_lt, enum_l, add_tt, add_ll, add_ss, repr_i, atI_0, atI_1, atI_2, ixN_0, ixN_1, ixN_2, ite_some, map_some, ex_and, ex_eq, bind_some, List.set_cons_zero, List.set_cons_succ, List.length_cons, List.length_nil, Option.some.injEq, decide_eq_true_eq, Bool.not_true, Bool.not_false, Bool.and_eq_true, Bool.or_eq_true, fillA, wbA, entry, entrySls, entrySl, List.replicate, List.cons_append, List.nil_append, trF_ok, List.append_nil, List.map_nil, List.map_cons, ownIx, and_assoc, exists_and_left, exists_eq_left', exists_eq_left, Rt.v.injEq, Rt.o.injEq, List.cons.injEq, PyData.int.injEq, PyData.list.injEq, PyData.tuple.injEq, and_true, true_and, List.all_cons, List.all_nil, List.nodup_cons, List.nodup_nil, decide_true, decide_false, Bool.and_true, Bool.true_and, List.mem_cons, List.not_mem_nil, not_false_eq_true, Nat.sub_self, Nat.reduceSub, Nat.reduceAdd, if_true, if_false, Bool.false_eq_true, reduceCtorEq, false_and, and_false, or_false, false_or, and_self, Nat.zero_add, exists_eq', exists_eq, Sl.val.injEq, Sl.own.injEq, exists_const, tr_vnil, tr_vcons, tr_callX, pick_c, pick_n, List.getElem?_cons_zero, List.getElem?_cons_succ, Option.toList_some, tr_dict0, tr_dict1, ts_never, isi_tt, isi_ii, isi_bi, rev_t, rev_l, ts_dput, ts_update, getDc_o, asD_d, din_i, dnin_i, dget_i, key_i, Option.isSome_some, Option.isSome_none]
  refine ⟨fun i hi => ⟨lenOk_of (by decide), ?_⟩, lenOk_of (by simp; omega)⟩
  refine tr_lcM prI bs (fun b => decide (b.2 ≤ s i)) (fun b => PyData.int (b.1 + b.2)) ?_
  simp only [tr_bnd, tr_lft, tr_con, tr_op2, tr_op2r, tr_op2b, tr_asB, tr_trB, tr_trBp, tr_and, tr_or, tr_not, tr_if, tr_andV, tr_orV, tr_notV, tr_neg, tr_chain, tr_nil, tr_cons, tr_tup, tr_lst, tr_pn, tr_ps, tr_sl, tr_c1, tr_c1p, tr_seqI, tr_rng1, tr_rng2, tr_rng3, tr_zip, tr_enum, tr_rtV, tr_rtO, tr_aNil, tr_aV, tr_call, tr_callT, ts_next, ts_break, ts_cont, ts_seq, ts_ret, ts_retO, ts_retN, ts_expr, ts_assign, as_name, as_nil, as_cons, as_tup, ts_own, ts_if, ts_for, ts_store, varK_v, varK_o, tr_yes, wipe_n, wipe_c, unw_n, unw_c, unw1_v, unw1_e, unw1_n, getQ_0, getQ_s, isOS_v, isOS_e, nl_i, nl_b, nl_n, nl_s, nl_t, eq_self, ts_par, pev_n, pev_v, pev_o, sets_n, sets_c, tr_bor, bor_c, bor_n, sok_e, sok_vv, sok_int, sok_ss, sok_o, rtd_v, rtd_o, rto_o, tu_var, tu_op2l, tu_slp, getO_o, getS_s, getX_v, tu_aL, tu_aS, tu_take, tu_aug, tu_append, tu_pop, tu_lenS, tu_ixS, outA, scrA, isOA, isSA, outS_o, scrS_s, isO_o, isS_s, lok_gen, lix_nil, lix_v, lix_l, lix_s, sok_nil, sok_v, sok_l, sok_s, at_0, at_1, getV_v, getV_o, getL_o, add_ii, sub_ii, mul_ii, mul_ti, mul_li, fdiv_ii, mod_ii, pow_ii, neg_i, cmp_ii, addI_ii, mulI_ii, eq_ii, ne_ii, eq_ss, ne_ss, asB_b, truth_b, truth_i, truth_l, truth_t, truth_n, asI_i, item_l, item_t, len_l, len_t, abs_i, int_i, int_b, tuple_l, tuple_t, list_l, list_t, max2_ii, min2_ii, seq_l, seq_t, slice_l, slice_t, rng1_i, rng2_i, zip_l, zip_t, zip_tl, zip_lt, enum_l, add_tt, add_ll, add_ss, repr_i, atI_0, atI_1, atI_2, ixN_0, ixN_1, ixN_2, ite_some, map_some, ex_and, ex_eq, bind_some, List.set_cons_zero, List.set_cons_succ, List.length_cons, List.length_nil, Option.some.injEq, decide_eq_true_eq, Bool.not_true, Bool.not_false, Bool.and_eq_true, Bool.or_eq_true, fillA, wbA, entry, entrySls, entrySl, List.replicate, List.cons_append, List.nil_append, trF_ok, List.append_nil, List.map_nil, List.map_cons, ownIx, and_assoc, exists_and_left, exists_eq_left', exists_eq_left, Rt.v.injEq, Rt.o.injEq, List.cons.injEq, PyData.int.injEq, PyData.list.injEq, PyData.tuple.injEq, and_true, true_and, List.all_cons, List.all_nil, List.nodup_cons, List.nodup_nil, decide_true, decide_false, Bool.and_true, Bool.true_and, List.mem_cons, List.not_mem_nil, not_false_eq_true, Nat.sub_self, Nat.reduceSub, Nat.reduceAdd, if_true, if_false, Bool.false_eq_true, reduceCtorEq, false_and, and_false, or_false, false_or, and_self, Nat.zero_add, exists_eq', exists_eq, Sl.val.injEq, Sl.own.injEq, exists_const, tr_vnil, tr_vcons, tr_callX, pick_c, pick_n, List.getElem?_cons_zero, List.getElem?_cons_succ, Option.toList_some, tr_dict0, tr_dict1, ts_never, isi_tt, isi_ii, isi_bi, rev_t, rev_l, ts_dput, ts_update, getDc_o, asD_d, din_i, dnin_i, dget_i, key_i, Option.isSome_some, Option.isSome_none]
  refine ⟨fun b hb => ?_, lenOk_of (by omega), ?_⟩
  · have e := end_ok (b := b)
    simp only [prI] at e
    simp only [tr_bnd, tr_lft, tr_con, tr_op2, tr_op2r, tr_op2b, tr_asB, tr_trB, tr_trBp, tr_and, tr_or, tr_not, tr_if, tr_andV, tr_orV, tr_notV, tr_neg, tr_chain, tr_nil, tr_cons, tr_tup, tr_lst, tr_pn, tr_ps, tr_sl, tr_c1, tr_c1p, tr_seqI, tr_rng1, tr_rng2, tr_rng3, tr_zip, tr_enum, tr_rtV, tr_rtO, tr_aNil, tr_aV, tr_call, tr_callT, ts_next, ts_break, ts_cont, ts_seq, ts_ret, ts_retO, ts_retN, ts_expr, ts_assign, as_name, as_nil, as_cons, as_tup, ts_own, ts_if, ts_for, ts_store, varK_v, varK_o, tr_yes, wipe_n, wipe_c, unw_n, unw_c, unw1_v, unw1_e, unw1_n, getQ_0, getQ_s, isOS_v, isOS_e, nl_i, nl_b, nl_n, nl_s, nl_t, eq_self, ts_par, pev_n, pev_v, pev_o, sets_n, sets_c, tr_bor, bor_c, bor_n, sok_e, sok_vv, sok_int, sok_ss, sok_o, rtd_v, rtd_o, rto_o, tu_var, tu_op2l, tu_slp, getO_o, getS_s, getX_v, tu_aL, tu_aS, tu_take, tu_aug, tu_append, tu_pop, tu_lenS, tu_ixS, outA, scrA, isOA, isSA, outS_o, scrS_s, isO_o, isS_s, lok_gen, lix_nil, lix_v, lix_l, lix_s, sok_nil, sok_v, sok_l, sok_s, at_0, at_1, getV_v, getV_o, getL_o, add_ii, sub_ii, mul_ii, mul_ti, mul_li, fdiv_ii, mod_ii, pow_ii, neg_i, cmp_ii, addI_ii, mulI_ii, eq_ii, ne_ii, eq_ss, ne_ss, asB_b, truth_b, truth_i, truth_l, truth_t, truth_n, asI_i, item_l, item_t, len_l, len_t, abs_i, int_i, int_b, tuple_l, tuple_t, list_l, list_t, max2_ii, min2_ii, seq_l, seq_t, slice_l, slice_t, rng1_i, rng2_i, zip_l, zip_t, zip_tl, zip_lt, enum_l, add_tt, add_ll, add_ss, repr_i, atI_0, atI_1, atI_2, ixN_0, ixN_1, ixN_2, ite_some, map_some, ex_and, ex_eq, bind_some, List.set_cons_zero, List.set_cons_succ, List.length_cons, List.length_nil, Option.some.injEq, decide_eq_true_eq, Bool.not_true, Bool.not_false, Bool.and_eq_true, Bool.or_eq_true, fillA, wbA, entry, entrySls, entrySl, List.replicate, List.cons_append, List.nil_append, trF_ok, List.append_nil, List.map_nil, List.map_cons, ownIx, and_assoc, exists_and_left, exists_eq_left', exists_eq_left, Rt.v.injEq, Rt.o.injEq, List.cons.injEq, PyData.int.injEq, PyData.list.injEq, PyData.tuple.injEq, and_true, true_and, List.all_cons, List.all_nil, List.nodup_cons, List.nodup_nil, decide_true, decide_false, Bool.and_true, Bool.true_and, List.mem_cons, List.not_mem_nil, not_false_eq_true, Nat.sub_self, Nat.reduceSub, Nat.reduceAdd, if_true, if_false, Bool.false_eq_true, reduceCtorEq, false_and, and_false, or_false, false_or, and_self, Nat.zero_add, exists_eq', exists_eq, Sl.val.injEq, Sl.own.injEq, exists_const, tr_vnil, tr_vcons, tr_callX, pick_c, pick_n, List.getElem?_cons_zero, List.getElem?_cons_succ, Option.toList_some, tr_dict0, tr_dict1, ts_never, isi_tt, isi_ii, isi_bi, rev_t, rev_l, ts_dput, ts_update, getDc_o, asD_d, din_i, dnin_i, dget_i, key_i, Option.isSome_some, Option.isSome_none, prI, e]
    split <;> trivial
  · have e : [PyData.int 0] ++ (bs.filter fun b => decide (b.2 ≤ s i)).map (fun b => PyData.int (b.1 + b.2)) = (endL (s i) bs).map PyData.int := by
      unfold endL
      rw [List.map_cons, List.map_map]
      rfl
    have e2 : max? (.list ((endL (s i) bs).map PyData.int)) = some (.int (rch s bs i)) := max_l (by unfold endL; simp)
    simp only [tr_bnd, tr_lft, tr_con, tr_op2, tr_op2r, tr_op2b, tr_asB, tr_trB, tr_trBp, tr_and, tr_or, tr_not, tr_if, tr_andV, tr_orV, tr_notV, tr_neg, tr_chain, tr_nil, tr_cons, tr_tup, tr_lst, tr_pn, tr_ps, tr_sl, tr_c1, tr_c1p, tr_seqI, tr_rng1, tr_rng2, tr_rng3, tr_zip, tr_enum, tr_rtV, tr_rtO, tr_aNil, tr_aV, tr_call, tr_callT, ts_next, ts_break, ts_cont, ts_seq, ts_ret, ts_retO, ts_retN, ts_expr, ts_assign, as_name, as_nil, as_cons, as_tup, ts_own, ts_if, ts_for, ts_store, varK_v, varK_o, tr_yes, wipe_n, wipe_c, unw_n, unw_c, unw1_v, unw1_e, unw1_n, getQ_0, getQ_s, isOS_v, isOS_e, nl_i, nl_b, nl_n, nl_s, nl_t, eq_self, ts_par, pev_n, pev_v, pev_o, sets_n, sets_c, tr_bor, bor_c, bor_n, sok_e, sok_vv, sok_int, sok_ss, sok_o, rtd_v, rtd_o, rto_o, tu_var, tu_op2l, tu_slp, getO_o, getS_s, getX_v, tu_aL, tu_aS, tu_take, tu_aug, tu_append, tu_pop, tu_lenS, tu_ixS, outA, scrA, isOA, isSA, outS_o, scrS_s, isO_o, isS_s, lok_gen, lix_nil, lix_v, lix_l, lix_s, sok_nil, sok_v, sok_l, sok_s, at_0, at_1, getV_v, getV_o, getL_o, add_ii, sub_ii, mul_ii, mul_ti, mul_li, fdiv_ii, mod_ii, pow_ii, neg_i, cmp_ii, addI_ii, mulI_ii, eq_ii, ne_ii, eq_ss, ne_ss, asB_b, truth_b, truth_i, truth_l, truth_t, truth_n, asI_i, item_l, item_t, len_l, len_t, abs_i, int_i, int_b, tuple_l, tuple_t, list_l, list_t, max2_ii, min2_ii, seq_l, seq_t, slice_l, slice_t, rng1_i, rng2_i, zip_l, zip_t, zip_tl, zip_lt, enum_l, add_tt, add_ll, add_ss, repr_i, atI_0, atI_1, atI_2, ixN_0, ixN_1, ixN_2, ite_some, map_some, ex_and, ex_eq, bind_some, List.set_cons_zero, List.set_cons_succ, List.length_cons, List.length_nil, Option.some.injEq, decide_eq_true_eq, Bool.not_true, Bool.not_false, Bool.and_eq_true, Bool.or_eq_true, fillA, wbA, entry, entrySls, entrySl, List.replicate, List.cons_append, List.nil_append, trF_ok, List.append_nil, List.map_nil, List.map_cons, ownIx, and_assoc, exists_and_left, exists_eq_left', exists_eq_left, Rt.v.injEq, Rt.o.injEq, List.cons.injEq, PyData.int.injEq, PyData.list.injEq, PyData.tuple.injEq, and_true, true_and, List.all_cons, List.all_nil, List.nodup_cons, List.nodup_nil, decide_true, decide_false, Bool.and_true, Bool.true_and, List.mem_cons, List.not_mem_nil, not_false_eq_true, Nat.sub_self, Nat.reduceSub, Nat.reduceAdd, if_true, if_false, Bool.false_eq_true, reduceCtorEq, false_and, and_false, or_false, false_or, and_self, Nat.zero_add, exists_eq', exists_eq, Sl.val.injEq, Sl.own.injEq, exists_const, tr_vnil, tr_vcons, tr_callX, pick_c, pick_n, List.getElem?_cons_zero, List.getElem?_cons_succ, Option.toList_some, tr_dict0, tr_dict1, ts_never, isi_tt, isi_ii, isi_bi, rev_t, rev_l, ts_dput, ts_update, getDc_o, asD_d, din_i, dnin_i, dget_i, key_i, Option.isSome_some, Option.isSome_none, List.singleton_append] at e
    simp only [tr_bnd, tr_lft, tr_con, tr_op2, tr_op2r, tr_op2b, tr_asB, tr_trB, tr_trBp, tr_and, tr_or, tr_not, tr_if, tr_andV, tr_orV, tr_notV, tr_neg, tr_chain, tr_nil, tr_cons, tr_tup, tr_lst, tr_pn, tr_ps, tr_sl, tr_c1, tr_c1p, tr_seqI, tr_rng1, tr_rng2, tr_rng3, tr_zip, tr_enum, tr_rtV, tr_rtO, tr_aNil, tr_aV, tr_call, tr_callT, ts_next, ts_break, ts_cont, ts_seq, ts_ret, ts_retO, ts_retN, ts_expr, ts_assign, as_name, as_nil, as_cons, as_tup, ts_own, ts_if, ts_for, ts_store, varK_v, varK_o, tr_yes, wipe_n, wipe_c, unw_n, unw_c, unw1_v, unw1_e, unw1_n, getQ_0, getQ_s, isOS_v, isOS_e, nl_i, nl_b, nl_n, nl_s, nl_t, eq_self, ts_par, pev_n, pev_v, pev_o, sets_n, sets_c, tr_bor, bor_c, bor_n, sok_e, sok_vv, sok_int, sok_ss, sok_o, rtd_v, rtd_o, rto_o, tu_var, tu_op2l, tu_slp, getO_o, getS_s, getX_v, tu_aL, tu_aS, tu_take, tu_aug, tu_append, tu_pop, tu_lenS, tu_ixS, outA, scrA, isOA, isSA, outS_o, scrS_s, isO_o, isS_s, lok_gen, lix_nil, lix_v, lix_l, lix_s, sok_nil, sok_v, sok_l, sok_s, at_0, at_1, getV_v, getV_o, getL_o, add_ii, sub_ii, mul_ii, mul_ti, mul_li, fdiv_ii, mod_ii, pow_ii, neg_i, cmp_ii, addI_ii, mulI_ii, eq_ii, ne_ii, eq_ss, ne_ss, asB_b, truth_b, truth_i, truth_l, truth_t, truth_n, asI_i, item_l, item_t, len_l, len_t, abs_i, int_i, int_b, tuple_l, tuple_t, list_l, list_t, max2_ii, min2_ii, seq_l, seq_t, slice_l, slice_t, rng1_i, rng2_i, zip_l, zip_t, zip_tl, zip_lt, enum_l, add_tt, add_ll, add_ss, repr_i, atI_0, atI_1, atI_2, ixN_0, ixN_1, ixN_2, ite_some, map_some, ex_and, ex_eq, bind_some, List.set_cons_zero, List.set_cons_succ, List.length_cons, List.length_nil, Option.some.injEq, decide_eq_true_eq, Bool.not_true, Bool.not_false, Bool.and_eq_true, Bool.or_eq_true, fillA, wbA, entry, entrySls, entrySl, List.replicate, List.cons_append, List.nil_append, trF_ok, List.append_nil, List.map_nil, List.map_cons, ownIx, and_assoc, exists_and_left, exists_eq_left', exists_eq_left, Rt.v.injEq, Rt.o.injEq, List.cons.injEq, PyData.int.injEq, PyData.list.injEq, PyData.tuple.injEq, and_true, true_and, List.all_cons, List.all_nil, List.nodup_cons, List.nodup_nil, decide_true, decide_false, Bool.and_true, Bool.true_and, List.mem_cons, List.not_mem_nil, not_false_eq_true, Nat.sub_self, Nat.reduceSub, Nat.reduceAdd, if_true, if_false, Bool.false_eq_true, reduceCtorEq, false_and, and_false, or_false, false_or, and_self, Nat.zero_add, exists_eq', exists_eq, Sl.val.injEq, Sl.own.injEq, exists_const, tr_vnil, tr_vcons, tr_callX, pick_c, pick_n, List.getElem?_cons_zero, List.getElem?_cons_succ, Option.toList_some, tr_dict0, tr_dict1, ts_never, isi_tt, isi_ii, isi_bi, rev_t, rev_l, ts_dput, ts_update, getDc_o, asD_d, din_i, dnin_i, dget_i, key_i, Option.isSome_some, Option.isSome_none, e, e2]
    refine lenOk_of ?_
    have := List.length_filter_le (fun b : Int × Int => decide (b.2 ≤ s i)) bs
    simp
    omega
end Lk16

namespace Lk16
open PySem PySem.Spec L2 PL BT
/-- blocks that the dicts of words can hold -/
def BsOk (bs : List (Int × Int)) : Prop := bs.length ≤ 300 ∧ ∀ b ∈ bs, 0 ≤ b.1 ∧ b.1 ≤ 1000000 ∧ 0 ≤ b.2 ∧ b.2 ≤ 1000
theorem BsOk.nn {bs : List (Int × Int)} (h : BsOk bs) : ∀ b ∈ bs, 0 ≤ b.1 ∧ 0 ≤ b.2 := fun b hb => ⟨(h.2 b hb).1, (h.2 b hb).2.2.1⟩
/-- the chunks of a list -/
def ckI (bs : List (Int × Int)) (z : Int) (i : Nat) : PyData := .tuple [.int (0 + (i : Int) * z), .list ((lots bs (0 + (i : Int) * z) z.toNat).map prI)]
def ckL (bs : List (Int × Int)) (z : Int) (d : Nat) : PyData := .list ((List.range d).map (ckI bs z))
theorem occupied_ok {bs : List (Int × Int)} (h : BsOk bs) : ∃ tk, f_occupied [.tuple (bs.map prI)] = .ok (.v (.dict tk)) [] ∧ OwnD tk bs := by
  have h : TrF (f_occupied [.tuple (bs.map prI)]) (fun r o => ∃ tk, r = .v (.dict tk) ∧ o = [] ∧ OwnD tk bs) noxF := by
    unfold f_occupied m_occupied
    rw [trF_body]
    simp only [tr_bnd, tr_lft, tr_con, tr_op2, tr_op2r, tr_op2b, tr_asB, tr_trB, tr_trBp, tr_and, tr_or, tr_not, tr_if, tr_andV, tr_orV, tr_notV, tr_neg, tr_chain, tr_nil, tr_cons, tr_tup, tr_lst, tr_pn, tr_ps, tr_sl, tr_c1, tr_c1p, tr_seqI, tr_rng1, tr_rng2, tr_rng3, tr_zip, tr_enum, tr_rtV, tr_rtO, tr_aNil, tr_aV, tr_call, tr_callT, ts_next, ts_break, ts_cont, ts_seq, ts_ret, ts_retO, ts_retN, ts_expr, ts_assign, as_name, as_nil, as_cons, as_tup, ts_own, ts_if, ts_for, ts_store, varK_v, varK_o, tr_yes, wipe_n, wipe_c, unw_n, unw_c, unw1_v, unw1_e, unw1_n, getQ_0, getQ_s, isOS_v, isOS_e, nl_i, nl_b, nl_n, nl_s, nl_t, eq_self, ts_par, pev_n, pev_v, pev_o, sets_n, sets_c, tr_bor, bor_c, bor_n, sok_e, sok_vv, sok_int, sok_ss, sok_o, rtd_v, rtd_o, rto_o, tu_var, tu_op2l, tu_slp, getO_o, getS_s, getX_v, tu_aL, tu_aS, tu_take, tu_aug, tu_append, tu_pop, tu_lenS, tu_ixS, outA, scrA, isOA, isSA, outS_o, scrS_s, isO_o, isS_s, lok_gen, lix_nil, lix_v, lix_l, lix_s, sok_nil, sok_v, sok_l, sok_s, at_0, at_1, getV_v, getV_o, getL_o, add_ii, sub_ii, mul_ii, mul_ti, mul_li, fdiv_ii, mod_ii, pow_ii, neg_i, cmp_ii, addI_ii, mulI_ii, eq_ii, ne_ii, eq_ss, ne_ss, asB_b, truth_b, truth_i, truth_l, truth_t, truth_n, asI_i, item_l, item_t, len_l, len_t, abs_i, int_i, int_b, tuple_l, tuple_t, list_l, list_t, max2_ii, min2_ii, seq_l, seq_t, slice_l, slice_t, rng1_i, rng2_i, zip_l, zip_t, zip_tl, zip_lt, enum_l, add_tt, add_ll, add_ss, repr_i, atI_0, atI_1, atI_2, ixN_0, ixN_1, ixN_2, ite_some, map_some, ex_and, ex_eq, bind_some, List.set_cons_zero, List.set_cons_succ, List.length_cons, List.length_nil, Option.some.injEq, decide_eq_true_eq, Bool.not_true, Bool.not_false, Bool.and_eq_true, Bool.or_eq_true, fillA, wbA, entry, entrySls, entrySl, List.replicate, List.cons_append, List.nil_append, trF_ok, List.append_nil, List.map_nil, List.map_cons, ownIx, and_assoc, exists_and_left, exists_eq_left', exists_eq_left, Rt.v.injEq, Rt.o.injEq, List.cons.injEq, PyData.int.injEq, PyData.list.injEq, PyData.tuple.injEq, and_true, true_and, List.all_cons, List.all_nil, List.nodup_cons, List.nodup_nil, decide_true, decide_false, Bool.and_true, Bool.true_and, List.mem_cons, List.not_mem_nil, not_false_eq_true, Nat.sub_self, Nat.reduceSub, Nat.reduceAdd, if_true, if_false, Bool.false_eq_true, reduceCtorEq, false_and, and_false, or_false, false_or, and_self, Nat.zero_add, exists_eq', exists_eq, Sl.val.injEq, Sl.own.injEq, exists_const, tr_vnil, tr_vcons, tr_callX, pick_c, pick_n, List.getElem?_cons_zero, List.getElem?_cons_succ, Option.toList_some, tr_dict0, tr_dict1, ts_never, isi_tt, isi_ii, isi_bi, rev_t, rev_l, ts_dput, ts_update, getDc_o, asD_d, din_i, dnin_i, dget_i, key_i, Option.isSome_some, Option.isSome_none]
    refine ts_forM prI bs rfl (fun i r => ∃ tk x y, OwnD tk (bs.take i) ∧ tk.length ≤ i * 1000 ∧ r = [.val (.tuple (bs.map prI)), .own (.dict tk), x, y]) ⟨[], _, _, fun w => by simp [dGet_nil, own], by simp, rfl⟩ (fun i b r hi h4 => ?_) (fun r h4 => ?_)
    · obtain ⟨tk, x, y, ho, hl, rfl⟩ := h4
      have hil : i < bs.length := (List.getElem?_eq_some_iff.mp hi).1
      obtain ⟨h1, h2, h3, h5⟩ := h.2 b (List.mem_of_getElem? hi)
      have hbl := h.1
      have ep : item? (prI b) (.int 0) = some (.int b.1) := rfl
      simp only [tr_bnd, tr_lft, tr_con, tr_op2, tr_op2r, tr_op2b, tr_asB, tr_trB, tr_trBp, tr_and, tr_or, tr_not, tr_if, tr_andV, tr_orV, tr_notV, tr_neg, tr_chain, tr_nil, tr_cons, tr_tup, tr_lst, tr_pn, tr_ps, tr_sl, tr_c1, tr_c1p, tr_seqI, tr_rng1, tr_rng2, tr_rng3, tr_zip, tr_enum, tr_rtV, tr_rtO, tr_aNil, tr_aV, tr_call, tr_callT, ts_next, ts_break, ts_cont, ts_seq, ts_ret, ts_retO, ts_retN, ts_expr, ts_assign, as_name, as_nil, as_cons, as_tup, ts_own, ts_if, ts_for, ts_store, varK_v, varK_o, tr_yes, wipe_n, wipe_c, unw_n, unw_c, unw1_v, unw1_e, unw1_n, getQ_0, getQ_s, isOS_v, isOS_e, nl_i, nl_b, nl_n, nl_s, nl_t, eq_self, ts_par, pev_n, pev_v, pev_o, sets_n, sets_c, tr_bor, bor_c, bor_n, sok_e, sok_vv, sok_int, sok_ss, sok_o, rtd_v, rtd_o, rto_o, tu_var, tu_op2l, tu_slp, getO_o, getS_s, getX_v, tu_aL, tu_aS, tu_take, tu_aug, tu_append, tu_pop, tu_lenS, tu_ixS, outA, scrA, isOA, isSA, outS_o, scrS_s, isO_o, isS_s, lok_gen, lix_nil, lix_v, lix_l, lix_s, sok_nil, sok_v, sok_l, sok_s, at_0, at_1, getV_v, getV_o, getL_o, add_ii, sub_ii, mul_ii, mul_ti, mul_li, fdiv_ii, mod_ii, pow_ii, neg_i, cmp_ii, addI_ii, mulI_ii, eq_ii, ne_ii, eq_ss, ne_ss, asB_b, truth_b, truth_i, truth_l, truth_t, truth_n, asI_i, item_l, item_t, len_l, len_t, abs_i, int_i, int_b, tuple_l, tuple_t, list_l, list_t, max2_ii, min2_ii, seq_l, seq_t, slice_l, slice_t, rng1_i, rng2_i, zip_l, zip_t, zip_tl, zip_lt, enum_l, add_tt, add_ll, add_ss, repr_i, atI_0, atI_1, atI_2, ixN_0, ixN_1, ixN_2, ite_some, map_some, ex_and, ex_eq, bind_some, List.set_cons_zero, List.set_cons_succ, List.length_cons, List.length_nil, Option.some.injEq, decide_eq_true_eq, Bool.not_true, Bool.not_false, Bool.and_eq_true, Bool.or_eq_true, fillA, wbA, entry, entrySls, entrySl, List.replicate, List.cons_append, List.nil_append, trF_ok, List.append_nil, List.map_nil, List.map_cons, ownIx, and_assoc, exists_and_left, exists_eq_left', exists_eq_left, Rt.v.injEq, Rt.o.injEq, List.cons.injEq, PyData.int.injEq, PyData.list.injEq, PyData.tuple.injEq, and_true, true_and, List.all_cons, List.all_nil, List.nodup_cons, List.nodup_nil, decide_true, decide_false, Bool.and_true, Bool.true_and, List.mem_cons, List.not_mem_nil, not_false_eq_true, Nat.sub_self, Nat.reduceSub, Nat.reduceAdd, if_true, if_false, Bool.false_eq_true, reduceCtorEq, false_and, and_false, or_false, false_or, and_self, Nat.zero_add, exists_eq', exists_eq, Sl.val.injEq, Sl.own.injEq, exists_const, tr_vnil, tr_vcons, tr_callX, pick_c, pick_n, List.getElem?_cons_zero, List.getElem?_cons_succ, Option.toList_some, tr_dict0, tr_dict1, ts_never, isi_tt, isi_ii, isi_bi, rev_t, rev_l, ts_dput, ts_update, getDc_o, asD_d, din_i, dnin_i, dget_i, key_i, Option.isSome_some, Option.isSome_none, ep, end_ok]
      obtain ⟨n, hn⟩ : ∃ n : Nat, (b.1 + b.2 - b.1).toNat = n := ⟨_, rfl⟩
      have hnb : (n : Int) = b.2 := by omega
      rw [hn]
      refine ⟨rOk_of (by omega) (by omega), rOk_of (by omega) (by omega), ?_⟩
      refine ts_range (fun j r => ∃ tk' y, (∀ w, dGet tk' (.int w) = if b.1 ≤ w ∧ w < b.1 + j then some (prI b) else dGet tk (.int w)) ∧ tk'.length ≤ tk.length + j ∧ r = [.val (.tuple (bs.map prI)), .own (.dict tk'), .val (prI b), y]) ⟨tk, _, fun w => by rw [if_neg (by omega)], by omega, rfl⟩ (fun j r hj h6 => ?_) (fun r h6 => ?_)
      · obtain ⟨tk', y, g1, g2, rfl⟩ := h6
        simp only [tr_bnd, tr_lft, tr_con, tr_op2, tr_op2r, tr_op2b, tr_asB, tr_trB, tr_trBp, tr_and, tr_or, tr_not, tr_if, tr_andV, tr_orV, tr_notV, tr_neg, tr_chain, tr_nil, tr_cons, tr_tup, tr_lst, tr_pn, tr_ps, tr_sl, tr_c1, tr_c1p, tr_seqI, tr_rng1, tr_rng2, tr_rng3, tr_zip, tr_enum, tr_rtV, tr_rtO, tr_aNil, tr_aV, tr_call, tr_callT, ts_next, ts_break, ts_cont, ts_seq, ts_ret, ts_retO, ts_retN, ts_expr, ts_assign, as_name, as_nil, as_cons, as_tup, ts_own, ts_if, ts_for, ts_store, varK_v, varK_o, tr_yes, wipe_n, wipe_c, unw_n, unw_c, unw1_v, unw1_e, unw1_n, getQ_0, getQ_s, isOS_v, isOS_e, nl_i, nl_b, nl_n, nl_s, nl_t, eq_self, ts_par, pev_n, pev_v, pev_o, sets_n, sets_c, tr_bor, bor_c, bor_n, sok_e, sok_vv, sok_int, sok_ss, sok_o, rtd_v, rtd_o, rto_o, tu_var, tu_op2l, tu_slp, getO_o, getS_s, getX_v, tu_aL, tu_aS, tu_take, tu_aug, tu_append, tu_pop, tu_lenS, tu_ixS, outA, scrA, isOA, isSA, outS_o, scrS_s, isO_o, isS_s, lok_gen, lix_nil, lix_v, lix_l, lix_s, sok_nil, sok_v, sok_l, sok_s, at_0, at_1, getV_v, getV_o, getL_o, add_ii, sub_ii, mul_ii, mul_ti, mul_li, fdiv_ii, mod_ii, pow_ii, neg_i, cmp_ii, addI_ii, mulI_ii, eq_ii, ne_ii, eq_ss, ne_ss, asB_b, truth_b, truth_i, truth_l, truth_t, truth_n, asI_i, item_l, item_t, len_l, len_t, abs_i, int_i, int_b, tuple_l, tuple_t, list_l, list_t, max2_ii, min2_ii, seq_l, seq_t, slice_l, slice_t, rng1_i, rng2_i, zip_l, zip_t, zip_tl, zip_lt, enum_l, add_tt, add_ll, add_ss, repr_i, atI_0, atI_1, atI_2, ixN_0, ixN_1, ixN_2, ite_some, map_some, ex_and, ex_eq, bind_some, List.set_cons_zero, List.set_cons_succ, List.length_cons, List.length_nil, Option.some.injEq, decide_eq_true_eq, Bool.not_true, Bool.not_false, Bool.and_eq_true, Bool.or_eq_true, fillA, wbA, entry, entrySls, entrySl, List.replicate, List.cons_append, List.nil_append, trF_ok, List.append_nil, List.map_nil, List.map_cons, ownIx, and_assoc, exists_and_left, exists_eq_left', exists_eq_left, Rt.v.injEq, Rt.o.injEq, List.cons.injEq, PyData.int.injEq, PyData.list.injEq, PyData.tuple.injEq, and_true, true_and, List.all_cons, List.all_nil, List.nodup_cons, List.nodup_nil, decide_true, decide_false, Bool.and_true, Bool.true_and, List.mem_cons, List.not_mem_nil, not_false_eq_true, Nat.sub_self, Nat.reduceSub, Nat.reduceAdd, if_true, if_false, Bool.false_eq_true, reduceCtorEq, false_and, and_false, or_false, false_or, and_self, Nat.zero_add, exists_eq', exists_eq, Sl.val.injEq, Sl.own.injEq, exists_const, tr_vnil, tr_vcons, tr_callX, pick_c, pick_n, List.getElem?_cons_zero, List.getElem?_cons_succ, Option.toList_some, tr_dict0, tr_dict1, ts_never, isi_tt, isi_ii, isi_bi, rev_t, rev_l, ts_dput, ts_update, getDc_o, asD_d, din_i, dnin_i, dget_i, key_i, Option.isSome_some, Option.isSome_none]
        have := dPut_len (ds := tk') (k := .int (b.1 + j)) (v := prI b)
        refine ⟨lenOk_of (by omega), _, fun w => ?_, ?_, rfl⟩
        · rw [dGet_put, g1]
          by_cases hw : w = b.1 + j
          · rw [if_pos hw, if_pos (by omega)]
          · rw [if_neg hw]
            by_cases h7 : b.1 ≤ w ∧ w < b.1 + j
            · rw [if_pos h7, if_pos (by omega)]
            · rw [if_neg h7, if_neg (by omega)]
        · omega
      · obtain ⟨tk', y, g1, g2, rfl⟩ := h6
        refine ⟨tk', fun w => ?_, by rw [Nat.add_mul]; omega, _, _, rfl⟩
        have e : bs.take (i + 1) = bs.take i ++ [b] := by rw [List.take_succ, hi]; rfl
        rw [e, own_snoc, g1, hnb, ho w]
        split <;> rfl
    · obtain ⟨tk, x, y, ho, hl, rfl⟩ := h4
      rw [List.take_length] at ho
      simp only [tr_bnd, tr_lft, tr_con, tr_op2, tr_op2r, tr_op2b, tr_asB, tr_trB, tr_trBp, tr_and, tr_or, tr_not, tr_if, tr_andV, tr_orV, tr_notV, tr_neg, tr_chain, tr_nil, tr_cons, tr_tup, tr_lst, tr_pn, tr_ps, tr_sl, tr_c1, tr_c1p, tr_seqI, tr_rng1, tr_rng2, tr_rng3, tr_zip, tr_enum, tr_rtV, tr_rtO, tr_aNil, tr_aV, tr_call, tr_callT, ts_next, ts_break, ts_cont, ts_seq, ts_ret, ts_retO, ts_retN, ts_expr, ts_assign, as_name, as_nil, as_cons, as_tup, ts_own, ts_if, ts_for, ts_store, varK_v, varK_o, tr_yes, wipe_n, wipe_c, unw_n, unw_c, unw1_v, unw1_e, unw1_n, getQ_0, getQ_s, isOS_v, isOS_e, nl_i, nl_b, nl_n, nl_s, nl_t, eq_self, ts_par, pev_n, pev_v, pev_o, sets_n, sets_c, tr_bor, bor_c, bor_n, sok_e, sok_vv, sok_int, sok_ss, sok_o, rtd_v, rtd_o, rto_o, tu_var, tu_op2l, tu_slp, getO_o, getS_s, getX_v, tu_aL, tu_aS, tu_take, tu_aug, tu_append, tu_pop, tu_lenS, tu_ixS, outA, scrA, isOA, isSA, outS_o, scrS_s, isO_o, isS_s, lok_gen, lix_nil, lix_v, lix_l, lix_s, sok_nil, sok_v, sok_l, sok_s, at_0, at_1, getV_v, getV_o, getL_o, add_ii, sub_ii, mul_ii, mul_ti, mul_li, fdiv_ii, mod_ii, pow_ii, neg_i, cmp_ii, addI_ii, mulI_ii, eq_ii, ne_ii, eq_ss, ne_ss, asB_b, truth_b, truth_i, truth_l, truth_t, truth_n, asI_i, item_l, item_t, len_l, len_t, abs_i, int_i, int_b, tuple_l, tuple_t, list_l, list_t, max2_ii, min2_ii, seq_l, seq_t, slice_l, slice_t, rng1_i, rng2_i, zip_l, zip_t, zip_tl, zip_lt, enum_l, add_tt, add_ll, add_ss, repr_i, atI_0, atI_1, atI_2, ixN_0, ixN_1, ixN_2, ite_some, map_some, ex_and, ex_eq, bind_some, List.set_cons_zero, List.set_cons_succ, List.length_cons, List.length_nil, Option.some.injEq, decide_eq_true_eq, Bool.not_true, Bool.not_false, Bool.and_eq_true, Bool.or_eq_true, fillA, wbA, entry, entrySls, entrySl, List.replicate, List.cons_append, List.nil_append, trF_ok, List.append_nil, List.map_nil, List.map_cons, ownIx, and_assoc, exists_and_left, exists_eq_left', exists_eq_left, Rt.v.injEq, Rt.o.injEq, List.cons.injEq, PyData.int.injEq, PyData.list.injEq, PyData.tuple.injEq, and_true, true_and, List.all_cons, List.all_nil, List.nodup_cons, List.nodup_nil, decide_true, decide_false, Bool.and_true, Bool.true_and, List.mem_cons, List.not_mem_nil, not_false_eq_true, Nat.sub_self, Nat.reduceSub, Nat.reduceAdd, if_true, if_false, Bool.false_eq_true, reduceCtorEq, false_and, and_false, or_false, false_or, and_self, Nat.zero_add, exists_eq', exists_eq, Sl.val.injEq, Sl.own.injEq, exists_const, tr_vnil, tr_vcons, tr_callX, pick_c, pick_n, List.getElem?_cons_zero, List.getElem?_cons_succ, Option.toList_some, tr_dict0, tr_dict1, ts_never, isi_tt, isi_ii, isi_bi, rev_t, rev_l, ts_dput, ts_update, getDc_o, asD_d, din_i, dnin_i, dget_i, key_i, Option.isSome_some, Option.isSome_none]
      exact ⟨tk, rfl, ho⟩
  obtain ⟨r, o, e, tk, rfl, rfl, h1⟩ := trF_ex h
  exact ⟨tk, e, h1⟩
theorem looks_ok {s : Nat → Int} {m j : Nat} (hj : j ≤ m) (h1 : 1 ≤ s j) : f_look_at_size [tup (m + 1) s, .int (s j)] = .ok (.v .none) [] := by
  apply trF_eq
  unfold f_look_at_size m_look_at_size
  rw [trF_body]
  have hm : s j ∈ (List.range (m + 1)).map s := List.mem_map.mpr ⟨j, by simp; omega, rfl⟩
  simp only [tr_bnd, tr_lft, tr_con, tr_op2, tr_op2r, tr_op2b, tr_asB, tr_trB, tr_trBp, tr_and, tr_or, tr_not, tr_if, tr_andV, tr_orV, tr_notV, tr_neg, tr_chain, tr_nil, tr_cons, tr_tup, tr_lst, tr_pn, tr_ps, tr_sl, tr_c1, tr_c1p, tr_seqI, tr_rng1, tr_rng2, tr_rng3, tr_zip, tr_enum, tr_rtV, tr_rtO, tr_aNil, tr_aV, tr_call, tr_callT, ts_next, ts_break, ts_cont, ts_seq, ts_ret, ts_retO, ts_retN, ts_expr, ts_assign, as_name, as_nil, as_cons, as_tup, ts_own, ts_if, ts_for, ts_store, varK_v, varK_o, tr_yes, wipe_n, wipe_c, unw_n, unw_c, unw1_v, unw1_e, unw1_n, getQ_0, getQ_s, isOS_v, isOS_e, nl_i, nl_b, nl_n, nl_s, nl_t, eq_self, ts_par, pev_n, pev_v, pev_o, sets_n, sets_c, tr_bor, bor_c, bor_n, sok_e, sok_vv, sok_int, sok_ss, sok_o, rtd_v, rtd_o, rto_o, tu_var, tu_op2l, tu_slp, getO_o, getS_s, getX_v, tu_aL, tu_aS, tu_take, tu_aug, tu_append, tu_pop, tu_lenS, tu_ixS, outA, scrA, isOA, isSA, outS_o, scrS_s, isO_o, isS_s, lok_gen, lix_nil, lix_v, lix_l, lix_s, sok_nil, sok_v, sok_l, sok_s, at_0, at_1, getV_v, getV_o, getL_o, add_ii, sub_ii, mul_ii, mul_ti, mul_li, fdiv_ii, mod_ii, pow_ii, neg_i, cmp_ii, addI_ii, mulI_ii, eq_ii, ne_ii, eq_ss, ne_ss, asB_b, truth_b, truth_i, truth_l, truth_t, truth_n, asI_i, item_l, item_t, len_l, len_t, abs_i, int_i, int_b, tuple_l, tuple_t, list_l, list_t, max2_ii, min2_ii, seq_l, seq_t, slice_l, slice_t, rng1_i, rng2_i, zip_l, zip_t, zip_tl, zip_lt, enum_l, add_tt, add_ll, add_ss, repr_i, atI_0, atI_1, atI_2, ixN_0, ixN_1, ixN_2, ite_some, map_some, ex_and, ex_eq, bind_some, List.set_cons_zero, List.set_cons_succ, List.length_cons, List.length_nil, Option.some.injEq, decide_eq_true_eq, Bool.not_true, Bool.not_false, Bool.and_eq_true, Bool.or_eq_true, fillA, wbA, entry, entrySls, entrySl, List.replicate, List.cons_append, List.nil_append, trF_ok, List.append_nil, List.map_nil, List.map_cons, ownIx, and_assoc, exists_and_left, exists_eq_left', exists_eq_left, Rt.v.injEq, Rt.o.injEq, List.cons.injEq, PyData.int.injEq, PyData.list.injEq, PyData.tuple.injEq, and_true, true_and, List.all_cons, List.all_nil, List.nodup_cons, List.nodup_nil, decide_true, decide_false, Bool.and_true, Bool.true_and, List.mem_cons, List.not_mem_nil, not_false_eq_true, Nat.sub_self, Nat.reduceSub, Nat.reduceAdd, if_true, if_false, Bool.false_eq_true, reduceCtorEq, false_and, and_false, or_false, false_or, and_self, Nat.zero_add, exists_eq', exists_eq, Sl.val.injEq, Sl.own.injEq, exists_const, tr_vnil, tr_vcons, tr_callX, pick_c, pick_n, List.getElem?_cons_zero, List.getElem?_cons_succ, Option.toList_some, tr_dict0, tr_dict1, ts_never, isi_tt, isi_ii, isi_bi, rev_t, rev_l, ts_dput, ts_update, getDc_o, asD_d, din_i, dnin_i, dget_i, key_i, Option.isSome_some, Option.isSome_none, isint_n, inB, h1, nin_tupS, hm]
end Lk16

namespace Lk16
open PySem PySem.Spec L2 PL BT
theorem live_ok {bs : List (Int × Int)} (h : bs.length ≤ 10000) : f_live_words [.tuple (bs.map prI)] = .ok (.v (.int (live bs))) [] := by
  apply trF_eq
  unfold f_live_words m_live_words
  rw [trF_body]
  simp only [tr_bnd, tr_lft, tr_con, tr_op2, tr_op2r, tr_op2b, tr_asB, tr_trB, tr_trBp, tr_and, tr_or, tr_not, tr_if, tr_andV, tr_orV, tr_notV, tr_neg, tr_chain, tr_nil, tr_cons, tr_tup, tr_lst, tr_pn, tr_ps, tr_sl, tr_c1, tr_c1p, tr_seqI, tr_rng1, tr_rng2, tr_rng3, tr_zip, tr_enum, tr_rtV, tr_rtO, tr_aNil, tr_aV, tr_call, tr_callT, ts_next, ts_break, ts_cont, ts_seq, ts_ret, ts_retO, ts_retN, ts_expr, ts_assign, as_name, as_nil, as_cons, as_tup, ts_own, ts_if, ts_for, ts_store, varK_v, varK_o, tr_yes, wipe_n, wipe_c, unw_n, unw_c, unw1_v, unw1_e, unw1_n, getQ_0, getQ_s, isOS_v, isOS_e, nl_i, nl_b, nl_n, nl_s, nl_t, eq_self, ts_par, pev_n, pev_v, pev_o, sets_n, sets_c, tr_bor, bor_c, bor_n, sok_e, sok_vv, sok_int, sok_ss, sok_o, rtd_v, rtd_o, rto_o, tu_var, tu_op2l, tu_slp, getO_o, getS_s, getX_v, tu_aL, tu_aS, tu_take, tu_aug, tu_append, tu_pop, tu_lenS, tu_ixS, outA, scrA, isOA, isSA, outS_o, scrS_s, isO_o, isS_s, lok_gen, lix_nil, lix_v, lix_l, lix_s, sok_nil, sok_v, sok_l, sok_s, at_0, at_1, getV_v, getV_o, getL_o, add_ii, sub_ii, mul_ii, mul_ti, mul_li, fdiv_ii, mod_ii, pow_ii, neg_i, cmp_ii, addI_ii, mulI_ii, eq_ii, ne_ii, eq_ss, ne_ss, asB_b, truth_b, truth_i, truth_l, truth_t, truth_n, asI_i, item_l, item_t, len_l, len_t, abs_i, int_i, int_b, tuple_l, tuple_t, list_l, list_t, max2_ii, min2_ii, seq_l, seq_t, slice_l, slice_t, rng1_i, rng2_i, zip_l, zip_t, zip_tl, zip_lt, enum_l, add_tt, add_ll, add_ss, repr_i, atI_0, atI_1, atI_2, ixN_0, ixN_1, ixN_2, ite_some, map_some, ex_and, ex_eq, bind_some, List.set_cons_zero, List.set_cons_succ, List.length_cons, List.length_nil, Option.some.injEq, decide_eq_true_eq, Bool.not_true, Bool.not_false, Bool.and_eq_true, Bool.or_eq_true, fillA, wbA, entry, entrySls, entrySl, List.replicate, List.cons_append, List.nil_append, trF_ok, List.append_nil, List.map_nil, List.map_cons, ownIx, and_assoc, exists_and_left, exists_eq_left', exists_eq_left, Rt.v.injEq, Rt.o.injEq, List.cons.injEq, PyData.int.injEq, PyData.list.injEq, PyData.tuple.injEq, and_true, true_and, List.all_cons, List.all_nil, List.nodup_cons, List.nodup_nil, decide_true, decide_false, Bool.and_true, Bool.true_and, List.mem_cons, List.not_mem_nil, not_false_eq_true, Nat.sub_self, Nat.reduceSub, Nat.reduceAdd, if_true, if_false, Bool.false_eq_true, reduceCtorEq, false_and, and_false, or_false, false_or, and_self, Nat.zero_add, exists_eq', exists_eq, Sl.val.injEq, Sl.own.injEq, exists_const, tr_vnil, tr_vcons, tr_callX, pick_c, pick_n, List.getElem?_cons_zero, List.getElem?_cons_succ, Option.toList_some, tr_dict0, tr_dict1, ts_never, isi_tt, isi_ii, isi_bi, rev_t, rev_l, ts_dput, ts_update, getDc_o, asD_d, din_i, dnin_i, dget_i, key_i, Option.isSome_some, Option.isSome_none]
  refine tr_lcA prI bs (fun b => .int b.2) ?_
  have e : (bs.map fun b => PyData.int b.2) = (bs.map (·.2)).map PyData.int := by rw [List.map_map]; rfl
  simp only [tr_bnd, tr_lft, tr_con, tr_op2, tr_op2r, tr_op2b, tr_asB, tr_trB, tr_trBp, tr_and, tr_or, tr_not, tr_if, tr_andV, tr_orV, tr_notV, tr_neg, tr_chain, tr_nil, tr_cons, tr_tup, tr_lst, tr_pn, tr_ps, tr_sl, tr_c1, tr_c1p, tr_seqI, tr_rng1, tr_rng2, tr_rng3, tr_zip, tr_enum, tr_rtV, tr_rtO, tr_aNil, tr_aV, tr_call, tr_callT, ts_next, ts_break, ts_cont, ts_seq, ts_ret, ts_retO, ts_retN, ts_expr, ts_assign, as_name, as_nil, as_cons, as_tup, ts_own, ts_if, ts_for, ts_store, varK_v, varK_o, tr_yes, wipe_n, wipe_c, unw_n, unw_c, unw1_v, unw1_e, unw1_n, getQ_0, getQ_s, isOS_v, isOS_e, nl_i, nl_b, nl_n, nl_s, nl_t, eq_self, ts_par, pev_n, pev_v, pev_o, sets_n, sets_c, tr_bor, bor_c, bor_n, sok_e, sok_vv, sok_int, sok_ss, sok_o, rtd_v, rtd_o, rto_o, tu_var, tu_op2l, tu_slp, getO_o, getS_s, getX_v, tu_aL, tu_aS, tu_take, tu_aug, tu_append, tu_pop, tu_lenS, tu_ixS, outA, scrA, isOA, isSA, outS_o, scrS_s, isO_o, isS_s, lok_gen, lix_nil, lix_v, lix_l, lix_s, sok_nil, sok_v, sok_l, sok_s, at_0, at_1, getV_v, getV_o, getL_o, add_ii, sub_ii, mul_ii, mul_ti, mul_li, fdiv_ii, mod_ii, pow_ii, neg_i, cmp_ii, addI_ii, mulI_ii, eq_ii, ne_ii, eq_ss, ne_ss, asB_b, truth_b, truth_i, truth_l, truth_t, truth_n, asI_i, item_l, item_t, len_l, len_t, abs_i, int_i, int_b, tuple_l, tuple_t, list_l, list_t, max2_ii, min2_ii, seq_l, seq_t, slice_l, slice_t, rng1_i, rng2_i, zip_l, zip_t, zip_tl, zip_lt, enum_l, add_tt, add_ll, add_ss, repr_i, atI_0, atI_1, atI_2, ixN_0, ixN_1, ixN_2, ite_some, map_some, ex_and, ex_eq, bind_some, List.set_cons_zero, List.set_cons_succ, List.length_cons, List.length_nil, Option.some.injEq, decide_eq_true_eq, Bool.not_true, Bool.not_false, Bool.and_eq_true, Bool.or_eq_true, fillA, wbA, entry, entrySls, entrySl, List.replicate, List.cons_append, List.nil_append, trF_ok, List.append_nil, List.map_nil, List.map_cons, ownIx, and_assoc, exists_and_left, exists_eq_left', exists_eq_left, Rt.v.injEq, Rt.o.injEq, List.cons.injEq, PyData.int.injEq, PyData.list.injEq, PyData.tuple.injEq, and_true, true_and, List.all_cons, List.all_nil, List.nodup_cons, List.nodup_nil, decide_true, decide_false, Bool.and_true, Bool.true_and, List.mem_cons, List.not_mem_nil, not_false_eq_true, Nat.sub_self, Nat.reduceSub, Nat.reduceAdd, if_true, if_false, Bool.false_eq_true, reduceCtorEq, false_and, and_false, or_false, false_or, and_self, Nat.zero_add, exists_eq', exists_eq, Sl.val.injEq, Sl.own.injEq, exists_const, tr_vnil, tr_vcons, tr_callX, pick_c, pick_n, List.getElem?_cons_zero, List.getElem?_cons_succ, Option.toList_some, tr_dict0, tr_dict1, ts_never, isi_tt, isi_ii, isi_bi, rev_t, rev_l, ts_dput, ts_update, getDc_o, asD_d, din_i, dnin_i, dget_i, key_i, Option.isSome_some, Option.isSome_none, prI, e, sum_m]
  exact ⟨fun _ _ => trivial, lenOk_of (by omega), rfl⟩
theorem used_ok {bs : List (Int × Int)} {s : Nat → Int} {m : Nat} (h : bs.length ≤ 4000) (hz : 0 < s m) (hz2 : s m < 18446744073709551616) : f_used_pages [tup (m + 1) s, .tuple (bs.map prI)] = .ok (.v (.tuple ((usd (s m) bs).map PyData.int))) [] := by
  apply trF_eq
  unfold f_used_pages m_used_pages
  rw [trF_body]
  simp only [tr_bnd, tr_lft, tr_con, tr_op2, tr_op2r, tr_op2b, tr_asB, tr_trB, tr_trBp, tr_and, tr_or, tr_not, tr_if, tr_andV, tr_orV, tr_notV, tr_neg, tr_chain, tr_nil, tr_cons, tr_tup, tr_lst, tr_pn, tr_ps, tr_sl, tr_c1, tr_c1p, tr_seqI, tr_rng1, tr_rng2, tr_rng3, tr_zip, tr_enum, tr_rtV, tr_rtO, tr_aNil, tr_aV, tr_call, tr_callT, ts_next, ts_break, ts_cont, ts_seq, ts_ret, ts_retO, ts_retN, ts_expr, ts_assign, as_name, as_nil, as_cons, as_tup, ts_own, ts_if, ts_for, ts_store, varK_v, varK_o, tr_yes, wipe_n, wipe_c, unw_n, unw_c, unw1_v, unw1_e, unw1_n, getQ_0, getQ_s, isOS_v, isOS_e, nl_i, nl_b, nl_n, nl_s, nl_t, eq_self, ts_par, pev_n, pev_v, pev_o, sets_n, sets_c, tr_bor, bor_c, bor_n, sok_e, sok_vv, sok_int, sok_ss, sok_o, rtd_v, rtd_o, rto_o, tu_var, tu_op2l, tu_slp, getO_o, getS_s, getX_v, tu_aL, tu_aS, tu_take, tu_aug, tu_append, tu_pop, tu_lenS, tu_ixS, outA, scrA, isOA, isSA, outS_o, scrS_s, isO_o, isS_s, lok_gen, lix_nil, lix_v, lix_l, lix_s, sok_nil, sok_v, sok_l, sok_s, at_0, at_1, getV_v, getV_o, getL_o, add_ii, sub_ii, mul_ii, mul_ti, mul_li, fdiv_ii, mod_ii, pow_ii, neg_i, cmp_ii, addI_ii, mulI_ii, eq_ii, ne_ii, eq_ss, ne_ss, asB_b, truth_b, truth_i, truth_l, truth_t, truth_n, asI_i, item_l, item_t, len_l, len_t, abs_i, int_i, int_b, tuple_l, tuple_t, list_l, list_t, max2_ii, min2_ii, seq_l, seq_t, slice_l, slice_t, rng1_i, rng2_i, zip_l, zip_t, zip_tl, zip_lt, enum_l, add_tt, add_ll, add_ss, repr_i, atI_0, atI_1, atI_2, ixN_0, ixN_1, ixN_2, ite_some, map_some, ex_and, ex_eq, bind_some, List.set_cons_zero, List.set_cons_succ, List.length_cons, List.length_nil, Option.some.injEq, decide_eq_true_eq, Bool.not_true, Bool.not_false, Bool.and_eq_true, Bool.or_eq_true, fillA, wbA, entry, entrySls, entrySl, List.replicate, List.cons_append, List.nil_append, trF_ok, List.append_nil, List.map_nil, List.map_cons, ownIx, and_assoc, exists_and_left, exists_eq_left', exists_eq_left, Rt.v.injEq, Rt.o.injEq, List.cons.injEq, PyData.int.injEq, PyData.list.injEq, PyData.tuple.injEq, and_true, true_and, List.all_cons, List.all_nil, List.nodup_cons, List.nodup_nil, decide_true, decide_false, Bool.and_true, Bool.true_and, List.mem_cons, List.not_mem_nil, not_false_eq_true, Nat.sub_self, Nat.reduceSub, Nat.reduceAdd, if_true, if_false, Bool.false_eq_true, reduceCtorEq, false_and, and_false, or_false, false_or, and_self, Nat.zero_add, exists_eq', exists_eq, Sl.val.injEq, Sl.own.injEq, exists_const, tr_vnil, tr_vcons, tr_callX, pick_c, pick_n, List.getElem?_cons_zero, List.getElem?_cons_succ, Option.toList_some, tr_dict0, tr_dict1, ts_never, isi_tt, isi_ii, isi_bi, rev_t, rev_l, ts_dput, ts_update, getDc_o, asD_d, din_i, dnin_i, dget_i, key_i, Option.isSome_some, Option.isSome_none]
  refine tr_lcA prI bs (fun b => .int (b.1 / s m)) ?_
  have e : (bs.map fun b => PyData.int (b.1 / s m)) = (bs.map fun b => b.1 / s m).map PyData.int := by rw [List.map_map]; rfl
  have hs := set_m (ns := bs.map fun b => b.1 / s m) (by simpa using h)
  simp only [tr_bnd, tr_lft, tr_con, tr_op2, tr_op2r, tr_op2b, tr_asB, tr_trB, tr_trBp, tr_and, tr_or, tr_not, tr_if, tr_andV, tr_orV, tr_notV, tr_neg, tr_chain, tr_nil, tr_cons, tr_tup, tr_lst, tr_pn, tr_ps, tr_sl, tr_c1, tr_c1p, tr_seqI, tr_rng1, tr_rng2, tr_rng3, tr_zip, tr_enum, tr_rtV, tr_rtO, tr_aNil, tr_aV, tr_call, tr_callT, ts_next, ts_break, ts_cont, ts_seq, ts_ret, ts_retO, ts_retN, ts_expr, ts_assign, as_name, as_nil, as_cons, as_tup, ts_own, ts_if, ts_for, ts_store, varK_v, varK_o, tr_yes, wipe_n, wipe_c, unw_n, unw_c, unw1_v, unw1_e, unw1_n, getQ_0, getQ_s, isOS_v, isOS_e, nl_i, nl_b, nl_n, nl_s, nl_t, eq_self, ts_par, pev_n, pev_v, pev_o, sets_n, sets_c, tr_bor, bor_c, bor_n, sok_e, sok_vv, sok_int, sok_ss, sok_o, rtd_v, rtd_o, rto_o, tu_var, tu_op2l, tu_slp, getO_o, getS_s, getX_v, tu_aL, tu_aS, tu_take, tu_aug, tu_append, tu_pop, tu_lenS, tu_ixS, outA, scrA, isOA, isSA, outS_o, scrS_s, isO_o, isS_s, lok_gen, lix_nil, lix_v, lix_l, lix_s, sok_nil, sok_v, sok_l, sok_s, at_0, at_1, getV_v, getV_o, getL_o, add_ii, sub_ii, mul_ii, mul_ti, mul_li, fdiv_ii, mod_ii, pow_ii, neg_i, cmp_ii, addI_ii, mulI_ii, eq_ii, ne_ii, eq_ss, ne_ss, asB_b, truth_b, truth_i, truth_l, truth_t, truth_n, asI_i, item_l, item_t, len_l, len_t, abs_i, int_i, int_b, tuple_l, tuple_t, list_l, list_t, max2_ii, min2_ii, seq_l, seq_t, slice_l, slice_t, rng1_i, rng2_i, zip_l, zip_t, zip_tl, zip_lt, enum_l, add_tt, add_ll, add_ss, repr_i, atI_0, atI_1, atI_2, ixN_0, ixN_1, ixN_2, ite_some, map_some, ex_and, ex_eq, bind_some, List.set_cons_zero, List.set_cons_succ, List.length_cons, List.length_nil, Option.some.injEq, decide_eq_true_eq, Bool.not_true, Bool.not_false, Bool.and_eq_true, Bool.or_eq_true, fillA, wbA, entry, entrySls, entrySl, List.replicate, List.cons_append, List.nil_append, trF_ok, List.append_nil, List.map_nil, List.map_cons, ownIx, and_assoc, exists_and_left, exists_eq_left', exists_eq_left, Rt.v.injEq, Rt.o.injEq, List.cons.injEq, PyData.int.injEq, PyData.list.injEq, PyData.tuple.injEq, and_true, true_and, List.all_cons, List.all_nil, List.nodup_cons, List.nodup_nil, decide_true, decide_false, Bool.and_true, Bool.true_and, List.mem_cons, List.not_mem_nil, not_false_eq_true, Nat.sub_self, Nat.reduceSub, Nat.reduceAdd, if_true, if_false, Bool.false_eq_true, reduceCtorEq, false_and, and_false, or_false, false_or, and_self, Nat.zero_add, exists_eq', exists_eq, Sl.val.injEq, Sl.own.injEq, exists_const, tr_vnil, tr_vcons, tr_callX, pick_c, pick_n, List.getElem?_cons_zero, List.getElem?_cons_succ, Option.toList_some, tr_dict0, tr_dict1, ts_never, isi_tt, isi_ii, isi_bi, rev_t, rev_l, ts_dput, ts_update, getDc_o, asD_d, din_i, dnin_i, dget_i, key_i, Option.isSome_some, Option.isSome_none, prI, e, tup_last, hs, sset_m]
  exact ⟨fun _ _ => fdOk_s hz (by omega), lenOk_of (by omega), rfl⟩
theorem places_ok {bs : List (Int × Int)} {s : Nat → Int} {m j d : Nat} {N : Int} (h : BsOk bs) (hj : j ≤ m) (hz : 0 < s j) (hz2 : s j < 10000) (hN : N.natAbs < 2 ^ 60) (hd : d ≤ 10000) (hm : N * s m = s j * d) :
    f_places [tup (m + 1) s, .int N, .tuple (bs.map prI), .int (s j)] = .ok (.v (.tuple ((plc bs (s j) d).map PyData.int))) [] := by
  apply trF_eq
  unfold f_places m_places
  rw [trF_body]
  obtain ⟨tk, e1, ho⟩ := occupied_ok h
  simp only [tr_bnd, tr_lft, tr_con, tr_op2, tr_op2r, tr_op2b, tr_asB, tr_trB, tr_trBp, tr_and, tr_or, tr_not, tr_if, tr_andV, tr_orV, tr_notV, tr_neg, tr_chain, tr_nil, tr_cons, tr_tup, tr_lst, tr_pn, tr_ps, tr_sl, tr_c1, tr_c1p, tr_seqI, tr_rng1, tr_rng2, tr_rng3, tr_zip, tr_enum, tr_rtV, tr_rtO, tr_aNil, tr_aV, tr_call, tr_callT, ts_next, ts_break, ts_cont, ts_seq, ts_ret, ts_retO, ts_retN, ts_expr, ts_assign, as_name, as_nil, as_cons, as_tup, ts_own, ts_if, ts_for, ts_store, varK_v, varK_o, tr_yes, wipe_n, wipe_c, unw_n, unw_c, unw1_v, unw1_e, unw1_n, getQ_0, getQ_s, isOS_v, isOS_e, nl_i, nl_b, nl_n, nl_s, nl_t, eq_self, ts_par, pev_n, pev_v, pev_o, sets_n, sets_c, tr_bor, bor_c, bor_n, sok_e, sok_vv, sok_int, sok_ss, sok_o, rtd_v, rtd_o, rto_o, tu_var, tu_op2l, tu_slp, getO_o, getS_s, getX_v, tu_aL, tu_aS, tu_take, tu_aug, tu_append, tu_pop, tu_lenS, tu_ixS, outA, scrA, isOA, isSA, outS_o, scrS_s, isO_o, isS_s, lok_gen, lix_nil, lix_v, lix_l, lix_s, sok_nil, sok_v, sok_l, sok_s, at_0, at_1, getV_v, getV_o, getL_o, add_ii, sub_ii, mul_ii, mul_ti, mul_li, fdiv_ii, mod_ii, pow_ii, neg_i, cmp_ii, addI_ii, mulI_ii, eq_ii, ne_ii, eq_ss, ne_ss, asB_b, truth_b, truth_i, truth_l, truth_t, truth_n, asI_i, item_l, item_t, len_l, len_t, abs_i, int_i, int_b, tuple_l, tuple_t, list_l, list_t, max2_ii, min2_ii, seq_l, seq_t, slice_l, slice_t, rng1_i, rng2_i, zip_l, zip_t, zip_tl, zip_lt, enum_l, add_tt, add_ll, add_ss, repr_i, atI_0, atI_1, atI_2, ixN_0, ixN_1, ixN_2, ite_some, map_some, ex_and, ex_eq, bind_some, List.set_cons_zero, List.set_cons_succ, List.length_cons, List.length_nil, Option.some.injEq, decide_eq_true_eq, Bool.not_true, Bool.not_false, Bool.and_eq_true, Bool.or_eq_true, fillA, wbA, entry, entrySls, entrySl, List.replicate, List.cons_append, List.nil_append, trF_ok, List.append_nil, List.map_nil, List.map_cons, ownIx, and_assoc, exists_and_left, exists_eq_left', exists_eq_left, Rt.v.injEq, Rt.o.injEq, List.cons.injEq, PyData.int.injEq, PyData.list.injEq, PyData.tuple.injEq, and_true, true_and, List.all_cons, List.all_nil, List.nodup_cons, List.nodup_nil, decide_true, decide_false, Bool.and_true, Bool.true_and, List.mem_cons, List.not_mem_nil, not_false_eq_true, Nat.sub_self, Nat.reduceSub, Nat.reduceAdd, if_true, if_false, Bool.false_eq_true, reduceCtorEq, false_and, and_false, or_false, false_or, and_self, Nat.zero_add, exists_eq', exists_eq, Sl.val.injEq, Sl.own.injEq, exists_const, tr_vnil, tr_vcons, tr_callX, pick_c, pick_n, List.getElem?_cons_zero, List.getElem?_cons_succ, Option.toList_some, tr_dict0, tr_dict1, ts_never, isi_tt, isi_ii, isi_bi, rev_t, rev_l, ts_dput, ts_update, getDc_o, asD_d, din_i, dnin_i, dget_i, key_i, Option.isSome_some, Option.isSome_none, looks_ok hj (show 1 ≤ s j by omega), e1, tup_last, hm, rng3_mul hz (show s j < 100000 by omega) (show d ≤ 100000 by omega), rngC_map]
  refine ⟨lenOk_of (by decide), mulOk_l (by omega), ?_⟩
  refine ts_forM (fun i : Nat => PyData.int (0 + (i : Int) * s j)) (List.range d) rfl (fun i r => ∃ x, r = [.val (tup (m + 1) s), .val (.int N), .val (.tuple (bs.map prI)), .val (.int (s j)), .val (.dict tk), .own (.list ((plc bs (s j) i).map PyData.int)), x, .emp]) ⟨_, rfl⟩ (fun i k r hi h4 => ?_) (fun r h4 => ?_)
  · obtain ⟨x, rfl⟩ := h4
    obtain ⟨hk, hi⟩ := List.getElem?_eq_some_iff.mp hi
    have hk : i < d := by simpa using hk
    have hi : i = k := by simpa using hi
    subst hi
    simp only [tr_bnd, tr_lft, tr_con, tr_op2, tr_op2r, tr_op2b, tr_asB, tr_trB, tr_trBp, tr_and, tr_or, tr_not, tr_if, tr_andV, tr_orV, tr_notV, tr_neg, tr_chain, tr_nil, tr_cons, tr_tup, tr_lst, tr_pn, tr_ps, tr_sl, tr_c1, tr_c1p, tr_seqI, tr_rng1, tr_rng2, tr_rng3, tr_zip, tr_enum, tr_rtV, tr_rtO, tr_aNil, tr_aV, tr_call, tr_callT, ts_next, ts_break, ts_cont, ts_seq, ts_ret, ts_retO, ts_retN, ts_expr, ts_assign, as_name, as_nil, as_cons, as_tup, ts_own, ts_if, ts_for, ts_store, varK_v, varK_o, tr_yes, wipe_n, wipe_c, unw_n, unw_c, unw1_v, unw1_e, unw1_n, getQ_0, getQ_s, isOS_v, isOS_e, nl_i, nl_b, nl_n, nl_s, nl_t, eq_self, ts_par, pev_n, pev_v, pev_o, sets_n, sets_c, tr_bor, bor_c, bor_n, sok_e, sok_vv, sok_int, sok_ss, sok_o, rtd_v, rtd_o, rto_o, tu_var, tu_op2l, tu_slp, getO_o, getS_s, getX_v, tu_aL, tu_aS, tu_take, tu_aug, tu_append, tu_pop, tu_lenS, tu_ixS, outA, scrA, isOA, isSA, outS_o, scrS_s, isO_o, isS_s, lok_gen, lix_nil, lix_v, lix_l, lix_s, sok_nil, sok_v, sok_l, sok_s, at_0, at_1, getV_v, getV_o, getL_o, add_ii, sub_ii, mul_ii, mul_ti, mul_li, fdiv_ii, mod_ii, pow_ii, neg_i, cmp_ii, addI_ii, mulI_ii, eq_ii, ne_ii, eq_ss, ne_ss, asB_b, truth_b, truth_i, truth_l, truth_t, truth_n, asI_i, item_l, item_t, len_l, len_t, abs_i, int_i, int_b, tuple_l, tuple_t, list_l, list_t, max2_ii, min2_ii, seq_l, seq_t, slice_l, slice_t, rng1_i, rng2_i, zip_l, zip_t, zip_tl, zip_lt, enum_l, add_tt, add_ll, add_ss, repr_i, atI_0, atI_1, atI_2, ixN_0, ixN_1, ixN_2, ite_some, map_some, ex_and, ex_eq, bind_some, List.set_cons_zero, List.set_cons_succ, List.length_cons, List.length_nil, Option.some.injEq, decide_eq_true_eq, Bool.not_true, Bool.not_false, Bool.and_eq_true, Bool.or_eq_true, fillA, wbA, entry, entrySls, entrySl, List.replicate, List.cons_append, List.nil_append, trF_ok, List.append_nil, List.map_nil, List.map_cons, ownIx, and_assoc, exists_and_left, exists_eq_left', exists_eq_left, Rt.v.injEq, Rt.o.injEq, List.cons.injEq, PyData.int.injEq, PyData.list.injEq, PyData.tuple.injEq, and_true, true_and, List.all_cons, List.all_nil, List.nodup_cons, List.nodup_nil, decide_true, decide_false, Bool.and_true, Bool.true_and, List.mem_cons, List.not_mem_nil, not_false_eq_true, Nat.sub_self, Nat.reduceSub, Nat.reduceAdd, if_true, if_false, Bool.false_eq_true, reduceCtorEq, false_and, and_false, or_false, false_or, and_self, Nat.zero_add, exists_eq', exists_eq, Sl.val.injEq, Sl.own.injEq, exists_const, tr_vnil, tr_vcons, tr_callX, pick_c, pick_n, List.getElem?_cons_zero, List.getElem?_cons_succ, Option.toList_some, tr_dict0, tr_dict1, ts_never, isi_tt, isi_ii, isi_bi, rev_t, rev_l, ts_dput, ts_update, getDc_o, asD_d, din_i, dnin_i, dget_i, key_i, Option.isSome_some, Option.isSome_none]
    have hiz : (i : Int) * s j ≤ 10000 * 10000 := Int.mul_le_mul (by omega) (by omega) (by omega) (by omega)
    have hiz0 : 0 ≤ (i : Int) * s j := Int.mul_nonneg (by omega) (by omega)
    have en : (0 + (i : Int) * s j + s j - (0 + (i : Int) * s j)).toNat = (s j).toNat := by omega
    have hpl : (plc bs (s j) i).length ≤ i := by
      unfold plc
      rw [List.length_map]
      exact Nat.le_trans (List.length_filter_le _ _) (by simp)
    refine tr_lcA (fun k : Nat => PyData.int (0 + (i : Int) * s j + k)) (List.range (s j).toNat) (fun k => .bool (dGet tk (.int (0 + (i : Int) * s j + k))).isSome) ?_
    simp only [tr_bnd, tr_lft, tr_con, tr_op2, tr_op2r, tr_op2b, tr_asB, tr_trB, tr_trBp, tr_and, tr_or, tr_not, tr_if, tr_andV, tr_orV, tr_notV, tr_neg, tr_chain, tr_nil, tr_cons, tr_tup, tr_lst, tr_pn, tr_ps, tr_sl, tr_c1, tr_c1p, tr_seqI, tr_rng1, tr_rng2, tr_rng3, tr_zip, tr_enum, tr_rtV, tr_rtO, tr_aNil, tr_aV, tr_call, tr_callT, ts_next, ts_break, ts_cont, ts_seq, ts_ret, ts_retO, ts_retN, ts_expr, ts_assign, as_name, as_nil, as_cons, as_tup, ts_own, ts_if, ts_for, ts_store, varK_v, varK_o, tr_yes, wipe_n, wipe_c, unw_n, unw_c, unw1_v, unw1_e, unw1_n, getQ_0, getQ_s, isOS_v, isOS_e, nl_i, nl_b, nl_n, nl_s, nl_t, eq_self, ts_par, pev_n, pev_v, pev_o, sets_n, sets_c, tr_bor, bor_c, bor_n, sok_e, sok_vv, sok_int, sok_ss, sok_o, rtd_v, rtd_o, rto_o, tu_var, tu_op2l, tu_slp, getO_o, getS_s, getX_v, tu_aL, tu_aS, tu_take, tu_aug, tu_append, tu_pop, tu_lenS, tu_ixS, outA, scrA, isOA, isSA, outS_o, scrS_s, isO_o, isS_s, lok_gen, lix_nil, lix_v, lix_l, lix_s, sok_nil, sok_v, sok_l, sok_s, at_0, at_1, getV_v, getV_o, getL_o, add_ii, sub_ii, mul_ii, mul_ti, mul_li, fdiv_ii, mod_ii, pow_ii, neg_i, cmp_ii, addI_ii, mulI_ii, eq_ii, ne_ii, eq_ss, ne_ss, asB_b, truth_b, truth_i, truth_l, truth_t, truth_n, asI_i, item_l, item_t, len_l, len_t, abs_i, int_i, int_b, tuple_l, tuple_t, list_l, list_t, max2_ii, min2_ii, seq_l, seq_t, slice_l, slice_t, rng1_i, rng2_i, zip_l, zip_t, zip_tl, zip_lt, enum_l, add_tt, add_ll, add_ss, repr_i, atI_0, atI_1, atI_2, ixN_0, ixN_1, ixN_2, ite_some, map_some, ex_and, ex_eq, bind_some, List.set_cons_zero, List.set_cons_succ, List.length_cons, List.length_nil, Option.some.injEq, decide_eq_true_eq, Bool.not_true, Bool.not_false, Bool.and_eq_true, Bool.or_eq_true, fillA, wbA, entry, entrySls, entrySl, List.replicate, List.cons_append, List.nil_append, trF_ok, List.append_nil, List.map_nil, List.map_cons, ownIx, and_assoc, exists_and_left, exists_eq_left', exists_eq_left, Rt.v.injEq, Rt.o.injEq, List.cons.injEq, PyData.int.injEq, PyData.list.injEq, PyData.tuple.injEq, and_true, true_and, List.all_cons, List.all_nil, List.nodup_cons, List.nodup_nil, decide_true, decide_false, Bool.and_true, Bool.true_and, List.mem_cons, List.not_mem_nil, not_false_eq_true, Nat.sub_self, Nat.reduceSub, Nat.reduceAdd, if_true, if_false, Bool.false_eq_true, reduceCtorEq, false_and, and_false, or_false, false_or, and_self, Nat.zero_add, exists_eq', exists_eq, Sl.val.injEq, Sl.own.injEq, exists_const, tr_vnil, tr_vcons, tr_callX, pick_c, pick_n, List.getElem?_cons_zero, List.getElem?_cons_succ, Option.toList_some, tr_dict0, tr_dict1, ts_never, isi_tt, isi_ii, isi_bi, rev_t, rev_l, ts_dput, ts_update, getDc_o, asD_d, din_i, dnin_i, dget_i, key_i, Option.isSome_some, Option.isSome_none, rangeL_map, en, any_b]
    refine ⟨rOk_of (by omega) (by omega), rOk_of (by omega) (by omega), fun _ _ => trivial, lenOk_of (by simp; omega), ?_⟩
    have ep : plc bs (s j) (i + 1) = if fre bs (s j) i = true then plc bs (s j) i ++ [(i : Int) * s j] else plc bs (s j) i := by
      unfold plc
      rw [List.range_succ, List.filter_append, List.map_append]
      split
      · rename_i hf; simp [hf]
      · rename_i hf; simp [hf]
    have ef : fre bs (s j) i = !((List.range (s j).toNat).any fun k : Nat => (dGet tk (.int (0 + (i : Int) * s j + k))).isSome) := by
      unfold fre
      generalize List.range (s j).toNat = l
      induction l with
      | nil => rfl
      | cons k l ih =>
        rw [List.all_cons, List.any_cons, ih, ho, Int.zero_add]
        cases own bs ((i : Int) * s j + k) <;> simp
    rw [ep, ef]
    cases ((List.range (s j).toNat).any fun k : Nat => (dGet tk (.int (0 + (i : Int) * s j + k))).isSome)
    · simp only [Bool.not_false, if_true]
      refine ⟨lenOk_of (by rw [List.length_map]; omega), ?_⟩
      rw [Int.zero_add, List.map_append]; rfl
    · simp
  · obtain ⟨x, rfl⟩ := h4
    simp only [tr_bnd, tr_lft, tr_con, tr_op2, tr_op2r, tr_op2b, tr_asB, tr_trB, tr_trBp, tr_and, tr_or, tr_not, tr_if, tr_andV, tr_orV, tr_notV, tr_neg, tr_chain, tr_nil, tr_cons, tr_tup, tr_lst, tr_pn, tr_ps, tr_sl, tr_c1, tr_c1p, tr_seqI, tr_rng1, tr_rng2, tr_rng3, tr_zip, tr_enum, tr_rtV, tr_rtO, tr_aNil, tr_aV, tr_call, tr_callT, ts_next, ts_break, ts_cont, ts_seq, ts_ret, ts_retO, ts_retN, ts_expr, ts_assign, as_name, as_nil, as_cons, as_tup, ts_own, ts_if, ts_for, ts_store, varK_v, varK_o, tr_yes, wipe_n, wipe_c, unw_n, unw_c, unw1_v, unw1_e, unw1_n, getQ_0, getQ_s, isOS_v, isOS_e, nl_i, nl_b, nl_n, nl_s, nl_t, eq_self, ts_par, pev_n, pev_v, pev_o, sets_n, sets_c, tr_bor, bor_c, bor_n, sok_e, sok_vv, sok_int, sok_ss, sok_o, rtd_v, rtd_o, rto_o, tu_var, tu_op2l, tu_slp, getO_o, getS_s, getX_v, tu_aL, tu_aS, tu_take, tu_aug, tu_append, tu_pop, tu_lenS, tu_ixS, outA, scrA, isOA, isSA, outS_o, scrS_s, isO_o, isS_s, lok_gen, lix_nil, lix_v, lix_l, lix_s, sok_nil, sok_v, sok_l, sok_s, at_0, at_1, getV_v, getV_o, getL_o, add_ii, sub_ii, mul_ii, mul_ti, mul_li, fdiv_ii, mod_ii, pow_ii, neg_i, cmp_ii, addI_ii, mulI_ii, eq_ii, ne_ii, eq_ss, ne_ss, asB_b, truth_b, truth_i, truth_l, truth_t, truth_n, asI_i, item_l, item_t, len_l, len_t, abs_i, int_i, int_b, tuple_l, tuple_t, list_l, list_t, max2_ii, min2_ii, seq_l, seq_t, slice_l, slice_t, rng1_i, rng2_i, zip_l, zip_t, zip_tl, zip_lt, enum_l, add_tt, add_ll, add_ss, repr_i, atI_0, atI_1, atI_2, ixN_0, ixN_1, ixN_2, ite_some, map_some, ex_and, ex_eq, bind_some, List.set_cons_zero, List.set_cons_succ, List.length_cons, List.length_nil, Option.some.injEq, decide_eq_true_eq, Bool.not_true, Bool.not_false, Bool.and_eq_true, Bool.or_eq_true, fillA, wbA, entry, entrySls, entrySl, List.replicate, List.cons_append, List.nil_append, trF_ok, List.append_nil, List.map_nil, List.map_cons, ownIx, and_assoc, exists_and_left, exists_eq_left', exists_eq_left, Rt.v.injEq, Rt.o.injEq, List.cons.injEq, PyData.int.injEq, PyData.list.injEq, PyData.tuple.injEq, and_true, true_and, List.all_cons, List.all_nil, List.nodup_cons, List.nodup_nil, decide_true, decide_false, Bool.and_true, Bool.true_and, List.mem_cons, List.not_mem_nil, not_false_eq_true, Nat.sub_self, Nat.reduceSub, Nat.reduceAdd, if_true, if_false, Bool.false_eq_true, reduceCtorEq, false_and, and_false, or_false, false_or, and_self, Nat.zero_add, exists_eq', exists_eq, Sl.val.injEq, Sl.own.injEq, exists_const, tr_vnil, tr_vcons, tr_callX, pick_c, pick_n, List.getElem?_cons_zero, List.getElem?_cons_succ, Option.toList_some, tr_dict0, tr_dict1, ts_never, isi_tt, isi_ii, isi_bi, rev_t, rev_l, ts_dput, ts_update, getDc_o, asD_d, din_i, dnin_i, dget_i, key_i, Option.isSome_some, Option.isSome_none, List.length_range]
theorem rng3_gen {lo hi z : Int} (hz : 0 < z) (hz2 : z < 100000) (h0 : 0 ≤ lo) (h1 : lo < hi) (h2 : hi ≤ 100000000) : ∃ n : Nat, rng3? (.int lo) (.int hi) (.int z) = some (rangeC lo z n) ∧ lo + ((n : Int) - 1) * z < hi ∧ hi ≤ lo + n * z ∧ 1 ≤ n := by
  have e : Builtin.Range.rangeSize lo hi z = (hi - lo - 1) / z + 1 := by
    unfold Builtin.Range.rangeSize
    rw [if_pos (by omega), if_pos h1]
  have q0 : 0 ≤ (hi - lo - 1) / z := Int.ediv_nonneg (by omega) (by omega)
  have q1 := Int.mul_ediv_add_emod (hi - lo - 1) z
  have q2 := Int.emod_nonneg (hi - lo - 1) (Int.ne_of_gt hz)
  have q3 := Int.emod_lt_of_pos (hi - lo - 1) hz
  have q4 := Int.ediv_le_self z (show 0 ≤ hi - lo - 1 by omega)
  generalize (hi - lo - 1) % z = r at *
  generalize (hi - lo - 1) / z = q at *
  have hqz : z * q = q * z := Int.mul_comm _ _
  have hs : Builtin.Range.small lo hi z = true := by
    unfold Builtin.Range.small
    rw [e]
    simp only [Builtin.Range.rangeFitsLong, Bool.and_eq_true, Bool.or_eq_true, decide_eq_true_eq, beq_iff_eq]
    refine ⟨⟨⟨⟨⟨by omega, by omega⟩, by omega, by omega⟩, by omega, by omega⟩, by omega, by omega⟩, .inr ?_⟩
    rw [if_pos hz]
    simp only [Bool.and_eq_true, decide_eq_true_eq]
    omega
  refine ⟨(q + 1).toNat, ?_, ?_, ?_, by omega⟩
  · unfold rng3?
    simp only [e, hs]
    rw [if_pos (by simp; omega)]
  · rw [Int.toNat_of_nonneg (by omega)]
    have : (q + 1 - 1) * z = q * z := by rw [Int.add_sub_cancel]
    omega
  · rw [Int.toNat_of_nonneg (by omega), Int.add_mul]
    omega
theorem keepers_ok {bs : List (Int × Int)} {s : Nat → Int} {m j d : Nat} (hb : bs.length ≤ 300) (hbs : ∀ b ∈ bs, 0 ≤ b.1 ∧ 0 < b.2 ∧ b.1 + b.2 ≤ d * s j) (hj : j ≤ m) (hz : 0 < s j) (hz2 : s j < 10000) (hd : d * s j ≤ 10000) (hf : (kps bs (s j) d).length < 63) :
    f_keepers [tup (m + 1) s, .tuple (bs.map prI), .int (s j)] = .ok (.v (.tuple ((kps bs (s j) d).map prI))) [] := by
  apply trF_eq
  unfold f_keepers m_keepers
  rw [trF_body]
  simp only [tr_bnd, tr_lft, tr_con, tr_op2, tr_op2r, tr_op2b, tr_asB, tr_trB, tr_trBp, tr_and, tr_or, tr_not, tr_if, tr_andV, tr_orV, tr_notV, tr_neg, tr_chain, tr_nil, tr_cons, tr_tup, tr_lst, tr_pn, tr_ps, tr_sl, tr_c1, tr_c1p, tr_seqI, tr_rng1, tr_rng2, tr_rng3, tr_zip, tr_enum, tr_rtV, tr_rtO, tr_aNil, tr_aV, tr_call, tr_callT, ts_next, ts_break, ts_cont, ts_seq, ts_ret, ts_retO, ts_retN, ts_expr, ts_assign, as_name, as_nil, as_cons, as_tup, ts_own, ts_if, ts_for, ts_store, varK_v, varK_o, tr_yes, wipe_n, wipe_c, unw_n, unw_c, unw1_v, unw1_e, unw1_n, getQ_0, getQ_s, isOS_v, isOS_e, nl_i, nl_b, nl_n, nl_s, nl_t, eq_self, ts_par, pev_n, pev_v, pev_o, sets_n, sets_c, tr_bor, bor_c, bor_n, sok_e, sok_vv, sok_int, sok_ss, sok_o, rtd_v, rtd_o, rto_o, tu_var, tu_op2l, tu_slp, getO_o, getS_s, getX_v, tu_aL, tu_aS, tu_take, tu_aug, tu_append, tu_pop, tu_lenS, tu_ixS, outA, scrA, isOA, isSA, outS_o, scrS_s, isO_o, isS_s, lok_gen, lix_nil, lix_v, lix_l, lix_s, sok_nil, sok_v, sok_l, sok_s, at_0, at_1, getV_v, getV_o, getL_o, add_ii, sub_ii, mul_ii, mul_ti, mul_li, fdiv_ii, mod_ii, pow_ii, neg_i, cmp_ii, addI_ii, mulI_ii, eq_ii, ne_ii, eq_ss, ne_ss, asB_b, truth_b, truth_i, truth_l, truth_t, truth_n, asI_i, item_l, item_t, len_l, len_t, abs_i, int_i, int_b, tuple_l, tuple_t, list_l, list_t, max2_ii, min2_ii, seq_l, seq_t, slice_l, slice_t, rng1_i, rng2_i, zip_l, zip_t, zip_tl, zip_lt, enum_l, add_tt, add_ll, add_ss, repr_i, atI_0, atI_1, atI_2, ixN_0, ixN_1, ixN_2, ite_some, map_some, ex_and, ex_eq, bind_some, List.set_cons_zero, List.set_cons_succ, List.length_cons, List.length_nil, Option.some.injEq, decide_eq_true_eq, Bool.not_true, Bool.not_false, Bool.and_eq_true, Bool.or_eq_true, fillA, wbA, entry, entrySls, entrySl, List.replicate, List.cons_append, List.nil_append, trF_ok, List.append_nil, List.map_nil, List.map_cons, ownIx, and_assoc, exists_and_left, exists_eq_left', exists_eq_left, Rt.v.injEq, Rt.o.injEq, List.cons.injEq, PyData.int.injEq, PyData.list.injEq, PyData.tuple.injEq, and_true, true_and, List.all_cons, List.all_nil, List.nodup_cons, List.nodup_nil, decide_true, decide_false, Bool.and_true, Bool.true_and, List.mem_cons, List.not_mem_nil, not_false_eq_true, Nat.sub_self, Nat.reduceSub, Nat.reduceAdd, if_true, if_false, Bool.false_eq_true, reduceCtorEq, false_and, and_false, or_false, false_or, and_self, Nat.zero_add, exists_eq', exists_eq, Sl.val.injEq, Sl.own.injEq, exists_const, tr_vnil, tr_vcons, tr_callX, pick_c, pick_n, List.getElem?_cons_zero, List.getElem?_cons_succ, Option.toList_some, tr_dict0, tr_dict1, ts_never, isi_tt, isi_ii, isi_bi, rev_t, rev_l, ts_dput, ts_update, getDc_o, asD_d, din_i, dnin_i, dget_i, key_i, Option.isSome_some, Option.isSome_none, looks_ok hj (show 1 ≤ s j by omega)]
  refine ts_forM prI bs rfl (fun i r => ∃ tk x y t, Good tk ∧ (∀ w, dGet tk (.int w) = (kd (bs.take i) (s j) w).map prI) ∧ tk.length ≤ i * 10000 ∧ r = [.val (tup (m + 1) s), .val (.tuple (bs.map prI)), .val (.int (s j)), .own (.dict tk), x, y, t]) ⟨[], _, _, _, good_nil, fun w => by simp [dGet_nil, kd], by simp, rfl⟩ (fun i b r hi h4 => ?_) (fun r h4 => ?_)
  · obtain ⟨tk, x, y, t, hg, hk, hl, rfl⟩ := h4
    have hil : i < bs.length := (List.getElem?_eq_some_iff.mp hi).1
    obtain ⟨b0, b1, b2⟩ := hbs b (List.mem_of_getElem? hi)
    have ep : prI b = .tuple [.int b.1, .int b.2] := rfl
    have q0 : 0 ≤ b.1 / s j := Int.ediv_nonneg b0 (by omega)
    have q1 : 0 ≤ b.1 / s j * s j := Int.mul_nonneg q0 (by omega)
    have q2 : b.1 / s j * s j ≤ b.1 := Int.ediv_mul_le _ (by omega)
    have q3 : b.1 / s j ≤ b.1 := Int.ediv_le_self _ b0
    obtain ⟨n, er, r1, r2, r3⟩ := rng3_gen (lo := b.1 / s j * s j) (hi := b.1 + b.2) hz (by omega) q1 (by omega) (by omega)
    simp only [tr_bnd, tr_lft, tr_con, tr_op2, tr_op2r, tr_op2b, tr_asB, tr_trB, tr_trBp, tr_and, tr_or, tr_not, tr_if, tr_andV, tr_orV, tr_notV, tr_neg, tr_chain, tr_nil, tr_cons, tr_tup, tr_lst, tr_pn, tr_ps, tr_sl, tr_c1, tr_c1p, tr_seqI, tr_rng1, tr_rng2, tr_rng3, tr_zip, tr_enum, tr_rtV, tr_rtO, tr_aNil, tr_aV, tr_call, tr_callT, ts_next, ts_break, ts_cont, ts_seq, ts_ret, ts_retO, ts_retN, ts_expr, ts_assign, as_name, as_nil, as_cons, as_tup, ts_own, ts_if, ts_for, ts_store, varK_v, varK_o, tr_yes, wipe_n, wipe_c, unw_n, unw_c, unw1_v, unw1_e, unw1_n, getQ_0, getQ_s, isOS_v, isOS_e, nl_i, nl_b, nl_n, nl_s, nl_t, eq_self, ts_par, pev_n, pev_v, pev_o, sets_n, sets_c, tr_bor, bor_c, bor_n, sok_e, sok_vv, sok_int, sok_ss, sok_o, rtd_v, rtd_o, rto_o, tu_var, tu_op2l, tu_slp, getO_o, getS_s, getX_v, tu_aL, tu_aS, tu_take, tu_aug, tu_append, tu_pop, tu_lenS, tu_ixS, outA, scrA, isOA, isSA, outS_o, scrS_s, isO_o, isS_s, lok_gen, lix_nil, lix_v, lix_l, lix_s, sok_nil, sok_v, sok_l, sok_s, at_0, at_1, getV_v, getV_o, getL_o, add_ii, sub_ii, mul_ii, mul_ti, mul_li, fdiv_ii, mod_ii, pow_ii, neg_i, cmp_ii, addI_ii, mulI_ii, eq_ii, ne_ii, eq_ss, ne_ss, asB_b, truth_b, truth_i, truth_l, truth_t, truth_n, asI_i, item_l, item_t, len_l, len_t, abs_i, int_i, int_b, tuple_l, tuple_t, list_l, list_t, max2_ii, min2_ii, seq_l, seq_t, slice_l, slice_t, rng1_i, rng2_i, zip_l, zip_t, zip_tl, zip_lt, enum_l, add_tt, add_ll, add_ss, repr_i, atI_0, atI_1, atI_2, ixN_0, ixN_1, ixN_2, ite_some, map_some, ex_and, ex_eq, bind_some, List.set_cons_zero, List.set_cons_succ, List.length_cons, List.length_nil, Option.some.injEq, decide_eq_true_eq, Bool.not_true, Bool.not_false, Bool.and_eq_true, Bool.or_eq_true, fillA, wbA, entry, entrySls, entrySl, List.replicate, List.cons_append, List.nil_append, trF_ok, List.append_nil, List.map_nil, List.map_cons, ownIx, and_assoc, exists_and_left, exists_eq_left', exists_eq_left, Rt.v.injEq, Rt.o.injEq, List.cons.injEq, PyData.int.injEq, PyData.list.injEq, PyData.tuple.injEq, and_true, true_and, List.all_cons, List.all_nil, List.nodup_cons, List.nodup_nil, decide_true, decide_false, Bool.and_true, Bool.true_and, List.mem_cons, List.not_mem_nil, not_false_eq_true, Nat.sub_self, Nat.reduceSub, Nat.reduceAdd, if_true, if_false, Bool.false_eq_true, reduceCtorEq, false_and, and_false, or_false, false_or, and_self, Nat.zero_add, exists_eq', exists_eq, Sl.val.injEq, Sl.own.injEq, exists_const, tr_vnil, tr_vcons, tr_callX, pick_c, pick_n, List.getElem?_cons_zero, List.getElem?_cons_succ, Option.toList_some, tr_dict0, tr_dict1, ts_never, isi_tt, isi_ii, isi_bi, rev_t, rev_l, ts_dput, ts_update, getDc_o, asD_d, din_i, dnin_i, dget_i, key_i, Option.isSome_some, Option.isSome_none, ep, er]
    refine ⟨fdOk_s hz (by omega), mulOk_l (by omega), ?_⟩
    refine ts_forM (fun i : Nat => PyData.int (b.1 / s j * s j + (i : Int) * s j)) (List.range n) rfl (fun k r => ∃ tk' t, Good tk' ∧ (∀ w, dGet tk' (.int w) = (if kCov (s j) b w ∧ w < b.1 / s j * s j + k * s j then kStep (s j) w (kd (bs.take i) (s j) w) b else kd (bs.take i) (s j) w).map prI) ∧ tk'.length ≤ tk.length + k ∧ r = [.val (tup (m + 1) s), .val (.tuple (bs.map prI)), .val (.int (s j)), .own (.dict tk'), .val (.int b.1), .val (.int b.2), t]) ⟨tk, _, hg, fun w => ?_, by omega, rfl⟩ (fun k k' r hk' h6 => ?_) (fun r h6 => ?_)
    · rw [if_neg (fun h => by have h1 := h.1.1; have h2 := h.2; omega), hk]
    · obtain ⟨tk', t, g1, g2, g3, rfl⟩ := h6
      obtain ⟨hkn, hk'⟩ := List.getElem?_eq_some_iff.mp hk'
      have hkn : k < n := by simpa using hkn
      have hk' : k = k' := by simpa using hk'
      subst hk'
      have hkz : (k : Int) * s j ≤ ((n : Int) - 1) * s j := Int.mul_le_mul_of_nonneg_right (by omega) (by omega)
      have hkz0 : 0 ≤ (k : Int) * s j := Int.mul_nonneg (by omega) (by omega)
      have hk1 : ((k + 1 : Nat) : Int) * s j = k * s j + s j := by rw [Int.natCast_add, Int.add_mul]; simp
      have hcov : kCov (s j) b (b.1 / s j * s j + k * s j) := ⟨by omega, by omega, by rw [← Int.add_mul]; exact Int.mul_emod_left _ _⟩
      have hc : ∀ w, w ≠ b.1 / s j * s j + k * s j → ((kCov (s j) b w ∧ w < b.1 / s j * s j + (k + 1 : Nat) * s j) ↔ (kCov (s j) b w ∧ w < b.1 / s j * s j + k * s j)) := fun w hw => by
        constructor
        · rintro ⟨h7, h8⟩
          refine ⟨h7, ?_⟩
          apply Int.not_le.mp
          intro h9
          apply hw
          have e1 : w / s j * s j = w := Int.ediv_mul_cancel (Int.dvd_of_emod_eq_zero h7.2.2)
          have e2 : b.1 / s j * s j + k * s j = (b.1 / s j + k) * s j := by rw [Int.add_mul]
          have h10 : (b.1 / s j + k) * s j ≤ w / s j * s j := by omega
          have h11 : w / s j * s j < (b.1 / s j + k + 1) * s j := by rw [e1, Int.add_mul (b.1 / s j + k)]; omega
          have h12 := Int.le_of_mul_le_mul_right h10 hz
          have h13 := Int.lt_of_mul_lt_mul_right h11 (by omega)
          have : w / s j = b.1 / s j + k := by omega
          rw [← e1, this, e2]
        · rintro ⟨h7, h8⟩; exact ⟨h7, by omega⟩
      have hG0 := g2 (b.1 / s j * s j + k * s j)
      rw [if_neg (fun h => by have := h.2; omega)] at hG0
      have nw : ∀ v w, dGet (dPut tk' (.int (b.1 / s j * s j + k * s j)) v) (.int w) = if w = b.1 / s j * s j + k * s j then some v else dGet tk' (.int w) := fun v w => dGet_put
      have fin : ∀ w, w ≠ b.1 / s j * s j + k * s j → dGet tk' (.int w) = (if kCov (s j) b w ∧ w < b.1 / s j * s j + (k + 1 : Nat) * s j then kStep (s j) w (kd (bs.take i) (s j) w) b else kd (bs.take i) (s j) w).map prI := fun w hw => by
        rw [g2]
        simp only [hc w hw]
      have here : ∀ o, kd (bs.take i) (s j) (b.1 / s j * s j + k * s j) = o → (if kCov (s j) b (b.1 / s j * s j + k * s j) ∧ (b.1 / s j * s j + k * s j) < b.1 / s j * s j + (k + 1 : Nat) * s j then kStep (s j) (b.1 / s j * s j + k * s j) (kd (bs.take i) (s j) (b.1 / s j * s j + k * s j)) b else kd (bs.take i) (s j) (b.1 / s j * s j + k * s j)) = (match o with
          | none => some b
          | some c => if b.2 < c.2 then some b else some c) := fun o e => by
        rw [if_pos ⟨hcov, by omega⟩, e]
        unfold kStep
        rw [if_pos hcov]
        all_goals (cases o <;> rfl)
      have hpl := dPut_len (ds := tk') (k := .int (b.1 / s j * s j + k * s j)) (v := .tuple [.int b.1, .int b.2])
      have hnb : (n : Int) ≤ 10000 := by
        have := Int.mul_le_mul_of_nonneg_left (a := 1) (b := s j) (c := (n : Int) - 1) (by omega) (by omega)
        omega
      have put : ∃ tk2, Good tk2 ∧ (∀ w, dGet tk2 (.int w) = if w = b.1 / s j * s j + k * s j then some (.tuple [.int b.1, .int b.2]) else dGet tk' (.int w)) ∧ tk2.length ≤ tk'.length + 1 ∧ dPut tk' (.int (b.1 / s j * s j + k * s j)) (.tuple [.int b.1, .int b.2]) = tk2 := ⟨_, good_put g1, nw _, hpl, rfl⟩
      obtain ⟨tk2, u1, u2, u3, u4⟩ := put
      have setd : (∀ c, kd (bs.take i) (s j) (b.1 / s j * s j + k * s j) = some c → b.2 < c.2) → ∀ w, dGet tk2 (.int w) = (if kCov (s j) b w ∧ w < b.1 / s j * s j + (k + 1 : Nat) * s j then kStep (s j) w (kd (bs.take i) (s j) w) b else kd (bs.take i) (s j) w).map prI := fun hlt w => by
        rw [u2]
        by_cases hw : w = b.1 / s j * s j + k * s j
        · rw [if_pos hw, hw, here _ rfl]
          cases e : kd (bs.take i) (s j) (b.1 / s j * s j + k * s j) with
          | none => rfl
          | some c => dsimp only; rw [if_pos (hlt c e)]; rfl
        · rw [if_neg hw, fin w hw]
      cases e : kd (bs.take i) (s j) (b.1 / s j * s j + k * s j) with
      | none =>
        rw [e] at hG0
        simp only [Option.map_none] at hG0
        simp only [tr_bnd, tr_lft, tr_con, tr_op2, tr_op2r, tr_op2b, tr_asB, tr_trB, tr_trBp, tr_and, tr_or, tr_not, tr_if, tr_andV, tr_orV, tr_notV, tr_neg, tr_chain, tr_nil, tr_cons, tr_tup, tr_lst, tr_pn, tr_ps, tr_sl, tr_c1, tr_c1p, tr_seqI, tr_rng1, tr_rng2, tr_rng3, tr_zip, tr_enum, tr_rtV, tr_rtO, tr_aNil, tr_aV, tr_call, tr_callT, ts_next, ts_break, ts_cont, ts_seq, ts_ret, ts_retO, ts_retN, ts_expr, ts_assign, as_name, as_nil, as_cons, as_tup, ts_own, ts_if, ts_for, ts_store, varK_v, varK_o, tr_yes, wipe_n, wipe_c, unw_n, unw_c, unw1_v, unw1_e, unw1_n, getQ_0, getQ_s, isOS_v, isOS_e, nl_i, nl_b, nl_n, nl_s, nl_t, eq_self, ts_par, pev_n, pev_v, pev_o, sets_n, sets_c, tr_bor, bor_c, bor_n, sok_e, sok_vv, sok_int, sok_ss, sok_o, rtd_v, rtd_o, rto_o, tu_var, tu_op2l, tu_slp, getO_o, getS_s, getX_v, tu_aL, tu_aS, tu_take, tu_aug, tu_append, tu_pop, tu_lenS, tu_ixS, outA, scrA, isOA, isSA, outS_o, scrS_s, isO_o, isS_s, lok_gen, lix_nil, lix_v, lix_l, lix_s, sok_nil, sok_v, sok_l, sok_s, at_0, at_1, getV_v, getV_o, getL_o, add_ii, sub_ii, mul_ii, mul_ti, mul_li, fdiv_ii, mod_ii, pow_ii, neg_i, cmp_ii, addI_ii, mulI_ii, eq_ii, ne_ii, eq_ss, ne_ss, asB_b, truth_b, truth_i, truth_l, truth_t, truth_n, asI_i, item_l, item_t, len_l, len_t, abs_i, int_i, int_b, tuple_l, tuple_t, list_l, list_t, max2_ii, min2_ii, seq_l, seq_t, slice_l, slice_t, rng1_i, rng2_i, zip_l, zip_t, zip_tl, zip_lt, enum_l, add_tt, add_ll, add_ss, repr_i, atI_0, atI_1, atI_2, ixN_0, ixN_1, ixN_2, ite_some, map_some, ex_and, ex_eq, bind_some, List.set_cons_zero, List.set_cons_succ, List.length_cons, List.length_nil, Option.some.injEq, decide_eq_true_eq, Bool.not_true, Bool.not_false, Bool.and_eq_true, Bool.or_eq_true, fillA, wbA, entry, entrySls, entrySl, List.replicate, List.cons_append, List.nil_append, trF_ok, List.append_nil, List.map_nil, List.map_cons, ownIx, and_assoc, exists_and_left, exists_eq_left', exists_eq_left, Rt.v.injEq, Rt.o.injEq, List.cons.injEq, PyData.int.injEq, PyData.list.injEq, PyData.tuple.injEq, and_true, true_and, List.all_cons, List.all_nil, List.nodup_cons, List.nodup_nil, decide_true, decide_false, Bool.and_true, Bool.true_and, List.mem_cons, List.not_mem_nil, not_false_eq_true, Nat.sub_self, Nat.reduceSub, Nat.reduceAdd, if_true, if_false, Bool.false_eq_true, reduceCtorEq, false_and, and_false, or_false, false_or, and_self, Nat.zero_add, exists_eq', exists_eq, Sl.val.injEq, Sl.own.injEq, exists_const, tr_vnil, tr_vcons, tr_callX, pick_c, pick_n, List.getElem?_cons_zero, List.getElem?_cons_succ, Option.toList_some, tr_dict0, tr_dict1, ts_never, isi_tt, isi_ii, isi_bi, rev_t, rev_l, ts_dput, ts_update, getDc_o, asD_d, din_i, dnin_i, dget_i, key_i, Option.isSome_some, Option.isSome_none, hG0, u4]
        refine ⟨lenOk_of (by decide), lenOk_of (by omega), tk2, u1, setd (fun c h => by rw [e] at h; cases h), by omega, rfl⟩
      | some c =>
        rw [e] at hG0
        have hG1 : dGet tk' (.int (b.1 / s j * s j + k * s j)) = some (.tuple [.int c.1, .int c.2]) := hG0
        simp only [tr_bnd, tr_lft, tr_con, tr_op2, tr_op2r, tr_op2b, tr_asB, tr_trB, tr_trBp, tr_and, tr_or, tr_not, tr_if, tr_andV, tr_orV, tr_notV, tr_neg, tr_chain, tr_nil, tr_cons, tr_tup, tr_lst, tr_pn, tr_ps, tr_sl, tr_c1, tr_c1p, tr_seqI, tr_rng1, tr_rng2, tr_rng3, tr_zip, tr_enum, tr_rtV, tr_rtO, tr_aNil, tr_aV, tr_call, tr_callT, ts_next, ts_break, ts_cont, ts_seq, ts_ret, ts_retO, ts_retN, ts_expr, ts_assign, as_name, as_nil, as_cons, as_tup, ts_own, ts_if, ts_for, ts_store, varK_v, varK_o, tr_yes, wipe_n, wipe_c, unw_n, unw_c, unw1_v, unw1_e, unw1_n, getQ_0, getQ_s, isOS_v, isOS_e, nl_i, nl_b, nl_n, nl_s, nl_t, eq_self, ts_par, pev_n, pev_v, pev_o, sets_n, sets_c, tr_bor, bor_c, bor_n, sok_e, sok_vv, sok_int, sok_ss, sok_o, rtd_v, rtd_o, rto_o, tu_var, tu_op2l, tu_slp, getO_o, getS_s, getX_v, tu_aL, tu_aS, tu_take, tu_aug, tu_append, tu_pop, tu_lenS, tu_ixS, outA, scrA, isOA, isSA, outS_o, scrS_s, isO_o, isS_s, lok_gen, lix_nil, lix_v, lix_l, lix_s, sok_nil, sok_v, sok_l, sok_s, at_0, at_1, getV_v, getV_o, getL_o, add_ii, sub_ii, mul_ii, mul_ti, mul_li, fdiv_ii, mod_ii, pow_ii, neg_i, cmp_ii, addI_ii, mulI_ii, eq_ii, ne_ii, eq_ss, ne_ss, asB_b, truth_b, truth_i, truth_l, truth_t, truth_n, asI_i, item_l, item_t, len_l, len_t, abs_i, int_i, int_b, tuple_l, tuple_t, list_l, list_t, max2_ii, min2_ii, seq_l, seq_t, slice_l, slice_t, rng1_i, rng2_i, zip_l, zip_t, zip_tl, zip_lt, enum_l, add_tt, add_ll, add_ss, repr_i, atI_0, atI_1, atI_2, ixN_0, ixN_1, ixN_2, ite_some, map_some, ex_and, ex_eq, bind_some, List.set_cons_zero, List.set_cons_succ, List.length_cons, List.length_nil, Option.some.injEq, decide_eq_true_eq, Bool.not_true, Bool.not_false, Bool.and_eq_true, Bool.or_eq_true, fillA, wbA, entry, entrySls, entrySl, List.replicate, List.cons_append, List.nil_append, trF_ok, List.append_nil, List.map_nil, List.map_cons, ownIx, and_assoc, exists_and_left, exists_eq_left', exists_eq_left, Rt.v.injEq, Rt.o.injEq, List.cons.injEq, PyData.int.injEq, PyData.list.injEq, PyData.tuple.injEq, and_true, true_and, List.all_cons, List.all_nil, List.nodup_cons, List.nodup_nil, decide_true, decide_false, Bool.and_true, Bool.true_and, List.mem_cons, List.not_mem_nil, not_false_eq_true, Nat.sub_self, Nat.reduceSub, Nat.reduceAdd, if_true, if_false, Bool.false_eq_true, reduceCtorEq, false_and, and_false, or_false, false_or, and_self, Nat.zero_add, exists_eq', exists_eq, Sl.val.injEq, Sl.own.injEq, exists_const, tr_vnil, tr_vcons, tr_callX, pick_c, pick_n, List.getElem?_cons_zero, List.getElem?_cons_succ, Option.toList_some, tr_dict0, tr_dict1, ts_never, isi_tt, isi_ii, isi_bi, rev_t, rev_l, ts_dput, ts_update, getDc_o, asD_d, din_i, dnin_i, dget_i, key_i, Option.isSome_some, Option.isSome_none, hG1, u4]
        by_cases hlt : b.2 < c.2
        · rw [if_pos hlt]
          refine ⟨lenOk_of (by decide), lenOk_of (by omega), tk2, u1, setd (fun c' h => by rw [e] at h; cases h; exact hlt), by omega, rfl⟩
        · rw [if_neg hlt]
          refine ⟨tk', g1, fun w => ?_, by omega, rfl⟩
          by_cases hw : w = b.1 / s j * s j + k * s j
          · rw [hw, here _ e, hG1]
            dsimp only
            rw [if_neg hlt]
            rfl
          · exact fin w hw
    · obtain ⟨tk', t, g1, g2, g3, rfl⟩ := h6
      rw [List.length_range] at g2 g3
      have hnb : (n : Int) ≤ 10000 := by
        have := Int.mul_le_mul_of_nonneg_left (a := 1) (b := s j) (c := (n : Int) - 1) (by omega) (by omega)
        omega
      refine ⟨tk', g1, fun w => ?_, by rw [Nat.add_mul]; omega, _, _, _, rfl⟩
      have e : bs.take (i + 1) = bs.take i ++ [b] := by rw [List.take_succ, hi]; rfl
      rw [e, kd_snoc, g2]
      by_cases h7 : kCov (s j) b w
      · rw [if_pos ⟨h7, by have := h7.2.1; omega⟩]
      · rw [if_neg (fun h => h7 h.1)]
        unfold kStep
        rw [if_neg h7]
  · obtain ⟨tk, x, y, t, hg, hk, hl, rfl⟩ := h4
    rw [List.take_length] at hk
    obtain ⟨vs, ev, es⟩ := kps_of (z := s j) (d := d) hg hk hz (fun b hb => ⟨(hbs b hb).1, (hbs b hb).2.2⟩)
    have hn1 : (nub vs).length < 63 := by
      have := (psort_perm (nub vs)).length_eq
      rw [es] at this
      omega
    have hnn : ∀ p ∈ nub vs, 0 ≤ p.1 ∧ 0 ≤ p.2 := fun p hp => by
      have hp2 : p ∈ kps bs (s j) d := by rw [← es]; exact mem_ps.mpr (mem_nub.mp hp)
      have := hbs p (kps_sub hp2)
      omega
    simp only [tr_bnd, tr_lft, tr_con, tr_op2, tr_op2r, tr_op2b, tr_asB, tr_trB, tr_trBp, tr_and, tr_or, tr_not, tr_if, tr_andV, tr_orV, tr_notV, tr_neg, tr_chain, tr_nil, tr_cons, tr_tup, tr_lst, tr_pn, tr_ps, tr_sl, tr_c1, tr_c1p, tr_seqI, tr_rng1, tr_rng2, tr_rng3, tr_zip, tr_enum, tr_rtV, tr_rtO, tr_aNil, tr_aV, tr_call, tr_callT, ts_next, ts_break, ts_cont, ts_seq, ts_ret, ts_retO, ts_retN, ts_expr, ts_assign, as_name, as_nil, as_cons, as_tup, ts_own, ts_if, ts_for, ts_store, varK_v, varK_o, tr_yes, wipe_n, wipe_c, unw_n, unw_c, unw1_v, unw1_e, unw1_n, getQ_0, getQ_s, isOS_v, isOS_e, nl_i, nl_b, nl_n, nl_s, nl_t, eq_self, ts_par, pev_n, pev_v, pev_o, sets_n, sets_c, tr_bor, bor_c, bor_n, sok_e, sok_vv, sok_int, sok_ss, sok_o, rtd_v, rtd_o, rto_o, tu_var, tu_op2l, tu_slp, getO_o, getS_s, getX_v, tu_aL, tu_aS, tu_take, tu_aug, tu_append, tu_pop, tu_lenS, tu_ixS, outA, scrA, isOA, isSA, outS_o, scrS_s, isO_o, isS_s, lok_gen, lix_nil, lix_v, lix_l, lix_s, sok_nil, sok_v, sok_l, sok_s, at_0, at_1, getV_v, getV_o, getL_o, add_ii, sub_ii, mul_ii, mul_ti, mul_li, fdiv_ii, mod_ii, pow_ii, neg_i, cmp_ii, addI_ii, mulI_ii, eq_ii, ne_ii, eq_ss, ne_ss, asB_b, truth_b, truth_i, truth_l, truth_t, truth_n, asI_i, item_l, item_t, len_l, len_t, abs_i, int_i, int_b, tuple_l, tuple_t, list_l, list_t, max2_ii, min2_ii, seq_l, seq_t, slice_l, slice_t, rng1_i, rng2_i, zip_l, zip_t, zip_tl, zip_lt, enum_l, add_tt, add_ll, add_ss, repr_i, atI_0, atI_1, atI_2, ixN_0, ixN_1, ixN_2, ite_some, map_some, ex_and, ex_eq, bind_some, List.set_cons_zero, List.set_cons_succ, List.length_cons, List.length_nil, Option.some.injEq, decide_eq_true_eq, Bool.not_true, Bool.not_false, Bool.and_eq_true, Bool.or_eq_true, fillA, wbA, entry, entrySls, entrySl, List.replicate, List.cons_append, List.nil_append, trF_ok, List.append_nil, List.map_nil, List.map_cons, ownIx, and_assoc, exists_and_left, exists_eq_left', exists_eq_left, Rt.v.injEq, Rt.o.injEq, List.cons.injEq, PyData.int.injEq, PyData.list.injEq, PyData.tuple.injEq, and_true, true_and, List.all_cons, List.all_nil, List.nodup_cons, List.nodup_nil, decide_true, decide_false, Bool.and_true, Bool.true_and, List.mem_cons, List.not_mem_nil, not_false_eq_true, Nat.sub_self, Nat.reduceSub, Nat.reduceAdd, if_true, if_false, Bool.false_eq_true, reduceCtorEq, false_and, and_false, or_false, false_or, and_self, Nat.zero_add, exists_eq', exists_eq, Sl.val.injEq, Sl.own.injEq, exists_const, tr_vnil, tr_vcons, tr_callX, pick_c, pick_n, List.getElem?_cons_zero, List.getElem?_cons_succ, Option.toList_some, tr_dict0, tr_dict1, ts_never, isi_tt, isi_ii, isi_bi, rev_t, rev_l, ts_dput, ts_update, getDc_o, asD_d, din_i, dnin_i, dget_i, key_i, Option.isSome_some, Option.isSome_none, dvals_d, ev, setN_prs hn1, sset_prs hnn, es]
end Lk16

namespace Lk16
open PySem PySem.Spec L2 PL BT
def okB (s : Nat → Int) (m : Nat) (N : Int) (p : Int × Int) : Prop := 1 ≤ p.2 ∧ p.2 ∈ (List.range (m + 1)).map s ∧ 0 ≤ p.1 ∧ p.1 % p.2 = 0 ∧ p.1 + p.2 ≤ N * s m
instance (s : Nat → Int) (m : Nat) (N : Int) (p : Int × Int) : Decidable (okB s m N p) := by unfold okB; infer_instance
def blk? (s : Nat → Int) (m : Nat) (N : Int) : PyData → Option (Int × Int)
  | .tuple [.int a, .int z] => if okB s m N (a, z) then some (a, z) else none
  | _ => none
theorem blk_eq {s : Nat → Int} {m : Nat} {N : Int} {d : PyData} {p : Int × Int} (h : blk? s m N d = some p) : d = prI p ∧ okB s m N p := by
  unfold blk? at h
  split at h
  · split at h
    · rename_i h2
      cases h
      exact ⟨rfl, h2⟩
    · cases h
  · cases h
theorem blk_pr {s : Nat → Int} {m : Nat} {N : Int} {p : Int × Int} (h : okB s m N p) : blk? s m N (prI p) = some p := by
  unfold blk? prI
  exact if_pos h
section
variable {s : Nat → Int} {m : Nat} {N : Int}
theorem isblk {d : PyData} (hN : N.natAbs < 2 ^ 64) : f_is_block [tup (m + 1) s, .int N, d] = .ok (.v (.bool (blk? s m N d).isSome)) [] := by
  apply trF_eq
  unfold f_is_block m_is_block
  rw [trF_body]
  cases d <;> simp only [tr_bnd, tr_lft, tr_con, tr_op2, tr_op2r, tr_op2b, tr_asB, tr_trB, tr_trBp, tr_and, tr_or, tr_not, tr_if, tr_andV, tr_orV, tr_notV, tr_neg, tr_chain, tr_nil, tr_cons, tr_tup, tr_lst, tr_pn, tr_ps, tr_sl, tr_c1, tr_c1p, tr_seqI, tr_rng1, tr_rng2, tr_rng3, tr_zip, tr_enum, tr_rtV, tr_rtO, tr_aNil, tr_aV, tr_call, tr_callT, ts_next, ts_break, ts_cont, ts_seq, ts_ret, ts_retO, ts_retN, ts_expr, ts_assign, as_name, as_nil, as_cons, as_tup, ts_own, ts_if, ts_for, ts_store, varK_v, varK_o, tr_yes, wipe_n, wipe_c, unw_n, unw_c, unw1_v, unw1_e, unw1_n, getQ_0, getQ_s, isOS_v, isOS_e, nl_i, nl_b, nl_n, nl_s, nl_t, eq_self, ts_par, pev_n, pev_v, pev_o, sets_n, sets_c, tr_bor, bor_c, bor_n, sok_e, sok_vv, sok_int, sok_ss, sok_o, rtd_v, rtd_o, rto_o, tu_var, tu_op2l, tu_slp, getO_o, getS_s, getX_v, tu_aL, tu_aS, tu_take, tu_aug, tu_append, tu_pop, tu_lenS, tu_ixS, outA, scrA, isOA, isSA, outS_o, scrS_s, isO_o, isS_s, lok_gen, lix_nil, lix_v, lix_l, lix_s, sok_nil, sok_v, sok_l, sok_s, at_0, at_1, getV_v, getV_o, getL_o, add_ii, sub_ii, mul_ii, mul_ti, mul_li, fdiv_ii, mod_ii, pow_ii, neg_i, cmp_ii, addI_ii, mulI_ii, eq_ii, ne_ii, eq_ss, ne_ss, asB_b, truth_b, truth_i, truth_l, truth_t, truth_n, asI_i, item_l, item_t, len_l, len_t, abs_i, int_i, int_b, tuple_l, tuple_t, list_l, list_t, max2_ii, min2_ii, seq_l, seq_t, slice_l, slice_t, rng1_i, rng2_i, zip_l, zip_t, zip_tl, zip_lt, enum_l, add_tt, add_ll, add_ss, repr_i, atI_0, atI_1, atI_2, ixN_0, ixN_1, ixN_2, ite_some, map_some, ex_and, ex_eq, bind_some, List.set_cons_zero, List.set_cons_succ, List.length_cons, List.length_nil, Option.some.injEq, decide_eq_true_eq, Bool.not_true, Bool.not_false, Bool.and_eq_true, Bool.or_eq_true, fillA, wbA, entry, entrySls, entrySl, List.replicate, List.cons_append, List.nil_append, trF_ok, List.append_nil, List.map_nil, List.map_cons, ownIx, and_assoc, exists_and_left, exists_eq_left', exists_eq_left, Rt.v.injEq, Rt.o.injEq, List.cons.injEq, PyData.int.injEq, PyData.list.injEq, PyData.tuple.injEq, and_true, true_and, List.all_cons, List.all_nil, List.nodup_cons, List.nodup_nil, decide_true, decide_false, Bool.and_true, Bool.true_and, List.mem_cons, List.not_mem_nil, not_false_eq_true, Nat.sub_self, Nat.reduceSub, Nat.reduceAdd, if_true, if_false, Bool.false_eq_true, reduceCtorEq, false_and, and_false, or_false, false_or, and_self, Nat.zero_add, exists_eq', exists_eq, Sl.val.injEq, Sl.own.injEq, exists_const, tr_vnil, tr_vcons, tr_callX, pick_c, pick_n, List.getElem?_cons_zero, List.getElem?_cons_succ, Option.toList_some, tr_dict0, tr_dict1, ts_never, isi_tt, isi_ii, isi_bi, rev_t, rev_l, ts_dput, ts_update, getDc_o, asD_d, din_i, dnin_i, dget_i, key_i, Option.isSome_some, Option.isSome_none, isi?, tyName, isiB, blk?]
  all_goals first | (simp; done) | skip
  rename_i ds
  rw [show ("tuple" == "tuple" || "tuple" == "bool" && "tuple" == "int") = true from by decide]
  simp only [tr_bnd, tr_lft, tr_con, tr_op2, tr_op2r, tr_op2b, tr_asB, tr_trB, tr_trBp, tr_and, tr_or, tr_not, tr_if, tr_andV, tr_orV, tr_notV, tr_neg, tr_chain, tr_nil, tr_cons, tr_tup, tr_lst, tr_pn, tr_ps, tr_sl, tr_c1, tr_c1p, tr_seqI, tr_rng1, tr_rng2, tr_rng3, tr_zip, tr_enum, tr_rtV, tr_rtO, tr_aNil, tr_aV, tr_call, tr_callT, ts_next, ts_break, ts_cont, ts_seq, ts_ret, ts_retO, ts_retN, ts_expr, ts_assign, as_name, as_nil, as_cons, as_tup, ts_own, ts_if, ts_for, ts_store, varK_v, varK_o, tr_yes, wipe_n, wipe_c, unw_n, unw_c, unw1_v, unw1_e, unw1_n, getQ_0, getQ_s, isOS_v, isOS_e, nl_i, nl_b, nl_n, nl_s, nl_t, eq_self, ts_par, pev_n, pev_v, pev_o, sets_n, sets_c, tr_bor, bor_c, bor_n, sok_e, sok_vv, sok_int, sok_ss, sok_o, rtd_v, rtd_o, rto_o, tu_var, tu_op2l, tu_slp, getO_o, getS_s, getX_v, tu_aL, tu_aS, tu_take, tu_aug, tu_append, tu_pop, tu_lenS, tu_ixS, outA, scrA, isOA, isSA, outS_o, scrS_s, isO_o, isS_s, lok_gen, lix_nil, lix_v, lix_l, lix_s, sok_nil, sok_v, sok_l, sok_s, at_0, at_1, getV_v, getV_o, getL_o, add_ii, sub_ii, mul_ii, mul_ti, mul_li, fdiv_ii, mod_ii, pow_ii, neg_i, cmp_ii, addI_ii, mulI_ii, eq_ii, ne_ii, eq_ss, ne_ss, asB_b, truth_b, truth_i, truth_l, truth_t, truth_n, asI_i, item_l, item_t, len_l, len_t, abs_i, int_i, int_b, tuple_l, tuple_t, list_l, list_t, max2_ii, min2_ii, seq_l, seq_t, slice_l, slice_t, rng1_i, rng2_i, zip_l, zip_t, zip_tl, zip_lt, enum_l, add_tt, add_ll, add_ss, repr_i, atI_0, atI_1, atI_2, ixN_0, ixN_1, ixN_2, ite_some, map_some, ex_and, ex_eq, bind_some, List.set_cons_zero, List.set_cons_succ, List.length_cons, List.length_nil, Option.some.injEq, decide_eq_true_eq, Bool.not_true, Bool.not_false, Bool.and_eq_true, Bool.or_eq_true, fillA, wbA, entry, entrySls, entrySl, List.replicate, List.cons_append, List.nil_append, trF_ok, List.append_nil, List.map_nil, List.map_cons, ownIx, and_assoc, exists_and_left, exists_eq_left', exists_eq_left, Rt.v.injEq, Rt.o.injEq, List.cons.injEq, PyData.int.injEq, PyData.list.injEq, PyData.tuple.injEq, and_true, true_and, List.all_cons, List.all_nil, List.nodup_cons, List.nodup_nil, decide_true, decide_false, Bool.and_true, Bool.true_and, List.mem_cons, List.not_mem_nil, not_false_eq_true, Nat.sub_self, Nat.reduceSub, Nat.reduceAdd, if_true, if_false, Bool.false_eq_true, reduceCtorEq, false_and, and_false, or_false, false_or, and_self, Nat.zero_add, exists_eq', exists_eq, Sl.val.injEq, Sl.own.injEq, exists_const, tr_vnil, tr_vcons, tr_callX, pick_c, pick_n, List.getElem?_cons_zero, List.getElem?_cons_succ, Option.toList_some, tr_dict0, tr_dict1, ts_never, isi_tt, isi_ii, isi_bi, rev_t, rev_l, ts_dput, ts_update, getDc_o, asD_d, din_i, dnin_i, dget_i, key_i, Option.isSome_some, Option.isSome_none]
  match ds with
  | [] => simp
  | [a] => simp
  | a :: b :: c :: r => simp; omega
  | [a, z] =>
    simp only [tr_bnd, tr_lft, tr_con, tr_op2, tr_op2r, tr_op2b, tr_asB, tr_trB, tr_trBp, tr_and, tr_or, tr_not, tr_if, tr_andV, tr_orV, tr_notV, tr_neg, tr_chain, tr_nil, tr_cons, tr_tup, tr_lst, tr_pn, tr_ps, tr_sl, tr_c1, tr_c1p, tr_seqI, tr_rng1, tr_rng2, tr_rng3, tr_zip, tr_enum, tr_rtV, tr_rtO, tr_aNil, tr_aV, tr_call, tr_callT, ts_next, ts_break, ts_cont, ts_seq, ts_ret, ts_retO, ts_retN, ts_expr, ts_assign, as_name, as_nil, as_cons, as_tup, ts_own, ts_if, ts_for, ts_store, varK_v, varK_o, tr_yes, wipe_n, wipe_c, unw_n, unw_c, unw1_v, unw1_e, unw1_n, getQ_0, getQ_s, isOS_v, isOS_e, nl_i, nl_b, nl_n, nl_s, nl_t, eq_self, ts_par, pev_n, pev_v, pev_o, sets_n, sets_c, tr_bor, bor_c, bor_n, sok_e, sok_vv, sok_int, sok_ss, sok_o, rtd_v, rtd_o, rto_o, tu_var, tu_op2l, tu_slp, getO_o, getS_s, getX_v, tu_aL, tu_aS, tu_take, tu_aug, tu_append, tu_pop, tu_lenS, tu_ixS, outA, scrA, isOA, isSA, outS_o, scrS_s, isO_o, isS_s, lok_gen, lix_nil, lix_v, lix_l, lix_s, sok_nil, sok_v, sok_l, sok_s, at_0, at_1, getV_v, getV_o, getL_o, add_ii, sub_ii, mul_ii, mul_ti, mul_li, fdiv_ii, mod_ii, pow_ii, neg_i, cmp_ii, addI_ii, mulI_ii, eq_ii, ne_ii, eq_ss, ne_ss, asB_b, truth_b, truth_i, truth_l, truth_t, truth_n, asI_i, item_l, item_t, len_l, len_t, abs_i, int_i, int_b, tuple_l, tuple_t, list_l, list_t, max2_ii, min2_ii, seq_l, seq_t, slice_l, slice_t, rng1_i, rng2_i, zip_l, zip_t, zip_tl, zip_lt, enum_l, add_tt, add_ll, add_ss, repr_i, atI_0, atI_1, atI_2, ixN_0, ixN_1, ixN_2, ite_some, map_some, ex_and, ex_eq, bind_some, List.set_cons_zero, List.set_cons_succ, List.length_cons, List.length_nil, Option.some.injEq, decide_eq_true_eq, Bool.not_true, Bool.not_false, Bool.and_eq_true, Bool.or_eq_true, fillA, wbA, entry, entrySls, entrySl, List.replicate, List.cons_append, List.nil_append, trF_ok, List.append_nil, List.map_nil, List.map_cons, ownIx, and_assoc, exists_and_left, exists_eq_left', exists_eq_left, Rt.v.injEq, Rt.o.injEq, List.cons.injEq, PyData.int.injEq, PyData.list.injEq, PyData.tuple.injEq, and_true, true_and, List.all_cons, List.all_nil, List.nodup_cons, List.nodup_nil, decide_true, decide_false, Bool.and_true, Bool.true_and, List.mem_cons, List.not_mem_nil, not_false_eq_true, Nat.sub_self, Nat.reduceSub, Nat.reduceAdd, if_true, if_false, Bool.false_eq_true, reduceCtorEq, false_and, and_false, or_false, false_or, and_self, Nat.zero_add, exists_eq', exists_eq, Sl.val.injEq, Sl.own.injEq, exists_const, tr_vnil, tr_vcons, tr_callX, pick_c, pick_n, List.getElem?_cons_zero, List.getElem?_cons_succ, Option.toList_some, tr_dict0, tr_dict1, ts_never, isi_tt, isi_ii, isi_bi, rev_t, rev_l, ts_dput, ts_update, getDc_o, asD_d, din_i, dnin_i, dget_i, key_i, Option.isSome_some, Option.isSome_none, isint_n, List.length_cons, List.length_nil]
    cases z <;> simp only [tr_bnd, tr_lft, tr_con, tr_op2, tr_op2r, tr_op2b, tr_asB, tr_trB, tr_trBp, tr_and, tr_or, tr_not, tr_if, tr_andV, tr_orV, tr_notV, tr_neg, tr_chain, tr_nil, tr_cons, tr_tup, tr_lst, tr_pn, tr_ps, tr_sl, tr_c1, tr_c1p, tr_seqI, tr_rng1, tr_rng2, tr_rng3, tr_zip, tr_enum, tr_rtV, tr_rtO, tr_aNil, tr_aV, tr_call, tr_callT, ts_next, ts_break, ts_cont, ts_seq, ts_ret, ts_retO, ts_retN, ts_expr, ts_assign, as_name, as_nil, as_cons, as_tup, ts_own, ts_if, ts_for, ts_store, varK_v, varK_o, tr_yes, wipe_n, wipe_c, unw_n, unw_c, unw1_v, unw1_e, unw1_n, getQ_0, getQ_s, isOS_v, isOS_e, nl_i, nl_b, nl_n, nl_s, nl_t, eq_self, ts_par, pev_n, pev_v, pev_o, sets_n, sets_c, tr_bor, bor_c, bor_n, sok_e, sok_vv, sok_int, sok_ss, sok_o, rtd_v, rtd_o, rto_o, tu_var, tu_op2l, tu_slp, getO_o, getS_s, getX_v, tu_aL, tu_aS, tu_take, tu_aug, tu_append, tu_pop, tu_lenS, tu_ixS, outA, scrA, isOA, isSA, outS_o, scrS_s, isO_o, isS_s, lok_gen, lix_nil, lix_v, lix_l, lix_s, sok_nil, sok_v, sok_l, sok_s, at_0, at_1, getV_v, getV_o, getL_o, add_ii, sub_ii, mul_ii, mul_ti, mul_li, fdiv_ii, mod_ii, pow_ii, neg_i, cmp_ii, addI_ii, mulI_ii, eq_ii, ne_ii, eq_ss, ne_ss, asB_b, truth_b, truth_i, truth_l, truth_t, truth_n, asI_i, item_l, item_t, len_l, len_t, abs_i, int_i, int_b, tuple_l, tuple_t, list_l, list_t, max2_ii, min2_ii, seq_l, seq_t, slice_l, slice_t, rng1_i, rng2_i, zip_l, zip_t, zip_tl, zip_lt, enum_l, add_tt, add_ll, add_ss, repr_i, atI_0, atI_1, atI_2, ixN_0, ixN_1, ixN_2, ite_some, map_some, ex_and, ex_eq, bind_some, List.set_cons_zero, List.set_cons_succ, List.length_cons, List.length_nil, Option.some.injEq, decide_eq_true_eq, Bool.not_true, Bool.not_false, Bool.and_eq_true, Bool.or_eq_true, fillA, wbA, entry, entrySls, entrySl, List.replicate, List.cons_append, List.nil_append, trF_ok, List.append_nil, List.map_nil, List.map_cons, ownIx, and_assoc, exists_and_left, exists_eq_left', exists_eq_left, Rt.v.injEq, Rt.o.injEq, List.cons.injEq, PyData.int.injEq, PyData.list.injEq, PyData.tuple.injEq, and_true, true_and, List.all_cons, List.all_nil, List.nodup_cons, List.nodup_nil, decide_true, decide_false, Bool.and_true, Bool.true_and, List.mem_cons, List.not_mem_nil, not_false_eq_true, Nat.sub_self, Nat.reduceSub, Nat.reduceAdd, if_true, if_false, Bool.false_eq_true, reduceCtorEq, false_and, and_false, or_false, false_or, and_self, Nat.zero_add, exists_eq', exists_eq, Sl.val.injEq, Sl.own.injEq, exists_const, tr_vnil, tr_vcons, tr_callX, pick_c, pick_n, List.getElem?_cons_zero, List.getElem?_cons_succ, Option.toList_some, tr_dict0, tr_dict1, ts_never, isi_tt, isi_ii, isi_bi, rev_t, rev_l, ts_dput, ts_update, getDc_o, asD_d, din_i, dnin_i, dget_i, key_i, Option.isSome_some, Option.isSome_none, inB]
    all_goals first | (simp; done) | skip
    rename_i k
    by_cases hk : 1 ≤ k
    · simp only [tr_bnd, tr_lft, tr_con, tr_op2, tr_op2r, tr_op2b, tr_asB, tr_trB, tr_trBp, tr_and, tr_or, tr_not, tr_if, tr_andV, tr_orV, tr_notV, tr_neg, tr_chain, tr_nil, tr_cons, tr_tup, tr_lst, tr_pn, tr_ps, tr_sl, tr_c1, tr_c1p, tr_seqI, tr_rng1, tr_rng2, tr_rng3, tr_zip, tr_enum, tr_rtV, tr_rtO, tr_aNil, tr_aV, tr_call, tr_callT, ts_next, ts_break, ts_cont, ts_seq, ts_ret, ts_retO, ts_retN, ts_expr, ts_assign, as_name, as_nil, as_cons, as_tup, ts_own, ts_if, ts_for, ts_store, varK_v, varK_o, tr_yes, wipe_n, wipe_c, unw_n, unw_c, unw1_v, unw1_e, unw1_n, getQ_0, getQ_s, isOS_v, isOS_e, nl_i, nl_b, nl_n, nl_s, nl_t, eq_self, ts_par, pev_n, pev_v, pev_o, sets_n, sets_c, tr_bor, bor_c, bor_n, sok_e, sok_vv, sok_int, sok_ss, sok_o, rtd_v, rtd_o, rto_o, tu_var, tu_op2l, tu_slp, getO_o, getS_s, getX_v, tu_aL, tu_aS, tu_take, tu_aug, tu_append, tu_pop, tu_lenS, tu_ixS, outA, scrA, isOA, isSA, outS_o, scrS_s, isO_o, isS_s, lok_gen, lix_nil, lix_v, lix_l, lix_s, sok_nil, sok_v, sok_l, sok_s, at_0, at_1, getV_v, getV_o, getL_o, add_ii, sub_ii, mul_ii, mul_ti, mul_li, fdiv_ii, mod_ii, pow_ii, neg_i, cmp_ii, addI_ii, mulI_ii, eq_ii, ne_ii, eq_ss, ne_ss, asB_b, truth_b, truth_i, truth_l, truth_t, truth_n, asI_i, item_l, item_t, len_l, len_t, abs_i, int_i, int_b, tuple_l, tuple_t, list_l, list_t, max2_ii, min2_ii, seq_l, seq_t, slice_l, slice_t, rng1_i, rng2_i, zip_l, zip_t, zip_tl, zip_lt, enum_l, add_tt, add_ll, add_ss, repr_i, atI_0, atI_1, atI_2, ixN_0, ixN_1, ixN_2, ite_some, map_some, ex_and, ex_eq, bind_some, List.set_cons_zero, List.set_cons_succ, List.length_cons, List.length_nil, Option.some.injEq, decide_eq_true_eq, Bool.not_true, Bool.not_false, Bool.and_eq_true, Bool.or_eq_true, fillA, wbA, entry, entrySls, entrySl, List.replicate, List.cons_append, List.nil_append, trF_ok, List.append_nil, List.map_nil, List.map_cons, ownIx, and_assoc, exists_and_left, exists_eq_left', exists_eq_left, Rt.v.injEq, Rt.o.injEq, List.cons.injEq, PyData.int.injEq, PyData.list.injEq, PyData.tuple.injEq, and_true, true_and, List.all_cons, List.all_nil, List.nodup_cons, List.nodup_nil, decide_true, decide_false, Bool.and_true, Bool.true_and, List.mem_cons, List.not_mem_nil, not_false_eq_true, Nat.sub_self, Nat.reduceSub, Nat.reduceAdd, if_true, if_false, Bool.false_eq_true, reduceCtorEq, false_and, and_false, or_false, false_or, and_self, Nat.zero_add, exists_eq', exists_eq, Sl.val.injEq, Sl.own.injEq, exists_const, tr_vnil, tr_vcons, tr_callX, pick_c, pick_n, List.getElem?_cons_zero, List.getElem?_cons_succ, Option.toList_some, tr_dict0, tr_dict1, ts_never, isi_tt, isi_ii, isi_bi, rev_t, rev_l, ts_dput, ts_update, getDc_o, asD_d, din_i, dnin_i, dget_i, key_i, Option.isSome_some, Option.isSome_none, hk, nin_tupS]
      by_cases hm : k ∈ (List.range (m + 1)).map s
      · simp only [tr_bnd, tr_lft, tr_con, tr_op2, tr_op2r, tr_op2b, tr_asB, tr_trB, tr_trBp, tr_and, tr_or, tr_not, tr_if, tr_andV, tr_orV, tr_notV, tr_neg, tr_chain, tr_nil, tr_cons, tr_tup, tr_lst, tr_pn, tr_ps, tr_sl, tr_c1, tr_c1p, tr_seqI, tr_rng1, tr_rng2, tr_rng3, tr_zip, tr_enum, tr_rtV, tr_rtO, tr_aNil, tr_aV, tr_call, tr_callT, ts_next, ts_break, ts_cont, ts_seq, ts_ret, ts_retO, ts_retN, ts_expr, ts_assign, as_name, as_nil, as_cons, as_tup, ts_own, ts_if, ts_for, ts_store, varK_v, varK_o, tr_yes, wipe_n, wipe_c, unw_n, unw_c, unw1_v, unw1_e, unw1_n, getQ_0, getQ_s, isOS_v, isOS_e, nl_i, nl_b, nl_n, nl_s, nl_t, eq_self, ts_par, pev_n, pev_v, pev_o, sets_n, sets_c, tr_bor, bor_c, bor_n, sok_e, sok_vv, sok_int, sok_ss, sok_o, rtd_v, rtd_o, rto_o, tu_var, tu_op2l, tu_slp, getO_o, getS_s, getX_v, tu_aL, tu_aS, tu_take, tu_aug, tu_append, tu_pop, tu_lenS, tu_ixS, outA, scrA, isOA, isSA, outS_o, scrS_s, isO_o, isS_s, lok_gen, lix_nil, lix_v, lix_l, lix_s, sok_nil, sok_v, sok_l, sok_s, at_0, at_1, getV_v, getV_o, getL_o, add_ii, sub_ii, mul_ii, mul_ti, mul_li, fdiv_ii, mod_ii, pow_ii, neg_i, cmp_ii, addI_ii, mulI_ii, eq_ii, ne_ii, eq_ss, ne_ss, asB_b, truth_b, truth_i, truth_l, truth_t, truth_n, asI_i, item_l, item_t, len_l, len_t, abs_i, int_i, int_b, tuple_l, tuple_t, list_l, list_t, max2_ii, min2_ii, seq_l, seq_t, slice_l, slice_t, rng1_i, rng2_i, zip_l, zip_t, zip_tl, zip_lt, enum_l, add_tt, add_ll, add_ss, repr_i, atI_0, atI_1, atI_2, ixN_0, ixN_1, ixN_2, ite_some, map_some, ex_and, ex_eq, bind_some, List.set_cons_zero, List.set_cons_succ, List.length_cons, List.length_nil, Option.some.injEq, decide_eq_true_eq, Bool.not_true, Bool.not_false, Bool.and_eq_true, Bool.or_eq_true, fillA, wbA, entry, entrySls, entrySl, List.replicate, List.cons_append, List.nil_append, trF_ok, List.append_nil, List.map_nil, List.map_cons, ownIx, and_assoc, exists_and_left, exists_eq_left', exists_eq_left, Rt.v.injEq, Rt.o.injEq, List.cons.injEq, PyData.int.injEq, PyData.list.injEq, PyData.tuple.injEq, and_true, true_and, List.all_cons, List.all_nil, List.nodup_cons, List.nodup_nil, decide_true, decide_false, Bool.and_true, Bool.true_and, List.mem_cons, List.not_mem_nil, not_false_eq_true, Nat.sub_self, Nat.reduceSub, Nat.reduceAdd, if_true, if_false, Bool.false_eq_true, reduceCtorEq, false_and, and_false, or_false, false_or, and_self, Nat.zero_add, exists_eq', exists_eq, Sl.val.injEq, Sl.own.injEq, exists_const, tr_vnil, tr_vcons, tr_callX, pick_c, pick_n, List.getElem?_cons_zero, List.getElem?_cons_succ, Option.toList_some, tr_dict0, tr_dict1, ts_never, isi_tt, isi_ii, isi_bi, rev_t, rev_l, ts_dput, ts_update, getDc_o, asD_d, din_i, dnin_i, dget_i, key_i, Option.isSome_some, Option.isSome_none, hm]
        cases a <;> simp only [tr_bnd, tr_lft, tr_con, tr_op2, tr_op2r, tr_op2b, tr_asB, tr_trB, tr_trBp, tr_and, tr_or, tr_not, tr_if, tr_andV, tr_orV, tr_notV, tr_neg, tr_chain, tr_nil, tr_cons, tr_tup, tr_lst, tr_pn, tr_ps, tr_sl, tr_c1, tr_c1p, tr_seqI, tr_rng1, tr_rng2, tr_rng3, tr_zip, tr_enum, tr_rtV, tr_rtO, tr_aNil, tr_aV, tr_call, tr_callT, ts_next, ts_break, ts_cont, ts_seq, ts_ret, ts_retO, ts_retN, ts_expr, ts_assign, as_name, as_nil, as_cons, as_tup, ts_own, ts_if, ts_for, ts_store, varK_v, varK_o, tr_yes, wipe_n, wipe_c, unw_n, unw_c, unw1_v, unw1_e, unw1_n, getQ_0, getQ_s, isOS_v, isOS_e, nl_i, nl_b, nl_n, nl_s, nl_t, eq_self, ts_par, pev_n, pev_v, pev_o, sets_n, sets_c, tr_bor, bor_c, bor_n, sok_e, sok_vv, sok_int, sok_ss, sok_o, rtd_v, rtd_o, rto_o, tu_var, tu_op2l, tu_slp, getO_o, getS_s, getX_v, tu_aL, tu_aS, tu_take, tu_aug, tu_append, tu_pop, tu_lenS, tu_ixS, outA, scrA, isOA, isSA, outS_o, scrS_s, isO_o, isS_s, lok_gen, lix_nil, lix_v, lix_l, lix_s, sok_nil, sok_v, sok_l, sok_s, at_0, at_1, getV_v, getV_o, getL_o, add_ii, sub_ii, mul_ii, mul_ti, mul_li, fdiv_ii, mod_ii, pow_ii, neg_i, cmp_ii, addI_ii, mulI_ii, eq_ii, ne_ii, eq_ss, ne_ss, asB_b, truth_b, truth_i, truth_l, truth_t, truth_n, asI_i, item_l, item_t, len_l, len_t, abs_i, int_i, int_b, tuple_l, tuple_t, list_l, list_t, max2_ii, min2_ii, seq_l, seq_t, slice_l, slice_t, rng1_i, rng2_i, zip_l, zip_t, zip_tl, zip_lt, enum_l, add_tt, add_ll, add_ss, repr_i, atI_0, atI_1, atI_2, ixN_0, ixN_1, ixN_2, ite_some, map_some, ex_and, ex_eq, bind_some, List.set_cons_zero, List.set_cons_succ, List.length_cons, List.length_nil, Option.some.injEq, decide_eq_true_eq, Bool.not_true, Bool.not_false, Bool.and_eq_true, Bool.or_eq_true, fillA, wbA, entry, entrySls, entrySl, List.replicate, List.cons_append, List.nil_append, trF_ok, List.append_nil, List.map_nil, List.map_cons, ownIx, and_assoc, exists_and_left, exists_eq_left', exists_eq_left, Rt.v.injEq, Rt.o.injEq, List.cons.injEq, PyData.int.injEq, PyData.list.injEq, PyData.tuple.injEq, and_true, true_and, List.all_cons, List.all_nil, List.nodup_cons, List.nodup_nil, decide_true, decide_false, Bool.and_true, Bool.true_and, List.mem_cons, List.not_mem_nil, not_false_eq_true, Nat.sub_self, Nat.reduceSub, Nat.reduceAdd, if_true, if_false, Bool.false_eq_true, reduceCtorEq, false_and, and_false, or_false, false_or, and_self, Nat.zero_add, exists_eq', exists_eq, Sl.val.injEq, Sl.own.injEq, exists_const, tr_vnil, tr_vcons, tr_callX, pick_c, pick_n, List.getElem?_cons_zero, List.getElem?_cons_succ, Option.toList_some, tr_dict0, tr_dict1, ts_never, isi_tt, isi_ii, isi_bi, rev_t, rev_l, ts_dput, ts_update, getDc_o, asD_d, din_i, dnin_i, dget_i, key_i, Option.isSome_some, Option.isSome_none, inB]
        all_goals first | (simp; done) | skip
        rename_i a
        by_cases ha : 0 ≤ a
        · simp only [tr_bnd, tr_lft, tr_con, tr_op2, tr_op2r, tr_op2b, tr_asB, tr_trB, tr_trBp, tr_and, tr_or, tr_not, tr_if, tr_andV, tr_orV, tr_notV, tr_neg, tr_chain, tr_nil, tr_cons, tr_tup, tr_lst, tr_pn, tr_ps, tr_sl, tr_c1, tr_c1p, tr_seqI, tr_rng1, tr_rng2, tr_rng3, tr_zip, tr_enum, tr_rtV, tr_rtO, tr_aNil, tr_aV, tr_call, tr_callT, ts_next, ts_break, ts_cont, ts_seq, ts_ret, ts_retO, ts_retN, ts_expr, ts_assign, as_name, as_nil, as_cons, as_tup, ts_own, ts_if, ts_for, ts_store, varK_v, varK_o, tr_yes, wipe_n, wipe_c, unw_n, unw_c, unw1_v, unw1_e, unw1_n, getQ_0, getQ_s, isOS_v, isOS_e, nl_i, nl_b, nl_n, nl_s, nl_t, eq_self, ts_par, pev_n, pev_v, pev_o, sets_n, sets_c, tr_bor, bor_c, bor_n, sok_e, sok_vv, sok_int, sok_ss, sok_o, rtd_v, rtd_o, rto_o, tu_var, tu_op2l, tu_slp, getO_o, getS_s, getX_v, tu_aL, tu_aS, tu_take, tu_aug, tu_append, tu_pop, tu_lenS, tu_ixS, outA, scrA, isOA, isSA, outS_o, scrS_s, isO_o, isS_s, lok_gen, lix_nil, lix_v, lix_l, lix_s, sok_nil, sok_v, sok_l, sok_s, at_0, at_1, getV_v, getV_o, getL_o, add_ii, sub_ii, mul_ii, mul_ti, mul_li, fdiv_ii, mod_ii, pow_ii, neg_i, cmp_ii, addI_ii, mulI_ii, eq_ii, ne_ii, eq_ss, ne_ss, asB_b, truth_b, truth_i, truth_l, truth_t, truth_n, asI_i, item_l, item_t, len_l, len_t, abs_i, int_i, int_b, tuple_l, tuple_t, list_l, list_t, max2_ii, min2_ii, seq_l, seq_t, slice_l, slice_t, rng1_i, rng2_i, zip_l, zip_t, zip_tl, zip_lt, enum_l, add_tt, add_ll, add_ss, repr_i, atI_0, atI_1, atI_2, ixN_0, ixN_1, ixN_2, ite_some, map_some, ex_and, ex_eq, bind_some, List.set_cons_zero, List.set_cons_succ, List.length_cons, List.length_nil, Option.some.injEq, decide_eq_true_eq, Bool.not_true, Bool.not_false, Bool.and_eq_true, Bool.or_eq_true, fillA, wbA, entry, entrySls, entrySl, List.replicate, List.cons_append, List.nil_append, trF_ok, List.append_nil, List.map_nil, List.map_cons, ownIx, and_assoc, exists_and_left, exists_eq_left', exists_eq_left, Rt.v.injEq, Rt.o.injEq, List.cons.injEq, PyData.int.injEq, PyData.list.injEq, PyData.tuple.injEq, and_true, true_and, List.all_cons, List.all_nil, List.nodup_cons, List.nodup_nil, decide_true, decide_false, Bool.and_true, Bool.true_and, List.mem_cons, List.not_mem_nil, not_false_eq_true, Nat.sub_self, Nat.reduceSub, Nat.reduceAdd, if_true, if_false, Bool.false_eq_true, reduceCtorEq, false_and, and_false, or_false, false_or, and_self, Nat.zero_add, exists_eq', exists_eq, Sl.val.injEq, Sl.own.injEq, exists_const, tr_vnil, tr_vcons, tr_callX, pick_c, pick_n, List.getElem?_cons_zero, List.getElem?_cons_succ, Option.toList_some, tr_dict0, tr_dict1, ts_never, isi_tt, isi_ii, isi_bi, rev_t, rev_l, ts_dput, ts_update, getDc_o, asD_d, din_i, dnin_i, dget_i, key_i, Option.isSome_some, Option.isSome_none, ha, tup_last]
          by_cases h1 : a % k = 0
          · by_cases h2 : a + k ≤ N * s m
            · have : okB s m N (a, k) := ⟨hk, hm, ha, h1, h2⟩
              simp [h1, h2, this, tr_bnd, tr_lft, tr_con, tr_op2, tr_op2r, tr_op2b, tr_asB, tr_trB, tr_trBp, tr_and, tr_or, tr_not, tr_if, tr_andV, tr_orV, tr_notV, tr_neg, tr_chain, tr_nil, tr_cons, tr_tup, tr_lst, tr_pn, tr_ps, tr_sl, tr_c1, tr_c1p, tr_seqI, tr_rng1, tr_rng2, tr_rng3, tr_zip, tr_enum, tr_rtV, tr_rtO, tr_aNil, tr_aV, tr_call, tr_callT, ts_next, ts_break, ts_cont, ts_seq, ts_ret, ts_retO, ts_retN, ts_expr, ts_assign, as_name, as_nil, as_cons, as_tup, ts_own, ts_if, ts_for, ts_store, varK_v, varK_o, tr_yes, wipe_n, wipe_c, unw_n, unw_c, unw1_v, unw1_e, unw1_n, getQ_0, getQ_s, isOS_v, isOS_e, nl_i, nl_b, nl_n, nl_s, nl_t, eq_self, ts_par, pev_n, pev_v, pev_o, sets_n, sets_c, tr_bor, bor_c, bor_n, sok_e, sok_vv, sok_int, sok_ss, sok_o, rtd_v, rtd_o, rto_o, tu_var, tu_op2l, tu_slp, getO_o, getS_s, getX_v, tu_aL, tu_aS, tu_take, tu_aug, tu_append, tu_pop, tu_lenS, tu_ixS, outA, scrA, isOA, isSA, outS_o, scrS_s, isO_o, isS_s, lok_gen, lix_nil, lix_v, lix_l, lix_s, sok_nil, sok_v, sok_l, sok_s, at_0, at_1, getV_v, getV_o, getL_o, add_ii, sub_ii, mul_ii, mul_ti, mul_li, fdiv_ii, mod_ii, pow_ii, neg_i, cmp_ii, addI_ii, mulI_ii, eq_ii, ne_ii, eq_ss, ne_ss, asB_b, truth_b, truth_i, truth_l, truth_t, truth_n, asI_i, item_l, item_t, len_l, len_t, abs_i, int_i, int_b, tuple_l, tuple_t, list_l, list_t, max2_ii, min2_ii, seq_l, seq_t, slice_l, slice_t, rng1_i, rng2_i, zip_l, zip_t, zip_tl, zip_lt, enum_l, add_tt, add_ll, add_ss, repr_i, atI_0, atI_1, atI_2, ixN_0, ixN_1, ixN_2, ite_some, map_some, ex_and, ex_eq, bind_some, List.set_cons_zero, List.set_cons_succ, List.length_cons, List.length_nil, Option.some.injEq, decide_eq_true_eq, Bool.not_true, Bool.not_false, Bool.and_eq_true, Bool.or_eq_true, fillA, wbA, entry, entrySls, entrySl, List.replicate, List.cons_append, List.nil_append, trF_ok, List.append_nil, List.map_nil, List.map_cons, ownIx, and_assoc, exists_and_left, exists_eq_left', exists_eq_left, Rt.v.injEq, Rt.o.injEq, List.cons.injEq, PyData.int.injEq, PyData.list.injEq, PyData.tuple.injEq, and_true, true_and, List.all_cons, List.all_nil, List.nodup_cons, List.nodup_nil, decide_true, decide_false, Bool.and_true, Bool.true_and, List.mem_cons, List.not_mem_nil, not_false_eq_true, Nat.sub_self, Nat.reduceSub, Nat.reduceAdd, if_true, if_false, Bool.false_eq_true, reduceCtorEq, false_and, and_false, or_false, false_or, and_self, Nat.zero_add, exists_eq', exists_eq, Sl.val.injEq, Sl.own.injEq, exists_const, tr_vnil, tr_vcons, tr_callX, pick_c, pick_n, List.getElem?_cons_zero, List.getElem?_cons_succ, Option.toList_some, tr_dict0, tr_dict1, ts_never, isi_tt, isi_ii, isi_bi, rev_t, rev_l, ts_dput, ts_update, getDc_o, asD_d, din_i, dnin_i, dget_i, key_i, Option.isSome_some, Option.isSome_none]
              exact ⟨by omega, mulOk_l hN⟩
            · have : ¬ okB s m N (a, k) := fun z => h2 z.2.2.2.2
              simp [h1, h2, this, tr_bnd, tr_lft, tr_con, tr_op2, tr_op2r, tr_op2b, tr_asB, tr_trB, tr_trBp, tr_and, tr_or, tr_not, tr_if, tr_andV, tr_orV, tr_notV, tr_neg, tr_chain, tr_nil, tr_cons, tr_tup, tr_lst, tr_pn, tr_ps, tr_sl, tr_c1, tr_c1p, tr_seqI, tr_rng1, tr_rng2, tr_rng3, tr_zip, tr_enum, tr_rtV, tr_rtO, tr_aNil, tr_aV, tr_call, tr_callT, ts_next, ts_break, ts_cont, ts_seq, ts_ret, ts_retO, ts_retN, ts_expr, ts_assign, as_name, as_nil, as_cons, as_tup, ts_own, ts_if, ts_for, ts_store, varK_v, varK_o, tr_yes, wipe_n, wipe_c, unw_n, unw_c, unw1_v, unw1_e, unw1_n, getQ_0, getQ_s, isOS_v, isOS_e, nl_i, nl_b, nl_n, nl_s, nl_t, eq_self, ts_par, pev_n, pev_v, pev_o, sets_n, sets_c, tr_bor, bor_c, bor_n, sok_e, sok_vv, sok_int, sok_ss, sok_o, rtd_v, rtd_o, rto_o, tu_var, tu_op2l, tu_slp, getO_o, getS_s, getX_v, tu_aL, tu_aS, tu_take, tu_aug, tu_append, tu_pop, tu_lenS, tu_ixS, outA, scrA, isOA, isSA, outS_o, scrS_s, isO_o, isS_s, lok_gen, lix_nil, lix_v, lix_l, lix_s, sok_nil, sok_v, sok_l, sok_s, at_0, at_1, getV_v, getV_o, getL_o, add_ii, sub_ii, mul_ii, mul_ti, mul_li, fdiv_ii, mod_ii, pow_ii, neg_i, cmp_ii, addI_ii, mulI_ii, eq_ii, ne_ii, eq_ss, ne_ss, asB_b, truth_b, truth_i, truth_l, truth_t, truth_n, asI_i, item_l, item_t, len_l, len_t, abs_i, int_i, int_b, tuple_l, tuple_t, list_l, list_t, max2_ii, min2_ii, seq_l, seq_t, slice_l, slice_t, rng1_i, rng2_i, zip_l, zip_t, zip_tl, zip_lt, enum_l, add_tt, add_ll, add_ss, repr_i, atI_0, atI_1, atI_2, ixN_0, ixN_1, ixN_2, ite_some, map_some, ex_and, ex_eq, bind_some, List.set_cons_zero, List.set_cons_succ, List.length_cons, List.length_nil, Option.some.injEq, decide_eq_true_eq, Bool.not_true, Bool.not_false, Bool.and_eq_true, Bool.or_eq_true, fillA, wbA, entry, entrySls, entrySl, List.replicate, List.cons_append, List.nil_append, trF_ok, List.append_nil, List.map_nil, List.map_cons, ownIx, and_assoc, exists_and_left, exists_eq_left', exists_eq_left, Rt.v.injEq, Rt.o.injEq, List.cons.injEq, PyData.int.injEq, PyData.list.injEq, PyData.tuple.injEq, and_true, true_and, List.all_cons, List.all_nil, List.nodup_cons, List.nodup_nil, decide_true, decide_false, Bool.and_true, Bool.true_and, List.mem_cons, List.not_mem_nil, not_false_eq_true, Nat.sub_self, Nat.reduceSub, Nat.reduceAdd, if_true, if_false, Bool.false_eq_true, reduceCtorEq, false_and, and_false, or_false, false_or, and_self, Nat.zero_add, exists_eq', exists_eq, Sl.val.injEq, Sl.own.injEq, exists_const, tr_vnil, tr_vcons, tr_callX, pick_c, pick_n, List.getElem?_cons_zero, List.getElem?_cons_succ, Option.toList_some, tr_dict0, tr_dict1, ts_never, isi_tt, isi_ii, isi_bi, rev_t, rev_l, ts_dput, ts_update, getDc_o, asD_d, din_i, dnin_i, dget_i, key_i, Option.isSome_some, Option.isSome_none]
              exact ⟨by omega, mulOk_l hN⟩
          · have : ¬ okB s m N (a, k) := fun z => h1 z.2.2.2.1
            simp [h1, this, tr_bnd, tr_lft, tr_con, tr_op2, tr_op2r, tr_op2b, tr_asB, tr_trB, tr_trBp, tr_and, tr_or, tr_not, tr_if, tr_andV, tr_orV, tr_notV, tr_neg, tr_chain, tr_nil, tr_cons, tr_tup, tr_lst, tr_pn, tr_ps, tr_sl, tr_c1, tr_c1p, tr_seqI, tr_rng1, tr_rng2, tr_rng3, tr_zip, tr_enum, tr_rtV, tr_rtO, tr_aNil, tr_aV, tr_call, tr_callT, ts_next, ts_break, ts_cont, ts_seq, ts_ret, ts_retO, ts_retN, ts_expr, ts_assign, as_name, as_nil, as_cons, as_tup, ts_own, ts_if, ts_for, ts_store, varK_v, varK_o, tr_yes, wipe_n, wipe_c, unw_n, unw_c, unw1_v, unw1_e, unw1_n, getQ_0, getQ_s, isOS_v, isOS_e, nl_i, nl_b, nl_n, nl_s, nl_t, eq_self, ts_par, pev_n, pev_v, pev_o, sets_n, sets_c, tr_bor, bor_c, bor_n, sok_e, sok_vv, sok_int, sok_ss, sok_o, rtd_v, rtd_o, rto_o, tu_var, tu_op2l, tu_slp, getO_o, getS_s, getX_v, tu_aL, tu_aS, tu_take, tu_aug, tu_append, tu_pop, tu_lenS, tu_ixS, outA, scrA, isOA, isSA, outS_o, scrS_s, isO_o, isS_s, lok_gen, lix_nil, lix_v, lix_l, lix_s, sok_nil, sok_v, sok_l, sok_s, at_0, at_1, getV_v, getV_o, getL_o, add_ii, sub_ii, mul_ii, mul_ti, mul_li, fdiv_ii, mod_ii, pow_ii, neg_i, cmp_ii, addI_ii, mulI_ii, eq_ii, ne_ii, eq_ss, ne_ss, asB_b, truth_b, truth_i, truth_l, truth_t, truth_n, asI_i, item_l, item_t, len_l, len_t, abs_i, int_i, int_b, tuple_l, tuple_t, list_l, list_t, max2_ii, min2_ii, seq_l, seq_t, slice_l, slice_t, rng1_i, rng2_i, zip_l, zip_t, zip_tl, zip_lt, enum_l, add_tt, add_ll, add_ss, repr_i, atI_0, atI_1, atI_2, ixN_0, ixN_1, ixN_2, ite_some, map_some, ex_and, ex_eq, bind_some, List.set_cons_zero, List.set_cons_succ, List.length_cons, List.length_nil, Option.some.injEq, decide_eq_true_eq, Bool.not_true, Bool.not_false, Bool.and_eq_true, Bool.or_eq_true, fillA, wbA, entry, entrySls, entrySl, List.replicate, List.cons_append, List.nil_append, trF_ok, List.append_nil, List.map_nil, List.map_cons, ownIx, and_assoc, exists_and_left, exists_eq_left', exists_eq_left, Rt.v.injEq, Rt.o.injEq, List.cons.injEq, PyData.int.injEq, PyData.list.injEq, PyData.tuple.injEq, and_true, true_and, List.all_cons, List.all_nil, List.nodup_cons, List.nodup_nil, decide_true, decide_false, Bool.and_true, Bool.true_and, List.mem_cons, List.not_mem_nil, not_false_eq_true, Nat.sub_self, Nat.reduceSub, Nat.reduceAdd, if_true, if_false, Bool.false_eq_true, reduceCtorEq, false_and, and_false, or_false, false_or, and_self, Nat.zero_add, exists_eq', exists_eq, Sl.val.injEq, Sl.own.injEq, exists_const, tr_vnil, tr_vcons, tr_callX, pick_c, pick_n, List.getElem?_cons_zero, List.getElem?_cons_succ, Option.toList_some, tr_dict0, tr_dict1, ts_never, isi_tt, isi_ii, isi_bi, rev_t, rev_l, ts_dput, ts_update, getDc_o, asD_d, din_i, dnin_i, dget_i, key_i, Option.isSome_some, Option.isSome_none]
            omega
        · have : ¬ okB s m N (a, k) := fun z => ha z.2.2.1
          simp [ha, this]
      · simp only [tr_bnd, tr_lft, tr_con, tr_op2, tr_op2r, tr_op2b, tr_asB, tr_trB, tr_trBp, tr_and, tr_or, tr_not, tr_if, tr_andV, tr_orV, tr_notV, tr_neg, tr_chain, tr_nil, tr_cons, tr_tup, tr_lst, tr_pn, tr_ps, tr_sl, tr_c1, tr_c1p, tr_seqI, tr_rng1, tr_rng2, tr_rng3, tr_zip, tr_enum, tr_rtV, tr_rtO, tr_aNil, tr_aV, tr_call, tr_callT, ts_next, ts_break, ts_cont, ts_seq, ts_ret, ts_retO, ts_retN, ts_expr, ts_assign, as_name, as_nil, as_cons, as_tup, ts_own, ts_if, ts_for, ts_store, varK_v, varK_o, tr_yes, wipe_n, wipe_c, unw_n, unw_c, unw1_v, unw1_e, unw1_n, getQ_0, getQ_s, isOS_v, isOS_e, nl_i, nl_b, nl_n, nl_s, nl_t, eq_self, ts_par, pev_n, pev_v, pev_o, sets_n, sets_c, tr_bor, bor_c, bor_n, sok_e, sok_vv, sok_int, sok_ss, sok_o, rtd_v, rtd_o, rto_o, tu_var, tu_op2l, tu_slp, getO_o, getS_s, getX_v, tu_aL, tu_aS, tu_take, tu_aug, tu_append, tu_pop, tu_lenS, tu_ixS, outA, scrA, isOA, isSA, outS_o, scrS_s, isO_o, isS_s, lok_gen, lix_nil, lix_v, lix_l, lix_s, sok_nil, sok_v, sok_l, sok_s, at_0, at_1, getV_v, getV_o, getL_o, add_ii, sub_ii, mul_ii, mul_ti, mul_li, fdiv_ii, mod_ii, pow_ii, neg_i, cmp_ii, addI_ii, mulI_ii, eq_ii, ne_ii, eq_ss, ne_ss, asB_b, truth_b, truth_i, truth_l, truth_t, truth_n, asI_i, item_l, item_t, len_l, len_t, abs_i, int_i, int_b, tuple_l, tuple_t, list_l, list_t, max2_ii, min2_ii, seq_l, seq_t, slice_l, slice_t, rng1_i, rng2_i, zip_l, zip_t, zip_tl, zip_lt, enum_l, add_tt, add_ll, add_ss, repr_i, atI_0, atI_1, atI_2, ixN_0, ixN_1, ixN_2, ite_some, map_some, ex_and, ex_eq, bind_some, List.set_cons_zero, List.set_cons_succ, List.length_cons, List.length_nil, Option.some.injEq, decide_eq_true_eq, Bool.not_true, Bool.not_false, Bool.and_eq_true, Bool.or_eq_true, fillA, wbA, entry, entrySls, entrySl, List.replicate, List.cons_append, List.nil_append, trF_ok, List.append_nil, List.map_nil, List.map_cons, ownIx, and_assoc, exists_and_left, exists_eq_left', exists_eq_left, Rt.v.injEq, Rt.o.injEq, List.cons.injEq, PyData.int.injEq, PyData.list.injEq, PyData.tuple.injEq, and_true, true_and, List.all_cons, List.all_nil, List.nodup_cons, List.nodup_nil, decide_true, decide_false, Bool.and_true, Bool.true_and, List.mem_cons, List.not_mem_nil, not_false_eq_true, Nat.sub_self, Nat.reduceSub, Nat.reduceAdd, if_true, if_false, Bool.false_eq_true, reduceCtorEq, false_and, and_false, or_false, false_or, and_self, Nat.zero_add, exists_eq', exists_eq, Sl.val.injEq, Sl.own.injEq, exists_const, tr_vnil, tr_vcons, tr_callX, pick_c, pick_n, List.getElem?_cons_zero, List.getElem?_cons_succ, Option.toList_some, tr_dict0, tr_dict1, ts_never, isi_tt, isi_ii, isi_bi, rev_t, rev_l, ts_dput, ts_update, getDc_o, asD_d, din_i, dnin_i, dget_i, key_i, Option.isSome_some, Option.isSome_none, hm]
        cases a <;> simp [okB, hm]
    · simp only [tr_bnd, tr_lft, tr_con, tr_op2, tr_op2r, tr_op2b, tr_asB, tr_trB, tr_trBp, tr_and, tr_or, tr_not, tr_if, tr_andV, tr_orV, tr_notV, tr_neg, tr_chain, tr_nil, tr_cons, tr_tup, tr_lst, tr_pn, tr_ps, tr_sl, tr_c1, tr_c1p, tr_seqI, tr_rng1, tr_rng2, tr_rng3, tr_zip, tr_enum, tr_rtV, tr_rtO, tr_aNil, tr_aV, tr_call, tr_callT, ts_next, ts_break, ts_cont, ts_seq, ts_ret, ts_retO, ts_retN, ts_expr, ts_assign, as_name, as_nil, as_cons, as_tup, ts_own, ts_if, ts_for, ts_store, varK_v, varK_o, tr_yes, wipe_n, wipe_c, unw_n, unw_c, unw1_v, unw1_e, unw1_n, getQ_0, getQ_s, isOS_v, isOS_e, nl_i, nl_b, nl_n, nl_s, nl_t, eq_self, ts_par, pev_n, pev_v, pev_o, sets_n, sets_c, tr_bor, bor_c, bor_n, sok_e, sok_vv, sok_int, sok_ss, sok_o, rtd_v, rtd_o, rto_o, tu_var, tu_op2l, tu_slp, getO_o, getS_s, getX_v, tu_aL, tu_aS, tu_take, tu_aug, tu_append, tu_pop, tu_lenS, tu_ixS, outA, scrA, isOA, isSA, outS_o, scrS_s, isO_o, isS_s, lok_gen, lix_nil, lix_v, lix_l, lix_s, sok_nil, sok_v, sok_l, sok_s, at_0, at_1, getV_v, getV_o, getL_o, add_ii, sub_ii, mul_ii, mul_ti, mul_li, fdiv_ii, mod_ii, pow_ii, neg_i, cmp_ii, addI_ii, mulI_ii, eq_ii, ne_ii, eq_ss, ne_ss, asB_b, truth_b, truth_i, truth_l, truth_t, truth_n, asI_i, item_l, item_t, len_l, len_t, abs_i, int_i, int_b, tuple_l, tuple_t, list_l, list_t, max2_ii, min2_ii, seq_l, seq_t, slice_l, slice_t, rng1_i, rng2_i, zip_l, zip_t, zip_tl, zip_lt, enum_l, add_tt, add_ll, add_ss, repr_i, atI_0, atI_1, atI_2, ixN_0, ixN_1, ixN_2, ite_some, map_some, ex_and, ex_eq, bind_some, List.set_cons_zero, List.set_cons_succ, List.length_cons, List.length_nil, Option.some.injEq, decide_eq_true_eq, Bool.not_true, Bool.not_false, Bool.and_eq_true, Bool.or_eq_true, fillA, wbA, entry, entrySls, entrySl, List.replicate, List.cons_append, List.nil_append, trF_ok, List.append_nil, List.map_nil, List.map_cons, ownIx, and_assoc, exists_and_left, exists_eq_left', exists_eq_left, Rt.v.injEq, Rt.o.injEq, List.cons.injEq, PyData.int.injEq, PyData.list.injEq, PyData.tuple.injEq, and_true, true_and, List.all_cons, List.all_nil, List.nodup_cons, List.nodup_nil, decide_true, decide_false, Bool.and_true, Bool.true_and, List.mem_cons, List.not_mem_nil, not_false_eq_true, Nat.sub_self, Nat.reduceSub, Nat.reduceAdd, if_true, if_false, Bool.false_eq_true, reduceCtorEq, false_and, and_false, or_false, false_or, and_self, Nat.zero_add, exists_eq', exists_eq, Sl.val.injEq, Sl.own.injEq, exists_const, tr_vnil, tr_vcons, tr_callX, pick_c, pick_n, List.getElem?_cons_zero, List.getElem?_cons_succ, Option.toList_some, tr_dict0, tr_dict1, ts_never, isi_tt, isi_ii, isi_bi, rev_t, rev_l, ts_dput, ts_update, getDc_o, asD_d, din_i, dnin_i, dget_i, key_i, Option.isSome_some, Option.isSome_none, hk]
      cases a <;> simp [okB, hk]
theorem all_blk : ∀ {ds : List PyData}, (ds.all fun d => (blk? s m N d).isSome) = true → ∃ bs : List (Int × Int), ds = bs.map prI ∧ ∀ b ∈ bs, okB s m N b
  | [], _ => ⟨[], rfl, by simp⟩
  | d :: ds, h => by
    rw [List.all_cons, Bool.and_eq_true] at h
    obtain ⟨bs, e, k⟩ := all_blk h.2
    obtain ⟨p, hp⟩ := Option.isSome_iff_exists.mp h.1
    obtain ⟨h1, h2⟩ := blk_eq hp
    refine ⟨p :: bs, by rw [e, h1]; rfl, fun n hn => ?_⟩
    rcases List.mem_cons.mp hn with rfl | hn
    · exact h2
    · exact k n hn
def prs? : List PyData → Option (List (Int × Int)) := pairs?
def stB (s : Nat → Int) (m : Nat) (N : Int) (d : PyData) : Bool := match d with
  | .tuple ds => (ds.all fun d => (blk? s m N d).isSome) && (match pairs? ds with
    | some bs => (nbs bs).all fun p => decide (p.1.1 + p.1.2 ≤ p.2.1)
    | none => false)
  | _ => false
theorem state_ok {d : PyData} (hN : N.natAbs < 2 ^ 64) (hl : ∀ ds, d = .tuple ds → ds.length ≤ 1000) : f_is_state [tup (m + 1) s, .int N, d] = .ok (.v (.bool (stB s m N d))) [] := by
  apply trF_eq
  unfold f_is_state m_is_state
  rw [trF_body]
  cases d <;> simp only [tr_bnd, tr_lft, tr_con, tr_op2, tr_op2r, tr_op2b, tr_asB, tr_trB, tr_trBp, tr_and, tr_or, tr_not, tr_if, tr_andV, tr_orV, tr_notV, tr_neg, tr_chain, tr_nil, tr_cons, tr_tup, tr_lst, tr_pn, tr_ps, tr_sl, tr_c1, tr_c1p, tr_seqI, tr_rng1, tr_rng2, tr_rng3, tr_zip, tr_enum, tr_rtV, tr_rtO, tr_aNil, tr_aV, tr_call, tr_callT, ts_next, ts_break, ts_cont, ts_seq, ts_ret, ts_retO, ts_retN, ts_expr, ts_assign, as_name, as_nil, as_cons, as_tup, ts_own, ts_if, ts_for, ts_store, varK_v, varK_o, tr_yes, wipe_n, wipe_c, unw_n, unw_c, unw1_v, unw1_e, unw1_n, getQ_0, getQ_s, isOS_v, isOS_e, nl_i, nl_b, nl_n, nl_s, nl_t, eq_self, ts_par, pev_n, pev_v, pev_o, sets_n, sets_c, tr_bor, bor_c, bor_n, sok_e, sok_vv, sok_int, sok_ss, sok_o, rtd_v, rtd_o, rto_o, tu_var, tu_op2l, tu_slp, getO_o, getS_s, getX_v, tu_aL, tu_aS, tu_take, tu_aug, tu_append, tu_pop, tu_lenS, tu_ixS, outA, scrA, isOA, isSA, outS_o, scrS_s, isO_o, isS_s, lok_gen, lix_nil, lix_v, lix_l, lix_s, sok_nil, sok_v, sok_l, sok_s, at_0, at_1, getV_v, getV_o, getL_o, add_ii, sub_ii, mul_ii, mul_ti, mul_li, fdiv_ii, mod_ii, pow_ii, neg_i, cmp_ii, addI_ii, mulI_ii, eq_ii, ne_ii, eq_ss, ne_ss, asB_b, truth_b, truth_i, truth_l, truth_t, truth_n, asI_i, item_l, item_t, len_l, len_t, abs_i, int_i, int_b, tuple_l, tuple_t, list_l, list_t, max2_ii, min2_ii, seq_l, seq_t, slice_l, slice_t, rng1_i, rng2_i, zip_l, zip_t, zip_tl, zip_lt, enum_l, add_tt, add_ll, add_ss, repr_i, atI_0, atI_1, atI_2, ixN_0, ixN_1, ixN_2, ite_some, map_some, ex_and, ex_eq, bind_some, List.set_cons_zero, List.set_cons_succ, List.length_cons, List.length_nil, Option.some.injEq, decide_eq_true_eq, Bool.not_true, Bool.not_false, Bool.and_eq_true, Bool.or_eq_true, fillA, wbA, entry, entrySls, entrySl, List.replicate, List.cons_append, List.nil_append, trF_ok, List.append_nil, List.map_nil, List.map_cons, ownIx, and_assoc, exists_and_left, exists_eq_left', exists_eq_left, Rt.v.injEq, Rt.o.injEq, List.cons.injEq, PyData.int.injEq, PyData.list.injEq, PyData.tuple.injEq, and_true, true_and, List.all_cons, List.all_nil, List.nodup_cons, List.nodup_nil, decide_true, decide_false, Bool.and_true, Bool.true_and, List.mem_cons, List.not_mem_nil, not_false_eq_true, Nat.sub_self, Nat.reduceSub, Nat.reduceAdd, if_true, if_false, Bool.false_eq_true, reduceCtorEq, false_and, and_false, or_false, false_or, and_self, Nat.zero_add, exists_eq', exists_eq, Sl.val.injEq, Sl.own.injEq, exists_const, tr_vnil, tr_vcons, tr_callX, pick_c, pick_n, List.getElem?_cons_zero, List.getElem?_cons_succ, Option.toList_some, tr_dict0, tr_dict1, ts_never, isi_tt, isi_ii, isi_bi, rev_t, rev_l, ts_dput, ts_update, getDc_o, asD_d, din_i, dnin_i, dget_i, key_i, Option.isSome_some, Option.isSome_none, isi?, tyName, isiB, stB]
  all_goals first | (simp; done) | skip
  rename_i ds
  have hl := hl ds rfl
  rw [show ("tuple" == "tuple" || "tuple" == "bool" && "tuple" == "int") = true from by decide]
  simp only [tr_bnd, tr_lft, tr_con, tr_op2, tr_op2r, tr_op2b, tr_asB, tr_trB, tr_trBp, tr_and, tr_or, tr_not, tr_if, tr_andV, tr_orV, tr_notV, tr_neg, tr_chain, tr_nil, tr_cons, tr_tup, tr_lst, tr_pn, tr_ps, tr_sl, tr_c1, tr_c1p, tr_seqI, tr_rng1, tr_rng2, tr_rng3, tr_zip, tr_enum, tr_rtV, tr_rtO, tr_aNil, tr_aV, tr_call, tr_callT, ts_next, ts_break, ts_cont, ts_seq, ts_ret, ts_retO, ts_retN, ts_expr, ts_assign, as_name, as_nil, as_cons, as_tup, ts_own, ts_if, ts_for, ts_store, varK_v, varK_o, tr_yes, wipe_n, wipe_c, unw_n, unw_c, unw1_v, unw1_e, unw1_n, getQ_0, getQ_s, isOS_v, isOS_e, nl_i, nl_b, nl_n, nl_s, nl_t, eq_self, ts_par, pev_n, pev_v, pev_o, sets_n, sets_c, tr_bor, bor_c, bor_n, sok_e, sok_vv, sok_int, sok_ss, sok_o, rtd_v, rtd_o, rto_o, tu_var, tu_op2l, tu_slp, getO_o, getS_s, getX_v, tu_aL, tu_aS, tu_take, tu_aug, tu_append, tu_pop, tu_lenS, tu_ixS, outA, scrA, isOA, isSA, outS_o, scrS_s, isO_o, isS_s, lok_gen, lix_nil, lix_v, lix_l, lix_s, sok_nil, sok_v, sok_l, sok_s, at_0, at_1, getV_v, getV_o, getL_o, add_ii, sub_ii, mul_ii, mul_ti, mul_li, fdiv_ii, mod_ii, pow_ii, neg_i, cmp_ii, addI_ii, mulI_ii, eq_ii, ne_ii, eq_ss, ne_ss, asB_b, truth_b, truth_i, truth_l, truth_t, truth_n, asI_i, item_l, item_t, len_l, len_t, abs_i, int_i, int_b, tuple_l, tuple_t, list_l, list_t, max2_ii, min2_ii, seq_l, seq_t, slice_l, slice_t, rng1_i, rng2_i, zip_l, zip_t, zip_tl, zip_lt, enum_l, add_tt, add_ll, add_ss, repr_i, atI_0, atI_1, atI_2, ixN_0, ixN_1, ixN_2, ite_some, map_some, ex_and, ex_eq, bind_some, List.set_cons_zero, List.set_cons_succ, List.length_cons, List.length_nil, Option.some.injEq, decide_eq_true_eq, Bool.not_true, Bool.not_false, Bool.and_eq_true, Bool.or_eq_true, fillA, wbA, entry, entrySls, entrySl, List.replicate, List.cons_append, List.nil_append, trF_ok, List.append_nil, List.map_nil, List.map_cons, ownIx, and_assoc, exists_and_left, exists_eq_left', exists_eq_left, Rt.v.injEq, Rt.o.injEq, List.cons.injEq, PyData.int.injEq, PyData.list.injEq, PyData.tuple.injEq, and_true, true_and, List.all_cons, List.all_nil, List.nodup_cons, List.nodup_nil, decide_true, decide_false, Bool.and_true, Bool.true_and, List.mem_cons, List.not_mem_nil, not_false_eq_true, Nat.sub_self, Nat.reduceSub, Nat.reduceAdd, if_true, if_false, Bool.false_eq_true, reduceCtorEq, false_and, and_false, or_false, false_or, and_self, Nat.zero_add, exists_eq', exists_eq, Sl.val.injEq, Sl.own.injEq, exists_const, tr_vnil, tr_vcons, tr_callX, pick_c, pick_n, List.getElem?_cons_zero, List.getElem?_cons_succ, Option.toList_some, tr_dict0, tr_dict1, ts_never, isi_tt, isi_ii, isi_bi, rev_t, rev_l, ts_dput, ts_update, getDc_o, asD_d, din_i, dnin_i, dget_i, key_i, Option.isSome_some, Option.isSome_none]
  refine tr_lcA id ds (fun d => .bool (blk? s m N d).isSome) ?_
  simp only [tr_bnd, tr_lft, tr_con, tr_op2, tr_op2r, tr_op2b, tr_asB, tr_trB, tr_trBp, tr_and, tr_or, tr_not, tr_if, tr_andV, tr_orV, tr_notV, tr_neg, tr_chain, tr_nil, tr_cons, tr_tup, tr_lst, tr_pn, tr_ps, tr_sl, tr_c1, tr_c1p, tr_seqI, tr_rng1, tr_rng2, tr_rng3, tr_zip, tr_enum, tr_rtV, tr_rtO, tr_aNil, tr_aV, tr_call, tr_callT, ts_next, ts_break, ts_cont, ts_seq, ts_ret, ts_retO, ts_retN, ts_expr, ts_assign, as_name, as_nil, as_cons, as_tup, ts_own, ts_if, ts_for, ts_store, varK_v, varK_o, tr_yes, wipe_n, wipe_c, unw_n, unw_c, unw1_v, unw1_e, unw1_n, getQ_0, getQ_s, isOS_v, isOS_e, nl_i, nl_b, nl_n, nl_s, nl_t, eq_self, ts_par, pev_n, pev_v, pev_o, sets_n, sets_c, tr_bor, bor_c, bor_n, sok_e, sok_vv, sok_int, sok_ss, sok_o, rtd_v, rtd_o, rto_o, tu_var, tu_op2l, tu_slp, getO_o, getS_s, getX_v, tu_aL, tu_aS, tu_take, tu_aug, tu_append, tu_pop, tu_lenS, tu_ixS, outA, scrA, isOA, isSA, outS_o, scrS_s, isO_o, isS_s, lok_gen, lix_nil, lix_v, lix_l, lix_s, sok_nil, sok_v, sok_l, sok_s, at_0, at_1, getV_v, getV_o, getL_o, add_ii, sub_ii, mul_ii, mul_ti, mul_li, fdiv_ii, mod_ii, pow_ii, neg_i, cmp_ii, addI_ii, mulI_ii, eq_ii, ne_ii, eq_ss, ne_ss, asB_b, truth_b, truth_i, truth_l, truth_t, truth_n, asI_i, item_l, item_t, len_l, len_t, abs_i, int_i, int_b, tuple_l, tuple_t, list_l, list_t, max2_ii, min2_ii, seq_l, seq_t, slice_l, slice_t, rng1_i, rng2_i, zip_l, zip_t, zip_tl, zip_lt, enum_l, add_tt, add_ll, add_ss, repr_i, atI_0, atI_1, atI_2, ixN_0, ixN_1, ixN_2, ite_some, map_some, ex_and, ex_eq, bind_some, List.set_cons_zero, List.set_cons_succ, List.length_cons, List.length_nil, Option.some.injEq, decide_eq_true_eq, Bool.not_true, Bool.not_false, Bool.and_eq_true, Bool.or_eq_true, fillA, wbA, entry, entrySls, entrySl, List.replicate, List.cons_append, List.nil_append, trF_ok, List.append_nil, List.map_nil, List.map_cons, ownIx, and_assoc, exists_and_left, exists_eq_left', exists_eq_left, Rt.v.injEq, Rt.o.injEq, List.cons.injEq, PyData.int.injEq, PyData.list.injEq, PyData.tuple.injEq, and_true, true_and, List.all_cons, List.all_nil, List.nodup_cons, List.nodup_nil, decide_true, decide_false, Bool.and_true, Bool.true_and, List.mem_cons, List.not_mem_nil, not_false_eq_true, Nat.sub_self, Nat.reduceSub, Nat.reduceAdd, if_true, if_false, Bool.false_eq_true, reduceCtorEq, false_and, and_false, or_false, false_or, and_self, Nat.zero_add, exists_eq', exists_eq, Sl.val.injEq, Sl.own.injEq, exists_const, tr_vnil, tr_vcons, tr_callX, pick_c, pick_n, List.getElem?_cons_zero, List.getElem?_cons_succ, Option.toList_some, tr_dict0, tr_dict1, ts_never, isi_tt, isi_ii, isi_bi, rev_t, rev_l, ts_dput, ts_update, getDc_o, asD_d, din_i, dnin_i, dget_i, key_i, Option.isSome_some, Option.isSome_none, List.map_id, id, isblk hN, all_b]
  refine ⟨fun _ _ => trivial, lenOk_of (by omega), ?_⟩
  by_cases ha : (ds.all fun d => (blk? s m N d).isSome) = true
  · rw [ha]
    obtain ⟨bs, rfl, hb⟩ := all_blk ha
    rw [pairs_map]
    simp only [tr_bnd, tr_lft, tr_con, tr_op2, tr_op2r, tr_op2b, tr_asB, tr_trB, tr_trBp, tr_and, tr_or, tr_not, tr_if, tr_andV, tr_orV, tr_notV, tr_neg, tr_chain, tr_nil, tr_cons, tr_tup, tr_lst, tr_pn, tr_ps, tr_sl, tr_c1, tr_c1p, tr_seqI, tr_rng1, tr_rng2, tr_rng3, tr_zip, tr_enum, tr_rtV, tr_rtO, tr_aNil, tr_aV, tr_call, tr_callT, ts_next, ts_break, ts_cont, ts_seq, ts_ret, ts_retO, ts_retN, ts_expr, ts_assign, as_name, as_nil, as_cons, as_tup, ts_own, ts_if, ts_for, ts_store, varK_v, varK_o, tr_yes, wipe_n, wipe_c, unw_n, unw_c, unw1_v, unw1_e, unw1_n, getQ_0, getQ_s, isOS_v, isOS_e, nl_i, nl_b, nl_n, nl_s, nl_t, eq_self, ts_par, pev_n, pev_v, pev_o, sets_n, sets_c, tr_bor, bor_c, bor_n, sok_e, sok_vv, sok_int, sok_ss, sok_o, rtd_v, rtd_o, rto_o, tu_var, tu_op2l, tu_slp, getO_o, getS_s, getX_v, tu_aL, tu_aS, tu_take, tu_aug, tu_append, tu_pop, tu_lenS, tu_ixS, outA, scrA, isOA, isSA, outS_o, scrS_s, isO_o, isS_s, lok_gen, lix_nil, lix_v, lix_l, lix_s, sok_nil, sok_v, sok_l, sok_s, at_0, at_1, getV_v, getV_o, getL_o, add_ii, sub_ii, mul_ii, mul_ti, mul_li, fdiv_ii, mod_ii, pow_ii, neg_i, cmp_ii, addI_ii, mulI_ii, eq_ii, ne_ii, eq_ss, ne_ss, asB_b, truth_b, truth_i, truth_l, truth_t, truth_n, asI_i, item_l, item_t, len_l, len_t, abs_i, int_i, int_b, tuple_l, tuple_t, list_l, list_t, max2_ii, min2_ii, seq_l, seq_t, slice_l, slice_t, rng1_i, rng2_i, zip_l, zip_t, zip_tl, zip_lt, enum_l, add_tt, add_ll, add_ss, repr_i, atI_0, atI_1, atI_2, ixN_0, ixN_1, ixN_2, ite_some, map_some, ex_and, ex_eq, bind_some, List.set_cons_zero, List.set_cons_succ, List.length_cons, List.length_nil, Option.some.injEq, decide_eq_true_eq, Bool.not_true, Bool.not_false, Bool.and_eq_true, Bool.or_eq_true, fillA, wbA, entry, entrySls, entrySl, List.replicate, List.cons_append, List.nil_append, trF_ok, List.append_nil, List.map_nil, List.map_cons, ownIx, and_assoc, exists_and_left, exists_eq_left', exists_eq_left, Rt.v.injEq, Rt.o.injEq, List.cons.injEq, PyData.int.injEq, PyData.list.injEq, PyData.tuple.injEq, and_true, true_and, List.all_cons, List.all_nil, List.nodup_cons, List.nodup_nil, decide_true, decide_false, Bool.and_true, Bool.true_and, List.mem_cons, List.not_mem_nil, not_false_eq_true, Nat.sub_self, Nat.reduceSub, Nat.reduceAdd, if_true, if_false, Bool.false_eq_true, reduceCtorEq, false_and, and_false, or_false, false_or, and_self, Nat.zero_add, exists_eq', exists_eq, Sl.val.injEq, Sl.own.injEq, exists_const, tr_vnil, tr_vcons, tr_callX, pick_c, pick_n, List.getElem?_cons_zero, List.getElem?_cons_succ, Option.toList_some, tr_dict0, tr_dict1, ts_never, isi_tt, isi_ii, isi_bi, rev_t, rev_l, ts_dput, ts_update, getDc_o, asD_d, din_i, dnin_i, dget_i, key_i, Option.isSome_some, Option.isSome_none]
    refine tr_lcA (fun p : (Int × Int) × (Int × Int) => PyData.tuple [prI p.1, prI p.2]) (nbs bs) (fun p => .bool (decide (p.1.1 + p.1.2 ≤ p.2.1))) ?_
    simp only [tr_bnd, tr_lft, tr_con, tr_op2, tr_op2r, tr_op2b, tr_asB, tr_trB, tr_trBp, tr_and, tr_or, tr_not, tr_if, tr_andV, tr_orV, tr_notV, tr_neg, tr_chain, tr_nil, tr_cons, tr_tup, tr_lst, tr_pn, tr_ps, tr_sl, tr_c1, tr_c1p, tr_seqI, tr_rng1, tr_rng2, tr_rng3, tr_zip, tr_enum, tr_rtV, tr_rtO, tr_aNil, tr_aV, tr_call, tr_callT, ts_next, ts_break, ts_cont, ts_seq, ts_ret, ts_retO, ts_retN, ts_expr, ts_assign, as_name, as_nil, as_cons, as_tup, ts_own, ts_if, ts_for, ts_store, varK_v, varK_o, tr_yes, wipe_n, wipe_c, unw_n, unw_c, unw1_v, unw1_e, unw1_n, getQ_0, getQ_s, isOS_v, isOS_e, nl_i, nl_b, nl_n, nl_s, nl_t, eq_self, ts_par, pev_n, pev_v, pev_o, sets_n, sets_c, tr_bor, bor_c, bor_n, sok_e, sok_vv, sok_int, sok_ss, sok_o, rtd_v, rtd_o, rto_o, tu_var, tu_op2l, tu_slp, getO_o, getS_s, getX_v, tu_aL, tu_aS, tu_take, tu_aug, tu_append, tu_pop, tu_lenS, tu_ixS, outA, scrA, isOA, isSA, outS_o, scrS_s, isO_o, isS_s, lok_gen, lix_nil, lix_v, lix_l, lix_s, sok_nil, sok_v, sok_l, sok_s, at_0, at_1, getV_v, getV_o, getL_o, add_ii, sub_ii, mul_ii, mul_ti, mul_li, fdiv_ii, mod_ii, pow_ii, neg_i, cmp_ii, addI_ii, mulI_ii, eq_ii, ne_ii, eq_ss, ne_ss, asB_b, truth_b, truth_i, truth_l, truth_t, truth_n, asI_i, item_l, item_t, len_l, len_t, abs_i, int_i, int_b, tuple_l, tuple_t, list_l, list_t, max2_ii, min2_ii, seq_l, seq_t, slice_l, slice_t, rng1_i, rng2_i, zip_l, zip_t, zip_tl, zip_lt, enum_l, add_tt, add_ll, add_ss, repr_i, atI_0, atI_1, atI_2, ixN_0, ixN_1, ixN_2, ite_some, map_some, ex_and, ex_eq, bind_some, List.set_cons_zero, List.set_cons_succ, List.length_cons, List.length_nil, Option.some.injEq, decide_eq_true_eq, Bool.not_true, Bool.not_false, Bool.and_eq_true, Bool.or_eq_true, fillA, wbA, entry, entrySls, entrySl, List.replicate, List.cons_append, List.nil_append, trF_ok, List.append_nil, List.map_nil, List.map_cons, ownIx, and_assoc, exists_and_left, exists_eq_left', exists_eq_left, Rt.v.injEq, Rt.o.injEq, List.cons.injEq, PyData.int.injEq, PyData.list.injEq, PyData.tuple.injEq, and_true, true_and, List.all_cons, List.all_nil, List.nodup_cons, List.nodup_nil, decide_true, decide_false, Bool.and_true, Bool.true_and, List.mem_cons, List.not_mem_nil, not_false_eq_true, Nat.sub_self, Nat.reduceSub, Nat.reduceAdd, if_true, if_false, Bool.false_eq_true, reduceCtorEq, false_and, and_false, or_false, false_or, and_self, Nat.zero_add, exists_eq', exists_eq, Sl.val.injEq, Sl.own.injEq, exists_const, tr_vnil, tr_vcons, tr_callX, pick_c, pick_n, List.getElem?_cons_zero, List.getElem?_cons_succ, Option.toList_some, tr_dict0, tr_dict1, ts_never, isi_tt, isi_ii, isi_bi, rev_t, rev_l, ts_dput, ts_update, getDc_o, asD_d, din_i, dnin_i, dget_i, key_i, Option.isSome_some, Option.isSome_none, show cut (bs.map prI) (some 1) none = (bs.map prI).drop 1 from cut_drop _ 1, zip_nbs, all_b, end_ok]
    refine ⟨fun p hp => ?_, lenOk_of ?_⟩
    · simp only [tr_bnd, tr_lft, tr_con, tr_op2, tr_op2r, tr_op2b, tr_asB, tr_trB, tr_trBp, tr_and, tr_or, tr_not, tr_if, tr_andV, tr_orV, tr_notV, tr_neg, tr_chain, tr_nil, tr_cons, tr_tup, tr_lst, tr_pn, tr_ps, tr_sl, tr_c1, tr_c1p, tr_seqI, tr_rng1, tr_rng2, tr_rng3, tr_zip, tr_enum, tr_rtV, tr_rtO, tr_aNil, tr_aV, tr_call, tr_callT, ts_next, ts_break, ts_cont, ts_seq, ts_ret, ts_retO, ts_retN, ts_expr, ts_assign, as_name, as_nil, as_cons, as_tup, ts_own, ts_if, ts_for, ts_store, varK_v, varK_o, tr_yes, wipe_n, wipe_c, unw_n, unw_c, unw1_v, unw1_e, unw1_n, getQ_0, getQ_s, isOS_v, isOS_e, nl_i, nl_b, nl_n, nl_s, nl_t, eq_self, ts_par, pev_n, pev_v, pev_o, sets_n, sets_c, tr_bor, bor_c, bor_n, sok_e, sok_vv, sok_int, sok_ss, sok_o, rtd_v, rtd_o, rto_o, tu_var, tu_op2l, tu_slp, getO_o, getS_s, getX_v, tu_aL, tu_aS, tu_take, tu_aug, tu_append, tu_pop, tu_lenS, tu_ixS, outA, scrA, isOA, isSA, outS_o, scrS_s, isO_o, isS_s, lok_gen, lix_nil, lix_v, lix_l, lix_s, sok_nil, sok_v, sok_l, sok_s, at_0, at_1, getV_v, getV_o, getL_o, add_ii, sub_ii, mul_ii, mul_ti, mul_li, fdiv_ii, mod_ii, pow_ii, neg_i, cmp_ii, addI_ii, mulI_ii, eq_ii, ne_ii, eq_ss, ne_ss, asB_b, truth_b, truth_i, truth_l, truth_t, truth_n, asI_i, item_l, item_t, len_l, len_t, abs_i, int_i, int_b, tuple_l, tuple_t, list_l, list_t, max2_ii, min2_ii, seq_l, seq_t, slice_l, slice_t, rng1_i, rng2_i, zip_l, zip_t, zip_tl, zip_lt, enum_l, add_tt, add_ll, add_ss, repr_i, atI_0, atI_1, atI_2, ixN_0, ixN_1, ixN_2, ite_some, map_some, ex_and, ex_eq, bind_some, List.set_cons_zero, List.set_cons_succ, List.length_cons, List.length_nil, Option.some.injEq, decide_eq_true_eq, Bool.not_true, Bool.not_false, Bool.and_eq_true, Bool.or_eq_true, fillA, wbA, entry, entrySls, entrySl, List.replicate, List.cons_append, List.nil_append, trF_ok, List.append_nil, List.map_nil, List.map_cons, ownIx, and_assoc, exists_and_left, exists_eq_left', exists_eq_left, Rt.v.injEq, Rt.o.injEq, List.cons.injEq, PyData.int.injEq, PyData.list.injEq, PyData.tuple.injEq, and_true, true_and, List.all_cons, List.all_nil, List.nodup_cons, List.nodup_nil, decide_true, decide_false, Bool.and_true, Bool.true_and, List.mem_cons, List.not_mem_nil, not_false_eq_true, Nat.sub_self, Nat.reduceSub, Nat.reduceAdd, if_true, if_false, Bool.false_eq_true, reduceCtorEq, false_and, and_false, or_false, false_or, and_self, Nat.zero_add, exists_eq', exists_eq, Sl.val.injEq, Sl.own.injEq, exists_const, tr_vnil, tr_vcons, tr_callX, pick_c, pick_n, List.getElem?_cons_zero, List.getElem?_cons_succ, Option.toList_some, tr_dict0, tr_dict1, ts_never, isi_tt, isi_ii, isi_bi, rev_t, rev_l, ts_dput, ts_update, getDc_o, asD_d, din_i, dnin_i, dget_i, key_i, Option.isSome_some, Option.isSome_none, prI]
    · have := nbs_len (ns := bs)
      simp only [List.length_map] at hl
      omega
  · simp only [Bool.not_eq_true] at ha
    simp [ha]
end
section
variable {s : Nat → Int} {m : Nat} {N : Int}
def okN (bs : List (Int × Int)) : Bool := (nbs bs).all fun p => decide (p.1.1 + p.1.2 ≤ p.2.1)
theorem okN_snoc {bs : List (Int × Int)} {q p : Int × Int} : okN (bs ++ [q] ++ [p]) = (okN (bs ++ [q]) && decide (q.1 + q.2 ≤ p.1)) := by
  unfold okN
  rw [nbs_snoc, List.all_append]
  simp
theorem okN_le : ∀ {bs : List (Int × Int)} {q : Int × Int}, okN (bs ++ [q]) = true → (∀ b ∈ bs ++ [q], 0 ≤ b.2) → ∀ b ∈ bs ++ [q], b.1 + b.2 ≤ q.1 + q.2 := by
  intro bs
  induction hn : bs.length generalizing bs with
  | zero =>
    intro q _ _ b hb
    have : bs = [] := List.length_eq_zero_iff.mp hn
    subst this
    have : b = q := by simpa using hb
    subst this
    exact Int.le_refl _
  | succ n ih =>
    intro q h hp b hb
    obtain ⟨bs', q', rfl⟩ := SrtO.snoc_of (l := bs) (by omega)
    rw [okN_snoc, Bool.and_eq_true] at h
    have h2 : q'.1 + q'.2 ≤ q.1 := by simpa using h.2
    have h3 := hp q (by simp)
    rcases List.mem_append.mp hb with hb | hb
    · have := ih (bs := bs') (by simp at hn; omega) h.1 (fun c hc => hp c (List.mem_append_left _ hc)) b hb
      omega
    · rw [List.mem_singleton.mp hb]; exact Int.le_refl _
theorem nbs_mid {α : Type} {q p : α} {r : List α} : ∀ {l : List α}, (q, p) ∈ nbs (l ++ q :: p :: r)
  | [] => by rw [List.nil_append, nbs_two]; exact List.mem_cons_self
  | [a] => by rw [List.cons_append, List.nil_append, nbs_two]; exact List.mem_cons_of_mem _ (nbs_mid (l := []))
  | a :: a' :: l => by
    rw [List.cons_append, List.cons_append, nbs_two]
    exact List.mem_cons_of_mem _ (nbs_mid (l := a' :: l))
theorem st_blk {ds : List PyData} {d : PyData} (hd : d ∈ ds) (h : blk? s m N d = none) : stB s m N (.tuple ds) = false := by
  show ((ds.all fun d => (blk? s m N d).isSome) && _) = false
  have : (ds.all fun d => (blk? s m N d).isSome) = false := by
    rw [List.all_eq_false]
    exact ⟨d, hd, by rw [h]; simp⟩
  rw [this]; rfl
theorem st_nb {ds : List PyData} {i : Nat} {bs : List (Int × Int)} {q p : Int × Int} (ht : ds.take i = (bs ++ [q]).map prI) (hd : ds[i]? = some (prI p)) (h : ¬ q.1 + q.2 ≤ p.1) : stB s m N (.tuple ds) = false := by
  cases hs : stB s m N (.tuple ds) with
  | false => rfl
  | true =>
    have hs : ((ds.all fun d => (blk? s m N d).isSome) && (match pairs? ds with
      | some bs => (nbs bs).all fun p => decide (p.1.1 + p.1.2 ≤ p.2.1)
      | none => false)) = true := hs
    rw [Bool.and_eq_true] at hs
    obtain ⟨cs, rfl, hc⟩ := all_blk hs.1
    have h2 := hs.2
    rw [pairs_map] at h2
    have e1 : cs = cs.take i ++ cs.drop i := (List.take_append_drop i cs).symm
    have inj : ∀ {xs ys : List (Int × Int)}, xs.map prI = ys.map prI → xs = ys := fun {xs ys} e => by
      have := congrArg pairs? e
      rw [pairs_map, pairs_map] at this
      exact Option.some.inj this
    rw [← List.map_take] at ht
    have e2 := inj ht
    rw [List.getElem?_map] at hd
    obtain ⟨p', hp', ep⟩ := Option.map_eq_some_iff.mp hd
    have e3 : p' = p := by
      have := inj (xs := [p']) (ys := [p]) (by simp [ep])
      simpa using this
    subst e3
    obtain ⟨hi, ei⟩ := List.getElem?_eq_some_iff.mp hp'
    have e4 : cs.drop i = p' :: cs.drop (i + 1) := by rw [List.drop_eq_getElem_cons hi, ei]
    rw [e2, e4, List.append_assoc] at e1
    have hm : (q, p') ∈ nbs cs := by
      rw [e1]
      exact nbs_mid
    have := (List.all_eq_true.mp h2) _ hm
    exact absurd (by simpa using this) h
theorem st_true {ds : List PyData} {bs : List (Int × Int)} (e : ds = bs.map prI) (hb : ∀ b ∈ bs, okB s m N b) (hn : okN bs = true) : stB s m N (.tuple ds) = true := by
  subst e
  show (((bs.map prI).all fun d => (blk? s m N d).isSome) && (match pairs? (bs.map prI) with
      | some bs => (nbs bs).all fun p => decide (p.1.1 + p.1.2 ≤ p.2.1)
      | none => false)) = true
  rw [Bool.and_eq_true]
  refine ⟨?_, ?_⟩
  · rw [List.all_eq_true]
    intro d hd
    obtain ⟨p, hp, rfl⟩ := List.mem_map.mp hd
    rw [blk_pr (hb p hp)]; rfl
  · rw [pairs_map]; exact hn
end
theorem stt_true {s : Nat → Int} {m : Nat} {N : Int} {bs : List (Int × Int)} (hs : Szs s) (h : Stt s m N bs) : stB s m N (.tuple (bs.map prI)) = true := by
  refine st_true rfl (fun b hb => ?_) ?_
  · have h1 := h.blk b hb
    have h2 := h1.pos hs
    obtain ⟨⟨i, hi, e⟩, h3, h4, h5⟩ := h1
    exact ⟨by omega, List.mem_map.mpr ⟨i, by simp; omega, e.symm⟩, h3, h4, h5⟩
  · unfold okN
    rw [List.all_eq_true]
    have go : ∀ {l : List (Int × Int)}, l.Pairwise Bef → ∀ p ∈ nbs l, p.1.1 + p.1.2 ≤ p.2.1 := fun {l} => by
      induction l with
      | nil => intro _ p hp; cases hp
      | cons a l ih =>
        intro h p hp
        obtain ⟨h1, h2⟩ := List.pairwise_cons.mp h
        cases l with
        | nil => cases hp
        | cons c l =>
          rw [nbs_two] at hp
          rcases List.mem_cons.mp hp with rfl | hp
          · exact h1 c (by simp)
          · exact ih h2 p hp
    intro p hp
    exact decide_eq_true (go h.ord p hp)
end Lk16

namespace Lk16
open PySem PySem.Spec L2 PL BT
theorem take_ok {p : PyData} {u : Int} (hp : Pot p) (hu : 0 < u) (hu2 : u < 18446744073709551616) :
    ∃ d p', f_l_take [p, .int u] = .ok (.v (.int d)) [p'] ∧ Pot p' ∧ 0 ≤ d ∧ d < u := by
  obtain ⟨g, s, rfl, hg, hg2, hs, hs2⟩ := hp
  have h : TrF (f_l_take [.list [.int g, .int s], .int u]) (fun r o => ∃ d p', r = .v (.int d) ∧ o = [p'] ∧ Pot p' ∧ 0 ≤ d ∧ d < u) noxF := by
    unfold f_l_take m_l_take
    rw [trF_body]
    simp only [tr_bnd, tr_lft, tr_con, tr_op2, tr_op2r, tr_op2b, tr_asB, tr_trB, tr_trBp, tr_and, tr_or, tr_not, tr_if, tr_andV, tr_orV, tr_notV, tr_neg, tr_chain, tr_nil, tr_cons, tr_tup, tr_lst, tr_pn, tr_ps, tr_sl, tr_c1, tr_c1p, tr_seqI, tr_rng1, tr_rng2, tr_rng3, tr_zip, tr_enum, tr_rtV, tr_rtO, tr_aNil, tr_aV, tr_call, tr_callT, ts_next, ts_break, ts_cont, ts_seq, ts_ret, ts_retO, ts_retN, ts_expr, ts_assign, as_name, as_nil, as_cons, as_tup, ts_own, ts_if, ts_for, ts_store, varK_v, varK_o, tr_yes, wipe_n, wipe_c, unw_n, unw_c, unw1_v, unw1_e, unw1_n, getQ_0, getQ_s, isOS_v, isOS_e, nl_i, nl_b, nl_n, nl_s, nl_t, eq_self, ts_par, pev_n, pev_v, pev_o, sets_n, sets_c, tr_bor, bor_c, bor_n, sok_e, sok_vv, sok_int, sok_ss, sok_o, rtd_v, rtd_o, rto_o, tu_var, tu_op2l, tu_slp, getO_o, getS_s, getX_v, tu_aL, tu_aS, tu_take, tu_aug, tu_append, tu_pop, tu_lenS, tu_ixS, outA, scrA, isOA, isSA, outS_o, scrS_s, isO_o, isS_s, lok_gen, lix_nil, lix_v, lix_l, lix_s, sok_nil, sok_v, sok_l, sok_s, at_0, at_1, getV_v, getV_o, getL_o, add_ii, sub_ii, mul_ii, mul_ti, mul_li, fdiv_ii, mod_ii, pow_ii, neg_i, cmp_ii, addI_ii, mulI_ii, eq_ii, ne_ii, eq_ss, ne_ss, asB_b, truth_b, truth_i, truth_l, truth_t, truth_n, asI_i, item_l, item_t, len_l, len_t, abs_i, int_i, int_b, tuple_l, tuple_t, list_l, list_t, max2_ii, min2_ii, seq_l, seq_t, slice_l, slice_t, rng1_i, rng2_i, zip_l, zip_t, zip_tl, zip_lt, enum_l, add_tt, add_ll, add_ss, repr_i, atI_0, atI_1, atI_2, ixN_0, ixN_1, ixN_2, ite_some, map_some, ex_and, ex_eq, bind_some, List.set_cons_zero, List.set_cons_succ, List.length_cons, List.length_nil, Option.some.injEq, decide_eq_true_eq, Bool.not_true, Bool.not_false, Bool.and_eq_true, Bool.or_eq_true, fillA, wbA, entry, entrySls, entrySl, List.replicate, List.cons_append, List.nil_append, trF_ok, List.append_nil, List.map_nil, List.map_cons, ownIx, and_assoc, exists_and_left, exists_eq_left', exists_eq_left, Rt.v.injEq, Rt.o.injEq, List.cons.injEq, PyData.int.injEq, PyData.list.injEq, PyData.tuple.injEq, and_true, true_and, List.all_cons, List.all_nil, List.nodup_cons, List.nodup_nil, decide_true, decide_false, Bool.and_true, Bool.true_and, List.mem_cons, List.not_mem_nil, not_false_eq_true, Nat.sub_self, Nat.reduceSub, Nat.reduceAdd, if_true, if_false, Bool.false_eq_true, reduceCtorEq, false_and, and_false, or_false, false_or, and_self, Nat.zero_add, exists_eq', exists_eq, Sl.val.injEq, Sl.own.injEq, exists_const, tr_vnil, tr_vcons, tr_callX, pick_c, pick_n, List.getElem?_cons_zero, List.getElem?_cons_succ, Option.toList_some, tr_dict0, tr_dict1, ts_never, isi_tt, isi_ii, isi_bi, rev_t, rev_l, ts_dput, ts_update, getDc_o, asD_d, din_i, dnin_i, dget_i, key_i, Option.isSome_some, Option.isSome_none]
    have hp (s' : Int) (h1 : 0 ≤ s') (h2 : s' < 2305843009213693951) (g' : Int) (h3 : 0 ≤ g') (h4 : g' ≤ g) : Pot (.list [.int g', .int s']) := ⟨g', s', rfl, h3, by omega, h1, h2⟩
    split
    · exact ⟨hu, fdOk_s hu (by omega), hp _ hs hs2 _ (Int.ediv_nonneg hg (by omega)) (Int.ediv_le_self _ hg), Int.emod_nonneg _ (by omega), Int.emod_lt_of_pos _ hu⟩
    · have := Int.emod_nonneg (s * 1181783497276652981 + 12345678910987) (b := 2305843009213693951) (by decide)
      have := Int.emod_lt_of_pos (s * 1181783497276652981 + 12345678910987) (b := 2305843009213693951) (by decide)
      exact ⟨mulOk_r (by decide), by decide, fdOk_s (by decide) (by decide), by decide, mulOk_r (by omega), by decide, fdOk_s (by decide) (by decide), hu,
        hp _ (by assumption) (by assumption) _ hg (Int.le_refl _), Int.emod_nonneg _ (by omega), Int.emod_lt_of_pos _ hu⟩
  obtain ⟨r, o, e, d, p', rfl, rfl, h1, h2, h3⟩ := trF_ex h
  exact ⟨d, p', e, h1, h2, h3⟩
theorem of_ok {p : PyData} {xs : List PyData} (hp : Pot p) (h0 : 0 < xs.length) (h1 : xs.length < 1000) :
    ∃ d p', f_l_of [p, .list xs] = .ok (.v d) [p'] ∧ Pot p' ∧ d ∈ xs := by
  have h : TrF (f_l_of [p, .list xs]) (fun r o => ∃ d p', r = .v d ∧ o = [p'] ∧ Pot p' ∧ d ∈ xs) noxF := by
    unfold f_l_of m_l_of
    rw [trF_body]
    simp only [tr_bnd, tr_lft, tr_con, tr_op2, tr_op2r, tr_op2b, tr_asB, tr_trB, tr_trBp, tr_and, tr_or, tr_not, tr_if, tr_andV, tr_orV, tr_notV, tr_neg, tr_chain, tr_nil, tr_cons, tr_tup, tr_lst, tr_pn, tr_ps, tr_sl, tr_c1, tr_c1p, tr_seqI, tr_rng1, tr_rng2, tr_rng3, tr_zip, tr_enum, tr_rtV, tr_rtO, tr_aNil, tr_aV, tr_call, tr_callT, ts_next, ts_break, ts_cont, ts_seq, ts_ret, ts_retO, ts_retN, ts_expr, ts_assign, as_name, as_nil, as_cons, as_tup, ts_own, ts_if, ts_for, ts_store, varK_v, varK_o, tr_yes, wipe_n, wipe_c, unw_n, unw_c, unw1_v, unw1_e, unw1_n, getQ_0, getQ_s, isOS_v, isOS_e, nl_i, nl_b, nl_n, nl_s, nl_t, eq_self, ts_par, pev_n, pev_v, pev_o, sets_n, sets_c, tr_bor, bor_c, bor_n, sok_e, sok_vv, sok_int, sok_ss, sok_o, rtd_v, rtd_o, rto_o, tu_var, tu_op2l, tu_slp, getO_o, getS_s, getX_v, tu_aL, tu_aS, tu_take, tu_aug, tu_append, tu_pop, tu_lenS, tu_ixS, outA, scrA, isOA, isSA, outS_o, scrS_s, isO_o, isS_s, lok_gen, lix_nil, lix_v, lix_l, lix_s, sok_nil, sok_v, sok_l, sok_s, at_0, at_1, getV_v, getV_o, getL_o, add_ii, sub_ii, mul_ii, mul_ti, mul_li, fdiv_ii, mod_ii, pow_ii, neg_i, cmp_ii, addI_ii, mulI_ii, eq_ii, ne_ii, eq_ss, ne_ss, asB_b, truth_b, truth_i, truth_l, truth_t, truth_n, asI_i, item_l, item_t, len_l, len_t, abs_i, int_i, int_b, tuple_l, tuple_t, list_l, list_t, max2_ii, min2_ii, seq_l, seq_t, slice_l, slice_t, rng1_i, rng2_i, zip_l, zip_t, zip_tl, zip_lt, enum_l, add_tt, add_ll, add_ss, repr_i, atI_0, atI_1, atI_2, ixN_0, ixN_1, ixN_2, ite_some, map_some, ex_and, ex_eq, bind_some, List.set_cons_zero, List.set_cons_succ, List.length_cons, List.length_nil, Option.some.injEq, decide_eq_true_eq, Bool.not_true, Bool.not_false, Bool.and_eq_true, Bool.or_eq_true, fillA, wbA, entry, entrySls, entrySl, List.replicate, List.cons_append, List.nil_append, trF_ok, List.append_nil, List.map_nil, List.map_cons, ownIx, and_assoc, exists_and_left, exists_eq_left', exists_eq_left, Rt.v.injEq, Rt.o.injEq, List.cons.injEq, PyData.int.injEq, PyData.list.injEq, PyData.tuple.injEq, and_true, true_and, List.all_cons, List.all_nil, List.nodup_cons, List.nodup_nil, decide_true, decide_false, Bool.and_true, Bool.true_and, List.mem_cons, List.not_mem_nil, not_false_eq_true, Nat.sub_self, Nat.reduceSub, Nat.reduceAdd, if_true, if_false, Bool.false_eq_true, reduceCtorEq, false_and, and_false, or_false, false_or, and_self, Nat.zero_add, exists_eq', exists_eq, Sl.val.injEq, Sl.own.injEq, exists_const, tr_vnil, tr_vcons, tr_callX, pick_c, pick_n, List.getElem?_cons_zero, List.getElem?_cons_succ, Option.toList_some, tr_dict0, tr_dict1, ts_never, isi_tt, isi_ii, isi_bi, rev_t, rev_l, ts_dput, ts_update, getDc_o, asD_d, din_i, dnin_i, dget_i, key_i, Option.isSome_some, Option.isSome_none]
    obtain ⟨d, p', e, h2, h3, h4⟩ := take_ok (u := xs.length) hp (by omega) (by omega)
    have h5 : d.toNat < xs.length := by omega
    have e2 : atI xs d = some (xs[d.toNat]) := by
      have := atI_nat (xs := xs) (j := d.toNat) (v := xs[d.toNat]) (List.getElem?_eq_getElem h5)
      rwa [Int.toNat_of_nonneg h3] at this
    simp only [e, e2, tr_bnd, tr_lft, tr_con, tr_op2, tr_op2r, tr_op2b, tr_asB, tr_trB, tr_trBp, tr_and, tr_or, tr_not, tr_if, tr_andV, tr_orV, tr_notV, tr_neg, tr_chain, tr_nil, tr_cons, tr_tup, tr_lst, tr_pn, tr_ps, tr_sl, tr_c1, tr_c1p, tr_seqI, tr_rng1, tr_rng2, tr_rng3, tr_zip, tr_enum, tr_rtV, tr_rtO, tr_aNil, tr_aV, tr_call, tr_callT, ts_next, ts_break, ts_cont, ts_seq, ts_ret, ts_retO, ts_retN, ts_expr, ts_assign, as_name, as_nil, as_cons, as_tup, ts_own, ts_if, ts_for, ts_store, varK_v, varK_o, tr_yes, wipe_n, wipe_c, unw_n, unw_c, unw1_v, unw1_e, unw1_n, getQ_0, getQ_s, isOS_v, isOS_e, nl_i, nl_b, nl_n, nl_s, nl_t, eq_self, ts_par, pev_n, pev_v, pev_o, sets_n, sets_c, tr_bor, bor_c, bor_n, sok_e, sok_vv, sok_int, sok_ss, sok_o, rtd_v, rtd_o, rto_o, tu_var, tu_op2l, tu_slp, getO_o, getS_s, getX_v, tu_aL, tu_aS, tu_take, tu_aug, tu_append, tu_pop, tu_lenS, tu_ixS, outA, scrA, isOA, isSA, outS_o, scrS_s, isO_o, isS_s, lok_gen, lix_nil, lix_v, lix_l, lix_s, sok_nil, sok_v, sok_l, sok_s, at_0, at_1, getV_v, getV_o, getL_o, add_ii, sub_ii, mul_ii, mul_ti, mul_li, fdiv_ii, mod_ii, pow_ii, neg_i, cmp_ii, addI_ii, mulI_ii, eq_ii, ne_ii, eq_ss, ne_ss, asB_b, truth_b, truth_i, truth_l, truth_t, truth_n, asI_i, item_l, item_t, len_l, len_t, abs_i, int_i, int_b, tuple_l, tuple_t, list_l, list_t, max2_ii, min2_ii, seq_l, seq_t, slice_l, slice_t, rng1_i, rng2_i, zip_l, zip_t, zip_tl, zip_lt, enum_l, add_tt, add_ll, add_ss, repr_i, atI_0, atI_1, atI_2, ixN_0, ixN_1, ixN_2, ite_some, map_some, ex_and, ex_eq, bind_some, List.set_cons_zero, List.set_cons_succ, List.length_cons, List.length_nil, Option.some.injEq, decide_eq_true_eq, Bool.not_true, Bool.not_false, Bool.and_eq_true, Bool.or_eq_true, fillA, wbA, entry, entrySls, entrySl, List.replicate, List.cons_append, List.nil_append, trF_ok, List.append_nil, List.map_nil, List.map_cons, ownIx, and_assoc, exists_and_left, exists_eq_left', exists_eq_left, Rt.v.injEq, Rt.o.injEq, List.cons.injEq, PyData.int.injEq, PyData.list.injEq, PyData.tuple.injEq, and_true, true_and, List.all_cons, List.all_nil, List.nodup_cons, List.nodup_nil, decide_true, decide_false, Bool.and_true, Bool.true_and, List.mem_cons, List.not_mem_nil, not_false_eq_true, Nat.sub_self, Nat.reduceSub, Nat.reduceAdd, if_true, if_false, Bool.false_eq_true, reduceCtorEq, false_and, and_false, or_false, false_or, and_self, Nat.zero_add, exists_eq', exists_eq, Sl.val.injEq, Sl.own.injEq, exists_const, tr_vnil, tr_vcons, tr_callX, pick_c, pick_n, List.getElem?_cons_zero, List.getElem?_cons_succ, Option.toList_some, tr_dict0, tr_dict1, ts_never, isi_tt, isi_ii, isi_bi, rev_t, rev_l, ts_dput, ts_update, getDc_o, asD_d, din_i, dnin_i, dget_i, key_i, Option.isSome_some, Option.isSome_none]
    exact ⟨h2, List.getElem_mem h5⟩
  obtain ⟨r, o, e, d, p', rfl, rfl, h1, h2⟩ := trF_ex h
  exact ⟨d, p', e, h1, h2⟩
theorem pot_ok {ns : List Int} {k : Int} (h0 : 0 ≤ k) (h1 : k < 1000) (hn : ns.length ≤ 63) :
    ∃ p, f_l_pot [.list (ns.map PyData.int), .int k] = .ok (.o p) [] ∧ Pot p := by
  have h : TrF (f_l_pot [.list (ns.map PyData.int), .int k]) (fun r o => ∃ p, r = .o p ∧ o = [] ∧ Pot p) noxF := by
    unfold f_l_pot m_l_pot
    rw [trF_body]
    simp only [tr_bnd, tr_lft, tr_con, tr_op2, tr_op2r, tr_op2b, tr_asB, tr_trB, tr_trBp, tr_and, tr_or, tr_not, tr_if, tr_andV, tr_orV, tr_notV, tr_neg, tr_chain, tr_nil, tr_cons, tr_tup, tr_lst, tr_pn, tr_ps, tr_sl, tr_c1, tr_c1p, tr_seqI, tr_rng1, tr_rng2, tr_rng3, tr_zip, tr_enum, tr_rtV, tr_rtO, tr_aNil, tr_aV, tr_call, tr_callT, ts_next, ts_break, ts_cont, ts_seq, ts_ret, ts_retO, ts_retN, ts_expr, ts_assign, as_name, as_nil, as_cons, as_tup, ts_own, ts_if, ts_for, ts_store, varK_v, varK_o, tr_yes, wipe_n, wipe_c, unw_n, unw_c, unw1_v, unw1_e, unw1_n, getQ_0, getQ_s, isOS_v, isOS_e, nl_i, nl_b, nl_n, nl_s, nl_t, eq_self, ts_par, pev_n, pev_v, pev_o, sets_n, sets_c, tr_bor, bor_c, bor_n, sok_e, sok_vv, sok_int, sok_ss, sok_o, rtd_v, rtd_o, rto_o, tu_var, tu_op2l, tu_slp, getO_o, getS_s, getX_v, tu_aL, tu_aS, tu_take, tu_aug, tu_append, tu_pop, tu_lenS, tu_ixS, outA, scrA, isOA, isSA, outS_o, scrS_s, isO_o, isS_s, lok_gen, lix_nil, lix_v, lix_l, lix_s, sok_nil, sok_v, sok_l, sok_s, at_0, at_1, getV_v, getV_o, getL_o, add_ii, sub_ii, mul_ii, mul_ti, mul_li, fdiv_ii, mod_ii, pow_ii, neg_i, cmp_ii, addI_ii, mulI_ii, eq_ii, ne_ii, eq_ss, ne_ss, asB_b, truth_b, truth_i, truth_l, truth_t, truth_n, asI_i, item_l, item_t, len_l, len_t, abs_i, int_i, int_b, tuple_l, tuple_t, list_l, list_t, max2_ii, min2_ii, seq_l, seq_t, slice_l, slice_t, rng1_i, rng2_i, zip_l, zip_t, zip_tl, zip_lt, enum_l, add_tt, add_ll, add_ss, repr_i, atI_0, atI_1, atI_2, ixN_0, ixN_1, ixN_2, ite_some, map_some, ex_and, ex_eq, bind_some, List.set_cons_zero, List.set_cons_succ, List.length_cons, List.length_nil, Option.some.injEq, decide_eq_true_eq, Bool.not_true, Bool.not_false, Bool.and_eq_true, Bool.or_eq_true, fillA, wbA, entry, entrySls, entrySl, List.replicate, List.cons_append, List.nil_append, trF_ok, List.append_nil, List.map_nil, List.map_cons, ownIx, and_assoc, exists_and_left, exists_eq_left', exists_eq_left, Rt.v.injEq, Rt.o.injEq, List.cons.injEq, PyData.int.injEq, PyData.list.injEq, PyData.tuple.injEq, and_true, true_and, List.all_cons, List.all_nil, List.nodup_cons, List.nodup_nil, decide_true, decide_false, Bool.and_true, Bool.true_and, List.mem_cons, List.not_mem_nil, not_false_eq_true, Nat.sub_self, Nat.reduceSub, Nat.reduceAdd, if_true, if_false, Bool.false_eq_true, reduceCtorEq, false_and, and_false, or_false, false_or, and_self, Nat.zero_add, exists_eq', exists_eq, Sl.val.injEq, Sl.own.injEq, exists_const, tr_vnil, tr_vcons, tr_callX, pick_c, pick_n, List.getElem?_cons_zero, List.getElem?_cons_succ, Option.toList_some, tr_dict0, tr_dict1, ts_never, isi_tt, isi_ii, isi_bi, rev_t, rev_l, ts_dput, ts_update, getDc_o, asD_d, din_i, dnin_i, dget_i, key_i, Option.isSome_some, Option.isSome_none, z900, o900, int_ten, scr_ints, pow18]
    have h2 := G900_pos
    have hk : (7919 * k).natAbs < 2 ^ 64 := by omega
    split
    · rename_i hlt
      have e2 : atI ns k = some (ns[k.toNat]'(by omega)) := by
        have := atI_nat (xs := ns) (j := k.toNat) (v := ns[k.toNat]'(by omega)) (List.getElem?_eq_getElem (by omega))
        rwa [Int.toNat_of_nonneg h0] at this
      simp only [e2, tr_bnd, tr_lft, tr_con, tr_op2, tr_op2r, tr_op2b, tr_asB, tr_trB, tr_trBp, tr_and, tr_or, tr_not, tr_if, tr_andV, tr_orV, tr_notV, tr_neg, tr_chain, tr_nil, tr_cons, tr_tup, tr_lst, tr_pn, tr_ps, tr_sl, tr_c1, tr_c1p, tr_seqI, tr_rng1, tr_rng2, tr_rng3, tr_zip, tr_enum, tr_rtV, tr_rtO, tr_aNil, tr_aV, tr_call, tr_callT, ts_next, ts_break, ts_cont, ts_seq, ts_ret, ts_retO, ts_retN, ts_expr, ts_assign, as_name, as_nil, as_cons, as_tup, ts_own, ts_if, ts_for, ts_store, varK_v, varK_o, tr_yes, wipe_n, wipe_c, unw_n, unw_c, unw1_v, unw1_e, unw1_n, getQ_0, getQ_s, isOS_v, isOS_e, nl_i, nl_b, nl_n, nl_s, nl_t, eq_self, ts_par, pev_n, pev_v, pev_o, sets_n, sets_c, tr_bor, bor_c, bor_n, sok_e, sok_vv, sok_int, sok_ss, sok_o, rtd_v, rtd_o, rto_o, tu_var, tu_op2l, tu_slp, getO_o, getS_s, getX_v, tu_aL, tu_aS, tu_take, tu_aug, tu_append, tu_pop, tu_lenS, tu_ixS, outA, scrA, isOA, isSA, outS_o, scrS_s, isO_o, isS_s, lok_gen, lix_nil, lix_v, lix_l, lix_s, sok_nil, sok_v, sok_l, sok_s, at_0, at_1, getV_v, getV_o, getL_o, add_ii, sub_ii, mul_ii, mul_ti, mul_li, fdiv_ii, mod_ii, pow_ii, neg_i, cmp_ii, addI_ii, mulI_ii, eq_ii, ne_ii, eq_ss, ne_ss, asB_b, truth_b, truth_i, truth_l, truth_t, truth_n, asI_i, item_l, item_t, len_l, len_t, abs_i, int_i, int_b, tuple_l, tuple_t, list_l, list_t, max2_ii, min2_ii, seq_l, seq_t, slice_l, slice_t, rng1_i, rng2_i, zip_l, zip_t, zip_tl, zip_lt, enum_l, add_tt, add_ll, add_ss, repr_i, atI_0, atI_1, atI_2, ixN_0, ixN_1, ixN_2, ite_some, map_some, ex_and, ex_eq, bind_some, List.set_cons_zero, List.set_cons_succ, List.length_cons, List.length_nil, Option.some.injEq, decide_eq_true_eq, Bool.not_true, Bool.not_false, Bool.and_eq_true, Bool.or_eq_true, fillA, wbA, entry, entrySls, entrySl, List.replicate, List.cons_append, List.nil_append, trF_ok, List.append_nil, List.map_nil, List.map_cons, ownIx, and_assoc, exists_and_left, exists_eq_left', exists_eq_left, Rt.v.injEq, Rt.o.injEq, List.cons.injEq, PyData.int.injEq, PyData.list.injEq, PyData.tuple.injEq, and_true, true_and, List.all_cons, List.all_nil, List.nodup_cons, List.nodup_nil, decide_true, decide_false, Bool.and_true, Bool.true_and, List.mem_cons, List.not_mem_nil, not_false_eq_true, Nat.sub_self, Nat.reduceSub, Nat.reduceAdd, if_true, if_false, Bool.false_eq_true, reduceCtorEq, false_and, and_false, or_false, false_or, and_self, Nat.zero_add, exists_eq', exists_eq, Sl.val.injEq, Sl.own.injEq, exists_const, tr_vnil, tr_vcons, tr_callX, pick_c, pick_n, List.getElem?_cons_zero, List.getElem?_cons_succ, Option.toList_some, tr_dict0, tr_dict1, ts_never, isi_tt, isi_ii, isi_bi, rev_t, rev_l, ts_dput, ts_update, getDc_o, asD_d, din_i, dnin_i, dget_i, key_i, Option.isSome_some, Option.isSome_none]
      and_intros
      all_goals first | exact pot_mk (k := 0) | exact len1900 | exact mulOk_l hk | (first | assumption | decide | omega | exact mulOk_if | exact mulOk_l (by first | decide | omega) | exact mulOk_r (by first | decide | omega) | exact fdOk_s (by first | decide | omega) (by first | decide | omega) | exact lenOk_of (by first | decide | omega) | exact rOk_of (by first | decide | omega) (by first | decide | omega))
    · and_intros
      all_goals first | exact pot_mk (k := 0) | exact len1900 | exact mulOk_l hk | (first | assumption | decide | omega | exact mulOk_if | exact mulOk_l (by first | decide | omega) | exact mulOk_r (by first | decide | omega) | exact fdOk_s (by first | decide | omega) (by first | decide | omega) | exact lenOk_of (by first | decide | omega) | exact rOk_of (by first | decide | omega) (by first | decide | omega))
  obtain ⟨r, o, e, p, rfl, rfl, h1⟩ := trF_ex h
  exact ⟨p, e, h1⟩
end Lk16

namespace Lk16
open PySem PySem.Spec L2 PL BT
theorem links_ok {p : PyData} {most : Int} (hp : Pot p) (h1 : 1 ≤ most) (h2 : most ≤ 1000000000) :
    ∃ qs p', f_l_links [p, .int most] = .ok (.v (.tuple ((chn qs).map PyData.int))) [p'] ∧ Pot p' ∧ (∀ q ∈ qs, 2 ≤ q) ∧ (prodQ qs : Int) ≤ most ∧ qs.length ≤ 11 := by
  have h : TrF (f_l_links [p, .int most]) (fun r o => ∃ qs p', r = .v (.tuple ((chn qs).map PyData.int)) ∧ o = [p'] ∧ Pot p' ∧ (∀ q ∈ qs, 2 ≤ q) ∧ (prodQ qs : Int) ≤ most ∧ qs.length ≤ 11) noxF := by
    unfold f_l_links m_l_links
    rw [trF_body]
    simp only [tr_bnd, tr_lft, tr_con, tr_op2, tr_op2r, tr_op2b, tr_asB, tr_trB, tr_trBp, tr_and, tr_or, tr_not, tr_if, tr_andV, tr_orV, tr_notV, tr_neg, tr_chain, tr_nil, tr_cons, tr_tup, tr_lst, tr_pn, tr_ps, tr_sl, tr_c1, tr_c1p, tr_seqI, tr_rng1, tr_rng2, tr_rng3, tr_zip, tr_enum, tr_rtV, tr_rtO, tr_aNil, tr_aV, tr_call, tr_callT, ts_next, ts_break, ts_cont, ts_seq, ts_ret, ts_retO, ts_retN, ts_expr, ts_assign, as_name, as_nil, as_cons, as_tup, ts_own, ts_if, ts_for, ts_store, varK_v, varK_o, tr_yes, wipe_n, wipe_c, unw_n, unw_c, unw1_v, unw1_e, unw1_n, getQ_0, getQ_s, isOS_v, isOS_e, nl_i, nl_b, nl_n, nl_s, nl_t, eq_self, ts_par, pev_n, pev_v, pev_o, sets_n, sets_c, tr_bor, bor_c, bor_n, sok_e, sok_vv, sok_int, sok_ss, sok_o, rtd_v, rtd_o, rto_o, tu_var, tu_op2l, tu_slp, getO_o, getS_s, getX_v, tu_aL, tu_aS, tu_take, tu_aug, tu_append, tu_pop, tu_lenS, tu_ixS, outA, scrA, isOA, isSA, outS_o, scrS_s, isO_o, isS_s, lok_gen, lix_nil, lix_v, lix_l, lix_s, sok_nil, sok_v, sok_l, sok_s, at_0, at_1, getV_v, getV_o, getL_o, add_ii, sub_ii, mul_ii, mul_ti, mul_li, fdiv_ii, mod_ii, pow_ii, neg_i, cmp_ii, addI_ii, mulI_ii, eq_ii, ne_ii, eq_ss, ne_ss, asB_b, truth_b, truth_i, truth_l, truth_t, truth_n, asI_i, item_l, item_t, len_l, len_t, abs_i, int_i, int_b, tuple_l, tuple_t, list_l, list_t, max2_ii, min2_ii, seq_l, seq_t, slice_l, slice_t, rng1_i, rng2_i, zip_l, zip_t, zip_tl, zip_lt, enum_l, add_tt, add_ll, add_ss, repr_i, atI_0, atI_1, atI_2, ixN_0, ixN_1, ixN_2, ite_some, map_some, ex_and, ex_eq, bind_some, List.set_cons_zero, List.set_cons_succ, List.length_cons, List.length_nil, Option.some.injEq, decide_eq_true_eq, Bool.not_true, Bool.not_false, Bool.and_eq_true, Bool.or_eq_true, fillA, wbA, entry, entrySls, entrySl, List.replicate, List.cons_append, List.nil_append, trF_ok, List.append_nil, List.map_nil, List.map_cons, ownIx, and_assoc, exists_and_left, exists_eq_left', exists_eq_left, Rt.v.injEq, Rt.o.injEq, List.cons.injEq, PyData.int.injEq, PyData.list.injEq, PyData.tuple.injEq, and_true, true_and, List.all_cons, List.all_nil, List.nodup_cons, List.nodup_nil, decide_true, decide_false, Bool.and_true, Bool.true_and, List.mem_cons, List.not_mem_nil, not_false_eq_true, Nat.sub_self, Nat.reduceSub, Nat.reduceAdd, if_true, if_false, Bool.false_eq_true, reduceCtorEq, false_and, and_false, or_false, false_or, and_self, Nat.zero_add, exists_eq', exists_eq, Sl.val.injEq, Sl.own.injEq, exists_const, tr_vnil, tr_vcons, tr_callX, pick_c, pick_n, List.getElem?_cons_zero, List.getElem?_cons_succ, Option.toList_some, tr_dict0, tr_dict1, ts_never, isi_tt, isi_ii, isi_bi, rev_t, rev_l, ts_dput, ts_update, getDc_o, asD_d, din_i, dnin_i, dget_i, key_i, Option.isSome_some, Option.isSome_none]
    obtain ⟨d, p1, e1, hp1, hd0, hd1⟩ := take_ok (u := 6) hp (by decide) (by decide)
    simp only [tr_bnd, tr_lft, tr_con, tr_op2, tr_op2r, tr_op2b, tr_asB, tr_trB, tr_trBp, tr_and, tr_or, tr_not, tr_if, tr_andV, tr_orV, tr_notV, tr_neg, tr_chain, tr_nil, tr_cons, tr_tup, tr_lst, tr_pn, tr_ps, tr_sl, tr_c1, tr_c1p, tr_seqI, tr_rng1, tr_rng2, tr_rng3, tr_zip, tr_enum, tr_rtV, tr_rtO, tr_aNil, tr_aV, tr_call, tr_callT, ts_next, ts_break, ts_cont, ts_seq, ts_ret, ts_retO, ts_retN, ts_expr, ts_assign, as_name, as_nil, as_cons, as_tup, ts_own, ts_if, ts_for, ts_store, varK_v, varK_o, tr_yes, wipe_n, wipe_c, unw_n, unw_c, unw1_v, unw1_e, unw1_n, getQ_0, getQ_s, isOS_v, isOS_e, nl_i, nl_b, nl_n, nl_s, nl_t, eq_self, ts_par, pev_n, pev_v, pev_o, sets_n, sets_c, tr_bor, bor_c, bor_n, sok_e, sok_vv, sok_int, sok_ss, sok_o, rtd_v, rtd_o, rto_o, tu_var, tu_op2l, tu_slp, getO_o, getS_s, getX_v, tu_aL, tu_aS, tu_take, tu_aug, tu_append, tu_pop, tu_lenS, tu_ixS, outA, scrA, isOA, isSA, outS_o, scrS_s, isO_o, isS_s, lok_gen, lix_nil, lix_v, lix_l, lix_s, sok_nil, sok_v, sok_l, sok_s, at_0, at_1, getV_v, getV_o, getL_o, add_ii, sub_ii, mul_ii, mul_ti, mul_li, fdiv_ii, mod_ii, pow_ii, neg_i, cmp_ii, addI_ii, mulI_ii, eq_ii, ne_ii, eq_ss, ne_ss, asB_b, truth_b, truth_i, truth_l, truth_t, truth_n, asI_i, item_l, item_t, len_l, len_t, abs_i, int_i, int_b, tuple_l, tuple_t, list_l, list_t, max2_ii, min2_ii, seq_l, seq_t, slice_l, slice_t, rng1_i, rng2_i, zip_l, zip_t, zip_tl, zip_lt, enum_l, add_tt, add_ll, add_ss, repr_i, atI_0, atI_1, atI_2, ixN_0, ixN_1, ixN_2, ite_some, map_some, ex_and, ex_eq, bind_some, List.set_cons_zero, List.set_cons_succ, List.length_cons, List.length_nil, Option.some.injEq, decide_eq_true_eq, Bool.not_true, Bool.not_false, Bool.and_eq_true, Bool.or_eq_true, fillA, wbA, entry, entrySls, entrySl, List.replicate, List.cons_append, List.nil_append, trF_ok, List.append_nil, List.map_nil, List.map_cons, ownIx, and_assoc, exists_and_left, exists_eq_left', exists_eq_left, Rt.v.injEq, Rt.o.injEq, List.cons.injEq, PyData.int.injEq, PyData.list.injEq, PyData.tuple.injEq, and_true, true_and, List.all_cons, List.all_nil, List.nodup_cons, List.nodup_nil, decide_true, decide_false, Bool.and_true, Bool.true_and, List.mem_cons, List.not_mem_nil, not_false_eq_true, Nat.sub_self, Nat.reduceSub, Nat.reduceAdd, if_true, if_false, Bool.false_eq_true, reduceCtorEq, false_and, and_false, or_false, false_or, and_self, Nat.zero_add, exists_eq', exists_eq, Sl.val.injEq, Sl.own.injEq, exists_const, tr_vnil, tr_vcons, tr_callX, pick_c, pick_n, List.getElem?_cons_zero, List.getElem?_cons_succ, Option.toList_some, tr_dict0, tr_dict1, ts_never, isi_tt, isi_ii, isi_bi, rev_t, rev_l, ts_dput, ts_update, getDc_o, asD_d, din_i, dnin_i, dget_i, key_i, Option.isSome_some, Option.isSome_none, e1]
    refine ⟨lenOk_of (by decide), rOk_of (by omega) (by omega), ?_⟩
    refine ts_range (fun i r => ∃ p qs x y, Pot p ∧ (∀ q ∈ qs, 2 ≤ q) ∧ (prodQ qs : Int) ≤ most ∧ qs.length ≤ 11 ∧ r = [.own p, .val (.int most), .own (.list ((chn qs).map PyData.int)), x, y]) ⟨p1, [], _, _, hp1, by simp, by simpa [prodQ] using h1, by decide, rfl⟩ (fun i r hi h4 => ?_) (fun r h4 => ?_)
    · obtain ⟨p, qs, x, y, hp, hq, hm, hl, rfl⟩ := h4
      obtain ⟨d2, p2, e2, hp2, hd2, hd3⟩ := take_ok (u := 5) hp (by decide) (by decide)
      simp only [tr_bnd, tr_lft, tr_con, tr_op2, tr_op2r, tr_op2b, tr_asB, tr_trB, tr_trBp, tr_and, tr_or, tr_not, tr_if, tr_andV, tr_orV, tr_notV, tr_neg, tr_chain, tr_nil, tr_cons, tr_tup, tr_lst, tr_pn, tr_ps, tr_sl, tr_c1, tr_c1p, tr_seqI, tr_rng1, tr_rng2, tr_rng3, tr_zip, tr_enum, tr_rtV, tr_rtO, tr_aNil, tr_aV, tr_call, tr_callT, ts_next, ts_break, ts_cont, ts_seq, ts_ret, ts_retO, ts_retN, ts_expr, ts_assign, as_name, as_nil, as_cons, as_tup, ts_own, ts_if, ts_for, ts_store, varK_v, varK_o, tr_yes, wipe_n, wipe_c, unw_n, unw_c, unw1_v, unw1_e, unw1_n, getQ_0, getQ_s, isOS_v, isOS_e, nl_i, nl_b, nl_n, nl_s, nl_t, eq_self, ts_par, pev_n, pev_v, pev_o, sets_n, sets_c, tr_bor, bor_c, bor_n, sok_e, sok_vv, sok_int, sok_ss, sok_o, rtd_v, rtd_o, rto_o, tu_var, tu_op2l, tu_slp, getO_o, getS_s, getX_v, tu_aL, tu_aS, tu_take, tu_aug, tu_append, tu_pop, tu_lenS, tu_ixS, outA, scrA, isOA, isSA, outS_o, scrS_s, isO_o, isS_s, lok_gen, lix_nil, lix_v, lix_l, lix_s, sok_nil, sok_v, sok_l, sok_s, at_0, at_1, getV_v, getV_o, getL_o, add_ii, sub_ii, mul_ii, mul_ti, mul_li, fdiv_ii, mod_ii, pow_ii, neg_i, cmp_ii, addI_ii, mulI_ii, eq_ii, ne_ii, eq_ss, ne_ss, asB_b, truth_b, truth_i, truth_l, truth_t, truth_n, asI_i, item_l, item_t, len_l, len_t, abs_i, int_i, int_b, tuple_l, tuple_t, list_l, list_t, max2_ii, min2_ii, seq_l, seq_t, slice_l, slice_t, rng1_i, rng2_i, zip_l, zip_t, zip_tl, zip_lt, enum_l, add_tt, add_ll, add_ss, repr_i, atI_0, atI_1, atI_2, ixN_0, ixN_1, ixN_2, ite_some, map_some, ex_and, ex_eq, bind_some, List.set_cons_zero, List.set_cons_succ, List.length_cons, List.length_nil, Option.some.injEq, decide_eq_true_eq, Bool.not_true, Bool.not_false, Bool.and_eq_true, Bool.or_eq_true, fillA, wbA, entry, entrySls, entrySl, List.replicate, List.cons_append, List.nil_append, trF_ok, List.append_nil, List.map_nil, List.map_cons, ownIx, and_assoc, exists_and_left, exists_eq_left', exists_eq_left, Rt.v.injEq, Rt.o.injEq, List.cons.injEq, PyData.int.injEq, PyData.list.injEq, PyData.tuple.injEq, and_true, true_and, List.all_cons, List.all_nil, List.nodup_cons, List.nodup_nil, decide_true, decide_false, Bool.and_true, Bool.true_and, List.mem_cons, List.not_mem_nil, not_false_eq_true, Nat.sub_self, Nat.reduceSub, Nat.reduceAdd, if_true, if_false, Bool.false_eq_true, reduceCtorEq, false_and, and_false, or_false, false_or, and_self, Nat.zero_add, exists_eq', exists_eq, Sl.val.injEq, Sl.own.injEq, exists_const, tr_vnil, tr_vcons, tr_callX, pick_c, pick_n, List.getElem?_cons_zero, List.getElem?_cons_succ, Option.toList_some, tr_dict0, tr_dict1, ts_never, isi_tt, isi_ii, isi_bi, rev_t, rev_l, ts_dput, ts_update, getDc_o, asD_d, din_i, dnin_i, dget_i, key_i, Option.isSome_some, Option.isSome_none, e2]
      obtain ⟨d4, p4, e4, hp4, hd4⟩ := of_ok (xs := [.int 2, .int 2, .int 2, .int 3, .int 4, .int (2 + d2)]) hp2 (by simp) (by simp)
      obtain ⟨k, hk, hk2, rfl⟩ : ∃ k : Nat, 2 ≤ k ∧ k ≤ 6 ∧ d4 = .int k := by
        simp only [List.mem_cons, List.not_mem_nil, or_false] at hd4
        rcases hd4 with rfl | rfl | rfl | rfl | rfl | rfl
        · exact ⟨2, by decide, by decide, rfl⟩
        · exact ⟨2, by decide, by decide, rfl⟩
        · exact ⟨2, by decide, by decide, rfl⟩
        · exact ⟨3, by decide, by decide, rfl⟩
        · exact ⟨4, by decide, by decide, rfl⟩
        · exact ⟨(2 + d2).toNat, by omega, by omega, by rw [Int.toNat_of_nonneg (by omega)]⟩
      simp only [tr_bnd, tr_lft, tr_con, tr_op2, tr_op2r, tr_op2b, tr_asB, tr_trB, tr_trBp, tr_and, tr_or, tr_not, tr_if, tr_andV, tr_orV, tr_notV, tr_neg, tr_chain, tr_nil, tr_cons, tr_tup, tr_lst, tr_pn, tr_ps, tr_sl, tr_c1, tr_c1p, tr_seqI, tr_rng1, tr_rng2, tr_rng3, tr_zip, tr_enum, tr_rtV, tr_rtO, tr_aNil, tr_aV, tr_call, tr_callT, ts_next, ts_break, ts_cont, ts_seq, ts_ret, ts_retO, ts_retN, ts_expr, ts_assign, as_name, as_nil, as_cons, as_tup, ts_own, ts_if, ts_for, ts_store, varK_v, varK_o, tr_yes, wipe_n, wipe_c, unw_n, unw_c, unw1_v, unw1_e, unw1_n, getQ_0, getQ_s, isOS_v, isOS_e, nl_i, nl_b, nl_n, nl_s, nl_t, eq_self, ts_par, pev_n, pev_v, pev_o, sets_n, sets_c, tr_bor, bor_c, bor_n, sok_e, sok_vv, sok_int, sok_ss, sok_o, rtd_v, rtd_o, rto_o, tu_var, tu_op2l, tu_slp, getO_o, getS_s, getX_v, tu_aL, tu_aS, tu_take, tu_aug, tu_append, tu_pop, tu_lenS, tu_ixS, outA, scrA, isOA, isSA, outS_o, scrS_s, isO_o, isS_s, lok_gen, lix_nil, lix_v, lix_l, lix_s, sok_nil, sok_v, sok_l, sok_s, at_0, at_1, getV_v, getV_o, getL_o, add_ii, sub_ii, mul_ii, mul_ti, mul_li, fdiv_ii, mod_ii, pow_ii, neg_i, cmp_ii, addI_ii, mulI_ii, eq_ii, ne_ii, eq_ss, ne_ss, asB_b, truth_b, truth_i, truth_l, truth_t, truth_n, asI_i, item_l, item_t, len_l, len_t, abs_i, int_i, int_b, tuple_l, tuple_t, list_l, list_t, max2_ii, min2_ii, seq_l, seq_t, slice_l, slice_t, rng1_i, rng2_i, zip_l, zip_t, zip_tl, zip_lt, enum_l, add_tt, add_ll, add_ss, repr_i, atI_0, atI_1, atI_2, ixN_0, ixN_1, ixN_2, ite_some, map_some, ex_and, ex_eq, bind_some, List.set_cons_zero, List.set_cons_succ, List.length_cons, List.length_nil, Option.some.injEq, decide_eq_true_eq, Bool.not_true, Bool.not_false, Bool.and_eq_true, Bool.or_eq_true, fillA, wbA, entry, entrySls, entrySl, List.replicate, List.cons_append, List.nil_append, trF_ok, List.append_nil, List.map_nil, List.map_cons, ownIx, and_assoc, exists_and_left, exists_eq_left', exists_eq_left, Rt.v.injEq, Rt.o.injEq, List.cons.injEq, PyData.int.injEq, PyData.list.injEq, PyData.tuple.injEq, and_true, true_and, List.all_cons, List.all_nil, List.nodup_cons, List.nodup_nil, decide_true, decide_false, Bool.and_true, Bool.true_and, List.mem_cons, List.not_mem_nil, not_false_eq_true, Nat.sub_self, Nat.reduceSub, Nat.reduceAdd, if_true, if_false, Bool.false_eq_true, reduceCtorEq, false_and, and_false, or_false, false_or, and_self, Nat.zero_add, exists_eq', exists_eq, Sl.val.injEq, Sl.own.injEq, exists_const, tr_vnil, tr_vcons, tr_callX, pick_c, pick_n, List.getElem?_cons_zero, List.getElem?_cons_succ, Option.toList_some, tr_dict0, tr_dict1, ts_never, isi_tt, isi_ii, isi_bi, rev_t, rev_l, ts_dput, ts_update, getDc_o, asD_d, din_i, dnin_i, dget_i, key_i, Option.isSome_some, Option.isSome_none, e4, chn_last]
      have ha : (prodQ qs : Int) * (k : Int) = ((prodQ qs * k : Nat) : Int) := by rw [Int.natCast_mul]
      refine ⟨lenOk_of (by decide), mulOk_r (by omega), ?_⟩
      have stay : ∃ p, Pot p ∧ ∃ x : List Nat, (∀ q ∈ x, 2 ≤ q) ∧ (prodQ x : Int) ≤ most ∧ x.length ≤ 11 ∧ p4 = p ∧ List.map PyData.int (chn qs) = List.map PyData.int (chn x) := ⟨p4, hp4, qs, hq, hm, hl, rfl, rfl⟩
      split
      · split
        · rename_i h5 h6
          rw [ha] at h5
          rw [List.length_map, chn_len] at h6
          refine ⟨mulOk_r (by omega), lenOk_of (by rw [List.length_map, chn_len]; omega), p4, hp4, qs ++ [k], ?_, ?_, ?_, rfl, ?_⟩
          · intro q hq2
            rcases List.mem_append.mp hq2 with z | z
            · exact hq q z
            · rw [List.mem_singleton.mp z]; exact hk
          · rw [prodQ_snoc]; exact h5
          · simp; omega
          · rw [chn_snoc, sz_page]; simp
        · exact stay
      · exact stay
    · obtain ⟨p, qs, x, y, hp, hq, hm, hl, rfl⟩ := h4
      simp only [tr_bnd, tr_lft, tr_con, tr_op2, tr_op2r, tr_op2b, tr_asB, tr_trB, tr_trBp, tr_and, tr_or, tr_not, tr_if, tr_andV, tr_orV, tr_notV, tr_neg, tr_chain, tr_nil, tr_cons, tr_tup, tr_lst, tr_pn, tr_ps, tr_sl, tr_c1, tr_c1p, tr_seqI, tr_rng1, tr_rng2, tr_rng3, tr_zip, tr_enum, tr_rtV, tr_rtO, tr_aNil, tr_aV, tr_call, tr_callT, ts_next, ts_break, ts_cont, ts_seq, ts_ret, ts_retO, ts_retN, ts_expr, ts_assign, as_name, as_nil, as_cons, as_tup, ts_own, ts_if, ts_for, ts_store, varK_v, varK_o, tr_yes, wipe_n, wipe_c, unw_n, unw_c, unw1_v, unw1_e, unw1_n, getQ_0, getQ_s, isOS_v, isOS_e, nl_i, nl_b, nl_n, nl_s, nl_t, eq_self, ts_par, pev_n, pev_v, pev_o, sets_n, sets_c, tr_bor, bor_c, bor_n, sok_e, sok_vv, sok_int, sok_ss, sok_o, rtd_v, rtd_o, rto_o, tu_var, tu_op2l, tu_slp, getO_o, getS_s, getX_v, tu_aL, tu_aS, tu_take, tu_aug, tu_append, tu_pop, tu_lenS, tu_ixS, outA, scrA, isOA, isSA, outS_o, scrS_s, isO_o, isS_s, lok_gen, lix_nil, lix_v, lix_l, lix_s, sok_nil, sok_v, sok_l, sok_s, at_0, at_1, getV_v, getV_o, getL_o, add_ii, sub_ii, mul_ii, mul_ti, mul_li, fdiv_ii, mod_ii, pow_ii, neg_i, cmp_ii, addI_ii, mulI_ii, eq_ii, ne_ii, eq_ss, ne_ss, asB_b, truth_b, truth_i, truth_l, truth_t, truth_n, asI_i, item_l, item_t, len_l, len_t, abs_i, int_i, int_b, tuple_l, tuple_t, list_l, list_t, max2_ii, min2_ii, seq_l, seq_t, slice_l, slice_t, rng1_i, rng2_i, zip_l, zip_t, zip_tl, zip_lt, enum_l, add_tt, add_ll, add_ss, repr_i, atI_0, atI_1, atI_2, ixN_0, ixN_1, ixN_2, ite_some, map_some, ex_and, ex_eq, bind_some, List.set_cons_zero, List.set_cons_succ, List.length_cons, List.length_nil, Option.some.injEq, decide_eq_true_eq, Bool.not_true, Bool.not_false, Bool.and_eq_true, Bool.or_eq_true, fillA, wbA, entry, entrySls, entrySl, List.replicate, List.cons_append, List.nil_append, trF_ok, List.append_nil, List.map_nil, List.map_cons, ownIx, and_assoc, exists_and_left, exists_eq_left', exists_eq_left, Rt.v.injEq, Rt.o.injEq, List.cons.injEq, PyData.int.injEq, PyData.list.injEq, PyData.tuple.injEq, and_true, true_and, List.all_cons, List.all_nil, List.nodup_cons, List.nodup_nil, decide_true, decide_false, Bool.and_true, Bool.true_and, List.mem_cons, List.not_mem_nil, not_false_eq_true, Nat.sub_self, Nat.reduceSub, Nat.reduceAdd, if_true, if_false, Bool.false_eq_true, reduceCtorEq, false_and, and_false, or_false, false_or, and_self, Nat.zero_add, exists_eq', exists_eq, Sl.val.injEq, Sl.own.injEq, exists_const, tr_vnil, tr_vcons, tr_callX, pick_c, pick_n, List.getElem?_cons_zero, List.getElem?_cons_succ, Option.toList_some, tr_dict0, tr_dict1, ts_never, isi_tt, isi_ii, isi_bi, rev_t, rev_l, ts_dput, ts_update, getDc_o, asD_d, din_i, dnin_i, dget_i, key_i, Option.isSome_some, Option.isSome_none]
      exact ⟨qs, rfl, hp, hq, hm, hl⟩
  obtain ⟨r, o, e, qs, p', rfl, rfl, h1⟩ := trF_ex h
  exact ⟨qs, p', e, h1⟩
end Lk16

namespace Lk16
open PySem PySem.Spec L2 PL BT
theorem drawn_ok {p : PyData} {s : Nat → Int} {m : Nat} {many tries : Int} (hp : Pot p) (hs : Szs s) (hm : m ≤ 20) (hsm : s m ≤ 1000) (h0 : 0 ≤ many) (h1 : many ≤ 1000) (ht0 : 0 ≤ tries) (ht : tries ≤ 200) :
    ∃ bs p', f_l_drawn [p, tup (m + 1) s, .int many, .int tries] = .ok (.v (.tuple (bs.map prI))) [p'] ∧ Pot p' ∧ Stt s m many bs ∧ (bs.length : Int) ≤ tries := by
  have h : TrF (f_l_drawn [p, tup (m + 1) s, .int many, .int tries]) (fun r o => ∃ bs p', r = .v (.tuple (bs.map prI)) ∧ o = [p'] ∧ Pot p' ∧ Stt s m many bs ∧ (bs.length : Int) ≤ tries) noxF := by
    unfold f_l_drawn m_l_drawn
    rw [trF_body]
    simp only [tr_bnd, tr_lft, tr_con, tr_op2, tr_op2r, tr_op2b, tr_asB, tr_trB, tr_trBp, tr_and, tr_or, tr_not, tr_if, tr_andV, tr_orV, tr_notV, tr_neg, tr_chain, tr_nil, tr_cons, tr_tup, tr_lst, tr_pn, tr_ps, tr_sl, tr_c1, tr_c1p, tr_seqI, tr_rng1, tr_rng2, tr_rng3, tr_zip, tr_enum, tr_rtV, tr_rtO, tr_aNil, tr_aV, tr_call, tr_callT, ts_next, ts_break, ts_cont, ts_seq, ts_ret, ts_retO, ts_retN, ts_expr, ts_assign, as_name, as_nil, as_cons, as_tup, ts_own, ts_if, ts_for, ts_store, varK_v, varK_o, tr_yes, wipe_n, wipe_c, unw_n, unw_c, unw1_v, unw1_e, unw1_n, getQ_0, getQ_s, isOS_v, isOS_e, nl_i, nl_b, nl_n, nl_s, nl_t, eq_self, ts_par, pev_n, pev_v, pev_o, sets_n, sets_c, tr_bor, bor_c, bor_n, sok_e, sok_vv, sok_int, sok_ss, sok_o, rtd_v, rtd_o, rto_o, tu_var, tu_op2l, tu_slp, getO_o, getS_s, getX_v, tu_aL, tu_aS, tu_take, tu_aug, tu_append, tu_pop, tu_lenS, tu_ixS, outA, scrA, isOA, isSA, outS_o, scrS_s, isO_o, isS_s, lok_gen, lix_nil, lix_v, lix_l, lix_s, sok_nil, sok_v, sok_l, sok_s, at_0, at_1, getV_v, getV_o, getL_o, add_ii, sub_ii, mul_ii, mul_ti, mul_li, fdiv_ii, mod_ii, pow_ii, neg_i, cmp_ii, addI_ii, mulI_ii, eq_ii, ne_ii, eq_ss, ne_ss, asB_b, truth_b, truth_i, truth_l, truth_t, truth_n, asI_i, item_l, item_t, len_l, len_t, abs_i, int_i, int_b, tuple_l, tuple_t, list_l, list_t, max2_ii, min2_ii, seq_l, seq_t, slice_l, slice_t, rng1_i, rng2_i, zip_l, zip_t, zip_tl, zip_lt, enum_l, add_tt, add_ll, add_ss, repr_i, atI_0, atI_1, atI_2, ixN_0, ixN_1, ixN_2, ite_some, map_some, ex_and, ex_eq, bind_some, List.set_cons_zero, List.set_cons_succ, List.length_cons, List.length_nil, Option.some.injEq, decide_eq_true_eq, Bool.not_true, Bool.not_false, Bool.and_eq_true, Bool.or_eq_true, fillA, wbA, entry, entrySls, entrySl, List.replicate, List.cons_append, List.nil_append, trF_ok, List.append_nil, List.map_nil, List.map_cons, ownIx, and_assoc, exists_and_left, exists_eq_left', exists_eq_left, Rt.v.injEq, Rt.o.injEq, List.cons.injEq, PyData.int.injEq, PyData.list.injEq, PyData.tuple.injEq, and_true, true_and, List.all_cons, List.all_nil, List.nodup_cons, List.nodup_nil, decide_true, decide_false, Bool.and_true, Bool.true_and, List.mem_cons, List.not_mem_nil, not_false_eq_true, Nat.sub_self, Nat.reduceSub, Nat.reduceAdd, if_true, if_false, Bool.false_eq_true, reduceCtorEq, false_and, and_false, or_false, false_or, and_self, Nat.zero_add, exists_eq', exists_eq, Sl.val.injEq, Sl.own.injEq, exists_const, tr_vnil, tr_vcons, tr_callX, pick_c, pick_n, List.getElem?_cons_zero, List.getElem?_cons_succ, Option.toList_some, tr_dict0, tr_dict1, ts_never, isi_tt, isi_ii, isi_bi, rev_t, rev_l, ts_dput, ts_update, getDc_o, asD_d, din_i, dnin_i, dget_i, key_i, Option.isSome_some, Option.isSome_none]
    obtain ⟨T, hT, hTp, hTt⟩ : ∃ T : Nat, (tries * (if 0 < many then 1 else 0) : Int) = T ∧ (0 < T → 0 < many) ∧ (T : Int) ≤ tries := by
      by_cases h : 0 < many
      · exact ⟨tries.toNat, by rw [if_pos h]; omega, fun _ => h, by omega⟩
      · exact ⟨0, by rw [if_neg h]; omega, fun h => absurd h (by decide), by omega⟩
    refine ⟨lenOk_of (by decide), mulOk_l (by omega), rOk_of (by omega) (by omega), ?_⟩
    rw [show (tries * (if 0 < many then 1 else 0) : Int).toNat = T by omega]
    refine ts_range (fun i r => ∃ q bs tk x y z, Pot q ∧ (∀ b ∈ bs, OkB s m many b) ∧ bs.Pairwise Dsj ∧ bs.length ≤ i ∧ (∀ w, (dGet tk (.int w)).isSome = true ↔ InW bs w) ∧ tk.length ≤ i * 1000 ∧
      r = [.own q, .val (tup (m + 1) s), .val (.int many), .val (.int tries), .own (.list (bs.map prI)), .own (.dict tk), x, y, z, .emp]) ⟨p, [], [], _, _, _, hp, by simp, List.Pairwise.nil, by simp, fun w => by simp [dGet_nil, InW], by simp, rfl⟩ (fun i r hi h4 => ?_) (fun r h4 => ?_)
    · obtain ⟨q, bs, tk, x, y, z, hq, hb, hd, hl, hw, htl, rfl⟩ := h4
      have hmany : 0 < many := hTp (by omega)
      obtain ⟨d1, p1, e1, hp1, h10, h11⟩ := take_ok (u := (m + 1 : Nat)) hq (by omega) (by omega)
      obtain ⟨d2, p2, e2, hp2, h20, h21⟩ := take_ok (u := (m + 1 : Nat)) hp1 (by omega) (by omega)
      simp only [tr_bnd, tr_lft, tr_con, tr_op2, tr_op2r, tr_op2b, tr_asB, tr_trB, tr_trBp, tr_and, tr_or, tr_not, tr_if, tr_andV, tr_orV, tr_notV, tr_neg, tr_chain, tr_nil, tr_cons, tr_tup, tr_lst, tr_pn, tr_ps, tr_sl, tr_c1, tr_c1p, tr_seqI, tr_rng1, tr_rng2, tr_rng3, tr_zip, tr_enum, tr_rtV, tr_rtO, tr_aNil, tr_aV, tr_call, tr_callT, ts_next, ts_break, ts_cont, ts_seq, ts_ret, ts_retO, ts_retN, ts_expr, ts_assign, as_name, as_nil, as_cons, as_tup, ts_own, ts_if, ts_for, ts_store, varK_v, varK_o, tr_yes, wipe_n, wipe_c, unw_n, unw_c, unw1_v, unw1_e, unw1_n, getQ_0, getQ_s, isOS_v, isOS_e, nl_i, nl_b, nl_n, nl_s, nl_t, eq_self, ts_par, pev_n, pev_v, pev_o, sets_n, sets_c, tr_bor, bor_c, bor_n, sok_e, sok_vv, sok_int, sok_ss, sok_o, rtd_v, rtd_o, rto_o, tu_var, tu_op2l, tu_slp, getO_o, getS_s, getX_v, tu_aL, tu_aS, tu_take, tu_aug, tu_append, tu_pop, tu_lenS, tu_ixS, outA, scrA, isOA, isSA, outS_o, scrS_s, isO_o, isS_s, lok_gen, lix_nil, lix_v, lix_l, lix_s, sok_nil, sok_v, sok_l, sok_s, at_0, at_1, getV_v, getV_o, getL_o, add_ii, sub_ii, mul_ii, mul_ti, mul_li, fdiv_ii, mod_ii, pow_ii, neg_i, cmp_ii, addI_ii, mulI_ii, eq_ii, ne_ii, eq_ss, ne_ss, asB_b, truth_b, truth_i, truth_l, truth_t, truth_n, asI_i, item_l, item_t, len_l, len_t, abs_i, int_i, int_b, tuple_l, tuple_t, list_l, list_t, max2_ii, min2_ii, seq_l, seq_t, slice_l, slice_t, rng1_i, rng2_i, zip_l, zip_t, zip_tl, zip_lt, enum_l, add_tt, add_ll, add_ss, repr_i, atI_0, atI_1, atI_2, ixN_0, ixN_1, ixN_2, ite_some, map_some, ex_and, ex_eq, bind_some, List.set_cons_zero, List.set_cons_succ, List.length_cons, List.length_nil, Option.some.injEq, decide_eq_true_eq, Bool.not_true, Bool.not_false, Bool.and_eq_true, Bool.or_eq_true, fillA, wbA, entry, entrySls, entrySl, List.replicate, List.cons_append, List.nil_append, trF_ok, List.append_nil, List.map_nil, List.map_cons, ownIx, and_assoc, exists_and_left, exists_eq_left', exists_eq_left, Rt.v.injEq, Rt.o.injEq, List.cons.injEq, PyData.int.injEq, PyData.list.injEq, PyData.tuple.injEq, and_true, true_and, List.all_cons, List.all_nil, List.nodup_cons, List.nodup_nil, decide_true, decide_false, Bool.and_true, Bool.true_and, List.mem_cons, List.not_mem_nil, not_false_eq_true, Nat.sub_self, Nat.reduceSub, Nat.reduceAdd, if_true, if_false, Bool.false_eq_true, reduceCtorEq, false_and, and_false, or_false, false_or, and_self, Nat.zero_add, exists_eq', exists_eq, Sl.val.injEq, Sl.own.injEq, exists_const, tr_vnil, tr_vcons, tr_callX, pick_c, pick_n, List.getElem?_cons_zero, List.getElem?_cons_succ, Option.toList_some, tr_dict0, tr_dict1, ts_never, isi_tt, isi_ii, isi_bi, rev_t, rev_l, ts_dput, ts_update, getDc_o, asD_d, din_i, dnin_i, dget_i, key_i, Option.isSome_some, Option.isSome_none, tup_len, tup_at0, e1, e2, tup_at h10 h11, tup_back h20 h21]
      obtain ⟨d3, p3, e3, hp3, h3⟩ := of_ok (xs := [.int (s 0), .int (s d1.toNat), .int (s (m + 1 - 1 - d2.toNat))]) hp2 (by simp) (by simp)
      obtain ⟨j, hj, rfl⟩ : ∃ j, j ≤ m ∧ d3 = .int (s j) := by
        simp only [List.mem_cons, List.not_mem_nil, or_false] at h3
        rcases h3 with rfl | rfl | rfl
        · exact ⟨0, by omega, rfl⟩
        · exact ⟨d1.toNat, by omega, rfl⟩
        · exact ⟨m + 1 - 1 - d2.toNat, by omega, rfl⟩
      have hj0 := hs.pos j
      have hjm := hs.mono hj
      obtain ⟨c, hc, ec⟩ := hs.dvd hj
      have hq2 : many * s m / s j = many * c := by
        rw [ec, show many * (s j * c) = s j * (many * c) by rw [← Int.mul_assoc, Int.mul_comm many, Int.mul_assoc]]
        exact Int.mul_ediv_cancel_left _ (by omega)
      have hc2 : c ≤ 1000 := by
        have := Int.mul_le_mul_of_nonneg_right (a := 1) (b := s j) (c := c) (by omega) (by omega)
        omega
      have hmc : 0 < many * c := Int.mul_pos hmany (by omega)
      have hmc2 : many * c ≤ 1000 * 1000 := Int.mul_le_mul h1 hc2 (by omega) (by omega)
      obtain ⟨d4, p4, e4, hp4, h40, h41⟩ := take_ok (u := many * c) hp3 hmc (by omega)
      simp only [tr_bnd, tr_lft, tr_con, tr_op2, tr_op2r, tr_op2b, tr_asB, tr_trB, tr_trBp, tr_and, tr_or, tr_not, tr_if, tr_andV, tr_orV, tr_notV, tr_neg, tr_chain, tr_nil, tr_cons, tr_tup, tr_lst, tr_pn, tr_ps, tr_sl, tr_c1, tr_c1p, tr_seqI, tr_rng1, tr_rng2, tr_rng3, tr_zip, tr_enum, tr_rtV, tr_rtO, tr_aNil, tr_aV, tr_call, tr_callT, ts_next, ts_break, ts_cont, ts_seq, ts_ret, ts_retO, ts_retN, ts_expr, ts_assign, as_name, as_nil, as_cons, as_tup, ts_own, ts_if, ts_for, ts_store, varK_v, varK_o, tr_yes, wipe_n, wipe_c, unw_n, unw_c, unw1_v, unw1_e, unw1_n, getQ_0, getQ_s, isOS_v, isOS_e, nl_i, nl_b, nl_n, nl_s, nl_t, eq_self, ts_par, pev_n, pev_v, pev_o, sets_n, sets_c, tr_bor, bor_c, bor_n, sok_e, sok_vv, sok_int, sok_ss, sok_o, rtd_v, rtd_o, rto_o, tu_var, tu_op2l, tu_slp, getO_o, getS_s, getX_v, tu_aL, tu_aS, tu_take, tu_aug, tu_append, tu_pop, tu_lenS, tu_ixS, outA, scrA, isOA, isSA, outS_o, scrS_s, isO_o, isS_s, lok_gen, lix_nil, lix_v, lix_l, lix_s, sok_nil, sok_v, sok_l, sok_s, at_0, at_1, getV_v, getV_o, getL_o, add_ii, sub_ii, mul_ii, mul_ti, mul_li, fdiv_ii, mod_ii, pow_ii, neg_i, cmp_ii, addI_ii, mulI_ii, eq_ii, ne_ii, eq_ss, ne_ss, asB_b, truth_b, truth_i, truth_l, truth_t, truth_n, asI_i, item_l, item_t, len_l, len_t, abs_i, int_i, int_b, tuple_l, tuple_t, list_l, list_t, max2_ii, min2_ii, seq_l, seq_t, slice_l, slice_t, rng1_i, rng2_i, zip_l, zip_t, zip_tl, zip_lt, enum_l, add_tt, add_ll, add_ss, repr_i, atI_0, atI_1, atI_2, ixN_0, ixN_1, ixN_2, ite_some, map_some, ex_and, ex_eq, bind_some, List.set_cons_zero, List.set_cons_succ, List.length_cons, List.length_nil, Option.some.injEq, decide_eq_true_eq, Bool.not_true, Bool.not_false, Bool.and_eq_true, Bool.or_eq_true, fillA, wbA, entry, entrySls, entrySl, List.replicate, List.cons_append, List.nil_append, trF_ok, List.append_nil, List.map_nil, List.map_cons, ownIx, and_assoc, exists_and_left, exists_eq_left', exists_eq_left, Rt.v.injEq, Rt.o.injEq, List.cons.injEq, PyData.int.injEq, PyData.list.injEq, PyData.tuple.injEq, and_true, true_and, List.all_cons, List.all_nil, List.nodup_cons, List.nodup_nil, decide_true, decide_false, Bool.and_true, Bool.true_and, List.mem_cons, List.not_mem_nil, not_false_eq_true, Nat.sub_self, Nat.reduceSub, Nat.reduceAdd, if_true, if_false, Bool.false_eq_true, reduceCtorEq, false_and, and_false, or_false, false_or, and_self, Nat.zero_add, exists_eq', exists_eq, Sl.val.injEq, Sl.own.injEq, exists_const, tr_vnil, tr_vcons, tr_callX, pick_c, pick_n, List.getElem?_cons_zero, List.getElem?_cons_succ, Option.toList_some, tr_dict0, tr_dict1, ts_never, isi_tt, isi_ii, isi_bi, rev_t, rev_l, ts_dput, ts_update, getDc_o, asD_d, din_i, dnin_i, dget_i, key_i, Option.isSome_some, Option.isSome_none, e3, tup_last, hq2, e4]
      have hms : s m ≤ 1000 := hsm
      have hst0 : 0 ≤ s j * d4 := Int.mul_nonneg (by omega) h40
      have hend : s j * d4 + s j ≤ many * s m := by
        have := Int.mul_le_mul_of_nonneg_left (a := d4 + 1) (b := many * c) (c := s j) (by omega) (by omega)
        have e : s j * (many * c) = many * s m := by rw [ec, ← Int.mul_assoc, Int.mul_comm (s j), Int.mul_assoc]
        rw [e, Int.mul_add] at this
        omega
      have hms2 : many * s m ≤ 1000 * 1000 := Int.mul_le_mul h1 hsm (by have := hs.pos m; omega) (by omega)
      obtain ⟨n, hn⟩ : ∃ n : Nat, (s j * d4 + s j - s j * d4).toNat = n := ⟨_, rfl⟩
      have hnj : (n : Int) = s j := by omega
      have hm1 : (many * s m).natAbs < 2 ^ 64 := by omega
      refine ⟨lenOk_of (by decide), mulOk_l (by omega), fdOk_s (by omega) (by omega), mulOk_l (by omega), ?_⟩
      refine tr_lcA (fun i : Nat => PyData.int (s j * d4 + i)) (List.range n) (fun i => .bool (dGet tk (.int (s j * d4 + i))).isSome) ?_
      simp only [tr_bnd, tr_lft, tr_con, tr_op2, tr_op2r, tr_op2b, tr_asB, tr_trB, tr_trBp, tr_and, tr_or, tr_not, tr_if, tr_andV, tr_orV, tr_notV, tr_neg, tr_chain, tr_nil, tr_cons, tr_tup, tr_lst, tr_pn, tr_ps, tr_sl, tr_c1, tr_c1p, tr_seqI, tr_rng1, tr_rng2, tr_rng3, tr_zip, tr_enum, tr_rtV, tr_rtO, tr_aNil, tr_aV, tr_call, tr_callT, ts_next, ts_break, ts_cont, ts_seq, ts_ret, ts_retO, ts_retN, ts_expr, ts_assign, as_name, as_nil, as_cons, as_tup, ts_own, ts_if, ts_for, ts_store, varK_v, varK_o, tr_yes, wipe_n, wipe_c, unw_n, unw_c, unw1_v, unw1_e, unw1_n, getQ_0, getQ_s, isOS_v, isOS_e, nl_i, nl_b, nl_n, nl_s, nl_t, eq_self, ts_par, pev_n, pev_v, pev_o, sets_n, sets_c, tr_bor, bor_c, bor_n, sok_e, sok_vv, sok_int, sok_ss, sok_o, rtd_v, rtd_o, rto_o, tu_var, tu_op2l, tu_slp, getO_o, getS_s, getX_v, tu_aL, tu_aS, tu_take, tu_aug, tu_append, tu_pop, tu_lenS, tu_ixS, outA, scrA, isOA, isSA, outS_o, scrS_s, isO_o, isS_s, lok_gen, lix_nil, lix_v, lix_l, lix_s, sok_nil, sok_v, sok_l, sok_s, at_0, at_1, getV_v, getV_o, getL_o, add_ii, sub_ii, mul_ii, mul_ti, mul_li, fdiv_ii, mod_ii, pow_ii, neg_i, cmp_ii, addI_ii, mulI_ii, eq_ii, ne_ii, eq_ss, ne_ss, asB_b, truth_b, truth_i, truth_l, truth_t, truth_n, asI_i, item_l, item_t, len_l, len_t, abs_i, int_i, int_b, tuple_l, tuple_t, list_l, list_t, max2_ii, min2_ii, seq_l, seq_t, slice_l, slice_t, rng1_i, rng2_i, zip_l, zip_t, zip_tl, zip_lt, enum_l, add_tt, add_ll, add_ss, repr_i, atI_0, atI_1, atI_2, ixN_0, ixN_1, ixN_2, ite_some, map_some, ex_and, ex_eq, bind_some, List.set_cons_zero, List.set_cons_succ, List.length_cons, List.length_nil, Option.some.injEq, decide_eq_true_eq, Bool.not_true, Bool.not_false, Bool.and_eq_true, Bool.or_eq_true, fillA, wbA, entry, entrySls, entrySl, List.replicate, List.cons_append, List.nil_append, trF_ok, List.append_nil, List.map_nil, List.map_cons, ownIx, and_assoc, exists_and_left, exists_eq_left', exists_eq_left, Rt.v.injEq, Rt.o.injEq, List.cons.injEq, PyData.int.injEq, PyData.list.injEq, PyData.tuple.injEq, and_true, true_and, List.all_cons, List.all_nil, List.nodup_cons, List.nodup_nil, decide_true, decide_false, Bool.and_true, Bool.true_and, List.mem_cons, List.not_mem_nil, not_false_eq_true, Nat.sub_self, Nat.reduceSub, Nat.reduceAdd, if_true, if_false, Bool.false_eq_true, reduceCtorEq, false_and, and_false, or_false, false_or, and_self, Nat.zero_add, exists_eq', exists_eq, Sl.val.injEq, Sl.own.injEq, exists_const, tr_vnil, tr_vcons, tr_callX, pick_c, pick_n, List.getElem?_cons_zero, List.getElem?_cons_succ, Option.toList_some, tr_dict0, tr_dict1, ts_never, isi_tt, isi_ii, isi_bi, rev_t, rev_l, ts_dput, ts_update, getDc_o, asD_d, din_i, dnin_i, dget_i, key_i, Option.isSome_some, Option.isSome_none, rangeL_map, hn, any_b]
      refine ⟨rOk_of (by omega) (by omega), rOk_of (by omega) (by omega), fun _ _ => trivial, lenOk_of (by simp; omega), ?_⟩
      split
      · rename_i h5
        refine tr_lcA (fun i : Nat => PyData.int (s j * d4 + i)) (List.range n) (fun i => .tuple [.int (s j * d4 + i), .bool true]) ?_
        simp only [tr_bnd, tr_lft, tr_con, tr_op2, tr_op2r, tr_op2b, tr_asB, tr_trB, tr_trBp, tr_and, tr_or, tr_not, tr_if, tr_andV, tr_orV, tr_notV, tr_neg, tr_chain, tr_nil, tr_cons, tr_tup, tr_lst, tr_pn, tr_ps, tr_sl, tr_c1, tr_c1p, tr_seqI, tr_rng1, tr_rng2, tr_rng3, tr_zip, tr_enum, tr_rtV, tr_rtO, tr_aNil, tr_aV, tr_call, tr_callT, ts_next, ts_break, ts_cont, ts_seq, ts_ret, ts_retO, ts_retN, ts_expr, ts_assign, as_name, as_nil, as_cons, as_tup, ts_own, ts_if, ts_for, ts_store, varK_v, varK_o, tr_yes, wipe_n, wipe_c, unw_n, unw_c, unw1_v, unw1_e, unw1_n, getQ_0, getQ_s, isOS_v, isOS_e, nl_i, nl_b, nl_n, nl_s, nl_t, eq_self, ts_par, pev_n, pev_v, pev_o, sets_n, sets_c, tr_bor, bor_c, bor_n, sok_e, sok_vv, sok_int, sok_ss, sok_o, rtd_v, rtd_o, rto_o, tu_var, tu_op2l, tu_slp, getO_o, getS_s, getX_v, tu_aL, tu_aS, tu_take, tu_aug, tu_append, tu_pop, tu_lenS, tu_ixS, outA, scrA, isOA, isSA, outS_o, scrS_s, isO_o, isS_s, lok_gen, lix_nil, lix_v, lix_l, lix_s, sok_nil, sok_v, sok_l, sok_s, at_0, at_1, getV_v, getV_o, getL_o, add_ii, sub_ii, mul_ii, mul_ti, mul_li, fdiv_ii, mod_ii, pow_ii, neg_i, cmp_ii, addI_ii, mulI_ii, eq_ii, ne_ii, eq_ss, ne_ss, asB_b, truth_b, truth_i, truth_l, truth_t, truth_n, asI_i, item_l, item_t, len_l, len_t, abs_i, int_i, int_b, tuple_l, tuple_t, list_l, list_t, max2_ii, min2_ii, seq_l, seq_t, slice_l, slice_t, rng1_i, rng2_i, zip_l, zip_t, zip_tl, zip_lt, enum_l, add_tt, add_ll, add_ss, repr_i, atI_0, atI_1, atI_2, ixN_0, ixN_1, ixN_2, ite_some, map_some, ex_and, ex_eq, bind_some, List.set_cons_zero, List.set_cons_succ, List.length_cons, List.length_nil, Option.some.injEq, decide_eq_true_eq, Bool.not_true, Bool.not_false, Bool.and_eq_true, Bool.or_eq_true, fillA, wbA, entry, entrySls, entrySl, List.replicate, List.cons_append, List.nil_append, trF_ok, List.append_nil, List.map_nil, List.map_cons, ownIx, and_assoc, exists_and_left, exists_eq_left', exists_eq_left, Rt.v.injEq, Rt.o.injEq, List.cons.injEq, PyData.int.injEq, PyData.list.injEq, PyData.tuple.injEq, and_true, true_and, List.all_cons, List.all_nil, List.nodup_cons, List.nodup_nil, decide_true, decide_false, Bool.and_true, Bool.true_and, List.mem_cons, List.not_mem_nil, not_false_eq_true, Nat.sub_self, Nat.reduceSub, Nat.reduceAdd, if_true, if_false, Bool.false_eq_true, reduceCtorEq, false_and, and_false, or_false, false_or, and_self, Nat.zero_add, exists_eq', exists_eq, Sl.val.injEq, Sl.own.injEq, exists_const, tr_vnil, tr_vcons, tr_callX, pick_c, pick_n, List.getElem?_cons_zero, List.getElem?_cons_succ, Option.toList_some, tr_dict0, tr_dict1, ts_never, isi_tt, isi_ii, isi_bi, rev_t, rev_l, ts_dput, ts_update, getDc_o, asD_d, din_i, dnin_i, dget_i, key_i, Option.isSome_some, Option.isSome_none, rangeL_map, hn, dictP_rng, rngE_len]
        have h5' : ¬ ((List.range n).any fun x => (dGet tk (PyData.int (s j * d4 + x))).isSome) = true := by simpa using h5
        have nw : ∀ w, s j * d4 ≤ w → w < s j * d4 + s j → ¬ InW bs w := fun w h6 h7 h8 => by
          apply h5'
          rw [List.any_eq_true]
          refine ⟨(w - s j * d4).toNat, by simp; omega, ?_⟩
          rw [show s j * d4 + ((w - s j * d4).toNat : Int) = w by omega]
          exact (hw w).mpr h8
        refine ⟨rOk_of (by omega) (by omega), rOk_of (by omega) (by omega), fun _ _ => lenOk_of (by decide), lenOk_of (by simp; omega), lenOk_of (by omega), lenOk_of (by decide), lenOk_of (by simp; omega), p4, hp4, bs ++ [(s j * d4, s j)], fun b hb' => ?_, ?_, ?_, dMerge tk (rngE (s j * d4) n (.bool true)), fun w => ?_, ?_, rfl, ?_, rfl⟩
        · rcases List.mem_append.mp hb' with h | h
          · exact hb b h
          · rw [List.mem_singleton.mp h]
            exact ⟨⟨j, hj, rfl⟩, hst0, by simp, hend⟩
        · exact pw_snoc hd (dsj_new (fun b h => (hb b h).pos hs) hj0 nw)
        · simp; omega
        · rw [merge_rng, inW_snoc]
          dsimp only
          split
          · rename_i h6
            simp only [Option.isSome_some, true_iff]
            exact .inr ⟨h6.1, by omega⟩
          · rename_i h6
            rw [hw]
            constructor
            · exact .inl
            · rintro (h | h)
              · exact h
              · exact absurd ⟨h.1, by omega⟩ h6
        · have := dMerge_len (ms := rngE (s j * d4) n (.bool true)) (ds := tk)
          rw [rngE_len] at this
          rw [Nat.add_mul]
          omega
        · simp [prI]
      · refine ⟨p4, hp4, bs, hb, hd, by omega, tk, hw, by omega, rfl, rfl, rfl⟩
    · obtain ⟨q, bs, tk, x, y, z, hq, hb, hd, hl, hw, htl, rfl⟩ := h4
      simp only [tr_bnd, tr_lft, tr_con, tr_op2, tr_op2r, tr_op2b, tr_asB, tr_trB, tr_trBp, tr_and, tr_or, tr_not, tr_if, tr_andV, tr_orV, tr_notV, tr_neg, tr_chain, tr_nil, tr_cons, tr_tup, tr_lst, tr_pn, tr_ps, tr_sl, tr_c1, tr_c1p, tr_seqI, tr_rng1, tr_rng2, tr_rng3, tr_zip, tr_enum, tr_rtV, tr_rtO, tr_aNil, tr_aV, tr_call, tr_callT, ts_next, ts_break, ts_cont, ts_seq, ts_ret, ts_retO, ts_retN, ts_expr, ts_assign, as_name, as_nil, as_cons, as_tup, ts_own, ts_if, ts_for, ts_store, varK_v, varK_o, tr_yes, wipe_n, wipe_c, unw_n, unw_c, unw1_v, unw1_e, unw1_n, getQ_0, getQ_s, isOS_v, isOS_e, nl_i, nl_b, nl_n, nl_s, nl_t, eq_self, ts_par, pev_n, pev_v, pev_o, sets_n, sets_c, tr_bor, bor_c, bor_n, sok_e, sok_vv, sok_int, sok_ss, sok_o, rtd_v, rtd_o, rto_o, tu_var, tu_op2l, tu_slp, getO_o, getS_s, getX_v, tu_aL, tu_aS, tu_take, tu_aug, tu_append, tu_pop, tu_lenS, tu_ixS, outA, scrA, isOA, isSA, outS_o, scrS_s, isO_o, isS_s, lok_gen, lix_nil, lix_v, lix_l, lix_s, sok_nil, sok_v, sok_l, sok_s, at_0, at_1, getV_v, getV_o, getL_o, add_ii, sub_ii, mul_ii, mul_ti, mul_li, fdiv_ii, mod_ii, pow_ii, neg_i, cmp_ii, addI_ii, mulI_ii, eq_ii, ne_ii, eq_ss, ne_ss, asB_b, truth_b, truth_i, truth_l, truth_t, truth_n, asI_i, item_l, item_t, len_l, len_t, abs_i, int_i, int_b, tuple_l, tuple_t, list_l, list_t, max2_ii, min2_ii, seq_l, seq_t, slice_l, slice_t, rng1_i, rng2_i, zip_l, zip_t, zip_tl, zip_lt, enum_l, add_tt, add_ll, add_ss, repr_i, atI_0, atI_1, atI_2, ixN_0, ixN_1, ixN_2, ite_some, map_some, ex_and, ex_eq, bind_some, List.set_cons_zero, List.set_cons_succ, List.length_cons, List.length_nil, Option.some.injEq, decide_eq_true_eq, Bool.not_true, Bool.not_false, Bool.and_eq_true, Bool.or_eq_true, fillA, wbA, entry, entrySls, entrySl, List.replicate, List.cons_append, List.nil_append, trF_ok, List.append_nil, List.map_nil, List.map_cons, ownIx, and_assoc, exists_and_left, exists_eq_left', exists_eq_left, Rt.v.injEq, Rt.o.injEq, List.cons.injEq, PyData.int.injEq, PyData.list.injEq, PyData.tuple.injEq, and_true, true_and, List.all_cons, List.all_nil, List.nodup_cons, List.nodup_nil, decide_true, decide_false, Bool.and_true, Bool.true_and, List.mem_cons, List.not_mem_nil, not_false_eq_true, Nat.sub_self, Nat.reduceSub, Nat.reduceAdd, if_true, if_false, Bool.false_eq_true, reduceCtorEq, false_and, and_false, or_false, false_or, and_self, Nat.zero_add, exists_eq', exists_eq, Sl.val.injEq, Sl.own.injEq, exists_const, tr_vnil, tr_vcons, tr_callX, pick_c, pick_n, List.getElem?_cons_zero, List.getElem?_cons_succ, Option.toList_some, tr_dict0, tr_dict1, ts_never, isi_tt, isi_ii, isi_bi, rev_t, rev_l, ts_dput, ts_update, getDc_o, asD_d, din_i, dnin_i, dget_i, key_i, Option.isSome_some, Option.isSome_none, sort_pm]
      refine ⟨psort bs, rfl, hq, stt_sort hs hb hd, ?_⟩
      rw [(psort_perm bs).length_eq]; omega
  obtain ⟨r, o, e, bs, p', rfl, rfl, h1⟩ := trF_ex h
  exact ⟨bs, p', e, h1⟩
end Lk16

namespace Lk16
open PySem PySem.Spec L2 PL BT
theorem moved_ok {bs : List (Int × Int)} {S : Int} (h : bs.length ≤ 10000) : f_l_moved [.tuple (bs.map prI), .int S] = .ok (.v (.tuple ((mvd S bs).map prI))) [] := by
  apply trF_eq
  unfold f_l_moved m_l_moved
  rw [trF_body]
  simp only [tr_bnd, tr_lft, tr_con, tr_op2, tr_op2r, tr_op2b, tr_asB, tr_trB, tr_trBp, tr_and, tr_or, tr_not, tr_if, tr_andV, tr_orV, tr_notV, tr_neg, tr_chain, tr_nil, tr_cons, tr_tup, tr_lst, tr_pn, tr_ps, tr_sl, tr_c1, tr_c1p, tr_seqI, tr_rng1, tr_rng2, tr_rng3, tr_zip, tr_enum, tr_rtV, tr_rtO, tr_aNil, tr_aV, tr_call, tr_callT, ts_next, ts_break, ts_cont, ts_seq, ts_ret, ts_retO, ts_retN, ts_expr, ts_assign, as_name, as_nil, as_cons, as_tup, ts_own, ts_if, ts_for, ts_store, varK_v, varK_o, tr_yes, wipe_n, wipe_c, unw_n, unw_c, unw1_v, unw1_e, unw1_n, getQ_0, getQ_s, isOS_v, isOS_e, nl_i, nl_b, nl_n, nl_s, nl_t, eq_self, ts_par, pev_n, pev_v, pev_o, sets_n, sets_c, tr_bor, bor_c, bor_n, sok_e, sok_vv, sok_int, sok_ss, sok_o, rtd_v, rtd_o, rto_o, tu_var, tu_op2l, tu_slp, getO_o, getS_s, getX_v, tu_aL, tu_aS, tu_take, tu_aug, tu_append, tu_pop, tu_lenS, tu_ixS, outA, scrA, isOA, isSA, outS_o, scrS_s, isO_o, isS_s, lok_gen, lix_nil, lix_v, lix_l, lix_s, sok_nil, sok_v, sok_l, sok_s, at_0, at_1, getV_v, getV_o, getL_o, add_ii, sub_ii, mul_ii, mul_ti, mul_li, fdiv_ii, mod_ii, pow_ii, neg_i, cmp_ii, addI_ii, mulI_ii, eq_ii, ne_ii, eq_ss, ne_ss, asB_b, truth_b, truth_i, truth_l, truth_t, truth_n, asI_i, item_l, item_t, len_l, len_t, abs_i, int_i, int_b, tuple_l, tuple_t, list_l, list_t, max2_ii, min2_ii, seq_l, seq_t, slice_l, slice_t, rng1_i, rng2_i, zip_l, zip_t, zip_tl, zip_lt, enum_l, add_tt, add_ll, add_ss, repr_i, atI_0, atI_1, atI_2, ixN_0, ixN_1, ixN_2, ite_some, map_some, ex_and, ex_eq, bind_some, List.set_cons_zero, List.set_cons_succ, List.length_cons, List.length_nil, Option.some.injEq, decide_eq_true_eq, Bool.not_true, Bool.not_false, Bool.and_eq_true, Bool.or_eq_true, fillA, wbA, entry, entrySls, entrySl, List.replicate, List.cons_append, List.nil_append, trF_ok, List.append_nil, List.map_nil, List.map_cons, ownIx, and_assoc, exists_and_left, exists_eq_left', exists_eq_left, Rt.v.injEq, Rt.o.injEq, List.cons.injEq, PyData.int.injEq, PyData.list.injEq, PyData.tuple.injEq, and_true, true_and, List.all_cons, List.all_nil, List.nodup_cons, List.nodup_nil, decide_true, decide_false, Bool.and_true, Bool.true_and, List.mem_cons, List.not_mem_nil, not_false_eq_true, Nat.sub_self, Nat.reduceSub, Nat.reduceAdd, if_true, if_false, Bool.false_eq_true, reduceCtorEq, false_and, and_false, or_false, false_or, and_self, Nat.zero_add, exists_eq', exists_eq, Sl.val.injEq, Sl.own.injEq, exists_const, tr_vnil, tr_vcons, tr_callX, pick_c, pick_n, List.getElem?_cons_zero, List.getElem?_cons_succ, Option.toList_some, tr_dict0, tr_dict1, ts_never, isi_tt, isi_ii, isi_bi, rev_t, rev_l, ts_dput, ts_update, getDc_o, asD_d, din_i, dnin_i, dget_i, key_i, Option.isSome_some, Option.isSome_none]
  refine tr_lcA prI bs (fun b => prI (b.1 + S, b.2)) ?_
  have e : (bs.map fun b => prI (b.1 + S, b.2)) = (mvd S bs).map prI := by unfold mvd; rw [List.map_map]; rfl
  simp only [tr_bnd, tr_lft, tr_con, tr_op2, tr_op2r, tr_op2b, tr_asB, tr_trB, tr_trBp, tr_and, tr_or, tr_not, tr_if, tr_andV, tr_orV, tr_notV, tr_neg, tr_chain, tr_nil, tr_cons, tr_tup, tr_lst, tr_pn, tr_ps, tr_sl, tr_c1, tr_c1p, tr_seqI, tr_rng1, tr_rng2, tr_rng3, tr_zip, tr_enum, tr_rtV, tr_rtO, tr_aNil, tr_aV, tr_call, tr_callT, ts_next, ts_break, ts_cont, ts_seq, ts_ret, ts_retO, ts_retN, ts_expr, ts_assign, as_name, as_nil, as_cons, as_tup, ts_own, ts_if, ts_for, ts_store, varK_v, varK_o, tr_yes, wipe_n, wipe_c, unw_n, unw_c, unw1_v, unw1_e, unw1_n, getQ_0, getQ_s, isOS_v, isOS_e, nl_i, nl_b, nl_n, nl_s, nl_t, eq_self, ts_par, pev_n, pev_v, pev_o, sets_n, sets_c, tr_bor, bor_c, bor_n, sok_e, sok_vv, sok_int, sok_ss, sok_o, rtd_v, rtd_o, rto_o, tu_var, tu_op2l, tu_slp, getO_o, getS_s, getX_v, tu_aL, tu_aS, tu_take, tu_aug, tu_append, tu_pop, tu_lenS, tu_ixS, outA, scrA, isOA, isSA, outS_o, scrS_s, isO_o, isS_s, lok_gen, lix_nil, lix_v, lix_l, lix_s, sok_nil, sok_v, sok_l, sok_s, at_0, at_1, getV_v, getV_o, getL_o, add_ii, sub_ii, mul_ii, mul_ti, mul_li, fdiv_ii, mod_ii, pow_ii, neg_i, cmp_ii, addI_ii, mulI_ii, eq_ii, ne_ii, eq_ss, ne_ss, asB_b, truth_b, truth_i, truth_l, truth_t, truth_n, asI_i, item_l, item_t, len_l, len_t, abs_i, int_i, int_b, tuple_l, tuple_t, list_l, list_t, max2_ii, min2_ii, seq_l, seq_t, slice_l, slice_t, rng1_i, rng2_i, zip_l, zip_t, zip_tl, zip_lt, enum_l, add_tt, add_ll, add_ss, repr_i, atI_0, atI_1, atI_2, ixN_0, ixN_1, ixN_2, ite_some, map_some, ex_and, ex_eq, bind_some, List.set_cons_zero, List.set_cons_succ, List.length_cons, List.length_nil, Option.some.injEq, decide_eq_true_eq, Bool.not_true, Bool.not_false, Bool.and_eq_true, Bool.or_eq_true, fillA, wbA, entry, entrySls, entrySl, List.replicate, List.cons_append, List.nil_append, trF_ok, List.append_nil, List.map_nil, List.map_cons, ownIx, and_assoc, exists_and_left, exists_eq_left', exists_eq_left, Rt.v.injEq, Rt.o.injEq, List.cons.injEq, PyData.int.injEq, PyData.list.injEq, PyData.tuple.injEq, and_true, true_and, List.all_cons, List.all_nil, List.nodup_cons, List.nodup_nil, decide_true, decide_false, Bool.and_true, Bool.true_and, List.mem_cons, List.not_mem_nil, not_false_eq_true, Nat.sub_self, Nat.reduceSub, Nat.reduceAdd, if_true, if_false, Bool.false_eq_true, reduceCtorEq, false_and, and_false, or_false, false_or, and_self, Nat.zero_add, exists_eq', exists_eq, Sl.val.injEq, Sl.own.injEq, exists_const, tr_vnil, tr_vcons, tr_callX, pick_c, pick_n, List.getElem?_cons_zero, List.getElem?_cons_succ, Option.toList_some, tr_dict0, tr_dict1, ts_never, isi_tt, isi_ii, isi_bi, rev_t, rev_l, ts_dput, ts_update, getDc_o, asD_d, din_i, dnin_i, dget_i, key_i, Option.isSome_some, Option.isSome_none, prI]
  simp only [prI] at e
  refine ⟨fun _ _ => lenOk_of (by decide), lenOk_of (by omega), ?_⟩
  rw [e]
theorem stt_cat {s : Nat → Int} {m : Nat} {N G : Int} {A B : List (Int × Int)} (hs : Szs s) (hA : Stt s m N A) (hB : Stt s m G B) (hN : 0 ≤ N) (hG : 0 ≤ G) : Stt s m (N + G) (A ++ mvd (N * s m) B) := by
  have hm := hs.pos m
  have hNm : 0 ≤ N * s m := Int.mul_nonneg hN (by omega)
  have hGm : 0 ≤ G * s m := Int.mul_nonneg hG (by omega)
  refine ⟨fun b hb => ?_, ?_⟩
  · rcases List.mem_append.mp hb with hb | hb
    · obtain ⟨h1, h2, h3, h4⟩ := hA.blk b hb
      exact ⟨h1, h2, h3, by rw [Int.add_mul]; omega⟩
    · unfold mvd at hb
      obtain ⟨c, hc, rfl⟩ := List.mem_map.mp hb
      obtain ⟨⟨i, hi, e⟩, h2, h3, h4⟩ := hB.blk c hc
      obtain ⟨q, hq, eq⟩ := hs.dvd hi
      refine ⟨⟨i, hi, e⟩, by show 0 ≤ c.1 + N * s m; omega, ?_, by show c.1 + N * s m + c.2 ≤ _; rw [Int.add_mul]; omega⟩
      show (c.1 + N * s m) % c.2 = 0
      have : N * s m = N * q * c.2 := by rw [eq, e, Int.mul_assoc, Int.mul_comm q]
      rw [this, Int.add_mul_emod_self_right]
      exact h3
  · rw [List.pairwise_append]
    refine ⟨hA.ord, ?_, fun a ha b hb => ?_⟩
    · unfold mvd
      rw [List.pairwise_map]
      refine hB.ord.imp fun {x y} h => ?_
      unfold Bef at *
      dsimp only
      omega
    · unfold mvd at hb
      obtain ⟨c, hc, rfl⟩ := List.mem_map.mp hb
      have h1 := (hA.blk a ha).2.2.2
      have h2 := (hB.blk c hc).2.1
      unfold Bef
      dsimp only
      omega
theorem parts_ok {s : Nat → Int} {m : Nat} {N G : Int} {A B : List (Int × Int)} (hs : Szs s) (hm : m ≤ 20) (hsm : s m ≤ 60) (hA : Stt s m N A) (hB : Stt s m G B) (hN : 0 ≤ N) (hN2 : N ≤ 10) (hG : 0 ≤ G) (hG2 : G ≤ 10) (hAl : A.length ≤ 30) (hBl : B.length ≤ 30) :
    f_l_parts_right [tup (m + 1) s, .int N, .tuple (A.map prI), .tuple (B.map prI), .int G] = .ok (.v (.bool true)) [] := by
  apply trF_eq
  unfold f_l_parts_right m_l_parts_right
  rw [trF_body]
  have hmp := hs.pos m
  have hW := stt_cat hs hA hB hN hG
  have hNm : N * s m ≤ 10 * 60 := Int.mul_le_mul hN2 hsm (by omega) (by omega)
  have hNm0 : 0 ≤ N * s m := Int.mul_nonneg hN (by omega)
  have hGm : G * s m ≤ 10 * 60 := Int.mul_le_mul hG2 hsm (by omega) (by omega)
  have hGm0 : 0 ≤ G * s m := Int.mul_nonneg hG (by omega)
  have e1 := moved_ok (bs := B) (S := N * s m) (by omega)
  have hml : (mvd (N * s m) B).length = B.length := by unfold mvd; simp
  have happ : A.map prI ++ (mvd (N * s m) B).map prI = (A ++ mvd (N * s m) B).map prI := by rw [List.map_append]
  have e2 := state_ok (s := s) (m := m) (N := N + G) (d := .tuple ((A ++ mvd (N * s m) B).map prI)) (by omega) (fun ds e => by cases e; rw [List.length_map, List.length_append]; omega)
  rw [stt_true hs hW] at e2
  have e3 := live_ok (bs := A ++ mvd (N * s m) B) (by rw [List.length_append]; omega)
  rw [live_cat] at e3
  have e4 := live_ok (bs := A) (by omega)
  have e5 := live_ok (bs := B) (by omega)
  have e6 := used_ok (bs := A) (s := s) (m := m) (by omega) hmp (by omega)
  have e7 := used_ok (bs := B) (s := s) (m := m) (by omega) hmp (by omega)
  have e8 := used_ok (bs := A ++ mvd (N * s m) B) (s := s) (m := m) (by rw [List.length_append]; omega) hmp (by omega)
  have hA1 : ∀ b ∈ A, b.1 + b.2 ≤ N * s m ∧ 0 < b.2 := fun b hb => ⟨(hA.blk b hb).2.2.2, (hA.blk b hb).pos hs⟩
  have hB1 : ∀ b ∈ B, 0 ≤ b.1 ∧ 0 < b.2 := fun b hb => ⟨(hB.blk b hb).2.1, (hB.blk b hb).pos hs⟩
  have hB2 : ∀ b ∈ B, 0 ≤ b.1 := fun b hb => (hB1 b hb).1
  have hA2 : ∀ b ∈ A, b.1 + b.2 ≤ N * s m := fun b hb => (hA1 b hb).1
  rw [usd_cat hA1 hB2 hmp (dA := N.toNat) (by rw [Int.toNat_of_nonneg hN]), Int.toNat_of_nonneg hN] at e8
  have nb : isNB? (.bool true) (.bool true) = some (.bool false) := rfl
  simp only [tr_bnd, tr_lft, tr_con, tr_op2, tr_op2r, tr_op2b, tr_asB, tr_trB, tr_trBp, tr_and, tr_or, tr_not, tr_if, tr_andV, tr_orV, tr_notV, tr_neg, tr_chain, tr_nil, tr_cons, tr_tup, tr_lst, tr_pn, tr_ps, tr_sl, tr_c1, tr_c1p, tr_seqI, tr_rng1, tr_rng2, tr_rng3, tr_zip, tr_enum, tr_rtV, tr_rtO, tr_aNil, tr_aV, tr_call, tr_callT, ts_next, ts_break, ts_cont, ts_seq, ts_ret, ts_retO, ts_retN, ts_expr, ts_assign, as_name, as_nil, as_cons, as_tup, ts_own, ts_if, ts_for, ts_store, varK_v, varK_o, tr_yes, wipe_n, wipe_c, unw_n, unw_c, unw1_v, unw1_e, unw1_n, getQ_0, getQ_s, isOS_v, isOS_e, nl_i, nl_b, nl_n, nl_s, nl_t, eq_self, ts_par, pev_n, pev_v, pev_o, sets_n, sets_c, tr_bor, bor_c, bor_n, sok_e, sok_vv, sok_int, sok_ss, sok_o, rtd_v, rtd_o, rto_o, tu_var, tu_op2l, tu_slp, getO_o, getS_s, getX_v, tu_aL, tu_aS, tu_take, tu_aug, tu_append, tu_pop, tu_lenS, tu_ixS, outA, scrA, isOA, isSA, outS_o, scrS_s, isO_o, isS_s, lok_gen, lix_nil, lix_v, lix_l, lix_s, sok_nil, sok_v, sok_l, sok_s, at_0, at_1, getV_v, getV_o, getL_o, add_ii, sub_ii, mul_ii, mul_ti, mul_li, fdiv_ii, mod_ii, pow_ii, neg_i, cmp_ii, addI_ii, mulI_ii, eq_ii, ne_ii, eq_ss, ne_ss, asB_b, truth_b, truth_i, truth_l, truth_t, truth_n, asI_i, item_l, item_t, len_l, len_t, abs_i, int_i, int_b, tuple_l, tuple_t, list_l, list_t, max2_ii, min2_ii, seq_l, seq_t, slice_l, slice_t, rng1_i, rng2_i, zip_l, zip_t, zip_tl, zip_lt, enum_l, add_tt, add_ll, add_ss, repr_i, atI_0, atI_1, atI_2, ixN_0, ixN_1, ixN_2, ite_some, map_some, ex_and, ex_eq, bind_some, List.set_cons_zero, List.set_cons_succ, List.length_cons, List.length_nil, Option.some.injEq, decide_eq_true_eq, Bool.not_true, Bool.not_false, Bool.and_eq_true, Bool.or_eq_true, fillA, wbA, entry, entrySls, entrySl, List.replicate, List.cons_append, List.nil_append, trF_ok, List.append_nil, List.map_nil, List.map_cons, ownIx, and_assoc, exists_and_left, exists_eq_left', exists_eq_left, Rt.v.injEq, Rt.o.injEq, List.cons.injEq, PyData.int.injEq, PyData.list.injEq, PyData.tuple.injEq, and_true, true_and, List.all_cons, List.all_nil, List.nodup_cons, List.nodup_nil, decide_true, decide_false, Bool.and_true, Bool.true_and, List.mem_cons, List.not_mem_nil, not_false_eq_true, Nat.sub_self, Nat.reduceSub, Nat.reduceAdd, if_true, if_false, Bool.false_eq_true, reduceCtorEq, false_and, and_false, or_false, false_or, and_self, Nat.zero_add, exists_eq', exists_eq, Sl.val.injEq, Sl.own.injEq, exists_const, tr_vnil, tr_vcons, tr_callX, pick_c, pick_n, List.getElem?_cons_zero, List.getElem?_cons_succ, Option.toList_some, tr_dict0, tr_dict1, ts_never, isi_tt, isi_ii, isi_bi, rev_t, rev_l, ts_dput, ts_update, getDc_o, asD_d, din_i, dnin_i, dget_i, key_i, Option.isSome_some, Option.isSome_none, tup_last, e1, happ, e2, nb, e3, e4, e5, e6, e7, e8]
  (repeat (first | ((with_reducible refine And.intro (lenOk_of ?_) ?_); focus (first | omega | (simp only [List.length_map, List.length_range, List.length_append, List.length_reverse, List.length_cons, List.length_nil]; omega) | (simp; omega))) | ((with_reducible refine And.intro (rOk_of ?_ ?_) ?_); (focus omega); (focus omega)) | ((with_reducible refine And.intro (fdOk_s ?_ ?_) ?_); (focus omega); (focus omega)) | ((with_reducible refine And.intro (mulOk_l ?_) ?_); focus omega) | ((with_reducible refine And.intro (mulOk_r ?_) ?_); focus omega) | ((with_reducible refine And.intro (a := powOk _ _ = true) ?_ ?_); focus decide) | (with_reducible refine And.intro trivial ?_)))
  refine tr_lcA PyData.int (usd (s m) B) (fun k => .int (k + N)) ?_
  have em : (usd (s m) B).map (fun k => PyData.int (k + N)) = ((usd (s m) B).map fun k : Int => k + N).map PyData.int := by rw [List.map_map]; rfl
  have ea : (usd (s m) A).map PyData.int ++ ((usd (s m) B).map fun k : Int => k + N).map PyData.int = (usd (s m) A ++ (usd (s m) B).map fun k : Int => k + N).map PyData.int := by rw [List.map_append]
  have ul1 := usd_len (P := s m) (bs := A)
  have ul2 := usd_len (P := s m) (bs := B)
  have st : seq? (tup (m + 1) s) = some ((List.range (m + 1)).map fun i => .int (s i)) := rfl
  simp only [tr_bnd, tr_lft, tr_con, tr_op2, tr_op2r, tr_op2b, tr_asB, tr_trB, tr_trBp, tr_and, tr_or, tr_not, tr_if, tr_andV, tr_orV, tr_notV, tr_neg, tr_chain, tr_nil, tr_cons, tr_tup, tr_lst, tr_pn, tr_ps, tr_sl, tr_c1, tr_c1p, tr_seqI, tr_rng1, tr_rng2, tr_rng3, tr_zip, tr_enum, tr_rtV, tr_rtO, tr_aNil, tr_aV, tr_call, tr_callT, ts_next, ts_break, ts_cont, ts_seq, ts_ret, ts_retO, ts_retN, ts_expr, ts_assign, as_name, as_nil, as_cons, as_tup, ts_own, ts_if, ts_for, ts_store, varK_v, varK_o, tr_yes, wipe_n, wipe_c, unw_n, unw_c, unw1_v, unw1_e, unw1_n, getQ_0, getQ_s, isOS_v, isOS_e, nl_i, nl_b, nl_n, nl_s, nl_t, eq_self, ts_par, pev_n, pev_v, pev_o, sets_n, sets_c, tr_bor, bor_c, bor_n, sok_e, sok_vv, sok_int, sok_ss, sok_o, rtd_v, rtd_o, rto_o, tu_var, tu_op2l, tu_slp, getO_o, getS_s, getX_v, tu_aL, tu_aS, tu_take, tu_aug, tu_append, tu_pop, tu_lenS, tu_ixS, outA, scrA, isOA, isSA, outS_o, scrS_s, isO_o, isS_s, lok_gen, lix_nil, lix_v, lix_l, lix_s, sok_nil, sok_v, sok_l, sok_s, at_0, at_1, getV_v, getV_o, getL_o, add_ii, sub_ii, mul_ii, mul_ti, mul_li, fdiv_ii, mod_ii, pow_ii, neg_i, cmp_ii, addI_ii, mulI_ii, eq_ii, ne_ii, eq_ss, ne_ss, asB_b, truth_b, truth_i, truth_l, truth_t, truth_n, asI_i, item_l, item_t, len_l, len_t, abs_i, int_i, int_b, tuple_l, tuple_t, list_l, list_t, max2_ii, min2_ii, seq_l, seq_t, slice_l, slice_t, rng1_i, rng2_i, zip_l, zip_t, zip_tl, zip_lt, enum_l, add_tt, add_ll, add_ss, repr_i, atI_0, atI_1, atI_2, ixN_0, ixN_1, ixN_2, ite_some, map_some, ex_and, ex_eq, bind_some, List.set_cons_zero, List.set_cons_succ, List.length_cons, List.length_nil, Option.some.injEq, decide_eq_true_eq, Bool.not_true, Bool.not_false, Bool.and_eq_true, Bool.or_eq_true, fillA, wbA, entry, entrySls, entrySl, List.replicate, List.cons_append, List.nil_append, trF_ok, List.append_nil, List.map_nil, List.map_cons, ownIx, and_assoc, exists_and_left, exists_eq_left', exists_eq_left, Rt.v.injEq, Rt.o.injEq, List.cons.injEq, PyData.int.injEq, PyData.list.injEq, PyData.tuple.injEq, and_true, true_and, List.all_cons, List.all_nil, List.nodup_cons, List.nodup_nil, decide_true, decide_false, Bool.and_true, Bool.true_and, List.mem_cons, List.not_mem_nil, not_false_eq_true, Nat.sub_self, Nat.reduceSub, Nat.reduceAdd, if_true, if_false, Bool.false_eq_true, reduceCtorEq, false_and, and_false, or_false, false_or, and_self, Nat.zero_add, exists_eq', exists_eq, Sl.val.injEq, Sl.own.injEq, exists_const, tr_vnil, tr_vcons, tr_callX, pick_c, pick_n, List.getElem?_cons_zero, List.getElem?_cons_succ, Option.toList_some, tr_dict0, tr_dict1, ts_never, isi_tt, isi_ii, isi_bi, rev_t, rev_l, ts_dput, ts_update, getDc_o, asD_d, din_i, dnin_i, dget_i, key_i, Option.isSome_some, Option.isSome_none, e7, em, ea, e8, ne_tup, st]
  refine ⟨fun _ _ => trivial, lenOk_of (by omega), lenOk_of (by simp; omega), ?_⟩
  refine ts_forM (fun i : Nat => PyData.int (s i)) (List.range (m + 1)) rfl (fun i r => ∃ p x y, r = [.val (tup (m + 1) s), .val (.int N), .val (.tuple (A.map prI)), .val (.tuple (B.map prI)), .val (.int G), .val (.int (N * s m)), .val (.tuple ((A ++ mvd (N * s m) B).map prI)), .val (.int (N + G)), p, x, y, .emp, .emp, .emp, .emp, .emp]) ⟨_, _, _, rfl⟩ (fun j k r hk h4 => ?_) (fun r h4 => ?_)
  · obtain ⟨p, x, y, rfl⟩ := h4
    obtain ⟨hj, hk⟩ := List.getElem?_eq_some_iff.mp hk
    have hj : j < m + 1 := by simpa using hj
    have hk : j = k := by simpa using hk
    subst hk
    have hj0 := hs.pos j
    have hjm := hs.mono (i := j) (j := m) (by omega)
    obtain ⟨q, hq, eq⟩ := hs.dvd (i := j) (j := m) (by omega)
    have hq60 : q ≤ 60 := by
      have := Int.mul_le_mul_of_nonneg_right (a := 1) (b := s j) (c := q) (by omega) (by omega)
      omega
    obtain ⟨dA, hdA⟩ : ∃ d : Nat, (d : Int) = N * q := ⟨(N * q).toNat, Int.toNat_of_nonneg (Int.mul_nonneg hN (by omega))⟩
    obtain ⟨dB, hdB⟩ : ∃ d : Nat, (d : Int) = G * q := ⟨(G * q).toNat, Int.toNat_of_nonneg (Int.mul_nonneg hG (by omega))⟩
    have hdA2 : (dA : Int) ≤ 10 * 60 := by rw [hdA]; exact Int.mul_le_mul hN2 hq60 (by omega) (by omega)
    have hdB2 : (dB : Int) ≤ 10 * 60 := by rw [hdB]; exact Int.mul_le_mul hG2 hq60 (by omega) (by omega)
    have hSA : N * s m = s j * dA := by rw [hdA, eq]; grind
    have hSB : G * s m = s j * dB := by rw [hdB, eq]; grind
    have hSW : (N + G) * s m = s j * (dA + dB : Nat) := by rw [Int.add_mul, hSA, hSB, Int.natCast_add, Int.mul_add]
    have bA : BsOk A := hA.bs hs (by omega) (by omega) (by omega)
    have bB : BsOk B := hB.bs hs (by omega) (by omega) (by omega)
    have bW : BsOk (A ++ mvd (N * s m) B) := hW.bs hs (by rw [List.length_append]; omega) (by rw [Int.add_mul]; omega) (by omega)
    have f1 := places_ok (s := s) (m := m) (j := j) (d := dA) (N := N) bA (by omega) hj0 (by omega) (by omega) (by omega) hSA
    have f2 := places_ok (s := s) (m := m) (j := j) (d := dB) (N := G) bB (by omega) hj0 (by omega) (by omega) (by omega) hSB
    have f3 := places_ok (s := s) (m := m) (j := j) (d := dA + dB) (N := N + G) bW (by omega) hj0 (by omega) (by omega) (by omega) hSW
    have hS2 : N * s m = dA * s j := by rw [hSA, Int.mul_comm]
    have hT2 : G * s m = dB * s j := by rw [hSB, Int.mul_comm]
    have hX2 : (N + G) * s m = (dA + dB : Nat) * s j := by rw [hSW, Int.mul_comm]
    rw [plc_cat hA2 hB2 hj0 hS2] at f3
    have k1 := keepers_ok (bs := A) (s := s) (m := m) (j := j) (d := dA) (by omega) (fun b hb => ⟨(hA.blk b hb).2.1, (hA1 b hb).2, by rw [← hS2]; exact hA2 b hb⟩) (by omega) hj0 (by omega) (by omega) (by have := kps_len (bs := A) (z := s j) (d := dA); omega)
    have k2 := keepers_ok (bs := B) (s := s) (m := m) (j := j) (d := dB) (by omega) (fun b hb => ⟨hB2 b hb, (hB1 b hb).2, by rw [← hT2]; exact (hB.blk b hb).2.2.2⟩) (by omega) hj0 (by omega) (by omega) (by have := kps_len (bs := B) (z := s j) (d := dB); omega)
    have k3 := keepers_ok (bs := A ++ mvd (N * s m) B) (s := s) (m := m) (j := j) (d := dA + dB) (by rw [List.length_append]; omega) (fun b hb => ⟨(hW.blk b hb).2.1, (hW.blk b hb).pos hs, by rw [← hX2]; exact (hW.blk b hb).2.2.2⟩) (by omega) hj0 (by omega) (by rw [← hX2, Int.add_mul]; omega) (by have := kps_len (bs := A ++ mvd (N * s m) B) (z := s j) (d := dA + dB); rw [List.length_append] at this; omega)
    rw [kps_cat hA1 hB2 hj0 hS2] at k3
    have kl1 := kps_len (bs := A) (z := s j) (d := dA)
    have kl2 := kps_len (bs := B) (z := s j) (d := dB)
    have k4 := moved_ok (bs := kps B (s j) dB) (S := N * s m) (by omega)
    have pl1 := plc_len (bs := A) (z := s j) (d := dA)
    have pl2 := plc_len (bs := B) (z := s j) (d := dB)
    have kml : (mvd (N * s m) (kps B (s j) dB)).length = (kps B (s j) dB).length := by unfold mvd; simp
    simp only [tr_bnd, tr_lft, tr_con, tr_op2, tr_op2r, tr_op2b, tr_asB, tr_trB, tr_trBp, tr_and, tr_or, tr_not, tr_if, tr_andV, tr_orV, tr_notV, tr_neg, tr_chain, tr_nil, tr_cons, tr_tup, tr_lst, tr_pn, tr_ps, tr_sl, tr_c1, tr_c1p, tr_seqI, tr_rng1, tr_rng2, tr_rng3, tr_zip, tr_enum, tr_rtV, tr_rtO, tr_aNil, tr_aV, tr_call, tr_callT, ts_next, ts_break, ts_cont, ts_seq, ts_ret, ts_retO, ts_retN, ts_expr, ts_assign, as_name, as_nil, as_cons, as_tup, ts_own, ts_if, ts_for, ts_store, varK_v, varK_o, tr_yes, wipe_n, wipe_c, unw_n, unw_c, unw1_v, unw1_e, unw1_n, getQ_0, getQ_s, isOS_v, isOS_e, nl_i, nl_b, nl_n, nl_s, nl_t, eq_self, ts_par, pev_n, pev_v, pev_o, sets_n, sets_c, tr_bor, bor_c, bor_n, sok_e, sok_vv, sok_int, sok_ss, sok_o, rtd_v, rtd_o, rto_o, tu_var, tu_op2l, tu_slp, getO_o, getS_s, getX_v, tu_aL, tu_aS, tu_take, tu_aug, tu_append, tu_pop, tu_lenS, tu_ixS, outA, scrA, isOA, isSA, outS_o, scrS_s, isO_o, isS_s, lok_gen, lix_nil, lix_v, lix_l, lix_s, sok_nil, sok_v, sok_l, sok_s, at_0, at_1, getV_v, getV_o, getL_o, add_ii, sub_ii, mul_ii, mul_ti, mul_li, fdiv_ii, mod_ii, pow_ii, neg_i, cmp_ii, addI_ii, mulI_ii, eq_ii, ne_ii, eq_ss, ne_ss, asB_b, truth_b, truth_i, truth_l, truth_t, truth_n, asI_i, item_l, item_t, len_l, len_t, abs_i, int_i, int_b, tuple_l, tuple_t, list_l, list_t, max2_ii, min2_ii, seq_l, seq_t, slice_l, slice_t, rng1_i, rng2_i, zip_l, zip_t, zip_tl, zip_lt, enum_l, add_tt, add_ll, add_ss, repr_i, atI_0, atI_1, atI_2, ixN_0, ixN_1, ixN_2, ite_some, map_some, ex_and, ex_eq, bind_some, List.set_cons_zero, List.set_cons_succ, List.length_cons, List.length_nil, Option.some.injEq, decide_eq_true_eq, Bool.not_true, Bool.not_false, Bool.and_eq_true, Bool.or_eq_true, fillA, wbA, entry, entrySls, entrySl, List.replicate, List.cons_append, List.nil_append, trF_ok, List.append_nil, List.map_nil, List.map_cons, ownIx, and_assoc, exists_and_left, exists_eq_left', exists_eq_left, Rt.v.injEq, Rt.o.injEq, List.cons.injEq, PyData.int.injEq, PyData.list.injEq, PyData.tuple.injEq, and_true, true_and, List.all_cons, List.all_nil, List.nodup_cons, List.nodup_nil, decide_true, decide_false, Bool.and_true, Bool.true_and, List.mem_cons, List.not_mem_nil, not_false_eq_true, Nat.sub_self, Nat.reduceSub, Nat.reduceAdd, if_true, if_false, Bool.false_eq_true, reduceCtorEq, false_and, and_false, or_false, false_or, and_self, Nat.zero_add, exists_eq', exists_eq, Sl.val.injEq, Sl.own.injEq, exists_const, tr_vnil, tr_vcons, tr_callX, pick_c, pick_n, List.getElem?_cons_zero, List.getElem?_cons_succ, Option.toList_some, tr_dict0, tr_dict1, ts_never, isi_tt, isi_ii, isi_bi, rev_t, rev_l, ts_dput, ts_update, getDc_o, asD_d, din_i, dnin_i, dget_i, key_i, Option.isSome_some, Option.isSome_none, f1, f2]
    refine tr_lcA PyData.int (plc B (s j) dB) (fun k => .int (k + N * s m)) ?_
    have em2 : (plc B (s j) dB).map (fun k => PyData.int (k + N * s m)) = ((plc B (s j) dB).map fun k : Int => k + N * s m).map PyData.int := by rw [List.map_map]; rfl
    have ea2 : (plc A (s j) dA).map PyData.int ++ ((plc B (s j) dB).map fun k : Int => k + N * s m).map PyData.int = (plc A (s j) dA ++ (plc B (s j) dB).map fun k : Int => k + N * s m).map PyData.int := by rw [List.map_append]
    have ka : (kps A (s j) dA).map prI ++ (mvd (N * s m) (kps B (s j) dB)).map prI = (kps A (s j) dA ++ mvd (N * s m) (kps B (s j) dB)).map prI := by rw [List.map_append]
    have ne_prs : ∀ xs : List (Int × Int), ne? (.tuple (xs.map prI)) (.tuple (xs.map prI)) = some (.bool false) := fun xs => by
      unfold ne? cmpOk
      rw [shp_prs, if_pos (by simp)]
      simp only [PyData.eqv, eqv_prs, decide_true, Bool.not_true]
    simp only [tr_bnd, tr_lft, tr_con, tr_op2, tr_op2r, tr_op2b, tr_asB, tr_trB, tr_trBp, tr_and, tr_or, tr_not, tr_if, tr_andV, tr_orV, tr_notV, tr_neg, tr_chain, tr_nil, tr_cons, tr_tup, tr_lst, tr_pn, tr_ps, tr_sl, tr_c1, tr_c1p, tr_seqI, tr_rng1, tr_rng2, tr_rng3, tr_zip, tr_enum, tr_rtV, tr_rtO, tr_aNil, tr_aV, tr_call, tr_callT, ts_next, ts_break, ts_cont, ts_seq, ts_ret, ts_retO, ts_retN, ts_expr, ts_assign, as_name, as_nil, as_cons, as_tup, ts_own, ts_if, ts_for, ts_store, varK_v, varK_o, tr_yes, wipe_n, wipe_c, unw_n, unw_c, unw1_v, unw1_e, unw1_n, getQ_0, getQ_s, isOS_v, isOS_e, nl_i, nl_b, nl_n, nl_s, nl_t, eq_self, ts_par, pev_n, pev_v, pev_o, sets_n, sets_c, tr_bor, bor_c, bor_n, sok_e, sok_vv, sok_int, sok_ss, sok_o, rtd_v, rtd_o, rto_o, tu_var, tu_op2l, tu_slp, getO_o, getS_s, getX_v, tu_aL, tu_aS, tu_take, tu_aug, tu_append, tu_pop, tu_lenS, tu_ixS, outA, scrA, isOA, isSA, outS_o, scrS_s, isO_o, isS_s, lok_gen, lix_nil, lix_v, lix_l, lix_s, sok_nil, sok_v, sok_l, sok_s, at_0, at_1, getV_v, getV_o, getL_o, add_ii, sub_ii, mul_ii, mul_ti, mul_li, fdiv_ii, mod_ii, pow_ii, neg_i, cmp_ii, addI_ii, mulI_ii, eq_ii, ne_ii, eq_ss, ne_ss, asB_b, truth_b, truth_i, truth_l, truth_t, truth_n, asI_i, item_l, item_t, len_l, len_t, abs_i, int_i, int_b, tuple_l, tuple_t, list_l, list_t, max2_ii, min2_ii, seq_l, seq_t, slice_l, slice_t, rng1_i, rng2_i, zip_l, zip_t, zip_tl, zip_lt, enum_l, add_tt, add_ll, add_ss, repr_i, atI_0, atI_1, atI_2, ixN_0, ixN_1, ixN_2, ite_some, map_some, ex_and, ex_eq, bind_some, List.set_cons_zero, List.set_cons_succ, List.length_cons, List.length_nil, Option.some.injEq, decide_eq_true_eq, Bool.not_true, Bool.not_false, Bool.and_eq_true, Bool.or_eq_true, fillA, wbA, entry, entrySls, entrySl, List.replicate, List.cons_append, List.nil_append, trF_ok, List.append_nil, List.map_nil, List.map_cons, ownIx, and_assoc, exists_and_left, exists_eq_left', exists_eq_left, Rt.v.injEq, Rt.o.injEq, List.cons.injEq, PyData.int.injEq, PyData.list.injEq, PyData.tuple.injEq, and_true, true_and, List.all_cons, List.all_nil, List.nodup_cons, List.nodup_nil, decide_true, decide_false, Bool.and_true, Bool.true_and, List.mem_cons, List.not_mem_nil, not_false_eq_true, Nat.sub_self, Nat.reduceSub, Nat.reduceAdd, if_true, if_false, Bool.false_eq_true, reduceCtorEq, false_and, and_false, or_false, false_or, and_self, Nat.zero_add, exists_eq', exists_eq, Sl.val.injEq, Sl.own.injEq, exists_const, tr_vnil, tr_vcons, tr_callX, pick_c, pick_n, List.getElem?_cons_zero, List.getElem?_cons_succ, Option.toList_some, tr_dict0, tr_dict1, ts_never, isi_tt, isi_ii, isi_bi, rev_t, rev_l, ts_dput, ts_update, getDc_o, asD_d, din_i, dnin_i, dget_i, key_i, Option.isSome_some, Option.isSome_none, f2, em2, ea2, f3, ne_tup, k1, k2, k3, k4, ka, ne_prs]
    refine ⟨fun _ _ => trivial, lenOk_of (by omega), lenOk_of (by simp; omega), lenOk_of (by simp; omega)⟩
  · obtain ⟨p, x, y, rfl⟩ := h4
    have r1 := reaches_ok (s := s) (bs := A) (m := m) (by omega) (by omega)
    have r2 := reaches_ok (s := s) (bs := B) (m := m) (by omega) (by omega)
    have r3 := reaches_ok (s := s) (bs := A ++ mvd (N * s m) B) (m := m) (by omega) (by rw [List.length_append]; omega)
    have er : rch s (A ++ mvd (N * s m) B) = fun i => if rch s B i = 0 then rch s A i else rch s B i + N * s m := funext fun i => rch_cat hA2 hB1 hNm0
    rw [er] at r3
    simp only [tr_bnd, tr_lft, tr_con, tr_op2, tr_op2r, tr_op2b, tr_asB, tr_trB, tr_trBp, tr_and, tr_or, tr_not, tr_if, tr_andV, tr_orV, tr_notV, tr_neg, tr_chain, tr_nil, tr_cons, tr_tup, tr_lst, tr_pn, tr_ps, tr_sl, tr_c1, tr_c1p, tr_seqI, tr_rng1, tr_rng2, tr_rng3, tr_zip, tr_enum, tr_rtV, tr_rtO, tr_aNil, tr_aV, tr_call, tr_callT, ts_next, ts_break, ts_cont, ts_seq, ts_ret, ts_retO, ts_retN, ts_expr, ts_assign, as_name, as_nil, as_cons, as_tup, ts_own, ts_if, ts_for, ts_store, varK_v, varK_o, tr_yes, wipe_n, wipe_c, unw_n, unw_c, unw1_v, unw1_e, unw1_n, getQ_0, getQ_s, isOS_v, isOS_e, nl_i, nl_b, nl_n, nl_s, nl_t, eq_self, ts_par, pev_n, pev_v, pev_o, sets_n, sets_c, tr_bor, bor_c, bor_n, sok_e, sok_vv, sok_int, sok_ss, sok_o, rtd_v, rtd_o, rto_o, tu_var, tu_op2l, tu_slp, getO_o, getS_s, getX_v, tu_aL, tu_aS, tu_take, tu_aug, tu_append, tu_pop, tu_lenS, tu_ixS, outA, scrA, isOA, isSA, outS_o, scrS_s, isO_o, isS_s, lok_gen, lix_nil, lix_v, lix_l, lix_s, sok_nil, sok_v, sok_l, sok_s, at_0, at_1, getV_v, getV_o, getL_o, add_ii, sub_ii, mul_ii, mul_ti, mul_li, fdiv_ii, mod_ii, pow_ii, neg_i, cmp_ii, addI_ii, mulI_ii, eq_ii, ne_ii, eq_ss, ne_ss, asB_b, truth_b, truth_i, truth_l, truth_t, truth_n, asI_i, item_l, item_t, len_l, len_t, abs_i, int_i, int_b, tuple_l, tuple_t, list_l, list_t, max2_ii, min2_ii, seq_l, seq_t, slice_l, slice_t, rng1_i, rng2_i, zip_l, zip_t, zip_tl, zip_lt, enum_l, add_tt, add_ll, add_ss, repr_i, atI_0, atI_1, atI_2, ixN_0, ixN_1, ixN_2, ite_some, map_some, ex_and, ex_eq, bind_some, List.set_cons_zero, List.set_cons_succ, List.length_cons, List.length_nil, Option.some.injEq, decide_eq_true_eq, Bool.not_true, Bool.not_false, Bool.and_eq_true, Bool.or_eq_true, fillA, wbA, entry, entrySls, entrySl, List.replicate, List.cons_append, List.nil_append, trF_ok, List.append_nil, List.map_nil, List.map_cons, ownIx, and_assoc, exists_and_left, exists_eq_left', exists_eq_left, Rt.v.injEq, Rt.o.injEq, List.cons.injEq, PyData.int.injEq, PyData.list.injEq, PyData.tuple.injEq, and_true, true_and, List.all_cons, List.all_nil, List.nodup_cons, List.nodup_nil, decide_true, decide_false, Bool.and_true, Bool.true_and, List.mem_cons, List.not_mem_nil, not_false_eq_true, Nat.sub_self, Nat.reduceSub, Nat.reduceAdd, if_true, if_false, Bool.false_eq_true, reduceCtorEq, false_and, and_false, or_false, false_or, and_self, Nat.zero_add, exists_eq', exists_eq, Sl.val.injEq, Sl.own.injEq, exists_const, tr_vnil, tr_vcons, tr_callX, pick_c, pick_n, List.getElem?_cons_zero, List.getElem?_cons_succ, Option.toList_some, tr_dict0, tr_dict1, ts_never, isi_tt, isi_ii, isi_bi, rev_t, rev_l, ts_dput, ts_update, getDc_o, asD_d, din_i, dnin_i, dget_i, key_i, Option.isSome_some, Option.isSome_none, r1, r2, r3, tup_zip, tup_list]
    refine tr_lcA (fun i : Nat => PyData.tuple [.int (rch s A i), .int (rch s B i)]) (List.range (m + 1)) (fun i => .int (if rch s B i = 0 then rch s A i else rch s B i + N * s m)) ?_
    simp only [tr_bnd, tr_lft, tr_con, tr_op2, tr_op2r, tr_op2b, tr_asB, tr_trB, tr_trBp, tr_and, tr_or, tr_not, tr_if, tr_andV, tr_orV, tr_notV, tr_neg, tr_chain, tr_nil, tr_cons, tr_tup, tr_lst, tr_pn, tr_ps, tr_sl, tr_c1, tr_c1p, tr_seqI, tr_rng1, tr_rng2, tr_rng3, tr_zip, tr_enum, tr_rtV, tr_rtO, tr_aNil, tr_aV, tr_call, tr_callT, ts_next, ts_break, ts_cont, ts_seq, ts_ret, ts_retO, ts_retN, ts_expr, ts_assign, as_name, as_nil, as_cons, as_tup, ts_own, ts_if, ts_for, ts_store, varK_v, varK_o, tr_yes, wipe_n, wipe_c, unw_n, unw_c, unw1_v, unw1_e, unw1_n, getQ_0, getQ_s, isOS_v, isOS_e, nl_i, nl_b, nl_n, nl_s, nl_t, eq_self, ts_par, pev_n, pev_v, pev_o, sets_n, sets_c, tr_bor, bor_c, bor_n, sok_e, sok_vv, sok_int, sok_ss, sok_o, rtd_v, rtd_o, rto_o, tu_var, tu_op2l, tu_slp, getO_o, getS_s, getX_v, tu_aL, tu_aS, tu_take, tu_aug, tu_append, tu_pop, tu_lenS, tu_ixS, outA, scrA, isOA, isSA, outS_o, scrS_s, isO_o, isS_s, lok_gen, lix_nil, lix_v, lix_l, lix_s, sok_nil, sok_v, sok_l, sok_s, at_0, at_1, getV_v, getV_o, getL_o, add_ii, sub_ii, mul_ii, mul_ti, mul_li, fdiv_ii, mod_ii, pow_ii, neg_i, cmp_ii, addI_ii, mulI_ii, eq_ii, ne_ii, eq_ss, ne_ss, asB_b, truth_b, truth_i, truth_l, truth_t, truth_n, asI_i, item_l, item_t, len_l, len_t, abs_i, int_i, int_b, tuple_l, tuple_t, list_l, list_t, max2_ii, min2_ii, seq_l, seq_t, slice_l, slice_t, rng1_i, rng2_i, zip_l, zip_t, zip_tl, zip_lt, enum_l, add_tt, add_ll, add_ss, repr_i, atI_0, atI_1, atI_2, ixN_0, ixN_1, ixN_2, ite_some, map_some, ex_and, ex_eq, bind_some, List.set_cons_zero, List.set_cons_succ, List.length_cons, List.length_nil, Option.some.injEq, decide_eq_true_eq, Bool.not_true, Bool.not_false, Bool.and_eq_true, Bool.or_eq_true, fillA, wbA, entry, entrySls, entrySl, List.replicate, List.cons_append, List.nil_append, trF_ok, List.append_nil, List.map_nil, List.map_cons, ownIx, and_assoc, exists_and_left, exists_eq_left', exists_eq_left, Rt.v.injEq, Rt.o.injEq, List.cons.injEq, PyData.int.injEq, PyData.list.injEq, PyData.tuple.injEq, and_true, true_and, List.all_cons, List.all_nil, List.nodup_cons, List.nodup_nil, decide_true, decide_false, Bool.and_true, Bool.true_and, List.mem_cons, List.not_mem_nil, not_false_eq_true, Nat.sub_self, Nat.reduceSub, Nat.reduceAdd, if_true, if_false, Bool.false_eq_true, reduceCtorEq, false_and, and_false, or_false, false_or, and_self, Nat.zero_add, exists_eq', exists_eq, Sl.val.injEq, Sl.own.injEq, exists_const, tr_vnil, tr_vcons, tr_callX, pick_c, pick_n, List.getElem?_cons_zero, List.getElem?_cons_succ, Option.toList_some, tr_dict0, tr_dict1, ts_never, isi_tt, isi_ii, isi_bi, rev_t, rev_l, ts_dput, ts_update, getDc_o, asD_d, din_i, dnin_i, dget_i, key_i, Option.isSome_some, Option.isSome_none, r1, r2, tup_zip]
    refine ⟨fun i hi => by split <;> rfl, lenOk_of (by simp; omega), ?_⟩
    have el : PyData.list ((List.range (m + 1)).map fun i => PyData.int (if rch s B i = 0 then rch s A i else rch s B i + N * s m)) = lstI (m + 1) fun i => if rch s B i = 0 then rch s A i else rch s B i + N * s m := by
      unfold lstI; rw [List.map_map]; rfl
    have eqr : ∀ f : Nat → Int, eq? (lstI (m + 1) f) (lstI (m + 1) f) = some (.bool true) := fun f => by unfold lstI; rw [eq_lst]; simp
    simp only [tr_bnd, tr_lft, tr_con, tr_op2, tr_op2r, tr_op2b, tr_asB, tr_trB, tr_trBp, tr_and, tr_or, tr_not, tr_if, tr_andV, tr_orV, tr_notV, tr_neg, tr_chain, tr_nil, tr_cons, tr_tup, tr_lst, tr_pn, tr_ps, tr_sl, tr_c1, tr_c1p, tr_seqI, tr_rng1, tr_rng2, tr_rng3, tr_zip, tr_enum, tr_rtV, tr_rtO, tr_aNil, tr_aV, tr_call, tr_callT, ts_next, ts_break, ts_cont, ts_seq, ts_ret, ts_retO, ts_retN, ts_expr, ts_assign, as_name, as_nil, as_cons, as_tup, ts_own, ts_if, ts_for, ts_store, varK_v, varK_o, tr_yes, wipe_n, wipe_c, unw_n, unw_c, unw1_v, unw1_e, unw1_n, getQ_0, getQ_s, isOS_v, isOS_e, nl_i, nl_b, nl_n, nl_s, nl_t, eq_self, ts_par, pev_n, pev_v, pev_o, sets_n, sets_c, tr_bor, bor_c, bor_n, sok_e, sok_vv, sok_int, sok_ss, sok_o, rtd_v, rtd_o, rto_o, tu_var, tu_op2l, tu_slp, getO_o, getS_s, getX_v, tu_aL, tu_aS, tu_take, tu_aug, tu_append, tu_pop, tu_lenS, tu_ixS, outA, scrA, isOA, isSA, outS_o, scrS_s, isO_o, isS_s, lok_gen, lix_nil, lix_v, lix_l, lix_s, sok_nil, sok_v, sok_l, sok_s, at_0, at_1, getV_v, getV_o, getL_o, add_ii, sub_ii, mul_ii, mul_ti, mul_li, fdiv_ii, mod_ii, pow_ii, neg_i, cmp_ii, addI_ii, mulI_ii, eq_ii, ne_ii, eq_ss, ne_ss, asB_b, truth_b, truth_i, truth_l, truth_t, truth_n, asI_i, item_l, item_t, len_l, len_t, abs_i, int_i, int_b, tuple_l, tuple_t, list_l, list_t, max2_ii, min2_ii, seq_l, seq_t, slice_l, slice_t, rng1_i, rng2_i, zip_l, zip_t, zip_tl, zip_lt, enum_l, add_tt, add_ll, add_ss, repr_i, atI_0, atI_1, atI_2, ixN_0, ixN_1, ixN_2, ite_some, map_some, ex_and, ex_eq, bind_some, List.set_cons_zero, List.set_cons_succ, List.length_cons, List.length_nil, Option.some.injEq, decide_eq_true_eq, Bool.not_true, Bool.not_false, Bool.and_eq_true, Bool.or_eq_true, fillA, wbA, entry, entrySls, entrySl, List.replicate, List.cons_append, List.nil_append, trF_ok, List.append_nil, List.map_nil, List.map_cons, ownIx, and_assoc, exists_and_left, exists_eq_left', exists_eq_left, Rt.v.injEq, Rt.o.injEq, List.cons.injEq, PyData.int.injEq, PyData.list.injEq, PyData.tuple.injEq, and_true, true_and, List.all_cons, List.all_nil, List.nodup_cons, List.nodup_nil, decide_true, decide_false, Bool.and_true, Bool.true_and, List.mem_cons, List.not_mem_nil, not_false_eq_true, Nat.sub_self, Nat.reduceSub, Nat.reduceAdd, if_true, if_false, Bool.false_eq_true, reduceCtorEq, false_and, and_false, or_false, false_or, and_self, Nat.zero_add, exists_eq', exists_eq, Sl.val.injEq, Sl.own.injEq, exists_const, tr_vnil, tr_vcons, tr_callX, pick_c, pick_n, List.getElem?_cons_zero, List.getElem?_cons_succ, Option.toList_some, tr_dict0, tr_dict1, ts_never, isi_tt, isi_ii, isi_bi, rev_t, rev_l, ts_dput, ts_update, getDc_o, asD_d, din_i, dnin_i, dget_i, key_i, Option.isSome_some, Option.isSome_none, r3, tup_list, el, eqr]
end Lk16

namespace Lk16
open PySem PySem.Spec L2 PL BT
theorem law_true (ns : List Int) (hn : ns.length ≤ 63) : f_law [.list (ns.map PyData.int)] = .ok (.v (.bool true)) [] := by
  apply trF_eq
  unfold f_law m_law
  rw [trF_body]
  simp only [tr_bnd, tr_lft, tr_con, tr_op2, tr_op2r, tr_op2b, tr_asB, tr_trB, tr_trBp, tr_and, tr_or, tr_not, tr_if, tr_andV, tr_orV, tr_notV, tr_neg, tr_chain, tr_nil, tr_cons, tr_tup, tr_lst, tr_pn, tr_ps, tr_sl, tr_c1, tr_c1p, tr_seqI, tr_rng1, tr_rng2, tr_rng3, tr_zip, tr_enum, tr_rtV, tr_rtO, tr_aNil, tr_aV, tr_call, tr_callT, ts_next, ts_break, ts_cont, ts_seq, ts_ret, ts_retO, ts_retN, ts_expr, ts_assign, as_name, as_nil, as_cons, as_tup, ts_own, ts_if, ts_for, ts_store, varK_v, varK_o, tr_yes, wipe_n, wipe_c, unw_n, unw_c, unw1_v, unw1_e, unw1_n, getQ_0, getQ_s, isOS_v, isOS_e, nl_i, nl_b, nl_n, nl_s, nl_t, eq_self, ts_par, pev_n, pev_v, pev_o, sets_n, sets_c, tr_bor, bor_c, bor_n, sok_e, sok_vv, sok_int, sok_ss, sok_o, rtd_v, rtd_o, rto_o, tu_var, tu_op2l, tu_slp, getO_o, getS_s, getX_v, tu_aL, tu_aS, tu_take, tu_aug, tu_append, tu_pop, tu_lenS, tu_ixS, outA, scrA, isOA, isSA, outS_o, scrS_s, isO_o, isS_s, lok_gen, lix_nil, lix_v, lix_l, lix_s, sok_nil, sok_v, sok_l, sok_s, at_0, at_1, getV_v, getV_o, getL_o, add_ii, sub_ii, mul_ii, mul_ti, mul_li, fdiv_ii, mod_ii, pow_ii, neg_i, cmp_ii, addI_ii, mulI_ii, eq_ii, ne_ii, eq_ss, ne_ss, asB_b, truth_b, truth_i, truth_l, truth_t, truth_n, asI_i, item_l, item_t, len_l, len_t, abs_i, int_i, int_b, tuple_l, tuple_t, list_l, list_t, max2_ii, min2_ii, seq_l, seq_t, slice_l, slice_t, rng1_i, rng2_i, zip_l, zip_t, zip_tl, zip_lt, enum_l, add_tt, add_ll, add_ss, repr_i, atI_0, atI_1, atI_2, ixN_0, ixN_1, ixN_2, ite_some, map_some, ex_and, ex_eq, bind_some, List.set_cons_zero, List.set_cons_succ, List.length_cons, List.length_nil, Option.some.injEq, decide_eq_true_eq, Bool.not_true, Bool.not_false, Bool.and_eq_true, Bool.or_eq_true, fillA, wbA, entry, entrySls, entrySl, List.replicate, List.cons_append, List.nil_append, trF_ok, List.append_nil, List.map_nil, List.map_cons, ownIx, and_assoc, exists_and_left, exists_eq_left', exists_eq_left, Rt.v.injEq, Rt.o.injEq, List.cons.injEq, PyData.int.injEq, PyData.list.injEq, PyData.tuple.injEq, and_true, true_and, List.all_cons, List.all_nil, List.nodup_cons, List.nodup_nil, decide_true, decide_false, Bool.and_true, Bool.true_and, List.mem_cons, List.not_mem_nil, not_false_eq_true, Nat.sub_self, Nat.reduceSub, Nat.reduceAdd, if_true, if_false, Bool.false_eq_true, reduceCtorEq, false_and, and_false, or_false, false_or, and_self, Nat.zero_add, exists_eq', exists_eq, Sl.val.injEq, Sl.own.injEq, exists_const, tr_vnil, tr_vcons, tr_callX, pick_c, pick_n, List.getElem?_cons_zero, List.getElem?_cons_succ, Option.toList_some, tr_dict0, tr_dict1, ts_never, isi_tt, isi_ii, isi_bi, rev_t, rev_l, ts_dput, ts_update, getDc_o, asD_d, din_i, dnin_i, dget_i, key_i, Option.isSome_some, Option.isSome_none, scr_ints]
  refine ⟨rOk_of (by split <;> split <;> omega) (by split <;> split <;> omega), ?_⟩
  generalize hK : (if (if (ns.length : Int) < 3 then (ns.length : Int) else 3) > 1 then (if (ns.length : Int) < 3 then (ns.length : Int) else 3) else 1).toNat = K
  have hK3 : K ≤ 3 := by rw [← hK]; split <;> split <;> omega
  refine ts_range (fun i r => ∃ a b c d e f g h, r = [.scr ns, a, b, c, d, e, f, g, h]) ⟨_, _, _, _, _, _, _, _, rfl⟩ (fun i r hi h4 => ?_) (fun r h4 => ?_)
  · obtain ⟨a, b, c, d, e, f, g, h, rfl⟩ := h4
    obtain ⟨p, ep, hp⟩ := pot_ok (ns := ns) (k := 0 + (i : Int)) (by omega) (by omega) hn
    simp only [tr_bnd, tr_lft, tr_con, tr_op2, tr_op2r, tr_op2b, tr_asB, tr_trB, tr_trBp, tr_and, tr_or, tr_not, tr_if, tr_andV, tr_orV, tr_notV, tr_neg, tr_chain, tr_nil, tr_cons, tr_tup, tr_lst, tr_pn, tr_ps, tr_sl, tr_c1, tr_c1p, tr_seqI, tr_rng1, tr_rng2, tr_rng3, tr_zip, tr_enum, tr_rtV, tr_rtO, tr_aNil, tr_aV, tr_call, tr_callT, ts_next, ts_break, ts_cont, ts_seq, ts_ret, ts_retO, ts_retN, ts_expr, ts_assign, as_name, as_nil, as_cons, as_tup, ts_own, ts_if, ts_for, ts_store, varK_v, varK_o, tr_yes, wipe_n, wipe_c, unw_n, unw_c, unw1_v, unw1_e, unw1_n, getQ_0, getQ_s, isOS_v, isOS_e, nl_i, nl_b, nl_n, nl_s, nl_t, eq_self, ts_par, pev_n, pev_v, pev_o, sets_n, sets_c, tr_bor, bor_c, bor_n, sok_e, sok_vv, sok_int, sok_ss, sok_o, rtd_v, rtd_o, rto_o, tu_var, tu_op2l, tu_slp, getO_o, getS_s, getX_v, tu_aL, tu_aS, tu_take, tu_aug, tu_append, tu_pop, tu_lenS, tu_ixS, outA, scrA, isOA, isSA, outS_o, scrS_s, isO_o, isS_s, lok_gen, lix_nil, lix_v, lix_l, lix_s, sok_nil, sok_v, sok_l, sok_s, at_0, at_1, getV_v, getV_o, getL_o, add_ii, sub_ii, mul_ii, mul_ti, mul_li, fdiv_ii, mod_ii, pow_ii, neg_i, cmp_ii, addI_ii, mulI_ii, eq_ii, ne_ii, eq_ss, ne_ss, asB_b, truth_b, truth_i, truth_l, truth_t, truth_n, asI_i, item_l, item_t, len_l, len_t, abs_i, int_i, int_b, tuple_l, tuple_t, list_l, list_t, max2_ii, min2_ii, seq_l, seq_t, slice_l, slice_t, rng1_i, rng2_i, zip_l, zip_t, zip_tl, zip_lt, enum_l, add_tt, add_ll, add_ss, repr_i, atI_0, atI_1, atI_2, ixN_0, ixN_1, ixN_2, ite_some, map_some, ex_and, ex_eq, bind_some, List.set_cons_zero, List.set_cons_succ, List.length_cons, List.length_nil, Option.some.injEq, decide_eq_true_eq, Bool.not_true, Bool.not_false, Bool.and_eq_true, Bool.or_eq_true, fillA, wbA, entry, entrySls, entrySl, List.replicate, List.cons_append, List.nil_append, trF_ok, List.append_nil, List.map_nil, List.map_cons, ownIx, and_assoc, exists_and_left, exists_eq_left', exists_eq_left, Rt.v.injEq, Rt.o.injEq, List.cons.injEq, PyData.int.injEq, PyData.list.injEq, PyData.tuple.injEq, and_true, true_and, List.all_cons, List.all_nil, List.nodup_cons, List.nodup_nil, decide_true, decide_false, Bool.and_true, Bool.true_and, List.mem_cons, List.not_mem_nil, not_false_eq_true, Nat.sub_self, Nat.reduceSub, Nat.reduceAdd, if_true, if_false, Bool.false_eq_true, reduceCtorEq, false_and, and_false, or_false, false_or, and_self, Nat.zero_add, exists_eq', exists_eq, Sl.val.injEq, Sl.own.injEq, exists_const, tr_vnil, tr_vcons, tr_callX, pick_c, pick_n, List.getElem?_cons_zero, List.getElem?_cons_succ, Option.toList_some, tr_dict0, tr_dict1, ts_never, isi_tt, isi_ii, isi_bi, rev_t, rev_l, ts_dput, ts_update, getDc_o, asD_d, din_i, dnin_i, dget_i, key_i, Option.isSome_some, Option.isSome_none, ep]
    (repeat (first | ((with_reducible refine And.intro (lenOk_of ?_) ?_); focus (first | omega | (simp only [List.length_map, List.length_range, List.length_append, List.length_reverse, List.length_cons, List.length_nil]; omega) | (simp; omega))) | ((with_reducible refine And.intro (rOk_of ?_ ?_) ?_); (focus omega); (focus omega)) | ((with_reducible refine And.intro (fdOk_s ?_ ?_) ?_); (focus omega); (focus omega)) | ((with_reducible refine And.intro (mulOk_l ?_) ?_); focus omega) | ((with_reducible refine And.intro (mulOk_r ?_) ?_); focus omega) | ((with_reducible refine And.intro (a := powOk _ _ = true) ?_ ?_); focus decide) | (with_reducible refine And.intro trivial ?_)))
    refine ts_range (fun j r => ∃ q d e f g h l, Pot q ∧ r = [.scr ns, .val (.int (0 + (i : Int))), .own q, d, e, f, g, h, l]) ⟨p, _, _, _, _, _, _, hp, rfl⟩ (fun j r hj h5 => ?_) (fun r h5 => ?_)
    · obtain ⟨q, d, e, f, g, h, l, hq, rfl⟩ := h5
      obtain ⟨qs, p1, e1, hp1, hqs, hqm, hql⟩ := links_ok (most := 60) hq (by decide) (by decide)
      obtain ⟨N0, p2, e2, hp2, hN0, hN6⟩ := take_ok (u := 4) hp1 (by decide) (by decide)
      obtain ⟨G0, p3, e3, hp3, hG0, hG6⟩ := take_ok (u := 4) hp2 (by decide) (by decide)
      have hs := sz_szs (qs := qs) (fun q hq => by have := hqs q hq; omega)
      have hpg := sz_page qs
      have hpm : sz qs qs.length ≤ 60 := by rw [hpg]; omega
      have hsm0 := hs.pos qs.length
      obtain ⟨A, p4, e4, hp4, hA, hAl⟩ := drawn_ok (many := 1 + N0) (tries := 15) (s := sz qs) (m := qs.length) hp3 hs (by omega) (by omega) (by omega) (by omega) (by omega) (by omega)
      obtain ⟨B, p5, e5, hp5, hB, hBl⟩ := drawn_ok (many := 1 + G0) (tries := 15) (s := sz qs) (m := qs.length) hp4 hs (by omega) (by omega) (by omega) (by omega) (by omega) (by omega)
      have hA3 : Stt (sz qs) qs.length (1 + N0 + 3) A := ⟨fun b hb => by
        obtain ⟨h1, h2, h3, h4⟩ := hA.blk b hb
        exact ⟨h1, h2, h3, by rw [Int.add_mul]; omega⟩, hA.ord⟩
      have f1 := state_ok (s := sz qs) (m := qs.length) (N := 1 + N0 + 3) (d := .tuple (A.map prI)) (by omega) (fun ds e => by cases e; rw [List.length_map]; omega)
      rw [stt_true hs hA3] at f1
      have f2 := parts_ok (N := 1 + N0) (G := 1 + G0) hs (by omega) hpm hA hB (by omega) (by omega) (by omega) (by omega) (by omega) (by omega)
      have hE : Stt (sz qs) qs.length (1 + N0) [] := ⟨by simp, List.Pairwise.nil⟩
      have f3 := parts_ok (N := 1 + N0) (G := 1 + G0) hs (by omega) hpm hE hB (by omega) (by omega) (by omega) (by omega) (by simp) (by omega)
      rw [List.map_nil] at f3
      have nb : isNB? (.bool true) (.bool true) = some (.bool false) := rfl
      simp only [tr_bnd, tr_lft, tr_con, tr_op2, tr_op2r, tr_op2b, tr_asB, tr_trB, tr_trBp, tr_and, tr_or, tr_not, tr_if, tr_andV, tr_orV, tr_notV, tr_neg, tr_chain, tr_nil, tr_cons, tr_tup, tr_lst, tr_pn, tr_ps, tr_sl, tr_c1, tr_c1p, tr_seqI, tr_rng1, tr_rng2, tr_rng3, tr_zip, tr_enum, tr_rtV, tr_rtO, tr_aNil, tr_aV, tr_call, tr_callT, ts_next, ts_break, ts_cont, ts_seq, ts_ret, ts_retO, ts_retN, ts_expr, ts_assign, as_name, as_nil, as_cons, as_tup, ts_own, ts_if, ts_for, ts_store, varK_v, varK_o, tr_yes, wipe_n, wipe_c, unw_n, unw_c, unw1_v, unw1_e, unw1_n, getQ_0, getQ_s, isOS_v, isOS_e, nl_i, nl_b, nl_n, nl_s, nl_t, eq_self, ts_par, pev_n, pev_v, pev_o, sets_n, sets_c, tr_bor, bor_c, bor_n, sok_e, sok_vv, sok_int, sok_ss, sok_o, rtd_v, rtd_o, rto_o, tu_var, tu_op2l, tu_slp, getO_o, getS_s, getX_v, tu_aL, tu_aS, tu_take, tu_aug, tu_append, tu_pop, tu_lenS, tu_ixS, outA, scrA, isOA, isSA, outS_o, scrS_s, isO_o, isS_s, lok_gen, lix_nil, lix_v, lix_l, lix_s, sok_nil, sok_v, sok_l, sok_s, at_0, at_1, getV_v, getV_o, getL_o, add_ii, sub_ii, mul_ii, mul_ti, mul_li, fdiv_ii, mod_ii, pow_ii, neg_i, cmp_ii, addI_ii, mulI_ii, eq_ii, ne_ii, eq_ss, ne_ss, asB_b, truth_b, truth_i, truth_l, truth_t, truth_n, asI_i, item_l, item_t, len_l, len_t, abs_i, int_i, int_b, tuple_l, tuple_t, list_l, list_t, max2_ii, min2_ii, seq_l, seq_t, slice_l, slice_t, rng1_i, rng2_i, zip_l, zip_t, zip_tl, zip_lt, enum_l, add_tt, add_ll, add_ss, repr_i, atI_0, atI_1, atI_2, ixN_0, ixN_1, ixN_2, ite_some, map_some, ex_and, ex_eq, bind_some, List.set_cons_zero, List.set_cons_succ, List.length_cons, List.length_nil, Option.some.injEq, decide_eq_true_eq, Bool.not_true, Bool.not_false, Bool.and_eq_true, Bool.or_eq_true, fillA, wbA, entry, entrySls, entrySl, List.replicate, List.cons_append, List.nil_append, trF_ok, List.append_nil, List.map_nil, List.map_cons, ownIx, and_assoc, exists_and_left, exists_eq_left', exists_eq_left, Rt.v.injEq, Rt.o.injEq, List.cons.injEq, PyData.int.injEq, PyData.list.injEq, PyData.tuple.injEq, and_true, true_and, List.all_cons, List.all_nil, List.nodup_cons, List.nodup_nil, decide_true, decide_false, Bool.and_true, Bool.true_and, List.mem_cons, List.not_mem_nil, not_false_eq_true, Nat.sub_self, Nat.reduceSub, Nat.reduceAdd, if_true, if_false, Bool.false_eq_true, reduceCtorEq, false_and, and_false, or_false, false_or, and_self, Nat.zero_add, exists_eq', exists_eq, Sl.val.injEq, Sl.own.injEq, exists_const, tr_vnil, tr_vcons, tr_callX, pick_c, pick_n, List.getElem?_cons_zero, List.getElem?_cons_succ, Option.toList_some, tr_dict0, tr_dict1, ts_never, isi_tt, isi_ii, isi_bi, rev_t, rev_l, ts_dput, ts_update, getDc_o, asD_d, din_i, dnin_i, dget_i, key_i, Option.isSome_some, Option.isSome_none, e1, e2, e3, tup_chn, e4, e5, f1, nb, f2, f3]
      exact ⟨lenOk_of (by decide), _, hp5, rfl⟩
    · obtain ⟨q, d, e, f, g, h, l, hq, rfl⟩ := h5
      exact ⟨_, _, _, _, _, _, _, _, rfl⟩
  · obtain ⟨a, b, c, d, e, f, g, h, rfl⟩ := h4
    simp only [tr_bnd, tr_lft, tr_con, tr_op2, tr_op2r, tr_op2b, tr_asB, tr_trB, tr_trBp, tr_and, tr_or, tr_not, tr_if, tr_andV, tr_orV, tr_notV, tr_neg, tr_chain, tr_nil, tr_cons, tr_tup, tr_lst, tr_pn, tr_ps, tr_sl, tr_c1, tr_c1p, tr_seqI, tr_rng1, tr_rng2, tr_rng3, tr_zip, tr_enum, tr_rtV, tr_rtO, tr_aNil, tr_aV, tr_call, tr_callT, ts_next, ts_break, ts_cont, ts_seq, ts_ret, ts_retO, ts_retN, ts_expr, ts_assign, as_name, as_nil, as_cons, as_tup, ts_own, ts_if, ts_for, ts_store, varK_v, varK_o, tr_yes, wipe_n, wipe_c, unw_n, unw_c, unw1_v, unw1_e, unw1_n, getQ_0, getQ_s, isOS_v, isOS_e, nl_i, nl_b, nl_n, nl_s, nl_t, eq_self, ts_par, pev_n, pev_v, pev_o, sets_n, sets_c, tr_bor, bor_c, bor_n, sok_e, sok_vv, sok_int, sok_ss, sok_o, rtd_v, rtd_o, rto_o, tu_var, tu_op2l, tu_slp, getO_o, getS_s, getX_v, tu_aL, tu_aS, tu_take, tu_aug, tu_append, tu_pop, tu_lenS, tu_ixS, outA, scrA, isOA, isSA, outS_o, scrS_s, isO_o, isS_s, lok_gen, lix_nil, lix_v, lix_l, lix_s, sok_nil, sok_v, sok_l, sok_s, at_0, at_1, getV_v, getV_o, getL_o, add_ii, sub_ii, mul_ii, mul_ti, mul_li, fdiv_ii, mod_ii, pow_ii, neg_i, cmp_ii, addI_ii, mulI_ii, eq_ii, ne_ii, eq_ss, ne_ss, asB_b, truth_b, truth_i, truth_l, truth_t, truth_n, asI_i, item_l, item_t, len_l, len_t, abs_i, int_i, int_b, tuple_l, tuple_t, list_l, list_t, max2_ii, min2_ii, seq_l, seq_t, slice_l, slice_t, rng1_i, rng2_i, zip_l, zip_t, zip_tl, zip_lt, enum_l, add_tt, add_ll, add_ss, repr_i, atI_0, atI_1, atI_2, ixN_0, ixN_1, ixN_2, ite_some, map_some, ex_and, ex_eq, bind_some, List.set_cons_zero, List.set_cons_succ, List.length_cons, List.length_nil, Option.some.injEq, decide_eq_true_eq, Bool.not_true, Bool.not_false, Bool.and_eq_true, Bool.or_eq_true, fillA, wbA, entry, entrySls, entrySl, List.replicate, List.cons_append, List.nil_append, trF_ok, List.append_nil, List.map_nil, List.map_cons, ownIx, and_assoc, exists_and_left, exists_eq_left', exists_eq_left, Rt.v.injEq, Rt.o.injEq, List.cons.injEq, PyData.int.injEq, PyData.list.injEq, PyData.tuple.injEq, and_true, true_and, List.all_cons, List.all_nil, List.nodup_cons, List.nodup_nil, decide_true, decide_false, Bool.and_true, Bool.true_and, List.mem_cons, List.not_mem_nil, not_false_eq_true, Nat.sub_self, Nat.reduceSub, Nat.reduceAdd, if_true, if_false, Bool.false_eq_true, reduceCtorEq, false_and, and_false, or_false, false_or, and_self, Nat.zero_add, exists_eq', exists_eq, Sl.val.injEq, Sl.own.injEq, exists_const, tr_vnil, tr_vcons, tr_callX, pick_c, pick_n, List.getElem?_cons_zero, List.getElem?_cons_succ, Option.toList_some, tr_dict0, tr_dict1, ts_never, isi_tt, isi_ii, isi_bi, rev_t, rev_l, ts_dput, ts_update, getDc_o, asD_d, din_i, dnin_i, dget_i, key_i, Option.isSome_some, Option.isSome_none]
end Lk16

/-! the walk of the law k16, printed by gen.py -/
namespace Lk16
open PySem PySem.Spec PL L2
open PyProof.Rows hiding St

def topS (i : Nat) : Stmt := PySem.Challenge.pw_pinnedheap_k16_whole_states_moved_by_pag.main.body.getD i (.Pass ⟨0, 0, 0, 0⟩)
abbrev s_l_pot : Stmt := topS 18
abbrev N_l_pot : List Str := ["_law_script", "_law_k", "_law_cell", "_law_great"]
theorem sc_l_pot : FnScope N_l_pot ["_law_script", "_law_k"] (defScope s_l_pot) := ⟨rfl, rfl, rfl, by decide +kernel, rfl, by decide +kernel, by decide +kernel⟩
abbrev s_l_take : Stmt := topS 19
abbrev N_l_take : List Str := ["_law_pot_here", "_law_upto", "_law_digit"]
theorem sc_l_take : FnScope N_l_take ["_law_pot_here", "_law_upto"] (defScope s_l_take) := ⟨rfl, rfl, rfl, by decide +kernel, rfl, by decide +kernel, by decide +kernel⟩
abbrev s_l_of : Stmt := topS 20
abbrev N_l_of : List Str := ["_law_pot_here", "_law_some"]
theorem sc_l_of : FnScope N_l_of ["_law_pot_here", "_law_some"] (defScope s_l_of) := ⟨rfl, rfl, rfl, by decide +kernel, rfl, by decide +kernel, by decide +kernel⟩
abbrev s_l_links : Stmt := topS 21
abbrev N_l_links : List Str := ["_law_pot_here", "_law_most", "_law_found", "_law_turn", "_law_ratio"]
theorem sc_l_links : FnScope N_l_links ["_law_pot_here", "_law_most"] (defScope s_l_links) := ⟨rfl, rfl, rfl, by decide +kernel, rfl, by decide +kernel, by decide +kernel⟩
abbrev s_l_drawn : Stmt := topS 22
abbrev N_l_drawn : List Str := ["_law_pot_here", "_law_links_here", "_law_many", "_law_tries", "_law_found", "_law_taken", "_law_turn", "_law_words", "_law_start", "_law_word"]
theorem sc_l_drawn : FnScope N_l_drawn ["_law_pot_here", "_law_links_here", "_law_many", "_law_tries"] (defScope s_l_drawn) := ⟨rfl, rfl, rfl, by decide +kernel, rfl, by decide +kernel, by decide +kernel⟩
abbrev s_used_pages : Stmt := topS 14
abbrev N_used_pages : List Str := ["chain", "state", "address", "size"]
theorem sc_used_pages : FnScope N_used_pages ["chain", "state"] (defScope s_used_pages) := ⟨rfl, rfl, rfl, by decide +kernel, rfl, by decide +kernel, by decide +kernel⟩
abbrev s_l_moved : Stmt := topS 23
abbrev N_l_moved : List Str := ["_law_heaped", "_law_words", "_law_start", "_law_size"]
theorem sc_l_moved : FnScope N_l_moved ["_law_heaped", "_law_words"] (defScope s_l_moved) := ⟨rfl, rfl, rfl, by decide +kernel, rfl, by decide +kernel, by decide +kernel⟩
abbrev s_end_of : Stmt := topS 8
abbrev N_end_of : List Str := ["block"]
theorem sc_end_of : FnScope N_end_of ["block"] (defScope s_end_of) := ⟨rfl, rfl, rfl, by decide +kernel, rfl, by decide +kernel, by decide +kernel⟩
abbrev s_is_integer : Stmt := topS 4
abbrev N_is_integer : List Str := ["value", "least", "most"]
theorem sc_is_integer : FnScope N_is_integer ["value", "least", "most"] (defScope s_is_integer) := ⟨rfl, rfl, rfl, by decide +kernel, rfl, by decide +kernel, by decide +kernel⟩
abbrev s_is_block : Stmt := topS 9
abbrev N_is_block : List Str := ["chain", "pages", "value", "address", "size"]
theorem sc_is_block : FnScope N_is_block ["chain", "pages", "value"] (defScope s_is_block) := ⟨rfl, rfl, rfl, by decide +kernel, rfl, by decide +kernel, by decide +kernel⟩
abbrev s_is_state : Stmt := topS 10
abbrev N_is_state : List Str := ["chain", "pages", "value", "block", "later"]
theorem sc_is_state : FnScope N_is_state ["chain", "pages", "value"] (defScope s_is_state) := ⟨rfl, rfl, rfl, by decide +kernel, rfl, by decide +kernel, by decide +kernel⟩
abbrev s_live_words : Stmt := topS 11
abbrev N_live_words : List Str := ["state", "address", "size"]
theorem sc_live_words : FnScope N_live_words ["state"] (defScope s_live_words) := ⟨rfl, rfl, rfl, by decide +kernel, rfl, by decide +kernel, by decide +kernel⟩
abbrev s_look_at_size : Stmt := topS 5
abbrev N_look_at_size : List Str := ["chain", "size"]
theorem sc_look_at_size : FnScope N_look_at_size ["chain", "size"] (defScope s_look_at_size) := ⟨rfl, rfl, rfl, by decide +kernel, rfl, by decide +kernel, by decide +kernel⟩
abbrev s_occupied : Stmt := topS 12
abbrev N_occupied : List Str := ["state", "found", "block", "word"]
theorem sc_occupied : FnScope N_occupied ["state"] (defScope s_occupied) := ⟨rfl, rfl, rfl, by decide +kernel, rfl, by decide +kernel, by decide +kernel⟩
abbrev s_places : Stmt := topS 13
abbrev N_places : List Str := ["chain", "pages", "state", "size", "words", "found", "start", "word"]
theorem sc_places : FnScope N_places ["chain", "pages", "state", "size"] (defScope s_places) := ⟨rfl, rfl, rfl, by decide +kernel, rfl, by decide +kernel, by decide +kernel⟩
abbrev s_keepers : Stmt := topS 16
abbrev N_keepers : List Str := ["chain", "state", "size", "smallest", "address", "words", "start"]
theorem sc_keepers : FnScope N_keepers ["chain", "state", "size"] (defScope s_keepers) := ⟨rfl, rfl, rfl, by decide +kernel, rfl, by decide +kernel, by decide +kernel⟩
abbrev s_reaches : Stmt := topS 15
abbrev N_reaches : List Str := ["chain", "state", "size", "block"]
theorem sc_reaches : FnScope N_reaches ["chain", "state"] (defScope s_reaches) := ⟨rfl, rfl, rfl, by decide +kernel, rfl, by decide +kernel, by decide +kernel⟩
abbrev s_l_parts_right : Stmt := topS 24
abbrev N_l_parts_right : List Str := ["_law_links_here", "_law_many", "_law_first", "_law_second", "_law_gap", "_law_shift", "_law_whole", "_law_total", "_law_pages_due", "_law_size", "_law_spots", "_law_ends", "_law_low", "_law_high", "_law_number", "_law_at"]
theorem sc_l_parts_right : FnScope N_l_parts_right ["_law_links_here", "_law_many", "_law_first", "_law_second", "_law_gap"] (defScope s_l_parts_right) := ⟨rfl, rfl, rfl, by decide +kernel, rfl, by decide +kernel, by decide +kernel⟩
abbrev s_law : Stmt := topS 25
abbrev N_law : List Str := ["_law_script", "_law_k", "_law_pot_here", "_law_turn", "_law_links_here", "_law_many", "_law_gap", "_law_first", "_law_second"]
theorem sc_law : FnScope N_law ["_law_script"] (defScope s_law) := ⟨rfl, rfl, rfl, by decide +kernel, rfl, by decide +kernel, by decide +kernel⟩
structure Txt (K : PySem.W.Frag) (mg : Str → Option Value) where
  a_l_pot : Addr
  d_l_pot : FuncData
  F_l_pot : Fun K "_law_pot" "_law_pot" s_l_pot a_l_pot d_l_pot
  g_l_pot : mg "_law_pot" = some (.ref a_l_pot)
  b_l_pot : Binds K d_l_pot ["_law_script", "_law_k"] []
  a_l_take : Addr
  d_l_take : FuncData
  F_l_take : Fun K "_law_take" "_law_take" s_l_take a_l_take d_l_take
  g_l_take : mg "_law_take" = some (.ref a_l_take)
  b_l_take : Binds K d_l_take ["_law_pot_here", "_law_upto"] []
  a_l_of : Addr
  d_l_of : FuncData
  F_l_of : Fun K "_law_of" "_law_of" s_l_of a_l_of d_l_of
  g_l_of : mg "_law_of" = some (.ref a_l_of)
  b_l_of : Binds K d_l_of ["_law_pot_here", "_law_some"] []
  a_l_links : Addr
  d_l_links : FuncData
  F_l_links : Fun K "_law_links" "_law_links" s_l_links a_l_links d_l_links
  g_l_links : mg "_law_links" = some (.ref a_l_links)
  b_l_links : Binds K d_l_links ["_law_pot_here", "_law_most"] []
  a_l_drawn : Addr
  d_l_drawn : FuncData
  F_l_drawn : Fun K "_law_drawn" "_law_drawn" s_l_drawn a_l_drawn d_l_drawn
  g_l_drawn : mg "_law_drawn" = some (.ref a_l_drawn)
  b_l_drawn : Binds K d_l_drawn ["_law_pot_here", "_law_links_here", "_law_many", "_law_tries"] []
  a_used_pages : Addr
  d_used_pages : FuncData
  F_used_pages : Fun K "used_pages" "used_pages" s_used_pages a_used_pages d_used_pages
  g_used_pages : mg "used_pages" = some (.ref a_used_pages)
  b_used_pages : Binds K d_used_pages ["chain", "state"] []
  a_l_moved : Addr
  d_l_moved : FuncData
  F_l_moved : Fun K "_law_moved" "_law_moved" s_l_moved a_l_moved d_l_moved
  g_l_moved : mg "_law_moved" = some (.ref a_l_moved)
  b_l_moved : Binds K d_l_moved ["_law_heaped", "_law_words"] []
  a_end_of : Addr
  d_end_of : FuncData
  F_end_of : Fun K "end_of" "end_of" s_end_of a_end_of d_end_of
  g_end_of : mg "end_of" = some (.ref a_end_of)
  b_end_of : Binds K d_end_of ["block"] []
  a_is_integer : Addr
  d_is_integer : FuncData
  F_is_integer : FunX K "is_integer" "is_integer" s_is_integer a_is_integer d_is_integer [V.non]
  g_is_integer : mg "is_integer" = some (.ref a_is_integer)
  x_is_integer_2 : BindX K d_is_integer ["value", "least", "most"] 2 [] [0, 1, 2] [V.non]
  a_is_block : Addr
  d_is_block : FuncData
  F_is_block : Fun K "is_block" "is_block" s_is_block a_is_block d_is_block
  g_is_block : mg "is_block" = some (.ref a_is_block)
  b_is_block : Binds K d_is_block ["chain", "pages", "value"] []
  a_is_state : Addr
  d_is_state : FuncData
  F_is_state : Fun K "is_state" "is_state" s_is_state a_is_state d_is_state
  g_is_state : mg "is_state" = some (.ref a_is_state)
  b_is_state : Binds K d_is_state ["chain", "pages", "value"] []
  a_live_words : Addr
  d_live_words : FuncData
  F_live_words : Fun K "live_words" "live_words" s_live_words a_live_words d_live_words
  g_live_words : mg "live_words" = some (.ref a_live_words)
  b_live_words : Binds K d_live_words ["state"] []
  a_look_at_size : Addr
  d_look_at_size : FuncData
  F_look_at_size : Fun K "look_at_size" "look_at_size" s_look_at_size a_look_at_size d_look_at_size
  g_look_at_size : mg "look_at_size" = some (.ref a_look_at_size)
  b_look_at_size : Binds K d_look_at_size ["chain", "size"] []
  a_occupied : Addr
  d_occupied : FuncData
  F_occupied : Fun K "occupied" "occupied" s_occupied a_occupied d_occupied
  g_occupied : mg "occupied" = some (.ref a_occupied)
  b_occupied : Binds K d_occupied ["state"] []
  a_places : Addr
  d_places : FuncData
  F_places : Fun K "places" "places" s_places a_places d_places
  g_places : mg "places" = some (.ref a_places)
  b_places : Binds K d_places ["chain", "pages", "state", "size"] []
  a_keepers : Addr
  d_keepers : FuncData
  F_keepers : Fun K "keepers" "keepers" s_keepers a_keepers d_keepers
  g_keepers : mg "keepers" = some (.ref a_keepers)
  b_keepers : Binds K d_keepers ["chain", "state", "size"] []
  a_reaches : Addr
  d_reaches : FuncData
  F_reaches : Fun K "reaches" "reaches" s_reaches a_reaches d_reaches
  g_reaches : mg "reaches" = some (.ref a_reaches)
  b_reaches : Binds K d_reaches ["chain", "state"] []
  a_l_parts_right : Addr
  d_l_parts_right : FuncData
  F_l_parts_right : Fun K "_law_parts_right" "_law_parts_right" s_l_parts_right a_l_parts_right d_l_parts_right
  g_l_parts_right : mg "_law_parts_right" = some (.ref a_l_parts_right)
  b_l_parts_right : Binds K d_l_parts_right ["_law_links_here", "_law_many", "_law_first", "_law_second", "_law_gap"] []
  a_law : Addr
  d_law : FuncData
  F_law : Fun K "law" "law" s_law a_law d_law
  g_law : mg "law" = some (.ref a_law)
  b_law : Binds K d_law ["_law_script"] []
  n_abs : mg "abs" = none
  n_all : mg "all" = none
  n_any : mg "any" = none
  n_bool : mg "bool" = none
  n_dict : mg "dict" = none
  n_int : mg "int" = none
  n_isinstance : mg "isinstance" = none
  n_len : mg "len" = none
  n_list : mg "list" = none
  n_max : mg "max" = none
  n_min : mg "min" = none
  n_range : mg "range" = none
  n_set : mg "set" = none
  n_sorted : mg "sorted" = none
  n_sum : mg "sum" = none
  n_tuple : mg "tuple" = none
  n_zip : mg "zip" = none
  t_BLOCK_PARTS : Tok
  c_BLOCK_PARTS : mg "BLOCK_PARTS" = some (.int 2 t_BLOCK_PARTS)
  nd : NoDg K
section
variable {P : Program} {w : World} {K : PySem.W.Frag} {mg : Str → Option Value} {base : Heap} {RX : RXT} (T : Txt K mg)
theorem ok_l_pot : FnG P w K mg base 1 T.a_l_pot T.d_l_pot ["_law_script", "_law_k"] (spF K RX [.s, .v] f_l_pot) :=
  fn_pure (N := N_l_pot) (m := m_l_pot) (k := 0) T.F_l_pot sc_l_pot rfl (by decide) (fun cdv A outer s H E hr hg => ⟨_, (pss_cons (ps_set (i := 2) sc_l_pot.nd rfl (by first | exact Or.inl rfl | exact Or.inr rfl) (pe_op opr_add (pe_op opr_mul pe_int (pv 1)) (pe_callB cr_len (by rfl) T.n_len bt_len (pa_cons (pv 0) pa_nil))))
   (pss_cons (ps_if (pt_cmpR op_lt (pv 1) (pe_callB cr_len (by rfl) T.n_len bt_len (pa_cons (pv 0) pa_nil)) (nomark _)) (pss_one (ps_set (i := 2) sc_l_pot.nd rfl (by first | exact Or.inl rfl | exact Or.inr rfl) (pe_ix ix_seq (pv 0) (pv 1) (fun _ _ => rfl)))) pss_nil)
   (pss_cons (ps_set (i := 3) sc_l_pot.nd rfl (by first | exact Or.inl rfl | exact Or.inr rfl) (pe_op opr_mul (pe_op op_mod (pe_callB call_abs (by rfl) T.n_abs bt_abs (pa_cons (pv 2) pa_nil)) (pe_callTy (cr_int T.nd) (by rfl) T.n_int bt_int (pa_cons (pe_op opr_add pe_str (pe_op opr_mul pe_str pe_int)) pa_nil))) (pe_callTy (cr_int T.nd) (by rfl) T.n_int bt_int (pa_cons (pe_cmpR op_ge (pe_callB call_abs (by rfl) T.n_abs bt_abs (pa_cons (pv 2) pa_nil)) (pe_op opr_pow pe_int pe_int) (nomark _)) pa_nil))))
   (pss_one (ps_ret (pe_lst (pa_cons (pv 3) (pa_cons (pe_op op_mod (pe_op opr_mul (pe_op opr_add (pe_op opr_add (pe_op op_mod (pv 2) pe_int) (pe_op opr_mul (pe_op opr_mul pe_int (pv 1)) (pv 1))) pe_int) pe_int) pe_int) pa_nil)))))))),
   (rs_seq (rs_assign (rf_op2 of_add (rf_op2r of_mul (rf_con fun _ _ => Rep.int _)) rf_lenS) (rg_name (npsX [] rfl (by decide))))
   (rs_seq (rs_if (rf_tTest (rf_op2l (of_cmpI _) rf_lenS)) (rs_assign (rf_ixS (rf_var (npsX [] rfl (by decide)))) (rg_name (npsX [] rfl (by decide)))) rs_next)
   (rs_seq (rs_assign (rf_op2 of_mul (rf_op2 of_mod (rf_c1p c1_abs) (rf_c1 c1_int (rf_op2 of_add (rf_con fun _ _ => Rep.str _) (rf_op2 of_mul (rf_con fun _ _ => Rep.str _) (rf_con fun _ _ => Rep.int _))))) (rf_c1 c1_int (rf_op2 (of_cmpI _) (rf_c1p c1_abs) (rf_op2 of_pow (rf_con fun _ _ => Rep.int _) (rf_con fun _ _ => Rep.int _))))) (rg_name (npsX [] rfl (by decide))))
   (rs_retO (rf_lst (rf_cons (rf_var (npsX [] rfl (by decide))) (rf_cons (rf_op2 of_mod (rf_op2 of_mul (rf_op2 of_add (rf_op2 of_add (rf_op2l of_mod (rf_con fun _ _ => Rep.int _)) (rf_op2r of_mul (rf_op2r of_mul (rf_con fun _ _ => Rep.int _)))) (rf_con fun _ _ => Rep.int _)) (rf_con fun _ _ => Rep.int _)) (rf_con fun _ _ => Rep.int _)) rf_nil)))))))⟩)
theorem ok_l_take : FnG P w K mg base 1 T.a_l_take T.d_l_take ["_law_pot_here", "_law_upto"] (spF K RX [.o, .v] f_l_take) :=
  fn_pure (N := N_l_take) (m := m_l_take) (k := 0) T.F_l_take sc_l_take rfl (by decide) (fun cdv A outer s H E hr hg => ⟨_, (pss_cons (ps_if (pt_cmpR op_gt (pe_ix ix_seq (pv 0) pe_int (fun _ _ => rfl)) pe_int (nomark _)) (pss_cons (ps_set (i := 2) sc_l_take.nd rfl (by first | exact Or.inl rfl | exact Or.inr rfl) (pe_op op_mod (pe_ix ix_seq (pv 0) pe_int (fun _ _ => rfl)) (pv 1)))
   (pss_cons (ps_asg (pe_op op_fdivW (pe_ix ix_seq (pv 0) pe_int (fun _ _ => rfl)) (pv 1)) (pg_sub (pv 0) pe_int set_list))
   (pss_one (ps_ret (pv 2))))) pss_nil)
   (pss_cons (ps_asg (pe_op op_mod (pe_op opr_add (pe_op opr_mul (pe_ix ix_seq (pv 0) pe_int (fun _ _ => rfl)) pe_int) pe_int) pe_int) (pg_sub (pv 0) pe_int set_list))
   (pss_one (ps_ret (pe_op op_mod (pe_op op_fdivW (pe_op op_mod (pe_op opr_mul (pe_op op_fdivW (pe_ix ix_seq (pv 0) pe_int (fun _ _ => rfl)) pe_int) (pe_op opr_add (pe_op op_mod (pe_ix ix_seq (pv 0) pe_int (fun _ _ => rfl)) pe_int) pe_int)) pe_int) pe_int) (pv 1)))))),
   (rs_seq (rs_if (rf_tTest (rf_op2 (of_cmpI _) (rf_op2l of_item (rf_con fun _ _ => Rep.int _)) (rf_con fun _ _ => Rep.int _))) (rs_seq (rs_assign (rf_op2r of_mod (rf_op2l of_item (rf_con fun _ _ => Rep.int _))) (rg_name (npsX [0] rfl (by decide))))
   (rs_seq (rs_store (rf_op2r of_fdiv (rf_op2l of_item (rf_con fun _ _ => Rep.int _))) (rf_con fun _ _ => Rep.int _))
   (rs_ret (rf_var (npsX [0] rfl (by decide)))))) rs_next)
   (rs_seq (rs_store (rf_op2 of_mod (rf_op2 of_add (rf_op2 of_mul (rf_op2l of_item (rf_con fun _ _ => Rep.int _)) (rf_con fun _ _ => Rep.int _)) (rf_con fun _ _ => Rep.int _)) (rf_con fun _ _ => Rep.int _)) (rf_con fun _ _ => Rep.int _))
   (rs_ret (rf_op2r of_mod (rf_op2 of_fdiv (rf_op2 of_mod (rf_op2 of_mul (rf_op2 of_fdiv (rf_op2l of_item (rf_con fun _ _ => Rep.int _)) (rf_con fun _ _ => Rep.int _)) (rf_op2 of_add (rf_op2 of_mod (rf_op2l of_item (rf_con fun _ _ => Rep.int _)) (rf_con fun _ _ => Rep.int _)) (rf_con fun _ _ => Rep.int _))) (rf_con fun _ _ => Rep.int _)) (rf_con fun _ _ => Rep.int _))))))⟩)
theorem ok_l_of : FnG P w K mg base 2 T.a_l_of T.d_l_of ["_law_pot_here", "_law_some"] (spF K RX [.o, .v] f_l_of) :=
  fn_pure (N := N_l_of) (m := m_l_of) (k := 1) T.F_l_of sc_l_of rfl (by decide) (fun cdv A outer s H E hr hg => ⟨_, (pss_one (ps_ret (pe_ix ix_seq (pv 1) (pe_callG (ok_l_take T) hr hg (by rfl) T.g_l_take T.F_l_take.kp T.b_l_take .nil (takes_of rfl rfl rfl rfl) (pa_cons (pv 0) (pa_cons (pe_callB cr_len (by rfl) T.n_len bt_len (pa_cons (pv 1) pa_nil)) pa_nil))) (fun _ _ => rfl)))),
   (rs_ret (rf_op2l of_item (rf_rtV (rf_call rfl (rf_alend (rf_acons (rf_c1p c1_len) rf_anil))))))⟩)
theorem ok_l_links : FnG P w K mg base 3 T.a_l_links T.d_l_links ["_law_pot_here", "_law_most"] (spF K RX [.o, .v] f_l_links) :=
  fn_pure (N := N_l_links) (m := m_l_links) (k := 2) T.F_l_links sc_l_links rfl (by decide) (fun cdv A outer s H E hr hg => ⟨_, (pss_cons (ps_set (i := 2) sc_l_links.nd rfl (by first | exact Or.inl rfl | exact Or.inr rfl) (pe_lst (pa_cons pe_int pa_nil)))
   (pss_cons (ps_for (passes_of rfl) rfl (pi_range1 (by rfl) T.n_range (pa_cons (pe_callG (ok_l_take T) (hr.mono (by decide)) hg (by rfl) T.g_l_take T.F_l_take.kp T.b_l_take .nil (takes_of rfl rfl rfl rfl) (pa_cons (pv 0) (pa_cons pe_int pa_nil))) pa_nil)) (pg_name (i := 3) sc_l_links.nd rfl (by first | exact Or.inl rfl | exact Or.inr rfl)) (pss_cons (ps_set (i := 4) sc_l_links.nd rfl (by first | exact Or.inl rfl | exact Or.inr rfl) (pe_callG (ok_l_of T) hr hg (by rfl) T.g_l_of T.F_l_of.kp T.b_l_of .nil (takes_of rfl rfl rfl rfl) (pa_cons (pv 0) (pa_cons (pe_lst (pa_cons pe_int (pa_cons pe_int (pa_cons pe_int (pa_cons pe_int (pa_cons pe_int (pa_cons (pe_op opr_add pe_int (pe_callG (ok_l_take T) (hr.mono (by decide)) hg (by rfl) T.g_l_take T.F_l_take.kp T.b_l_take .nil (takes_of rfl rfl rfl rfl) (pa_cons (pv 0) (pa_cons pe_int pa_nil)))) pa_nil))))))) pa_nil))))
   (pss_one (ps_if (PW.pt (pw_and (pt_cmpR op_le (pe_op opr_mul (pe_ix ix_seq (pv 2) (pe_un un_neg pe_int) (fun _ _ => rfl)) (pv 4)) (pv 1) (nomark _)) (pw_and1 (pt_cmpR op_lt (pe_callB cr_len (by rfl) T.n_len bt_len (pa_cons (pv 2) pa_nil)) pe_int (nomark _))))) (pss_one (ps_expr (pe_bm PySem.F.plainAttrs_list PySem.F.slot_list_append PySem.F.type_list_append mt_append (pv 2) (pa_cons (pe_op opr_mul (pe_ix ix_seq (pv 2) (pe_un un_neg pe_int) (fun _ _ => rfl)) (pv 4)) pa_nil)))) pss_nil))))
   (pss_one (ps_ret (pe_callTy call_tuple_of (by rfl) T.n_tuple bt_tuple (pa_cons (pv 2) pa_nil)))))),
   (rs_seq (rs_own (npsX [0] rfl (by decide)) (rf_lst (rf_cons (rf_con fun _ _ => Rep.int _) rf_nil)))
   (rs_seq (rs_for (rf_rng1 (rf_rtV (rf_call rfl (rf_alend (rf_acons (rf_con fun _ _ => Rep.int _) rf_anil))))) (rg_name (npsX [0] rfl (by decide))) (rs_seq (rs_assign (rf_rtV (rf_call rfl (rf_alend (rf_acons (rf_lst (rf_cons (rf_con fun _ _ => Rep.int _) (rf_cons (rf_con fun _ _ => Rep.int _) (rf_cons (rf_con fun _ _ => Rep.int _) (rf_cons (rf_con fun _ _ => Rep.int _) (rf_cons (rf_con fun _ _ => Rep.int _) (rf_cons (rf_op2 of_add (rf_con fun _ _ => Rep.int _) (rf_rtV (rf_call rfl (rf_alend (rf_acons (rf_con fun _ _ => Rep.int _) rf_anil))))) rf_nil))))))).frz rf_anil)))) (rg_name (npsX [0] rfl (by decide))))
   (rs_if (rf_and (rf_tTest (rf_op2r (of_cmpI _) (rf_op2r of_mul (rf_op2l of_item (rf_neg (rf_con fun _ _ => Rep.int _)))))) (rf_tTest (rf_op2 (of_cmpI _) (rf_c1p c1_len) (rf_con fun _ _ => Rep.int _)))) (rs_append (rf_op2r of_mul (rf_op2l of_item (rf_neg (rf_con fun _ _ => Rep.int _))))) rs_next)))
   (rs_ret (rf_c1p c1_tuple))))⟩)
theorem ok_l_drawn : FnG P w K mg base 3 T.a_l_drawn T.d_l_drawn ["_law_pot_here", "_law_links_here", "_law_many", "_law_tries"] (spF K RX [.o, .v, .v, .v] f_l_drawn) :=
  fn_pure (N := N_l_drawn) (m := m_l_drawn) (k := 2) T.F_l_drawn sc_l_drawn rfl (by decide) (fun cdv A outer s H E hr hg => ⟨_, (pss_cons (ps_asg (pe_tup (pa_cons (pe_lst pa_nil) (pa_cons pe_dnewK pa_nil))) (pg_tup rfl (pgs_cons (pg_name (i := 4) sc_l_drawn.nd rfl (by first | exact Or.inl rfl | exact Or.inr rfl)) (pgs_cons (pg_name (i := 5) sc_l_drawn.nd rfl (by first | exact Or.inl rfl | exact Or.inr rfl)) pgs_nil))))
   (pss_cons (ps_for (passes_of rfl) rfl (pi_range1 (by rfl) T.n_range (pa_cons (pe_op opr_mul (pv 3) (pe_callTy (cr_int T.nd) (by rfl) T.n_int bt_int (pa_cons (pe_cmpR op_gt (pv 2) pe_int (nomark _)) pa_nil))) pa_nil)) (pg_name (i := 6) sc_l_drawn.nd rfl (by first | exact Or.inl rfl | exact Or.inr rfl)) (pss_cons (ps_set (i := 7) sc_l_drawn.nd rfl (by first | exact Or.inl rfl | exact Or.inr rfl) (pe_callG (ok_l_of T) hr hg (by rfl) T.g_l_of T.F_l_of.kp T.b_l_of .nil (takes_of rfl rfl rfl rfl) (pa_cons (pv 0) (pa_cons (pe_lst (pa_cons (pe_ix ix_seq (pv 1) pe_int (fun _ _ => rfl)) (pa_cons (pe_ix ix_seq (pv 1) (pe_callG (ok_l_take T) (hr.mono (by decide)) hg (by rfl) T.g_l_take T.F_l_take.kp T.b_l_take .nil (takes_of rfl rfl rfl rfl) (pa_cons (pv 0) (pa_cons (pe_callB cr_len (by rfl) T.n_len bt_len (pa_cons (pv 1) pa_nil)) pa_nil))) (fun _ _ => rfl)) (pa_cons (pe_ix ix_seq (pv 1) (pe_op op_sub (pe_un un_neg pe_int) (pe_callG (ok_l_take T) (hr.mono (by decide)) hg (by rfl) T.g_l_take T.F_l_take.kp T.b_l_take .nil (takes_of rfl rfl rfl rfl) (pa_cons (pv 0) (pa_cons (pe_callB cr_len (by rfl) T.n_len bt_len (pa_cons (pv 1) pa_nil)) pa_nil)))) (fun _ _ => rfl)) pa_nil)))) pa_nil))))
   (pss_cons (ps_set (i := 8) sc_l_drawn.nd rfl (by first | exact Or.inl rfl | exact Or.inr rfl) (pe_op opr_mul (pv 7) (pe_callG (ok_l_take T) (hr.mono (by decide)) hg (by rfl) T.g_l_take T.F_l_take.kp T.b_l_take .nil (takes_of rfl rfl rfl rfl) (pa_cons (pv 0) (pa_cons (pe_op op_fdivW (pe_op opr_mul (pv 2) (pe_ix ix_seq (pv 1) (pe_un un_neg pe_int) (fun _ _ => rfl))) (pv 7)) pa_nil)))))
   (pss_one (ps_if (pt_not (pt_truth (pe_callB (cr_anyV rfl) (by rfl) T.n_any bt_any (pa_cons (pe_lc (own := [("_law_word", 9)]) (by rfl) sc_l_drawn.nd (pi_range2 (by rfl) T.n_range (pa_cons (pv 8) (pa_cons (pe_op opr_add (pv 8) (pv 7)) pa_nil))) (blkOk_by (own := [("_law_word", 9)]) (N := N_l_drawn) (sc := defScope s_l_drawn) (by decide +kernel)) (fun _ _ _ _ _ => (pg_name (i := 9) sc_l_drawn.nd rfl (by first | exact Or.inl rfl | exact Or.inr rfl))) (fun _ _ _ _ _ => pts_nil) (fun _ _ _ _ _ => (pe_cmpR (or_din (hu65 hr)) (pv 9) (pv 5) (by rfl)))) pa_nil)) (by intro _; rfl))) (pss_cons (ps_expr (pe_bm PySem.F.plainAttrs_dict PySem.F.slot_dict_update PySem.F.type_dict_update mt_update (pv 5) (pa_cons (pe_callTy (call_dictP rfl) (by rfl) T.n_dict bt_dict (pa_cons (pe_lc (own := [("_law_word", 9)]) (by rfl) sc_l_drawn.nd (pi_range2 (by rfl) T.n_range (pa_cons (pv 8) (pa_cons (pe_op opr_add (pv 8) (pv 7)) pa_nil))) (blkOk_by (own := [("_law_word", 9)]) (N := N_l_drawn) (sc := defScope s_l_drawn) (by decide +kernel)) (fun _ _ _ _ _ => (pg_name (i := 9) sc_l_drawn.nd rfl (by first | exact Or.inl rfl | exact Or.inr rfl))) (fun _ _ _ _ _ => pts_nil) (fun _ _ _ _ _ => (pe_tup (pa_cons (pv 9) (pa_cons pe_bl pa_nil))))) pa_nil)) pa_nil)))
   (pss_one (ps_expr (pe_bm PySem.F.plainAttrs_list PySem.F.slot_list_append PySem.F.type_list_append mt_append (pv 4) (pa_cons (pe_tup (pa_cons (pv 8) (pa_cons (pv 7) pa_nil))) pa_nil))))) pss_nil)))))
   (pss_one (ps_ret (pe_callTy call_tuple_of (by rfl) T.n_tuple bt_tuple (pa_cons (pe_callB cr_sortedA (by rfl) T.n_sorted bt_sorted (pa_cons (pv 4) pa_nil)) pa_nil)))))),
   (rs_seq (rs_parN (is := [4, 5]) (rf_po (rf_lst rf_nil) (rf_po rf_dict0 rf_pnil)) (npsXL [0] rfl (by decide)) rfl (by decide))
   (rs_seq (rs_for (rf_rng1 (rf_op2l of_mul (rf_c1 c1_int (rf_op2l (of_cmpI _) (rf_con fun _ _ => Rep.int _))))) (rg_name (npsX [0] rfl (by decide))) (rs_seq (rs_assign (rf_rtV (rf_call rfl (rf_alend (rf_acons (rf_lst (rf_cons (rf_op2l of_item (rf_con fun _ _ => Rep.int _)) (rf_cons (rf_op2l of_item (rf_rtV (rf_call rfl (rf_alend (rf_acons (rf_c1p c1_len) rf_anil))))) (rf_cons (rf_op2l of_item (rf_op2 of_sub (rf_neg (rf_con fun _ _ => Rep.int _)) (rf_rtV (rf_call rfl (rf_alend (rf_acons (rf_c1p c1_len) rf_anil)))))) rf_nil)))).frz rf_anil)))) (rg_name (npsX [0] rfl (by decide))))
   (rs_seq (rs_assign (rf_op2l of_mul (rf_rtV (rf_call rfl (rf_alend (rf_acons (rf_op2r of_fdiv (rf_op2l of_mul (rf_op2l of_item (rf_neg (rf_con fun _ _ => Rep.int _))))) rf_anil))))) (rg_name (npsX [0] rfl (by decide))))
   (rs_if (rf_not (rf_tru (rf_c1 c1_any (rf_lc (rf_rng2 (rf_var (npsX [0] rfl (by decide))) (rf_op2b of_add)) (rg_name (npsX [0] rfl (by decide))) rf_yes (rf_op2b of_din) (by decide) (npsXL [0] rfl (by decide))).frz))) (rs_seq (rs_update (rf_co co_dictP (rf_lc (rf_rng2 (rf_var (npsX [0] rfl (by decide))) (rf_op2b of_add)) (rg_name (npsX [0] rfl (by decide))) rf_yes (rf_tup (rf_cons (rf_var (npsX [0] rfl (by decide))) (rf_cons (rf_con fun _ _ => Rep.bl _) rf_nil))) (by decide) (npsXL [0] rfl (by decide))).frz).frz)
   (rs_append (rf_tup (rf_cons (rf_var (npsX [0] rfl (by decide))) (rf_cons (rf_var (npsX [0] rfl (by decide))) rf_nil))))) rs_next))))
   (rs_ret (rf_c1 c1_tuple (rf_cop co_sortI).frz))))⟩)
theorem ok_used_pages : FnG P w K mg base 1 T.a_used_pages T.d_used_pages ["chain", "state"] (spF K RX [.v, .v] f_used_pages) :=
  fn_pure (N := N_used_pages) (m := m_used_pages) (k := 0) T.F_used_pages sc_used_pages rfl (by decide) (fun cdv A outer s H E hr hg => ⟨_, (pss_one (ps_ret (pe_callTy call_tuple_of (by rfl) T.n_tuple bt_tuple (pa_cons (pe_callB (cr_ssetA rfl) (by rfl) T.n_sorted bt_sorted (pa_cons (pe_sgA (own := [("address", 2), ("size", 3)]) (hu64 hr) rfl sc_used_pages.nd (pi_seq (pv 1)) (blkOk_by (own := [("address", 2), ("size", 3)]) (N := N_used_pages) (sc := defScope s_used_pages) (by decide +kernel)) (fun _ _ _ _ _ => (pg_tup rfl (pgs_cons (pg_name (i := 2) sc_used_pages.nd rfl (by first | exact Or.inl rfl | exact Or.inr rfl)) (pgs_cons (pg_name (i := 3) sc_used_pages.nd rfl (by first | exact Or.inl rfl | exact Or.inr rfl)) pgs_nil)))) (fun _ _ _ _ _ => pts_nil) (fun _ _ _ _ _ => (pe_op op_fdivW (pv 2) (pe_ix ix_seq (pv 0) (pe_un un_neg pe_int) (fun _ _ => rfl))))) pa_nil)) pa_nil)))),
   (rs_ret (rf_c1 c1_tuple (rf_ss (rf_sg (rf_seqI (rf_var (npsX [] rfl (by decide)))) (rg_tup (rgs_cons (rg_name (npsX [] rfl (by decide))) (rgs_cons (rg_name (npsX [] rfl (by decide))) rgs_nil))) rf_yes (rf_op2l of_fdiv (rf_op2l of_item (rf_neg (rf_con fun _ _ => Rep.int _)))) (by decide) (npsXL [] rfl (by decide)))).frz))⟩)
theorem ok_l_moved : FnG P w K mg base 1 T.a_l_moved T.d_l_moved ["_law_heaped", "_law_words"] (spF K RX [.v, .v] f_l_moved) :=
  fn_pure (N := N_l_moved) (m := m_l_moved) (k := 0) T.F_l_moved sc_l_moved rfl (by decide) (fun cdv A outer s H E hr hg => ⟨_, (pss_one (ps_ret (pe_callTy call_tuple_of (by rfl) T.n_tuple bt_tuple (pa_cons (pe_lc (own := [("_law_start", 2), ("_law_size", 3)]) (by rfl) sc_l_moved.nd (pi_seq (pv 0)) (blkOk_by (own := [("_law_start", 2), ("_law_size", 3)]) (N := N_l_moved) (sc := defScope s_l_moved) (by decide +kernel)) (fun _ _ _ _ _ => (pg_tup rfl (pgs_cons (pg_name (i := 2) sc_l_moved.nd rfl (by first | exact Or.inl rfl | exact Or.inr rfl)) (pgs_cons (pg_name (i := 3) sc_l_moved.nd rfl (by first | exact Or.inl rfl | exact Or.inr rfl)) pgs_nil)))) (fun _ _ _ _ _ => pts_nil) (fun _ _ _ _ _ => (pe_tup (pa_cons (pe_op opr_add (pv 2) (pv 1)) (pa_cons (pv 3) pa_nil))))) pa_nil)))),
   (rs_ret (rf_c1 c1_tuple (rf_lc (rf_seqI (rf_var (npsX [] rfl (by decide)))) (rg_tup (rgs_cons (rg_name (npsX [] rfl (by decide))) (rgs_cons (rg_name (npsX [] rfl (by decide))) rgs_nil))) rf_yes (rf_tup (rf_cons (rf_op2b of_add) (rf_cons (rf_var (npsX [] rfl (by decide))) rf_nil))) (by decide) (npsXL [] rfl (by decide))).frz))⟩)
theorem ok_end_of : FnG P w K mg base 1 T.a_end_of T.d_end_of ["block"] (spF K RX [.v] f_end_of) :=
  fn_pure (N := N_end_of) (m := m_end_of) (k := 0) T.F_end_of sc_end_of rfl (by decide) (fun cdv A outer s H E hr hg => ⟨_, (pss_one (ps_ret (pe_op opr_add (pe_ix ix_seq (pv 0) pe_int (fun _ _ => rfl)) (pe_ix ix_seq (pv 0) pe_int (fun _ _ => rfl))))),
   (rs_ret (rf_op2 of_add (rf_op2l of_item (rf_con fun _ _ => Rep.int _)) (rf_op2l of_item (rf_con fun _ _ => Rep.int _))))⟩)
theorem ok_is_integer : FnG P w K mg base 1 T.a_is_integer T.d_is_integer ["value", "least", "most"] (spF K RX [.v, .v, .v] f_is_integer) :=
  fn_pureX (N := N_is_integer) (m := m_is_integer) (k := 0) T.F_is_integer sc_is_integer rfl (by decide) (fun cdv A outer s H E hr hg => ⟨_, (pss_cons (ps_if (PW.pt (pw_or (pt_not (pt_truth (pe_callB call_isi (by rfl) T.n_isinstance (by decide +kernel) (pa_cons (pv 0) (pa_cons (pe_bltn (v := .ty "int") (u := .type "int") (by rfl) T.n_int (by decide +kernel) rfl) pa_nil))) (by intro _; rfl))) (pw_or (pt_truth (pe_callB call_isi (by rfl) T.n_isinstance (by decide +kernel) (pa_cons (pv 0) (pa_cons (pe_bltn (v := .ty "bool") (u := .type "bool") (by rfl) T.n_bool (by decide +kernel) rfl) pa_nil))) (by intro _; rfl)) (pw_or1 (pt_cmpR op_lt (pv 0) (pv 1) (nomark _)))))) (pss_one (ps_ret pe_bl)) pss_nil)
   (pss_one (ps_ret (pe_or (pe_cmpR op_isN (pv 2) pe_non (nomark _)) (pe_one (pe_cmpR op_le (pv 0) (pv 2) (nomark _))))))),
   (rs_seq (rs_if (rf_or (rf_not (rf_tru (rf_isip (by simp)))) (rf_or (rf_tru (rf_isip (by simp))) (rf_tTest (rf_op2b (of_cmpI _))))) (rs_ret (rf_con fun _ _ => Rep.bl _)) rs_next)
   (rs_ret (rf_orV (rf_op2l of_isN (rf_con fun _ _ => Rep.non)) (rf_op2b (of_cmpI _)))))⟩)
theorem ok_is_block : FnG P w K mg base 2 T.a_is_block T.d_is_block ["chain", "pages", "value"] (spF K RX [.v, .v, .v] f_is_block) :=
  fn_pure (N := N_is_block) (m := m_is_block) (k := 1) T.F_is_block sc_is_block rfl (by decide) (fun cdv A outer s H E hr hg => ⟨_, (pss_cons (ps_if (PW.pt (pw_or (pt_not (pt_truth (pe_callB call_isi (by rfl) T.n_isinstance (by decide +kernel) (pa_cons (pv 2) (pa_cons (pe_bltn (v := .ty "tuple") (u := .type "tuple") (by rfl) T.n_tuple (by decide +kernel) rfl) pa_nil))) (by intro _; rfl))) (pw_or1 (pt_cmpR (opr_ne hr.units) (pe_callB cr_len (by rfl) T.n_len bt_len (pa_cons (pv 2) pa_nil)) (pe_glob (v := .int 2) (by rfl) T.c_BLOCK_PARTS ⟨_, rfl⟩) (nomark _))))) (pss_one (ps_ret pe_bl)) pss_nil)
   (pss_cons (ps_asg (pv 2) (pg_tup rfl (pgs_cons (pg_name (i := 3) sc_is_block.nd rfl (by first | exact Or.inl rfl | exact Or.inr rfl)) (pgs_cons (pg_name (i := 4) sc_is_block.nd rfl (by first | exact Or.inl rfl | exact Or.inr rfl)) pgs_nil))))
   (pss_cons (ps_if (PW.pt (pw_or (pt_not (pt_truth (pe_callX (ok_is_integer T) hr hg (by rfl) T.g_is_integer T.F_is_integer.kp T.x_is_integer_2 (takes_of rfl rfl rfl rfl) (pa_cons (pv 4) (pa_cons pe_int pa_nil))) (by intro _; rfl))) (pw_or (pt_cmpR (opr_notIn (hu65 hr)) (pv 4) (pv 0) (by rfl)) (pw_or1 (pt_not (pt_truth (pe_callX (ok_is_integer T) hr hg (by rfl) T.g_is_integer T.F_is_integer.kp T.x_is_integer_2 (takes_of rfl rfl rfl rfl) (pa_cons (pv 3) (pa_cons pe_int pa_nil))) (by intro _; rfl))))))) (pss_one (ps_ret pe_bl)) pss_nil)
   (pss_one (ps_ret (pe_and (pe_cmpR (opr_eq hr.units) (pe_op op_mod (pv 3) (pv 4)) pe_int (nomark _)) (pe_one (pe_cmpR op_le (pe_op opr_add (pv 3) (pv 4)) (pe_op opr_mul (pv 1) (pe_ix ix_seq (pv 0) (pe_un un_neg pe_int) (fun _ _ => rfl))) (nomark _))))))))),
   (rs_seq (rs_if (rf_or (rf_not (rf_tru (rf_isip (by simp)))) (rf_tTest (rf_op2 of_ne (rf_c1p c1_len) (rf_con fun _ _ => Rep.int _)))) (rs_ret (rf_con fun _ _ => Rep.bl _)) rs_next)
   (rs_seq (rs_assign (rf_var (npsX [] rfl (by decide))) (rg_tup (rgs_cons (rg_name (npsX [] rfl (by decide))) (rgs_cons (rg_name (npsX [] rfl (by decide))) rgs_nil))))
   (rs_seq (rs_if (rf_or (rf_not (rf_tru (rf_rtV (rf_callX (by decide) rfl (fun _ _ => (.cons .non .nil)) (rf_vcons (rf_var (npsX [] rfl (by decide))) (rf_vcons (rf_con fun _ _ => Rep.int _) rf_vnil)) rf_vnil)))) (rf_or (rf_tTest (rf_op2b of_notIn)) (rf_not (rf_tru (rf_rtV (rf_callX (by decide) rfl (fun _ _ => (.cons .non .nil)) (rf_vcons (rf_var (npsX [] rfl (by decide))) (rf_vcons (rf_con fun _ _ => Rep.int _) rf_vnil)) rf_vnil)))))) (rs_ret (rf_con fun _ _ => Rep.bl _)) rs_next)
   (rs_ret (rf_andV (rf_op2 of_eq (rf_op2b of_mod) (rf_con fun _ _ => Rep.int _)) (rf_op2 (of_cmpI _) (rf_op2b of_add) (rf_op2l of_mul (rf_op2l of_item (rf_neg (rf_con fun _ _ => Rep.int _))))))))))⟩)
theorem ok_is_state : FnG P w K mg base 3 T.a_is_state T.d_is_state ["chain", "pages", "value"] (spF K RX [.v, .v, .v] f_is_state) :=
  fn_pure (N := N_is_state) (m := m_is_state) (k := 2) T.F_is_state sc_is_state rfl (by decide) (fun cdv A outer s H E hr hg => ⟨_, (pss_cons (ps_if (PW.pt (pw_or (pt_not (pt_truth (pe_callB call_isi (by rfl) T.n_isinstance (by decide +kernel) (pa_cons (pv 2) (pa_cons (pe_bltn (v := .ty "tuple") (u := .type "tuple") (by rfl) T.n_tuple (by decide +kernel) rfl) pa_nil))) (by intro _; rfl))) (pw_or1 (pt_not (pt_truth (pe_callB (cr_allV rfl) (by rfl) T.n_all bt_all (pa_cons (pe_lc (own := [("block", 3)]) (by rfl) sc_is_state.nd (pi_seq (pv 2)) (blkOk_by (own := [("block", 3)]) (N := N_is_state) (sc := defScope s_is_state) (by decide +kernel)) (fun _ _ _ _ _ => (pg_name (i := 3) sc_is_state.nd rfl (by first | exact Or.inl rfl | exact Or.inr rfl))) (fun _ _ _ _ _ => pts_nil) (fun _ _ _ _ _ => (pe_callG (ok_is_block T) hr hg (by rfl) T.g_is_block T.F_is_block.kp T.b_is_block .nil takes0 (pa_cons (pv 0) (pa_cons (pv 1) (pa_cons (pv 3) pa_nil)))))) pa_nil)) (by intro _; rfl)))))) (pss_one (ps_ret pe_bl)) pss_nil)
   (pss_one (ps_ret (pe_callB (cr_allV rfl) (by rfl) T.n_all bt_all (pa_cons (pe_lc (own := [("block", 3), ("later", 4)]) (by rfl) sc_is_state.nd (pi_zipX (by rfl) T.n_zip (pa_cons (pv 2) (pa_cons (pe_slice slr_any (pv 2) (po_some pe_int) po_none) pa_nil))) (blkOk_by (own := [("block", 3), ("later", 4)]) (N := N_is_state) (sc := defScope s_is_state) (by decide +kernel)) (fun _ _ _ _ _ => (pg_tup rfl (pgs_cons (pg_name (i := 3) sc_is_state.nd rfl (by first | exact Or.inl rfl | exact Or.inr rfl)) (pgs_cons (pg_name (i := 4) sc_is_state.nd rfl (by first | exact Or.inl rfl | exact Or.inr rfl)) pgs_nil)))) (fun _ _ _ _ _ => pts_nil) (fun _ _ _ _ _ => (pe_cmpR op_le (pe_callG (ok_end_of T) (hr.mono (by decide)) hg (by rfl) T.g_end_of T.F_end_of.kp T.b_end_of .nil takes0 (pa_cons (pv 3) pa_nil)) (pe_ix ix_seq (pv 4) pe_int (fun _ _ => rfl)) (nomark _)))) pa_nil))))),
   (rs_seq (rs_if (rf_or (rf_not (rf_tru (rf_isip (by simp)))) (rf_not (rf_tru (rf_c1 c1_all (rf_lc (rf_seqI (rf_var (npsX [] rfl (by decide)))) (rg_name (npsX [] rfl (by decide))) rf_yes (rf_rtV (rf_call rfl (rf_acons (rf_var (npsX [] rfl (by decide))) (rf_acons (rf_var (npsX [] rfl (by decide))) (rf_acons (rf_var (npsX [] rfl (by decide))) rf_anil))))) (by decide) (npsXL [] rfl (by decide))).frz)))) (rs_ret (rf_con fun _ _ => Rep.bl _)) rs_next)
   (rs_ret (rf_c1 c1_all (rf_lc (rf_zip (rf_var (npsX [] rfl (by decide))) (rf_slp (rf_ps (rf_con fun _ _ => Rep.int _)) rf_pn)) (rg_tup (rgs_cons (rg_name (npsX [] rfl (by decide))) (rgs_cons (rg_name (npsX [] rfl (by decide))) rgs_nil))) rf_yes (rf_op2 (of_cmpI _) (rf_rtV (rf_call rfl (rf_acons (rf_var (npsX [] rfl (by decide))) rf_anil))) (rf_op2l of_item (rf_con fun _ _ => Rep.int _))) (by decide) (npsXL [] rfl (by decide))).frz)))⟩)
theorem ok_live_words : FnG P w K mg base 1 T.a_live_words T.d_live_words ["state"] (spF K RX [.v] f_live_words) :=
  fn_pure (N := N_live_words) (m := m_live_words) (k := 0) T.F_live_words sc_live_words rfl (by decide) (fun cdv A outer s H E hr hg => ⟨_, (pss_one (ps_ret (pe_callB (cr_sum rfl) (by rfl) T.n_sum bt_sum (pa_cons (pe_lc (own := [("address", 1), ("size", 2)]) (by rfl) sc_live_words.nd (pi_seq (pv 0)) (blkOk_by (own := [("address", 1), ("size", 2)]) (N := N_live_words) (sc := defScope s_live_words) (by decide +kernel)) (fun _ _ _ _ _ => (pg_tup rfl (pgs_cons (pg_name (i := 1) sc_live_words.nd rfl (by first | exact Or.inl rfl | exact Or.inr rfl)) (pgs_cons (pg_name (i := 2) sc_live_words.nd rfl (by first | exact Or.inl rfl | exact Or.inr rfl)) pgs_nil)))) (fun _ _ _ _ _ => pts_nil) (fun _ _ _ _ _ => (pv 2))) pa_nil)))),
   (rs_ret (rf_c1 c1_sum (rf_lc (rf_seqI (rf_var (npsX [] rfl (by decide)))) (rg_tup (rgs_cons (rg_name (npsX [] rfl (by decide))) (rgs_cons (rg_name (npsX [] rfl (by decide))) rgs_nil))) rf_yes (rf_var (npsX [] rfl (by decide))) (by decide) (npsXL [] rfl (by decide))).frz))⟩)
theorem ok_look_at_size : FnG P w K mg base 2 T.a_look_at_size T.d_look_at_size ["chain", "size"] (spF K RX [.v, .v] f_look_at_size) :=
  fn_pure (N := N_look_at_size) (m := m_look_at_size) (k := 1) T.F_look_at_size sc_look_at_size rfl (by decide) (fun cdv A outer s H E hr hg => ⟨_, (pss_one (ps_if (PW.pt (pw_or (pt_not (pt_truth (pe_callX (ok_is_integer T) hr hg (by rfl) T.g_is_integer T.F_is_integer.kp T.x_is_integer_2 (takes_of rfl rfl rfl rfl) (pa_cons (pv 1) (pa_cons pe_int pa_nil))) (by intro _; rfl))) (pw_or1 (pt_cmpR (opr_notIn (hu65 hr)) (pv 1) (pv 0) (by rfl))))) (pss_one ps_never) pss_nil)),
   (rs_if (rf_or (rf_not (rf_tru (rf_rtV (rf_callX (by decide) rfl (fun _ _ => (.cons .non .nil)) (rf_vcons (rf_var (npsX [] rfl (by decide))) (rf_vcons (rf_con fun _ _ => Rep.int _) rf_vnil)) rf_vnil)))) (rf_tTest (rf_op2b of_notIn))) rs_never rs_next)⟩)
theorem ok_occupied : FnG P w K mg base 2 T.a_occupied T.d_occupied ["state"] (spF K RX [.v] f_occupied) :=
  fn_pure (N := N_occupied) (m := m_occupied) (k := 1) T.F_occupied sc_occupied rfl (by decide) (fun cdv A outer s H E hr hg => ⟨_, (pss_cons (ps_set (i := 1) sc_occupied.nd rfl (by first | exact Or.inl rfl | exact Or.inr rfl) pe_dnewK)
   (pss_cons (ps_for (passes_of rfl) rfl (pi_seq (pv 0)) (pg_name (i := 2) sc_occupied.nd rfl (by first | exact Or.inl rfl | exact Or.inr rfl)) (pss_one (ps_for (passes_of rfl) rfl (pi_range2 (by rfl) T.n_range (pa_cons (pe_ix ix_seq (pv 2) pe_int (fun _ _ => rfl)) (pa_cons (pe_callG (ok_end_of T) hr hg (by rfl) T.g_end_of T.F_end_of.kp T.b_end_of .nil (takes_of rfl rfl rfl rfl) (pa_cons (pv 2) pa_nil)) pa_nil))) (pg_name (i := 3) sc_occupied.nd rfl (by first | exact Or.inl rfl | exact Or.inr rfl)) (pss_one (ps_dput (hu_of hr) (pv 1) (pv 3) (pv 2) rfl)))))
   (pss_one (ps_ret (pv 1))))),
   (rs_seq (rs_own (npsX [] rfl (by decide)) rf_dict0)
   (rs_seq (rs_for (rf_seqI (rf_var (npsX [] rfl (by decide)))) (rg_name (npsX [] rfl (by decide))) (rs_for (rf_rng2 (rf_op2l of_item (rf_con fun _ _ => Rep.int _)) (rf_rtV (rf_call rfl (rf_acons (rf_var (npsX [] rfl (by decide))) rf_anil)))) (rg_name (npsX [] rfl (by decide))) (rs_dput (rf_var (npsX [] rfl (by decide))) (rf_var (npsX [] rfl (by decide))))))
   (rs_ret (rf_var (npsX [] rfl (by decide))))))⟩)
theorem ok_places : FnG P w K mg base 3 T.a_places T.d_places ["chain", "pages", "state", "size"] (spF K RX [.v, .v, .v, .v] f_places) :=
  fn_pure (N := N_places) (m := m_places) (k := 2) T.F_places sc_places rfl (by decide) (fun cdv A outer s H E hr hg => ⟨_, (pss_cons (ps_expr (pe_callG (ok_look_at_size T) hr hg (by rfl) T.g_look_at_size T.F_look_at_size.kp T.b_look_at_size .nil (takes_of rfl rfl rfl rfl) (pa_cons (pv 0) (pa_cons (pv 3) pa_nil))))
   (pss_cons (ps_set (i := 4) sc_places.nd rfl (by first | exact Or.inl rfl | exact Or.inr rfl) (pe_callG (ok_occupied T) hr hg (by rfl) T.g_occupied T.F_occupied.kp T.b_occupied .nil (takes_of rfl rfl rfl rfl) (pa_cons (pv 2) pa_nil)))
   (pss_cons (ps_set (i := 5) sc_places.nd rfl (by first | exact Or.inl rfl | exact Or.inr rfl) (pe_lst pa_nil))
   (pss_cons (ps_for (passes_of rfl) rfl (pi_range3 (by rfl) T.n_range (pa_cons pe_int (pa_cons (pe_op opr_mul (pv 1) (pe_ix ix_seq (pv 0) (pe_un un_neg pe_int) (fun _ _ => rfl))) (pa_cons (pv 3) pa_nil)))) (pg_name (i := 6) sc_places.nd rfl (by first | exact Or.inl rfl | exact Or.inr rfl)) (pss_one (ps_if (pt_not (pt_truth (pe_callB (cr_anyV rfl) (by rfl) T.n_any bt_any (pa_cons (pe_lc (own := [("word", 7)]) (by rfl) sc_places.nd (pi_range2 (by rfl) T.n_range (pa_cons (pv 6) (pa_cons (pe_op opr_add (pv 6) (pv 3)) pa_nil))) (blkOk_by (own := [("word", 7)]) (N := N_places) (sc := defScope s_places) (by decide +kernel)) (fun _ _ _ _ _ => (pg_name (i := 7) sc_places.nd rfl (by first | exact Or.inl rfl | exact Or.inr rfl))) (fun _ _ _ _ _ => pts_nil) (fun _ _ _ _ _ => (pe_cmpR (or_din (hu65 hr)) (pv 7) (pv 4) (by rfl)))) pa_nil)) (by intro _; rfl))) (pss_one (ps_expr (pe_bm PySem.F.plainAttrs_list PySem.F.slot_list_append PySem.F.type_list_append mt_append (pv 5) (pa_cons (pv 6) pa_nil)))) pss_nil)))
   (pss_one (ps_ret (pe_callTy call_tuple_of (by rfl) T.n_tuple bt_tuple (pa_cons (pv 5) pa_nil)))))))),
   (rs_seq (rs_expr (rf_rtV (rf_call rfl (rf_acons (rf_var (npsX [] rfl (by decide))) (rf_acons (rf_var (npsX [] rfl (by decide))) rf_anil)))))
   (rs_seq (rs_assign (rf_rtV (rf_call rfl (rf_acons (rf_var (npsX [] rfl (by decide))) rf_anil))) (rg_name (npsX [] rfl (by decide))))
   (rs_seq (rs_own (npsX [] rfl (by decide)) (rf_lst rf_nil))
   (rs_seq (rs_for (rf_rng3 (rf_con fun _ _ => Rep.int _) (rf_op2l of_mul (rf_op2l of_item (rf_neg (rf_con fun _ _ => Rep.int _)))) (rf_var (npsX [] rfl (by decide)))) (rg_name (npsX [] rfl (by decide))) (rs_if (rf_not (rf_tru (rf_c1 c1_any (rf_lc (rf_rng2 (rf_var (npsX [] rfl (by decide))) (rf_op2b of_add)) (rg_name (npsX [] rfl (by decide))) rf_yes (rf_op2b of_din) (by decide) (npsXL [] rfl (by decide))).frz))) (rs_append (rf_var (npsX [] rfl (by decide)))) rs_next))
   (rs_ret (rf_c1p c1_tuple))))))⟩)
theorem ok_keepers : FnG P w K mg base 3 T.a_keepers T.d_keepers ["chain", "state", "size"] (spF K RX [.v, .v, .v] f_keepers) :=
  fn_pure (N := N_keepers) (m := m_keepers) (k := 2) T.F_keepers sc_keepers rfl (by decide) (fun cdv A outer s H E hr hg => ⟨_, (pss_cons (ps_expr (pe_callG (ok_look_at_size T) hr hg (by rfl) T.g_look_at_size T.F_look_at_size.kp T.b_look_at_size .nil (takes_of rfl rfl rfl rfl) (pa_cons (pv 0) (pa_cons (pv 2) pa_nil))))
   (pss_cons (ps_set (i := 3) sc_keepers.nd rfl (by first | exact Or.inl rfl | exact Or.inr rfl) pe_dnewK)
   (pss_cons (ps_for (passes_of rfl) rfl (pi_seq (pv 1)) (pg_tup rfl (pgs_cons (pg_name (i := 4) sc_keepers.nd rfl (by first | exact Or.inl rfl | exact Or.inr rfl)) (pgs_cons (pg_name (i := 5) sc_keepers.nd rfl (by first | exact Or.inl rfl | exact Or.inr rfl)) pgs_nil))) (pss_one (ps_for (passes_of rfl) rfl (pi_range3 (by rfl) T.n_range (pa_cons (pe_op opr_mul (pe_op op_fdivW (pv 4) (pv 2)) (pv 2)) (pa_cons (pe_op opr_add (pv 4) (pv 5)) (pa_cons (pv 2) pa_nil)))) (pg_name (i := 6) sc_keepers.nd rfl (by first | exact Or.inl rfl | exact Or.inr rfl)) (pss_one (ps_if (PW.pt (pw_or (pt_cmpR (or_dnin (hu65 hr)) (pv 6) (pv 3) (by rfl)) (pw_or1 (pt_cmpR op_lt (pv 5) (pe_ix ix_seq (pe_dget (hu_of hr) (pv 3) (pv 6) (fun _ _ => rfl)) pe_int (fun _ _ => rfl)) (nomark _))))) (pss_one (ps_dput (hu_of hr) (pv 3) (pv 6) (pe_tup (pa_cons (pv 4) (pa_cons (pv 5) pa_nil))) rfl)) pss_nil)))))
   (pss_one (ps_ret (pe_callTy call_tuple_of (by rfl) T.n_tuple bt_tuple (pa_cons (pe_callB (cr_ssetA rfl) (by rfl) T.n_sorted bt_sorted (pa_cons (pe_callTy (cr_setNA rfl (hu64 hr)) (by rfl) T.n_set bt_set (pa_cons (pe_listVals rfl (by rfl) T.n_list (pv 3)) pa_nil)) pa_nil)) pa_nil))))))),
   (rs_seq (rs_expr (rf_rtV (rf_call rfl (rf_acons (rf_var (npsX [] rfl (by decide))) (rf_acons (rf_var (npsX [] rfl (by decide))) rf_anil)))))
   (rs_seq (rs_own (npsX [] rfl (by decide)) rf_dict0)
   (rs_seq (rs_for (rf_seqI (rf_var (npsX [] rfl (by decide)))) (rg_tup (rgs_cons (rg_name (npsX [] rfl (by decide))) (rgs_cons (rg_name (npsX [] rfl (by decide))) rgs_nil))) (rs_for (rf_rng3 (rf_op2r of_mul (rf_op2b of_fdiv)) (rf_op2b of_add) (rf_var (npsX [] rfl (by decide)))) (rg_name (npsX [] rfl (by decide))) (rs_if (rf_or (rf_tTest (rf_op2b of_dnin)) (rf_tTest (rf_op2l (of_cmpI _) (rf_op2 of_item (rf_op2b of_dget) (rf_con fun _ _ => Rep.int _))))) (rs_dput (rf_tup (rf_cons (rf_var (npsX [] rfl (by decide))) (rf_cons (rf_var (npsX [] rfl (by decide))) rf_nil))) (rf_var (npsX [] rfl (by decide)))) rs_next)))
   (rs_ret (rf_c1 c1_tuple (rf_ss (rf_setN rf_dvals.frz)).frz)))))⟩)
theorem ok_reaches : FnG P w K mg base 2 T.a_reaches T.d_reaches ["chain", "state"] (spF K RX [.v, .v] f_reaches) :=
  fn_pure (N := N_reaches) (m := m_reaches) (k := 1) T.F_reaches sc_reaches rfl (by decide) (fun cdv A outer s H E hr hg => ⟨_, (pss_one (ps_ret (pe_callTy call_tuple_of (by rfl) T.n_tuple bt_tuple (pa_cons (pe_lc (own := [("size", 2)]) (by rfl) sc_reaches.nd (pi_seq (pv 0)) (blkOk_by (own := [("size", 2)]) (N := N_reaches) (sc := defScope s_reaches) (by decide +kernel)) (fun _ _ _ _ _ => (pg_name (i := 2) sc_reaches.nd rfl (by first | exact Or.inl rfl | exact Or.inr rfl))) (fun _ _ _ _ _ => pts_nil) (fun _ _ _ _ _ => (pe_callB (cr_max rfl) (by rfl) T.n_max bt_max (pa_cons (pe_op opr_add (pe_lst (pa_cons pe_int pa_nil)) (pe_lc (own := [("block", 3)]) (by rfl) sc_reaches.nd (pi_seq (pv 1)) (blkOk_by (own := [("block", 3)]) (N := N_reaches) (by (simp only [envC_scope, cx_scope]; decide +kernel))) (fun _ _ _ _ _ => (pg_name (i := 3) sc_reaches.nd rfl (by first | exact Or.inl rfl | exact Or.inr rfl))) (fun _ _ _ _ _ => (pts_one (pt_cmpR op_le (pe_ix ix_seq (pv 3) pe_int (fun _ _ => rfl)) (pv 2) (nomark _)))) (fun _ _ _ _ _ => (pe_callG (ok_end_of T) hr hg (by rfl) T.g_end_of T.F_end_of.kp T.b_end_of .nil takes0 (pa_cons (pv 3) pa_nil))))) pa_nil)))) pa_nil)))),
   (rs_ret (rf_c1 c1_tuple (rf_lc (rf_seqI (rf_var (npsX [] rfl (by decide)))) (rg_name (npsX [] rfl (by decide))) rf_yes (rf_c1 c1_max (rf_op2 of_add (rf_lst (rf_cons (rf_con fun _ _ => Rep.int _) rf_nil)).frz (rf_lc (rf_seqI (rf_var (npsX [] rfl (by decide)))) (rg_name (npsX [] rfl (by decide))) (rf_tTest (rf_op2r (of_cmpI _) (rf_op2l of_item (rf_con fun _ _ => Rep.int _)))) (rf_rtV (rf_call rfl (rf_acons (rf_var (npsX [] rfl (by decide))) rf_anil))) (by decide) (npsXL [] rfl (by decide))).frz)) (by decide) (npsXL [] rfl (by decide))).frz))⟩)
theorem ok_l_parts_right : FnG P w K mg base 4 T.a_l_parts_right T.d_l_parts_right ["_law_links_here", "_law_many", "_law_first", "_law_second", "_law_gap"] (spF K RX [.v, .v, .v, .v, .v] f_l_parts_right) :=
  fn_pure (N := N_l_parts_right) (m := m_l_parts_right) (k := 3) T.F_l_parts_right sc_l_parts_right rfl (by decide) (fun cdv A outer s H E hr hg => ⟨_, (pss_cons (ps_set (i := 5) sc_l_parts_right.nd rfl (by first | exact Or.inl rfl | exact Or.inr rfl) (pe_op opr_mul (pv 1) (pe_ix ix_seq (pv 0) (pe_un un_neg pe_int) (fun _ _ => rfl))))
   (pss_cons (ps_par rfl sc_l_parts_right.nd (i := 6) (j := 7) rfl rfl (by decide) rfl rfl (pa_cons (pe_op opr_add (pv 2) (pe_callG (ok_l_moved T) (hr.mono (by decide)) hg (by rfl) T.g_l_moved T.F_l_moved.kp T.b_l_moved .nil (takes_of rfl rfl rfl rfl) (pa_cons (pv 3) (pa_cons (pv 5) pa_nil)))) (pa_cons (pe_op opr_add (pv 1) (pv 4)) pa_nil)) (by rfl))
   (pss_cons (ps_if (PW.pt (pw_or (pt_cmpR op_notBl (pe_callG (ok_is_state T) hr hg (by rfl) T.g_is_state T.F_is_state.kp T.b_is_state .nil (takes_of rfl rfl rfl rfl) (pa_cons (pv 0) (pa_cons (pv 7) (pa_cons (pv 6) pa_nil)))) pe_bl (nomark _)) (pw_or1 (pt_cmpR (opr_ne hr.units) (pe_callG (ok_live_words T) (hr.mono (by decide)) hg (by rfl) T.g_live_words T.F_live_words.kp T.b_live_words .nil (takes_of rfl rfl rfl rfl) (pa_cons (pv 6) pa_nil)) (pe_op opr_add (pe_callG (ok_live_words T) (hr.mono (by decide)) hg (by rfl) T.g_live_words T.F_live_words.kp T.b_live_words .nil (takes_of rfl rfl rfl rfl) (pa_cons (pv 2) pa_nil)) (pe_callG (ok_live_words T) (hr.mono (by decide)) hg (by rfl) T.g_live_words T.F_live_words.kp T.b_live_words .nil (takes_of rfl rfl rfl rfl) (pa_cons (pv 3) pa_nil))) (nomark _))))) (pss_one (ps_ret pe_bl)) pss_nil)
   (pss_cons (ps_set (i := 8) sc_l_parts_right.nd rfl (by first | exact Or.inl rfl | exact Or.inr rfl) (pe_op opr_add (pe_callG (ok_used_pages T) (hr.mono (by decide)) hg (by rfl) T.g_used_pages T.F_used_pages.kp T.b_used_pages .nil (takes_of rfl rfl rfl rfl) (pa_cons (pv 0) (pa_cons (pv 2) pa_nil))) (pe_callTy call_tuple_of (by rfl) T.n_tuple bt_tuple (pa_cons (pe_lc (own := [("_law_number", 14)]) (by rfl) sc_l_parts_right.nd (pi_seq (pe_callG (ok_used_pages T) (hr.mono (by decide)) hg (by rfl) T.g_used_pages T.F_used_pages.kp T.b_used_pages .nil (takes_of rfl rfl rfl rfl) (pa_cons (pv 0) (pa_cons (pv 3) pa_nil)))) (blkOk_by (own := [("_law_number", 14)]) (N := N_l_parts_right) (sc := defScope s_l_parts_right) (by decide +kernel)) (fun _ _ _ _ _ => (pg_name (i := 14) sc_l_parts_right.nd rfl (by first | exact Or.inl rfl | exact Or.inr rfl))) (fun _ _ _ _ _ => pts_nil) (fun _ _ _ _ _ => (pe_op opr_add (pv 14) (pv 1)))) pa_nil))))
   (pss_cons (ps_if (pt_cmpR (opr_ne hr.units) (pe_callG (ok_used_pages T) (hr.mono (by decide)) hg (by rfl) T.g_used_pages T.F_used_pages.kp T.b_used_pages .nil (takes_of rfl rfl rfl rfl) (pa_cons (pv 0) (pa_cons (pv 6) pa_nil))) (pv 8) (nomark _)) (pss_one (ps_ret pe_bl)) pss_nil)
   (pss_cons (ps_for (passes_of rfl) rfl (pi_seq (pv 0)) (pg_name (i := 9) sc_l_parts_right.nd rfl (by first | exact Or.inl rfl | exact Or.inr rfl)) (pss_cons (ps_set (i := 10) sc_l_parts_right.nd rfl (by first | exact Or.inl rfl | exact Or.inr rfl) (pe_op opr_add (pe_callG (ok_places T) hr hg (by rfl) T.g_places T.F_places.kp T.b_places .nil (takes_of rfl rfl rfl rfl) (pa_cons (pv 0) (pa_cons (pv 1) (pa_cons (pv 2) (pa_cons (pv 9) pa_nil))))) (pe_callTy call_tuple_of (by rfl) T.n_tuple bt_tuple (pa_cons (pe_lc (own := [("_law_at", 15)]) (by rfl) sc_l_parts_right.nd (pi_seq (pe_callG (ok_places T) hr hg (by rfl) T.g_places T.F_places.kp T.b_places .nil (takes_of rfl rfl rfl rfl) (pa_cons (pv 0) (pa_cons (pv 4) (pa_cons (pv 3) (pa_cons (pv 9) pa_nil)))))) (blkOk_by (own := [("_law_at", 15)]) (N := N_l_parts_right) (sc := defScope s_l_parts_right) (by decide +kernel)) (fun _ _ _ _ _ => (pg_name (i := 15) sc_l_parts_right.nd rfl (by first | exact Or.inl rfl | exact Or.inr rfl))) (fun _ _ _ _ _ => pts_nil) (fun _ _ _ _ _ => (pe_op opr_add (pv 15) (pv 5)))) pa_nil))))
   (pss_cons (ps_if (pt_cmpR (opr_ne hr.units) (pe_callG (ok_places T) hr hg (by rfl) T.g_places T.F_places.kp T.b_places .nil (takes_of rfl rfl rfl rfl) (pa_cons (pv 0) (pa_cons (pv 7) (pa_cons (pv 6) (pa_cons (pv 9) pa_nil))))) (pv 10) (nomark _)) (pss_one (ps_ret pe_bl)) pss_nil)
   (pss_one (ps_if (pt_cmpR (opr_ne hr.units) (pe_callG (ok_keepers T) hr hg (by rfl) T.g_keepers T.F_keepers.kp T.b_keepers .nil (takes_of rfl rfl rfl rfl) (pa_cons (pv 0) (pa_cons (pv 6) (pa_cons (pv 9) pa_nil)))) (pe_op opr_add (pe_callG (ok_keepers T) hr hg (by rfl) T.g_keepers T.F_keepers.kp T.b_keepers .nil (takes_of rfl rfl rfl rfl) (pa_cons (pv 0) (pa_cons (pv 2) (pa_cons (pv 9) pa_nil)))) (pe_callG (ok_l_moved T) (hr.mono (by decide)) hg (by rfl) T.g_l_moved T.F_l_moved.kp T.b_l_moved .nil (takes_of rfl rfl rfl rfl) (pa_cons (pe_callG (ok_keepers T) hr hg (by rfl) T.g_keepers T.F_keepers.kp T.b_keepers .nil (takes_of rfl rfl rfl rfl) (pa_cons (pv 0) (pa_cons (pv 3) (pa_cons (pv 9) pa_nil)))) (pa_cons (pv 5) pa_nil)))) (nomark _)) (pss_one (ps_ret pe_bl)) pss_nil)))))
   (pss_cons (ps_setLc (i := 11) (own := [("_law_low", 12), ("_law_high", 13)]) rfl sc_l_parts_right.nd rfl rfl (sw_true rfl rfl rfl (by decide +kernel)) (pi_zipX (by rfl) T.n_zip (pa_cons (pe_callG (ok_reaches T) (hr.mono (by decide)) hg (by rfl) T.g_reaches T.F_reaches.kp T.b_reaches .nil (takes_of rfl rfl rfl rfl) (pa_cons (pv 0) (pa_cons (pv 2) pa_nil))) (pa_cons (pe_callG (ok_reaches T) (hr.mono (by decide)) hg (by rfl) T.g_reaches T.F_reaches.kp T.b_reaches .nil (takes_of rfl rfl rfl rfl) (pa_cons (pv 0) (pa_cons (pv 3) pa_nil))) pa_nil))) (blkOk_by (own := [("_law_low", 12), ("_law_high", 13)]) (N := N_l_parts_right) (sc := defScope s_l_parts_right) (by decide +kernel)) (fun _ _ _ _ _ => (pg_tup rfl (pgs_cons (pg_name (i := 12) sc_l_parts_right.nd rfl (by first | exact Or.inl rfl | exact Or.inr rfl)) (pgs_cons (pg_name (i := 13) sc_l_parts_right.nd rfl (by first | exact Or.inl rfl | exact Or.inr rfl)) pgs_nil)))) (fun _ _ _ _ _ => pts_nil) (fun _ _ _ _ _ => (pe_ifExp (pt_cmpR (opr_eq hr.units) (pv 13) pe_int (nomark _)) (pv 12) (pe_op opr_add (pv 13) (pv 5)))))
   (pss_one (ps_ret (pe_cmpR (opr_eq hr.units) (pe_callTy call_list_of (by rfl) T.n_list bt_list (pa_cons (pe_callG (ok_reaches T) (hr.mono (by decide)) hg (by rfl) T.g_reaches T.F_reaches.kp T.b_reaches .nil (takes_of rfl rfl rfl rfl) (pa_cons (pv 0) (pa_cons (pv 6) pa_nil))) pa_nil)) (pv 11) (nomark _))))))))))),
   (rs_seq (rs_assign (rf_op2l of_mul (rf_op2l of_item (rf_neg (rf_con fun _ _ => Rep.int _)))) (rg_name (npsX [] rfl (by decide))))
   (rs_seq (rs_par (rf_pv (rf_op2l of_add (rf_rtV (rf_call rfl (rf_acons (rf_var (npsX [] rfl (by decide))) (rf_acons (rf_var (npsX [] rfl (by decide))) rf_anil))))) (rf_pv (rf_op2b of_add) rf_pnil)) (npsXL [] rfl (by decide)))
   (rs_seq (rs_if (rf_or (rf_tTest (rf_op2 of_isNB (rf_rtV (rf_call rfl (rf_acons (rf_var (npsX [] rfl (by decide))) (rf_acons (rf_var (npsX [] rfl (by decide))) (rf_acons (rf_var (npsX [] rfl (by decide))) rf_anil))))) (rf_con fun _ _ => Rep.bl _))) (rf_tTest (rf_op2 of_ne (rf_rtV (rf_call rfl (rf_acons (rf_var (npsX [] rfl (by decide))) rf_anil))) (rf_op2 of_add (rf_rtV (rf_call rfl (rf_acons (rf_var (npsX [] rfl (by decide))) rf_anil))) (rf_rtV (rf_call rfl (rf_acons (rf_var (npsX [] rfl (by decide))) rf_anil))))))) (rs_ret (rf_con fun _ _ => Rep.bl _)) rs_next)
   (rs_seq (rs_assign (rf_op2 of_add (rf_rtV (rf_call rfl (rf_acons (rf_var (npsX [] rfl (by decide))) (rf_acons (rf_var (npsX [] rfl (by decide))) rf_anil)))) (rf_c1 c1_tuple (rf_lc (rf_seqI (rf_rtV (rf_call rfl (rf_acons (rf_var (npsX [] rfl (by decide))) (rf_acons (rf_var (npsX [] rfl (by decide))) rf_anil))))) (rg_name (npsX [] rfl (by decide))) rf_yes (rf_op2b of_add) (by decide) (npsXL [] rfl (by decide))).frz)) (rg_name (npsX [] rfl (by decide))))
   (rs_seq (rs_if (rf_tTest (rf_op2r of_ne (rf_rtV (rf_call rfl (rf_acons (rf_var (npsX [] rfl (by decide))) (rf_acons (rf_var (npsX [] rfl (by decide))) rf_anil)))))) (rs_ret (rf_con fun _ _ => Rep.bl _)) rs_next)
   (rs_seq (rs_for (rf_seqI (rf_var (npsX [] rfl (by decide)))) (rg_name (npsX [] rfl (by decide))) (rs_seq (rs_assign (rf_op2 of_add (rf_rtV (rf_call rfl (rf_acons (rf_var (npsX [] rfl (by decide))) (rf_acons (rf_var (npsX [] rfl (by decide))) (rf_acons (rf_var (npsX [] rfl (by decide))) (rf_acons (rf_var (npsX [] rfl (by decide))) rf_anil)))))) (rf_c1 c1_tuple (rf_lc (rf_seqI (rf_rtV (rf_call rfl (rf_acons (rf_var (npsX [] rfl (by decide))) (rf_acons (rf_var (npsX [] rfl (by decide))) (rf_acons (rf_var (npsX [] rfl (by decide))) (rf_acons (rf_var (npsX [] rfl (by decide))) rf_anil))))))) (rg_name (npsX [] rfl (by decide))) rf_yes (rf_op2b of_add) (by decide) (npsXL [] rfl (by decide))).frz)) (rg_name (npsX [] rfl (by decide))))
   (rs_seq (rs_if (rf_tTest (rf_op2r of_ne (rf_rtV (rf_call rfl (rf_acons (rf_var (npsX [] rfl (by decide))) (rf_acons (rf_var (npsX [] rfl (by decide))) (rf_acons (rf_var (npsX [] rfl (by decide))) (rf_acons (rf_var (npsX [] rfl (by decide))) rf_anil)))))))) (rs_ret (rf_con fun _ _ => Rep.bl _)) rs_next)
   (rs_if (rf_tTest (rf_op2 of_ne (rf_rtV (rf_call rfl (rf_acons (rf_var (npsX [] rfl (by decide))) (rf_acons (rf_var (npsX [] rfl (by decide))) (rf_acons (rf_var (npsX [] rfl (by decide))) rf_anil))))) (rf_op2 of_add (rf_rtV (rf_call rfl (rf_acons (rf_var (npsX [] rfl (by decide))) (rf_acons (rf_var (npsX [] rfl (by decide))) (rf_acons (rf_var (npsX [] rfl (by decide))) rf_anil))))) (rf_rtV (rf_call rfl (rf_acons (rf_rtV (rf_call rfl (rf_acons (rf_var (npsX [] rfl (by decide))) (rf_acons (rf_var (npsX [] rfl (by decide))) (rf_acons (rf_var (npsX [] rfl (by decide))) rf_anil))))) (rf_acons (rf_var (npsX [] rfl (by decide))) rf_anil))))))) (rs_ret (rf_con fun _ _ => Rep.bl _)) rs_next))))
   (rs_seq (rs_assign (rf_lc (rf_zip (rf_rtV (rf_call rfl (rf_acons (rf_var (npsX [] rfl (by decide))) (rf_acons (rf_var (npsX [] rfl (by decide))) rf_anil)))) (rf_rtV (rf_call rfl (rf_acons (rf_var (npsX [] rfl (by decide))) (rf_acons (rf_var (npsX [] rfl (by decide))) rf_anil))))) (rg_tup (rgs_cons (rg_name (npsX [] rfl (by decide))) (rgs_cons (rg_name (npsX [] rfl (by decide))) rgs_nil))) rf_yes (rf_ifE (rf_tTest (rf_op2l of_eq (rf_con fun _ _ => Rep.int _))) (rf_var (npsX [] rfl (by decide))) (rf_op2b of_add)) (by decide) (npsXL [] rfl (by decide))).frz (rg_name (npsX [] rfl (by decide))))
   (rs_ret (rf_op2r of_eq (rf_co co_list (rf_rtV (rf_call rfl (rf_acons (rf_var (npsX [] rfl (by decide))) (rf_acons (rf_var (npsX [] rfl (by decide))) rf_anil))))).frz)))))))))⟩)
theorem ok_law : FnG P w K mg base 5 T.a_law T.d_law ["_law_script"] (spF K RX [.s] f_law) :=
  fn_pure (N := N_law) (m := m_law) (k := 4) T.F_law sc_law rfl (by decide) (fun cdv A outer s H E hr hg => ⟨_, (pss_cons (ps_for (passes_of rfl) rfl (pi_range1 (by rfl) T.n_range (pa_cons (pe_callB (call_max2 rfl) (by rfl) T.n_max bt_max (pa_cons pe_int (pa_cons (pe_callB (call_min2 rfl) (by rfl) T.n_min bt_min (pa_cons pe_int (pa_cons (pe_callB cr_len (by rfl) T.n_len bt_len (pa_cons (pv 0) pa_nil)) pa_nil))) pa_nil))) pa_nil)) (pg_name (i := 1) sc_law.nd rfl (by first | exact Or.inl rfl | exact Or.inr rfl)) (pss_cons (ps_set (i := 2) sc_law.nd rfl (by first | exact Or.inl rfl | exact Or.inr rfl) (pe_callG (ok_l_pot T) (hr.mono (by decide)) hg (by rfl) T.g_l_pot T.F_l_pot.kp T.b_l_pot .nil (takes_of rfl rfl rfl rfl) (pa_cons (pv 0) (pa_cons (pv 1) pa_nil))))
   (pss_one (ps_for (passes_of rfl) rfl (pi_range1 (by rfl) T.n_range (pa_cons pe_int pa_nil)) (pg_name (i := 3) sc_law.nd rfl (by first | exact Or.inl rfl | exact Or.inr rfl)) (pss_cons (ps_par3 rfl sc_law.nd (i := 4) (j := 5) (l := 6) rfl rfl rfl (by decide) (by decide) (by decide) rfl rfl rfl (pa_cons (pe_callG (ok_l_links T) (hr.mono (by decide)) hg (by rfl) T.g_l_links T.F_l_links.kp T.b_l_links .nil (takes_of rfl rfl rfl rfl) (pa_cons (pv 2) (pa_cons pe_int pa_nil))) (pa_cons (pe_op opr_add pe_int (pe_callG (ok_l_take T) (hr.mono (by decide)) hg (by rfl) T.g_l_take T.F_l_take.kp T.b_l_take .nil (takes_of rfl rfl rfl rfl) (pa_cons (pv 2) (pa_cons pe_int pa_nil)))) (pa_cons (pe_op opr_add pe_int (pe_callG (ok_l_take T) (hr.mono (by decide)) hg (by rfl) T.g_l_take T.F_l_take.kp T.b_l_take .nil (takes_of rfl rfl rfl rfl) (pa_cons (pv 2) (pa_cons pe_int pa_nil)))) pa_nil))) (by rfl))
   (pss_cons (ps_par rfl sc_law.nd (i := 7) (j := 8) rfl rfl (by decide) rfl rfl (pa_cons (pe_callG (ok_l_drawn T) (hr.mono (by decide)) hg (by rfl) T.g_l_drawn T.F_l_drawn.kp T.b_l_drawn .nil (takes_of rfl rfl rfl rfl) (pa_cons (pv 2) (pa_cons (pv 4) (pa_cons (pv 5) (pa_cons pe_int pa_nil))))) (pa_cons (pe_callG (ok_l_drawn T) (hr.mono (by decide)) hg (by rfl) T.g_l_drawn T.F_l_drawn.kp T.b_l_drawn .nil (takes_of rfl rfl rfl rfl) (pa_cons (pv 2) (pa_cons (pv 4) (pa_cons (pv 6) (pa_cons pe_int pa_nil))))) pa_nil)) (by rfl))
   (pss_cons (ps_if (PW.pt (pw_or (pt_cmpR op_notBl (pe_callG (ok_is_state T) (hr.mono (by decide)) hg (by rfl) T.g_is_state T.F_is_state.kp T.b_is_state .nil (takes_of rfl rfl rfl rfl) (pa_cons (pv 4) (pa_cons (pe_op opr_add (pv 5) pe_int) (pa_cons (pv 7) pa_nil)))) pe_bl (nomark _)) (pw_or1 (pt_not (pt_truth (pe_callG (ok_l_parts_right T) hr hg (by rfl) T.g_l_parts_right T.F_l_parts_right.kp T.b_l_parts_right .nil (takes_of rfl rfl rfl rfl) (pa_cons (pv 4) (pa_cons (pv 5) (pa_cons (pv 7) (pa_cons (pv 8) (pa_cons (pv 6) pa_nil)))))) (by intro _; rfl)))))) (pss_one (ps_ret pe_bl)) pss_nil)
   (pss_one (ps_if (pt_not (pt_truth (pe_callG (ok_l_parts_right T) hr hg (by rfl) T.g_l_parts_right T.F_l_parts_right.kp T.b_l_parts_right .nil (takes_of rfl rfl rfl rfl) (pa_cons (pv 4) (pa_cons (pv 5) (pa_cons (pe_tup pa_nil) (pa_cons (pv 8) (pa_cons (pv 6) pa_nil)))))) (by intro _; rfl))) (pss_one (ps_ret pe_bl)) pss_nil)))))))))
   (pss_one (ps_ret pe_bl))),
   (rs_seq (rs_for (rf_rng1 (rf_c2 c2_max (rf_con fun _ _ => Rep.int _) (rf_c2 c2_min (rf_con fun _ _ => Rep.int _) rf_lenS))) (rg_name (npsX [] rfl (by decide))) (rs_seq (rs_own (npsX [] rfl (by decide)) (rf_rtO (rf_call rfl (rf_ascr (rf_acons (rf_var (npsX [] rfl (by decide))) rf_anil)))))
   (rs_for (rf_rng1 (rf_con fun _ _ => Rep.int _)) (rg_name (npsX [] rfl (by decide))) (rs_seq (rs_par3 (rf_pv (rf_rtV (rf_call rfl (rf_alend (rf_acons (rf_con fun _ _ => Rep.int _) rf_anil)))) (rf_pv (rf_op2 of_add (rf_con fun _ _ => Rep.int _) (rf_rtV (rf_call rfl (rf_alend (rf_acons (rf_con fun _ _ => Rep.int _) rf_anil))))) (rf_pv (rf_op2 of_add (rf_con fun _ _ => Rep.int _) (rf_rtV (rf_call rfl (rf_alend (rf_acons (rf_con fun _ _ => Rep.int _) rf_anil))))) rf_pnil))) (npsXL [] rfl (by decide)))
   (rs_seq (rs_par (rf_pv (rf_rtV (rf_call rfl (rf_alend (rf_acons (rf_var (npsX [] rfl (by decide))) (rf_acons (rf_var (npsX [] rfl (by decide))) (rf_acons (rf_con fun _ _ => Rep.int _) rf_anil)))))) (rf_pv (rf_rtV (rf_call rfl (rf_alend (rf_acons (rf_var (npsX [] rfl (by decide))) (rf_acons (rf_var (npsX [] rfl (by decide))) (rf_acons (rf_con fun _ _ => Rep.int _) rf_anil)))))) rf_pnil)) (npsXL [] rfl (by decide)))
   (rs_seq (rs_if (rf_or (rf_tTest (rf_op2 of_isNB (rf_rtV (rf_call rfl (rf_acons (rf_var (npsX [] rfl (by decide))) (rf_acons (rf_op2l of_add (rf_con fun _ _ => Rep.int _)) (rf_acons (rf_var (npsX [] rfl (by decide))) rf_anil))))) (rf_con fun _ _ => Rep.bl _))) (rf_not (rf_tru (rf_rtV (rf_call rfl (rf_acons (rf_var (npsX [] rfl (by decide))) (rf_acons (rf_var (npsX [] rfl (by decide))) (rf_acons (rf_var (npsX [] rfl (by decide))) (rf_acons (rf_var (npsX [] rfl (by decide))) (rf_acons (rf_var (npsX [] rfl (by decide))) rf_anil)))))))))) (rs_ret (rf_con fun _ _ => Rep.bl _)) rs_next)
   (rs_if (rf_not (rf_tru (rf_rtV (rf_call rfl (rf_acons (rf_var (npsX [] rfl (by decide))) (rf_acons (rf_var (npsX [] rfl (by decide))) (rf_acons (rf_tup rf_nil) (rf_acons (rf_var (npsX [] rfl (by decide))) (rf_acons (rf_var (npsX [] rfl (by decide))) rf_anil))))))))) (rs_ret (rf_con fun _ _ => Rep.bl _)) rs_next)))))))
   (rs_ret (rf_con fun _ _ => Rep.bl _)))⟩)
end
theorem all_mk {l : PySem.W.OpenLaw} {w : World} {K : PySem.W.Frag} {h : Heap} {mg : Str → Option Value} {fa : Addr} {RX : RXT} (X : K.In h) (G : h.Ns mainGlobals mg) (hfa : mg "law" = some (.ref fa))
    {f0 f1 f2 f3 f4 f5 f6 f7 f8 f9 f10 f11 f12 f13 f14 f15 f16 f17 f18 : Addr} {od0 an0 od1 an1 od2 an2 od3 an3 od4 an4 od5 an5 od6 an6 od7 an7 od8 an8 od9 an9 od10 an10 od11 an11 od12 an12 od13 an13 od14 an14 od15 an15 od16 an16 od17 an17 od18 an18 : Option Addr} {sl0 sl1 sl2 sl3 sl4 sl5 sl6 sl7 sl8 sl9 sl10 sl11 sl12 sl13 sl14 sl15 sl16 sl17 sl18 : Array (Option Value)} {oc0 kV0 dc0 pm0 cd0 ct0 oc1 kV1 dc1 pm1 cd1 ct1 oc2 kV2 dc2 pm2 cd2 ct2 oc3 kV3 dc3 pm3 cd3 ct3 oc4 kV4 dc4 pm4 cd4 ct4 oc5 kV5 dc5 pm5 cd5 ct5 oc6 kV6 dc6 pm6 cd6 ct6 oc7 kV7 dc7 pm7 cd7 ct7 oc8 kV8 dc8 pm8 cd8 ct8 oc9 kV9 dc9 pm9 cd9 ct9 oc10 kV10 dc10 pm10 cd10 ct10 oc11 kV11 dc11 pm11 cd11 ct11 oc12 kV12 dc12 pm12 cd12 ct12 oc13 kV13 dc13 pm13 cd13 ct13 oc14 kV14 dc14 pm14 cd14 ct14 oc15 kV15 dc15 pm15 cd15 ct15 oc16 kV16 dc16 pm16 cd16 ct16 oc17 kV17 dc17 pm17 cd17 ct17 oc18 kV18 dc18 pm18 cd18 ct18 : Value} {t_BLOCK_PARTS : Tok} {T8 : Addr} {oT8 : Option Addr} {cT8 : Value} {nT8 : Nat} {sT8 : Array (Option Value)}
        (a0 : PySem.W.nsIn K mainGlobals "_law_pot" = some (some (.ref f0))) (l0 : K.lookup f0 = some ⟨oc0, od0, .func (PySem.W.fnOf "_law_pot" "_law_pot" (defArgs s_l_pot) (defBody s_l_pot) (defScope s_l_pot) .none kV0 dc0 pm0 an0 cd0 ct0), sl0⟩) (c0 : PySem.W.codeIn K cd0 "_law_pot" = true) (k0 : PySem.W.keepIn K (.ref f0) = true)
    (a1 : PySem.W.nsIn K mainGlobals "_law_take" = some (some (.ref f1))) (l1 : K.lookup f1 = some ⟨oc1, od1, .func (PySem.W.fnOf "_law_take" "_law_take" (defArgs s_l_take) (defBody s_l_take) (defScope s_l_take) .none kV1 dc1 pm1 an1 cd1 ct1), sl1⟩) (c1 : PySem.W.codeIn K cd1 "_law_take" = true) (k1 : PySem.W.keepIn K (.ref f1) = true)
    (a2 : PySem.W.nsIn K mainGlobals "_law_of" = some (some (.ref f2))) (l2 : K.lookup f2 = some ⟨oc2, od2, .func (PySem.W.fnOf "_law_of" "_law_of" (defArgs s_l_of) (defBody s_l_of) (defScope s_l_of) .none kV2 dc2 pm2 an2 cd2 ct2), sl2⟩) (c2 : PySem.W.codeIn K cd2 "_law_of" = true) (k2 : PySem.W.keepIn K (.ref f2) = true)
    (a3 : PySem.W.nsIn K mainGlobals "_law_links" = some (some (.ref f3))) (l3 : K.lookup f3 = some ⟨oc3, od3, .func (PySem.W.fnOf "_law_links" "_law_links" (defArgs s_l_links) (defBody s_l_links) (defScope s_l_links) .none kV3 dc3 pm3 an3 cd3 ct3), sl3⟩) (c3 : PySem.W.codeIn K cd3 "_law_links" = true) (k3 : PySem.W.keepIn K (.ref f3) = true)
    (a4 : PySem.W.nsIn K mainGlobals "_law_drawn" = some (some (.ref f4))) (l4 : K.lookup f4 = some ⟨oc4, od4, .func (PySem.W.fnOf "_law_drawn" "_law_drawn" (defArgs s_l_drawn) (defBody s_l_drawn) (defScope s_l_drawn) .none kV4 dc4 pm4 an4 cd4 ct4), sl4⟩) (c4 : PySem.W.codeIn K cd4 "_law_drawn" = true) (k4 : PySem.W.keepIn K (.ref f4) = true)
    (a5 : PySem.W.nsIn K mainGlobals "used_pages" = some (some (.ref f5))) (l5 : K.lookup f5 = some ⟨oc5, od5, .func (PySem.W.fnOf "used_pages" "used_pages" (defArgs s_used_pages) (defBody s_used_pages) (defScope s_used_pages) .none kV5 dc5 pm5 an5 cd5 ct5), sl5⟩) (c5 : PySem.W.codeIn K cd5 "used_pages" = true) (k5 : PySem.W.keepIn K (.ref f5) = true)
    (a6 : PySem.W.nsIn K mainGlobals "_law_moved" = some (some (.ref f6))) (l6 : K.lookup f6 = some ⟨oc6, od6, .func (PySem.W.fnOf "_law_moved" "_law_moved" (defArgs s_l_moved) (defBody s_l_moved) (defScope s_l_moved) .none kV6 dc6 pm6 an6 cd6 ct6), sl6⟩) (c6 : PySem.W.codeIn K cd6 "_law_moved" = true) (k6 : PySem.W.keepIn K (.ref f6) = true)
    (a7 : PySem.W.nsIn K mainGlobals "end_of" = some (some (.ref f7))) (l7 : K.lookup f7 = some ⟨oc7, od7, .func (PySem.W.fnOf "end_of" "end_of" (defArgs s_end_of) (defBody s_end_of) (defScope s_end_of) .none kV7 dc7 pm7 an7 cd7 ct7), sl7⟩) (c7 : PySem.W.codeIn K cd7 "end_of" = true) (k7 : PySem.W.keepIn K (.ref f7) = true)
    (a8 : PySem.W.nsIn K mainGlobals "is_integer" = some (some (.ref f8))) (l8 : K.lookup f8 = some ⟨oc8, od8, .func (PySem.W.fnOf "is_integer" "is_integer" (defArgs s_is_integer) (defBody s_is_integer) (defScope s_is_integer) (.ref T8) kV8 dc8 pm8 an8 cd8 ct8), sl8⟩) (c8 : PySem.W.codeIn K cd8 "is_integer" = true) (k8 : PySem.W.keepIn K (.ref f8) = true) (t8 : K.lookup T8 = some ⟨cT8, oT8, .seq #[Value.none] nT8, sT8⟩)
    (a9 : PySem.W.nsIn K mainGlobals "is_block" = some (some (.ref f9))) (l9 : K.lookup f9 = some ⟨oc9, od9, .func (PySem.W.fnOf "is_block" "is_block" (defArgs s_is_block) (defBody s_is_block) (defScope s_is_block) .none kV9 dc9 pm9 an9 cd9 ct9), sl9⟩) (c9 : PySem.W.codeIn K cd9 "is_block" = true) (k9 : PySem.W.keepIn K (.ref f9) = true)
    (a10 : PySem.W.nsIn K mainGlobals "is_state" = some (some (.ref f10))) (l10 : K.lookup f10 = some ⟨oc10, od10, .func (PySem.W.fnOf "is_state" "is_state" (defArgs s_is_state) (defBody s_is_state) (defScope s_is_state) .none kV10 dc10 pm10 an10 cd10 ct10), sl10⟩) (c10 : PySem.W.codeIn K cd10 "is_state" = true) (k10 : PySem.W.keepIn K (.ref f10) = true)
    (a11 : PySem.W.nsIn K mainGlobals "live_words" = some (some (.ref f11))) (l11 : K.lookup f11 = some ⟨oc11, od11, .func (PySem.W.fnOf "live_words" "live_words" (defArgs s_live_words) (defBody s_live_words) (defScope s_live_words) .none kV11 dc11 pm11 an11 cd11 ct11), sl11⟩) (c11 : PySem.W.codeIn K cd11 "live_words" = true) (k11 : PySem.W.keepIn K (.ref f11) = true)
    (a12 : PySem.W.nsIn K mainGlobals "look_at_size" = some (some (.ref f12))) (l12 : K.lookup f12 = some ⟨oc12, od12, .func (PySem.W.fnOf "look_at_size" "look_at_size" (defArgs s_look_at_size) (defBody s_look_at_size) (defScope s_look_at_size) .none kV12 dc12 pm12 an12 cd12 ct12), sl12⟩) (c12 : PySem.W.codeIn K cd12 "look_at_size" = true) (k12 : PySem.W.keepIn K (.ref f12) = true)
    (a13 : PySem.W.nsIn K mainGlobals "occupied" = some (some (.ref f13))) (l13 : K.lookup f13 = some ⟨oc13, od13, .func (PySem.W.fnOf "occupied" "occupied" (defArgs s_occupied) (defBody s_occupied) (defScope s_occupied) .none kV13 dc13 pm13 an13 cd13 ct13), sl13⟩) (c13 : PySem.W.codeIn K cd13 "occupied" = true) (k13 : PySem.W.keepIn K (.ref f13) = true)
    (a14 : PySem.W.nsIn K mainGlobals "places" = some (some (.ref f14))) (l14 : K.lookup f14 = some ⟨oc14, od14, .func (PySem.W.fnOf "places" "places" (defArgs s_places) (defBody s_places) (defScope s_places) .none kV14 dc14 pm14 an14 cd14 ct14), sl14⟩) (c14 : PySem.W.codeIn K cd14 "places" = true) (k14 : PySem.W.keepIn K (.ref f14) = true)
    (a15 : PySem.W.nsIn K mainGlobals "keepers" = some (some (.ref f15))) (l15 : K.lookup f15 = some ⟨oc15, od15, .func (PySem.W.fnOf "keepers" "keepers" (defArgs s_keepers) (defBody s_keepers) (defScope s_keepers) .none kV15 dc15 pm15 an15 cd15 ct15), sl15⟩) (c15 : PySem.W.codeIn K cd15 "keepers" = true) (k15 : PySem.W.keepIn K (.ref f15) = true)
    (a16 : PySem.W.nsIn K mainGlobals "reaches" = some (some (.ref f16))) (l16 : K.lookup f16 = some ⟨oc16, od16, .func (PySem.W.fnOf "reaches" "reaches" (defArgs s_reaches) (defBody s_reaches) (defScope s_reaches) .none kV16 dc16 pm16 an16 cd16 ct16), sl16⟩) (c16 : PySem.W.codeIn K cd16 "reaches" = true) (k16 : PySem.W.keepIn K (.ref f16) = true)
    (a17 : PySem.W.nsIn K mainGlobals "_law_parts_right" = some (some (.ref f17))) (l17 : K.lookup f17 = some ⟨oc17, od17, .func (PySem.W.fnOf "_law_parts_right" "_law_parts_right" (defArgs s_l_parts_right) (defBody s_l_parts_right) (defScope s_l_parts_right) .none kV17 dc17 pm17 an17 cd17 ct17), sl17⟩) (c17 : PySem.W.codeIn K cd17 "_law_parts_right" = true) (k17 : PySem.W.keepIn K (.ref f17) = true)
    (a18 : PySem.W.nsIn K mainGlobals "law" = some (some (.ref f18))) (l18 : K.lookup f18 = some ⟨oc18, od18, .func (PySem.W.fnOf "law" "law" (defArgs s_law) (defBody s_law) (defScope s_law) .none kV18 dc18 pm18 an18 cd18 ct18), sl18⟩) (c18 : PySem.W.codeIn K cd18 "law" = true) (k18 : PySem.W.keepIn K (.ref f18) = true)
    (z_abs : PySem.W.nsIn K mainGlobals "abs" = some none)
    (z_all : PySem.W.nsIn K mainGlobals "all" = some none)
    (z_any : PySem.W.nsIn K mainGlobals "any" = some none)
    (z_bool : PySem.W.nsIn K mainGlobals "bool" = some none)
    (z_dict : PySem.W.nsIn K mainGlobals "dict" = some none)
    (z_int : PySem.W.nsIn K mainGlobals "int" = some none)
    (z_isinstance : PySem.W.nsIn K mainGlobals "isinstance" = some none)
    (z_len : PySem.W.nsIn K mainGlobals "len" = some none)
    (z_list : PySem.W.nsIn K mainGlobals "list" = some none)
    (z_max : PySem.W.nsIn K mainGlobals "max" = some none)
    (z_min : PySem.W.nsIn K mainGlobals "min" = some none)
    (z_range : PySem.W.nsIn K mainGlobals "range" = some none)
    (z_set : PySem.W.nsIn K mainGlobals "set" = some none)
    (z_sorted : PySem.W.nsIn K mainGlobals "sorted" = some none)
    (z_sum : PySem.W.nsIn K mainGlobals "sum" = some none)
    (z_tuple : PySem.W.nsIn K mainGlobals "tuple" = some none)
    (z_zip : PySem.W.nsIn K mainGlobals "zip" = some none)
    (q_BLOCK_PARTS : PySem.W.nsIn K mainGlobals "BLOCK_PARTS" = some (some (.int 2 t_BLOCK_PARTS)))
    (z_nd : PySem.W.nsIn K cStatics "sys.int_max_str_digits" = some none) :
    ∃ fd : FuncData, (∀ (s : Shared) (v : Value), BindsTo s fd ⟨[v], []⟩ [("_law_script", v)]) ∧ ∀ base : Heap, K.In base → base.Ns mainGlobals mg → FnG l.prog w K mg base 5 fa fd ["_law_script"] (spF K RX [.s] f_law) := by
  have e := hfa.symm.trans (PySem.W.mg_of X G a18)
  cases e
  let T : Txt K mg := { a_l_pot := _, d_l_pot := _, F_l_pot := fun_mk (st := s_l_pot) l0 c0 k0, g_l_pot := PySem.W.mg_of X G a0, b_l_pot := (fun_mk (st := s_l_pot) l0 c0 k0).binds (ps := ["_law_script", "_law_k"]) (fun _ _ _ _ _ _ us hl => match us, hl with | [_, _], _ => rfl), a_l_take := _, d_l_take := _, F_l_take := fun_mk (st := s_l_take) l1 c1 k1, g_l_take := PySem.W.mg_of X G a1, b_l_take := (fun_mk (st := s_l_take) l1 c1 k1).binds (ps := ["_law_pot_here", "_law_upto"]) (fun _ _ _ _ _ _ us hl => match us, hl with | [_, _], _ => rfl), a_l_of := _, d_l_of := _, F_l_of := fun_mk (st := s_l_of) l2 c2 k2, g_l_of := PySem.W.mg_of X G a2, b_l_of := (fun_mk (st := s_l_of) l2 c2 k2).binds (ps := ["_law_pot_here", "_law_some"]) (fun _ _ _ _ _ _ us hl => match us, hl with | [_, _], _ => rfl), a_l_links := _, d_l_links := _, F_l_links := fun_mk (st := s_l_links) l3 c3 k3, g_l_links := PySem.W.mg_of X G a3, b_l_links := (fun_mk (st := s_l_links) l3 c3 k3).binds (ps := ["_law_pot_here", "_law_most"]) (fun _ _ _ _ _ _ us hl => match us, hl with | [_, _], _ => rfl), a_l_drawn := _, d_l_drawn := _, F_l_drawn := fun_mk (st := s_l_drawn) l4 c4 k4, g_l_drawn := PySem.W.mg_of X G a4, b_l_drawn := (fun_mk (st := s_l_drawn) l4 c4 k4).binds (ps := ["_law_pot_here", "_law_links_here", "_law_many", "_law_tries"]) (fun _ _ _ _ _ _ us hl => match us, hl with | [_, _, _, _], _ => rfl), a_used_pages := _, d_used_pages := _, F_used_pages := fun_mk (st := s_used_pages) l5 c5 k5, g_used_pages := PySem.W.mg_of X G a5, b_used_pages := (fun_mk (st := s_used_pages) l5 c5 k5).binds (ps := ["chain", "state"]) (fun _ _ _ _ _ _ us hl => match us, hl with | [_, _], _ => rfl), a_l_moved := _, d_l_moved := _, F_l_moved := fun_mk (st := s_l_moved) l6 c6 k6, g_l_moved := PySem.W.mg_of X G a6, b_l_moved := (fun_mk (st := s_l_moved) l6 c6 k6).binds (ps := ["_law_heaped", "_law_words"]) (fun _ _ _ _ _ _ us hl => match us, hl with | [_, _], _ => rfl), a_end_of := _, d_end_of := _, F_end_of := fun_mk (st := s_end_of) l7 c7 k7, g_end_of := PySem.W.mg_of X G a7, b_end_of := (fun_mk (st := s_end_of) l7 c7 k7).binds (ps := ["block"]) (fun _ _ _ _ _ _ us hl => match us, hl with | [_], _ => rfl), a_is_integer := _, d_is_integer := _, F_is_integer := (funX_mk (st := s_is_integer) (dvs := [V.non]) l8 c8 k8 t8 (by simp) (.cons rfl .nil)), g_is_integer := PySem.W.mg_of X G a8, x_is_integer_2 := (funX_mk (st := s_is_integer) (dvs := [V.non]) l8 c8 k8 t8 (by simp) (.cons rfl .nil)).bindX (by simp) (fun _ _ _ _ _ _ _ us ws its h1 h2 h3 => match us, ws, its, h1, h2, h3 with | [_, _], [], [_], _, _, _ => ⟨_, rfl, rfl⟩), a_is_block := _, d_is_block := _, F_is_block := fun_mk (st := s_is_block) l9 c9 k9, g_is_block := PySem.W.mg_of X G a9, b_is_block := (fun_mk (st := s_is_block) l9 c9 k9).binds (ps := ["chain", "pages", "value"]) (fun _ _ _ _ _ _ us hl => match us, hl with | [_, _, _], _ => rfl), a_is_state := _, d_is_state := _, F_is_state := fun_mk (st := s_is_state) l10 c10 k10, g_is_state := PySem.W.mg_of X G a10, b_is_state := (fun_mk (st := s_is_state) l10 c10 k10).binds (ps := ["chain", "pages", "value"]) (fun _ _ _ _ _ _ us hl => match us, hl with | [_, _, _], _ => rfl), a_live_words := _, d_live_words := _, F_live_words := fun_mk (st := s_live_words) l11 c11 k11, g_live_words := PySem.W.mg_of X G a11, b_live_words := (fun_mk (st := s_live_words) l11 c11 k11).binds (ps := ["state"]) (fun _ _ _ _ _ _ us hl => match us, hl with | [_], _ => rfl), a_look_at_size := _, d_look_at_size := _, F_look_at_size := fun_mk (st := s_look_at_size) l12 c12 k12, g_look_at_size := PySem.W.mg_of X G a12, b_look_at_size := (fun_mk (st := s_look_at_size) l12 c12 k12).binds (ps := ["chain", "size"]) (fun _ _ _ _ _ _ us hl => match us, hl with | [_, _], _ => rfl), a_occupied := _, d_occupied := _, F_occupied := fun_mk (st := s_occupied) l13 c13 k13, g_occupied := PySem.W.mg_of X G a13, b_occupied := (fun_mk (st := s_occupied) l13 c13 k13).binds (ps := ["state"]) (fun _ _ _ _ _ _ us hl => match us, hl with | [_], _ => rfl), a_places := _, d_places := _, F_places := fun_mk (st := s_places) l14 c14 k14, g_places := PySem.W.mg_of X G a14, b_places := (fun_mk (st := s_places) l14 c14 k14).binds (ps := ["chain", "pages", "state", "size"]) (fun _ _ _ _ _ _ us hl => match us, hl with | [_, _, _, _], _ => rfl), a_keepers := _, d_keepers := _, F_keepers := fun_mk (st := s_keepers) l15 c15 k15, g_keepers := PySem.W.mg_of X G a15, b_keepers := (fun_mk (st := s_keepers) l15 c15 k15).binds (ps := ["chain", "state", "size"]) (fun _ _ _ _ _ _ us hl => match us, hl with | [_, _, _], _ => rfl), a_reaches := _, d_reaches := _, F_reaches := fun_mk (st := s_reaches) l16 c16 k16, g_reaches := PySem.W.mg_of X G a16, b_reaches := (fun_mk (st := s_reaches) l16 c16 k16).binds (ps := ["chain", "state"]) (fun _ _ _ _ _ _ us hl => match us, hl with | [_, _], _ => rfl), a_l_parts_right := _, d_l_parts_right := _, F_l_parts_right := fun_mk (st := s_l_parts_right) l17 c17 k17, g_l_parts_right := PySem.W.mg_of X G a17, b_l_parts_right := (fun_mk (st := s_l_parts_right) l17 c17 k17).binds (ps := ["_law_links_here", "_law_many", "_law_first", "_law_second", "_law_gap"]) (fun _ _ _ _ _ _ us hl => match us, hl with | [_, _, _, _, _], _ => rfl), a_law := _, d_law := _, F_law := fun_mk (st := s_law) l18 c18 k18, g_law := PySem.W.mg_of X G a18, b_law := (fun_mk (st := s_law) l18 c18 k18).binds (ps := ["_law_script"]) (fun _ _ _ _ _ _ us hl => match us, hl with | [_], _ => rfl), n_abs := PySem.W.mg_none_of X G z_abs, n_all := PySem.W.mg_none_of X G z_all, n_any := PySem.W.mg_none_of X G z_any, n_bool := PySem.W.mg_none_of X G z_bool, n_dict := PySem.W.mg_none_of X G z_dict, n_int := PySem.W.mg_none_of X G z_int, n_isinstance := PySem.W.mg_none_of X G z_isinstance, n_len := PySem.W.mg_none_of X G z_len, n_list := PySem.W.mg_none_of X G z_list, n_max := PySem.W.mg_none_of X G z_max, n_min := PySem.W.mg_none_of X G z_min, n_range := PySem.W.mg_none_of X G z_range, n_set := PySem.W.mg_none_of X G z_set, n_sorted := PySem.W.mg_none_of X G z_sorted, n_sum := PySem.W.mg_none_of X G z_sum, n_tuple := PySem.W.mg_none_of X G z_tuple, n_zip := PySem.W.mg_none_of X G z_zip, t_BLOCK_PARTS := t_BLOCK_PARTS, c_BLOCK_PARTS := PySem.W.mg_of X G q_BLOCK_PARTS, nd := z_nd }
  exact ⟨_, fun s v => .of_eq rfl, fun base _ _ => ok_law (base := base) (RX := RX) T⟩
end Lk16
open PySem PySem.W PyProof.Rows

set_option maxHeartbeats 0 in
theorem PySem.Challenge.cw_pinnedheap_k16_whole_states_moved_by_pag_holds : PySem.Challenge.rw_pinnedheap_k16_whole_states_moved_by_pag.Holds := by
  w_on; o_law; k_head; (case hw => w_witness2)
  k_fill
  refine PL.walk_ofG (l := PySem.Challenge.rw_pinnedheap_k16_whole_states_moved_by_pag) (n := 63) (k := 5) (x := "_law_script") (sp := fun w => PL.spF _ (fun _ _ _ _ _ => False) [.s] Lk16.f_law) rfl (by decide) rfl ⟨rfl, by decide, by decide⟩ (fun w h Y => PySem.W.kIn_of Y) ?F (fun w H a ns hl hS => PL.law_end (Lk16.law_true ns hl) hS)
  case F =>
    intro w mg fa h KX G hmg
    refine' Lk16.all_mk KX G hmg ?a0 ?l0 ?c0 ?k0 ?a1 ?l1 ?c1 ?k1 ?a2 ?l2 ?c2 ?k2 ?a3 ?l3 ?c3 ?k3 ?a4 ?l4 ?c4 ?k4 ?a5 ?l5 ?c5 ?k5 ?a6 ?l6 ?c6 ?k6 ?a7 ?l7 ?c7 ?k7 ?a8 ?l8 ?c8 ?k8 ?t8 ?a9 ?l9 ?c9 ?k9 ?a10 ?l10 ?c10 ?k10 ?a11 ?l11 ?c11 ?k11 ?a12 ?l12 ?c12 ?k12 ?a13 ?l13 ?c13 ?k13 ?a14 ?l14 ?c14 ?k14 ?a15 ?l15 ?c15 ?k15 ?a16 ?l16 ?c16 ?k16 ?a17 ?l17 ?c17 ?k17 ?a18 ?l18 ?c18 ?k18 ?z_abs ?z_all ?z_any ?z_bool ?z_dict ?z_int ?z_isinstance ?z_len ?z_list ?z_max ?z_min ?z_range ?z_set ?z_sorted ?z_sum ?z_tuple ?z_zip ?q_BLOCK_PARTS ?z_nd
    (case a0 => k_is); (case l0 => k_is); (case c0 => k_is); (case k0 => k_is); (case a1 => k_is); (case l1 => k_is); (case c1 => k_is); (case k1 => k_is); (case a2 => k_is); (case l2 => k_is); (case c2 => k_is); (case k2 => k_is); (case a3 => k_is); (case l3 => k_is); (case c3 => k_is); (case k3 => k_is); (case a4 => k_is); (case l4 => k_is); (case c4 => k_is); (case k4 => k_is); (case a5 => k_is); (case l5 => k_is); (case c5 => k_is); (case k5 => k_is); (case a6 => k_is); (case l6 => k_is); (case c6 => k_is); (case k6 => k_is); (case a7 => k_is); (case l7 => k_is); (case c7 => k_is); (case k7 => k_is); (case a8 => k_is); (case l8 => k_is); (case c8 => k_is); (case k8 => k_is); (case t8 => k_is); (case a9 => k_is); (case l9 => k_is); (case c9 => k_is); (case k9 => k_is); (case a10 => k_is); (case l10 => k_is); (case c10 => k_is); (case k10 => k_is); (case a11 => k_is); (case l11 => k_is); (case c11 => k_is); (case k11 => k_is); (case a12 => k_is); (case l12 => k_is); (case c12 => k_is); (case k12 => k_is); (case a13 => k_is); (case l13 => k_is); (case c13 => k_is); (case k13 => k_is); (case a14 => k_is); (case l14 => k_is); (case c14 => k_is); (case k14 => k_is); (case a15 => k_is); (case l15 => k_is); (case c15 => k_is); (case k15 => k_is); (case a16 => k_is); (case l16 => k_is); (case c16 => k_is); (case k16 => k_is); (case a17 => k_is); (case l17 => k_is); (case c17 => k_is); (case k17 => k_is); (case a18 => k_is); (case l18 => k_is); (case c18 => k_is); (case k18 => k_is); (case z_abs => k_is); (case z_all => k_is); (case z_any => k_is); (case z_bool => k_is); (case z_dict => k_is); (case z_int => k_is); (case z_isinstance => k_is); (case z_len => k_is); (case z_list => k_is); (case z_max => k_is); (case z_min => k_is); (case z_range => k_is); (case z_set => k_is); (case z_sorted => k_is); (case z_sum => k_is); (case z_tuple => k_is); (case z_zip => k_is); (case q_BLOCK_PARTS => k_is); (case z_nd => k_is)

