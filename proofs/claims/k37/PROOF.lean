import PyProof.Rows.All
import HandS.ForMost
import HandS.Exc
import HandS.TryOnly
import HandS.ExcOwn
import HandS.WordsExc
import HandS.CallSlots
import HandS.Wide
import HandS.TupAny
import HandS.Zip
import HandS.Text
import HandS.SortInts
import HandS.Deep
import HandS.Conv
import HandS.TupMul
import HandS.Comp
import PyProof.TupleOfSeq
import HandS.SortRule
import KE.KIntText
import PyProof.StrHeap
import PyProof.Rows.StrOr
import HandS.Strs
import HandS.Style
import KE.IntTextLaws
import PyProof.ReprLen
import HandS.Defaults
import HandS.IsInst
import KE.KRevSl
import HandS.Small
import KE.KTupSum
import OpenK.AllK
import PySem.Challenge.RW_pinnedheap_k37_request_mixes
set_option Elab.async false
set_option linter.all false
set_option autoImplicit false
set_option maxRecDepth 100000
set_option maxHeartbeats  4000000

section
/-! PL0: defs whose callers know that no repr runs below them (FnG); their calls; the end of a law. -/
namespace PL
open PySem PySem.Spec L2
open PyProof.Rows hiding St

/-- a def's promise where no guarded built-in runs below -/
structure FnG (P : Program) (w : World) (K : PySem.W.Frag) (mg : Str → Option Value) (base : Heap) (k : Nat) (f : Addr) (fd : FuncData) (ps : List Str) (sp : Sp) : Prop where
  size : ∀ vs H Q E, sp vs H Q E → vs.length = ps.length
  go : ∀ (A : Around) (stk : List PySem.Env) (s : Shared) (H : Hp) (args : Args) (us : List Value) (vs : List V) (Q : VK) (E : XK), Room k A → A.guards = some [] →
    Env0 P w K mg base A stk s H → BindsTo s fd args (ps.zip us) → Vals vs us → sp vs H Q E → codeAny (model P w) A (.call (.ref f) args) (CR (L2.CX P w) stk P w H s Q E) s
section
variable {P : Program} {w : World} {K : PySem.W.Frag} {mg : Str → Option Value} {base : Heap}
theorem FnG.up {j k : Nat} {f : Addr} {fd : FuncData} {ps : List Str} {sp : Sp} (F : FnG P w K mg base j f fd ps sp) (h : j ≤ k) : FnG P w K mg base k f fd ps sp :=
  ⟨F.size, fun A stk s H args us vs Q E hr => F.go A stk s H args us vs Q E (hr.mono h)⟩
theorem FnG.weaker {k : Nat} {f : Addr} {fd : FuncData} {ps : List Str} {sp sp' : Sp} (F : FnG P w K mg base k f fd ps sp) (h : ∀ vs H Q E, sp' vs H Q E → sp vs H Q E) : FnG P w K mg base k f fd ps sp' :=
  ⟨fun vs H Q E q => F.size vs H Q E (h _ _ _ _ q), fun A stk s H args us vs Q E hr hg he hb hv hs => F.go A stk s H args us vs Q E hr hg he hb hv (h _ _ _ _ hs)⟩
/-- from the body's walk -/
theorem fnG_of {x qual : Str} {st : Stmt} {f : Addr} {fd : FuncData} {N ps : List Str} {k : Nat} {sp : Sp} (F : Fun K x qual st f fd) (S : FnScope N ps (defScope st)) (size : ∀ vs H Q E, sp vs H Q E → vs.length = ps.length)
    (walk : ∀ (cdv : Value) (A : Around) (stk : List PySem.Env) (s : Shared) (H : Hp) (vs : List V) (Q : VK) (E : XK), Room k (A.deeper (envOfC qual (defScope st) s.heap.objs.size f cdv)) → (A.deeper (envOfC qual (defScope st) s.heap.objs.size f cdv)).guards = some [] → sp vs H Q E →
      ∃ t, PSs (cxOf (L2.CX P w) P w K mg base N qual (defScope st) f cdv A stk s H E) (defBody st) t ∧ t { nx := fun _ H' => Q .non H', rt := Q } (L2.start N vs) H) : FnG P w K mg base (k + 1) f fd ps sp := by
  obtain ⟨oc, od, kV, doc, pm, an, cdv, ct, osl, rfl, lk, hcd⟩ := F.ex
  refine ⟨size, fun A stk s H args us vs Q E hr hg e0 hb r hsp => ?_⟩
  have kept : ∀ (b : Addr) (o : Obj), base.get? b = some o → s.heap.get? b = some o := fun b o q => (e0.bs b o q).1
  have inK := e0.mod.kin.keeps kept
  have noL := e0.mod.nolimit.keeps kept
  have pars : ∀ y ∈ ps.zip us, (defScope st).names.lookup y.1 = some .local ∨ ((defScope st).names.lookup y.1 = some .cell ∧ ((cellsFrom (s.heap.objs.size + 1) (defScope st).names []).lookup y.1).isSome = true) := by
    rintro ⟨n, v⟩ hy
    rcases S.par n (List.of_mem_zip hy).1 with q | q
    · exact Or.inl q
    · exact Or.inr ⟨q, PySem.W.cellsFrom_some _ _ _ (Or.inl q)⟩
  refine codeAny_call_function hr.depth (inK _ _ lk) rfl S.co S.gen rfl (PySem.W.codeRec_of inK hcd) (hb _ _ _ _ (wpAny_newFunctionEnv_cells S.kind pars ?_))
  rintro env rfl s1 x
  refine ⟨noL.keeps x.toInCall.keep, codeAny_func ?_⟩
  obtain ⟨t, ht, hq⟩ := walk cdv A stk s H vs Q E (hr.deeper _) hg hsp
  have I0 := inv_start (CX := L2.CX P w) (E := E) (f := f) (cd := cdv) (qual := qual) S hr.hd e0 (size _ _ _ _ hsp) r x
  refine wpAny_mono (ht.run [] s1 (L2.start N vs) H _ I0 hq) (fun fl s' hs => ?_) fun e s' hs => hs
  have leave : ∀ (σ' : L2.St) (H' : Hp) (v : V) (u : Value), Inv (cxOf (L2.CX P w) P w K mg base N qual (defScope st) f cdv A stk s H E) [] σ' H' s' → RelV v u → Q v H' → CE stk P w H s Q u s' :=
    fun _ H' v _ J rv q => ⟨v, H', J.os, J.bare, J.base, J.hok, rv, q⟩
  cases fl with
  | ret u => obtain ⟨v, σ', H', J, rv, q⟩ := hs; exact leave σ' H' v u J rv q
  | next => obtain ⟨σ', H', J, q⟩ := hs; exact leave σ' H' .non .none J rfl q
  | brk => obtain ⟨_, _, _, q⟩ := hs; exact q.elim
  | cont => obtain ⟨_, _, _, q⟩ := hs; exact q.elim
end
section
variable {X : Cx} {k : Nat} {f : Addr} {fd : FuncData} {ps : List Str} {sp : Sp} {dvs : List V} {ds : List Value} {W : WX} {x : Str} {p pos : Pos} {e : Expr} {es : List Expr} {t : TA}
/-- the callee runs, from a body -/
theorem FnG.call {pins : List (Addr × Obj)} {σ : L2.St} {H : Hp} {s : Shared} {Q : VK} {us : List Value} {vs : List V} (F : FnG X.prog X.w X.K X.mg X.base k f fd ps sp) (hr : Room k X.A) (hg : X.A.guards = some []) (hb : Binds X.K fd ps ds) (hd : Vals dvs ds) (tk : Takes X W)
    (I : Inv X pins σ H s) (r : Vals vs us) (h : sp (vs ++ dvs) H Q (WE W σ)) : wpAny (model X.prog X.w) X.A (call (.ref f) us) (EP X pins σ Q) X.xe s := by
  have both := r.append hd
  have n2 : (us ++ ds).length = ps.length := both.length.symm.trans (F.size _ _ _ _ h)
  refine wpAny_call (codeAny_mono (F.go X.A X.stack s H ⟨us, []⟩ (us ++ ds) (vs ++ dvs) Q (WE W σ) hr hg I.env0 (hb s us I.kIn n2) both h) ?_)
  rintro (err | fl) s' q
  · exact passAt tk σ pins H s err s' I q
  · cases fl <;> first | exact I.after q | exact False.elim q
theorem pe_callG (F : FnG X.prog X.w X.K X.mg X.base k f fd ps sp) (hr : Room k X.A) (hg : X.A.guards = some []) (gl : Gl X x) (hm : X.mg x = some (.ref f)) (hk : PySem.W.keepIn X.K (.ref f) = true) (hb : Binds X.K fd ps ds) (hd : Vals dvs ds) (tk : Takes X W)
    (ha : PA X (e :: es) t) (hdb : (x == ("__debug__" : Str)) = false := by decide) (he : starEach (e :: es) X.env = (false, eval e X.env) :: starEach es X.env := by rfl) (hpl : (backTo pos (starEach es X.env)).any (·.1) = false := by rfl) :
    PE X (.Call (.Name x p) (e :: es) [] pos) (tCallSD sp dvs (fun σ => WE W σ) t) :=
  ⟨fun pins s σ H Q I h => wpAny_Call_Name_kw (ld_glob I gl hm (PySem.W.callWith_K (h₀ := X.base) I.ok.mod.kin hk
    (thn (ha.run pos pins s σ H _ I h) fun us s1 ⟨vs, H1, I1, r, q⟩ => ⟨I1.kIn, F.call hr hg hb hd tk I1 r q⟩) he hpl) hdb)⟩
theorem pe_callG0 (F : FnG X.prog X.w X.K X.mg X.base k f fd ps sp) (hr : Room k X.A) (hg : X.A.guards = some []) (gl : Gl X x) (hm : X.mg x = some (.ref f)) (hk : PySem.W.keepIn X.K (.ref f) = true) (hb : Binds X.K fd ps ds) (hd : Vals dvs ds) (tk : Takes X W)
    (hdb : (x == ("__debug__" : Str)) = false := by decide) : PE X (.Call (.Name x p) [] [] pos) (tCallSD sp dvs (fun σ => WE W σ) tNil) :=
  ⟨fun pins s σ H Q I h => wpAny_Call_Name_kw (ld_glob I gl hm (PySem.W.callWith_K0 I.kIn hk (F.call (us := []) hr hg hb hd tk I .nil h)) hdb)⟩
end

/-! ### the end of a law -/
section
variable {P : Program} {w : World} {K : PySem.W.Frag} {mg mb : Str → Option Value}
/-- the law's call behind the top; H0: what is tracked there (the script alone, or nothing) -/
theorem top_core {k : Nat} {fa a : Addr} {fd : FuncData} {x : Str} {sp : Sp} {z : Shared} {vs : List Value} {H0 : Hp}
    (inK : K.In z.heap) (gs : z.heap.Ns mainGlobals mg) (bs : z.heap.Ns builtinsNs mb) (bb : ∀ x : Str, x ≠ "__name__" → mb x = bootBuiltins x) (noL : z.heap.NoLimit) (ng : z.gens = #[])
    (ha : z.heap.get? a = some { cls := .type "list", data := .seq vs.toArray }) (hr : Room k callerA)
    (F : ∀ base : Heap, K.In base → base.Ns mainGlobals mg → FnG P w K mg base k fa fd [x] sp) (hbind : ∀ (s : Shared) (u : Value), BindsTo s fd ⟨[u], []⟩ [(x, u)])
    (fz : ∀ b u, H0 b = some u → b = a ∧ ∃ o xs, u = .frz o (.lst xs)) (out : ∀ u, H0 a = some u → K.lookup a = none) (ok : HOk P w H0 z.heap)
    (hsp : sp [.ref a] H0 (fun v _ => v = .bl true) fun _ _ _ => False) :
    codeAny (model P w) callerA (.call (.ref fa) ⟨[.ref a], []⟩) (fun r s' => r = .ok (.ret (.bool true)) ∧ OldK z.heap s'.heap ∧ s'.os = z.os ∧ AllBare s'.gens) z := by
  have free : ∀ b o, z.heap.get? b = some o → b ≠ a → (hidT z.heap H0).get? b = some o := fun b o e ne => hidT_get e (by
    cases q : H0 b with
    | none => rfl
    | some u => exact absurd (fz b u q).1 ne)
  have ns : ∀ {b : Addr} {m : Str → Option Value}, z.heap.Ns b m → (hidT z.heap H0).Ns b m := fun {b m} n => by
    obtain ⟨o, es, ep, e, d, r⟩ := n
    refine ⟨o, es, ep, free b o e fun q => ?_, d, r⟩
    rw [q, ha] at e
    cases e
    exact (by simp at d)
  have kin : K.In (hidT z.heap H0) := fun b o e => by
    have e1 := inK b o e
    cases q : H0 b with
    | none => exact hidT_get e1 q
    | some u =>
      have e2 := (fz b u q).1
      subst e2
      rw [out u q] at e
      cases e
  obtain ⟨mc, c1, c2⟩ := noL
  have md : Mod K mg (hidT z.heap H0) := ⟨kin, ns gs, ⟨mb, ns bs, bb⟩, ⟨mc, ns c1, c2⟩⟩
  have e0 : Env0 P w K mg (hidT z.heap H0) callerA [] z H0 :=
    ⟨rfl, md, fun _ _ e => of_hidT e, Nat.le_of_eq (hidT_size _ _), trivial, fun b hb => absurd (show b ∈ ([] : List Addr) from hb) List.not_mem_nil, ok, .of_eq ng⟩
  refine codeAny_mono ((F _ kin (ns gs)).go callerA [] z H0 ⟨[.ref a], []⟩ [.ref a] [.ref a] _ _ hr rfl e0 (hbind z (.ref a)) (.cons rfl .nil) hsp) ?_
  rintro (err | fl) s' h
  · obtain ⟨_, _, _, _, _, _, _, _, _, _, _, _, no⟩ := h
    exact no.elim
  · cases fl <;> first | exact False.elim h | skip
    obtain ⟨v, H', os, bare, un, ok', r', q⟩ := h
    obtain rfl : v = .bl true := q
    cases r'
    refine ⟨rfl, OldK.of_keep fun b o e => ?_, os, bare⟩
    cases q : H0 b with
    | none => exact un.keep b o e q (fun hb => absurd (show b ∈ ([] : List Addr) from hb) List.not_mem_nil) List.not_mem_nil
    | some u =>
      obtain ⟨rfl, ob, xs, rfl⟩ := fz b u q
      have e1 := (ok b _ q).1
      have e2 := (ok' b _ (un.frzs b ob _ q)).1
      rw [e1] at e
      cases e
      exact e2
theorem walk_ofG {l : PySem.W.OpenLaw} {n k : Nat} {q : Program} {loose : List Str} {XP : (Str → Option Value) → Heap → Prop} {YP : World → Heap → Prop} {d : DefRec} {KK : Params → PySem.W.Frag} {sp : World → Sp} {x : Str}
    (hn : l.most = some n) (hn2 : n ≤ sizeLine) (hdf : d.params.defaults = []) (hr : Room k callerA)
    (hY : ∀ (w : World) (h : Heap), YP w h → (KK w.params).In h)
    (F : ∀ (w : World) (mg : Str → Option Value) (fa : Addr) (h : Heap), (KK w.params).In h → h.Ns mainGlobals mg → mg d.name = some (.ref fa) →
      ∃ fd : FuncData, (∀ (s : Shared) (u : Value), BindsTo s fd ⟨[u], []⟩ [(x, u)]) ∧
        ∀ base : Heap, (KK w.params).In base → base.Ns mainGlobals mg → FnG l.prog w (KK w.params) mg base k fa fd [x] (sp w))
    (hsp : ∀ (w : World) (H : Hp) (a : Addr) (ns : List Int), ns.length ≤ n → SqL (KK w.params) H a (ns.map V.int) → sp w [.ref a] H (fun v _ => v = .bl true) fun _ _ _ => False) :
    PySem.W.WalkO q loose XP YP l.row.toRowW d [] (fun f vs => PySem.call f vs) := by
  refine Att.attach_call hn hdf fun w s0 z mg mb fa o pm cd doc a vs ns G Y ho hd hcd hmg hobj hints hlen hg => ?_
  have inK := hY w _ Y
  obtain ⟨fd, hb, hF⟩ := F w mg fa _ inK G.T.g hmg
  have rv := L2.vals_ints hints
  have hl : ns.length ≤ sizeLine := Nat.le_trans hlen hn2
  cases hk : (KK w.params).lookup a with
  | some oa =>
    have e := inK a oa hk
    rw [hobj] at e
    cases e
    refine top_core (H0 := fun _ => none) inK G.T.g G.T.b G.T.builtins G.T.nolimit hg hobj hr hF hb (fun b u z => by cases z) (fun u z => by cases z) (fun b u z => by cases z) (hsp w _ a ns hlen (.inr ⟨_, vs.toArray, _, hk, rfl, rfl, rfl, ?_, by simpa using rv⟩))
    rw [List.size_toArray, hints.length]; exact hl
  | none =>
    have at1 : ∀ b u, (if b = a then some (HO.frz { cls := .type "list", data := .seq vs.toArray } (.lst (ns.map V.int))) else none) = some u → b = a ∧ u = HO.frz { cls := .type "list", data := .seq vs.toArray } (.lst (ns.map V.int)) := fun b u z => by
      split at z
      · rename_i e; cases z; exact ⟨e, rfl⟩
      · cases z
    refine top_core (H0 := fun b => if b = a then some (.frz { cls := .type "list", data := .seq vs.toArray } (.lst (ns.map V.int))) else none) inK G.T.g G.T.b G.T.builtins G.T.nolimit hg hobj hr hF hb
      (fun b u z => ⟨(at1 b u z).1, _, _, (at1 b u z).2⟩) (fun _ _ => hk) (fun b u z => ?_) (hsp w _ a ns hlen (.inl (.inr ⟨_, if_pos rfl⟩)))
    obtain ⟨rfl, rfl⟩ := at1 b u z
    exact ⟨hobj, by rw [List.length_map]; exact hl, vs, _, rv, hobj⟩
end
end PL

end
section
/-! PL1: pure values in slots, the relation to the abstract heap, what a reading refines. -/
namespace PL
open PySem PySem.Spec L2
open PyProof.Rows hiding St

/-- what a slot holds: nothing known, a value that never changes again, a list or dict that this def alone holds -/
inductive Sl where
  | emp | val (d : PyData) | own (d : PyData) | scr (ns : List Int)
abbrev Env := List Sl
abbrev PExc := Nat × PyData
inductive Out (α : Type) where
  | ok (a : α) (r : Env) | exc (e : PExc) (r : Env) | bad
abbrev M (α : Type) := Env → Out α
def keyD : Key → PyData
  | .inl i => .int i
  | .inr x => .str x

def FzL (K : PySem.W.Frag) (fz : Addr → Prop) (H : Hp) (a : Addr) (xs : List V) : Prop :=
  (fz a ∧ Rd H a (.lst xs)) ∨
    ∃ (o : Obj) (its : Array Value) (n : Nat), K.lookup a = some o ∧ o.cls = .type "list" ∧ o.dict = none ∧ o.data = .seq its n ∧ its.size ≤ sizeLine ∧ Vals xs its.toList
theorem FzL.sq {K : PySem.W.Frag} {fz : Addr → Prop} {H : Hp} {a : Addr} {xs : List V} (h : FzL K fz H a xs) : SqL K H a xs := h.imp (fun z => z.2) id
def FzT (K : PySem.W.Frag) (fz : Addr → Prop) (H : Hp) (a : Addr) (xs : List V) : Prop :=
  (fz a ∧ Rd H a (.tup xs)) ∨
    ∃ (o : Obj) (its : Array Value) (n : Nat), K.lookup a = some o ∧ o.cls = .type "tuple" ∧ o.data = .seq its n ∧ its.size ≤ sizeLine ∧ Vals xs its.toList
theorem FzT.sq {K : PySem.W.Frag} {fz : Addr → Prop} {H : Hp} {a : Addr} {xs : List V} (h : FzT K fz H a xs) : SqT K H a xs := h.imp (fun z => z.2) id

mutual
inductive Rep (K : PySem.W.Frag) (fz : Addr → Prop) (H : Hp) : V → PyData → Prop
  | non : Rep K fz H .non .none
  | bl (b : Bool) : Rep K fz H (.bl b) (.bool b)
  | int (i : Int) : Rep K fz H (.int i) (.int i)
  | str (x : Str) : Rep K fz H (.str x) (.str x)
  | lst {a : Addr} {xs : List V} {ds : List PyData} : fz a → H a = some (.lst xs) → RepA K fz H xs ds → Rep K fz H (.ref a) (.list ds)
  | tup {a : Addr} {xs : List V} {ds : List PyData} : FzT K fz H a xs → RepA K fz H xs ds → Rep K fz H (.ref a) (.tuple ds)
  | dic {a : Addr} {kvs : List (Key × V)} {ds : List (PyData × PyData)} : fz a → H a = some (.dK kvs) → RepK K fz H kvs ds → Rep K fz H (.ref a) (.dict ds)
inductive RepA (K : PySem.W.Frag) (fz : Addr → Prop) (H : Hp) : List V → List PyData → Prop
  | nil : RepA K fz H [] []
  | cons {v : V} {vs : List V} {d : PyData} {ds : List PyData} : Rep K fz H v d → RepA K fz H vs ds → RepA K fz H (v :: vs) (d :: ds)
inductive RepK (K : PySem.W.Frag) (fz : Addr → Prop) (H : Hp) : List (Key × V) → List (PyData × PyData) → Prop
  | nil : RepK K fz H [] []
  | cons {k : Key} {v : V} {kvs : List (Key × V)} {d : PyData} {ds : List (PyData × PyData)} : Rep K fz H v d → RepK K fz H kvs ds → RepK K fz H ((k, v) :: kvs) ((keyD k, d) :: ds)
end

/-- the frozen part stays -/
structure Ext (fz : Addr → Prop) (H : Hp) (fz' : Addr → Prop) (H' : Hp) : Prop where
  mono : ∀ a, fz a → fz' a
  keep : ∀ a, fz a → H' a = H a
theorem Rd.ext {H H' : Hp} {a : Addr} {u : HO} (h : Rd H a u) (e : H' a = H a) : Rd H' a u := by
  unfold Rd; rw [e]; exact h
section
variable {K : PySem.W.Frag} {fz fz' : Addr → Prop} {H H' : Hp}
theorem FzL.ext {a : Addr} {xs : List V} (E : Ext fz H fz' H') (h : FzL K fz H a xs) : FzL K fz' H' a xs := h.imp (fun z => ⟨E.mono _ z.1, Rd.ext z.2 (E.keep _ z.1)⟩) id
mutual
theorem Rep.ext (E : Ext fz H fz' H') : ∀ {v : V} {d : PyData}, Rep K fz H v d → Rep K fz' H' v d
  | _, _, .non => .non
  | _, _, .bl b => .bl b
  | _, _, .int i => .int i
  | _, _, .str x => .str x
  | _, _, .lst h e r => .lst (E.mono _ h) ((E.keep _ h).trans e) (RepA.ext E r)
  | _, _, .tup h r => .tup (h.imp (fun z => ⟨E.mono _ z.1, Rd.ext z.2 (E.keep _ z.1)⟩) id) (RepA.ext E r)
  | _, _, .dic h e r => .dic (E.mono _ h) ((E.keep _ h).trans e) (RepK.ext E r)
theorem RepA.ext (E : Ext fz H fz' H') : ∀ {v : List V} {d : List PyData}, RepA K fz H v d → RepA K fz' H' v d
  | _, _, .nil => .nil
  | _, _, .cons h r => .cons (Rep.ext E h) (RepA.ext E r)
theorem RepK.ext (E : Ext fz H fz' H') : ∀ {v : List (Key × V)} {d : List (PyData × PyData)}, RepK K fz H v d → RepK K fz' H' v d
  | _, _, .nil => .nil
  | _, _, .cons h r => .cons (Rep.ext E h) (RepK.ext E r)
end
theorem RepA.length : ∀ {v : List V} {d : List PyData}, RepA K fz H v d → v.length = d.length
  | _, _, .nil => rfl
  | _, _, .cons _ r => by simp [RepA.length r]
theorem RepA.get : ∀ {v : List V} {d : List PyData} {i : Nat} {x : PyData}, RepA K fz H v d → d[i]? = some x → ∃ y, v[i]? = some y ∧ Rep K fz H y x
  | _, _, _, _, .nil, e => by simp at e
  | _, _, 0, _, .cons h _, e => by simp at e; subst e; exact ⟨_, rfl, h⟩
  | _, _, i + 1, _, .cons _ r, e => by
    obtain ⟨y, h1, h2⟩ := RepA.get (i := i) r (by simpa using e)
    exact ⟨y, by simpa using h1, h2⟩
theorem RepA.getV : ∀ {v : List V} {d : List PyData} {i : Nat} {y : V}, RepA K fz H v d → v[i]? = some y → ∃ x, d[i]? = some x ∧ Rep K fz H y x
  | _, _, _, _, .nil, e => by simp at e
  | _, _, 0, _, .cons h _, e => by simp at e; subst e; exact ⟨_, rfl, h⟩
  | _, _, i + 1, _, .cons _ r, e => by
    obtain ⟨y, h1, h2⟩ := RepA.getV (i := i) r (by simpa using e)
    exact ⟨y, by simpa using h1, h2⟩
theorem RepA.append : ∀ {v v' : List V} {d d' : List PyData}, RepA K fz H v d → RepA K fz H v' d' → RepA K fz H (v ++ v') (d ++ d')
  | _, _, _, _, .nil, s => s
  | _, _, _, _, .cons h r, s => .cons h (RepA.append r s)
theorem RepA.take : ∀ {v : List V} {d : List PyData} (n : Nat), RepA K fz H v d → RepA K fz H (v.take n) (d.take n)
  | _, _, 0, _ => .nil
  | _, _, _ + 1, .nil => .nil
  | _, _, n + 1, .cons h r => .cons h (RepA.take n r)
theorem RepA.drop : ∀ {v : List V} {d : List PyData} (n : Nat), RepA K fz H v d → RepA K fz H (v.drop n) (d.drop n)
  | _, _, 0, r => r
  | _, _, _ + 1, .nil => .nil
  | _, _, n + 1, .cons h r => RepA.drop n r
theorem RepA.dropLast : ∀ {v : List V} {d : List PyData}, RepA K fz H v d → RepA K fz H v.dropLast d.dropLast := fun {v d} h => by
  rw [List.dropLast_eq_take, List.dropLast_eq_take, h.length]; exact h.take _
theorem RepA.set : ∀ {v : List V} {d : List PyData} (n : Nat) {x : V} {y : PyData}, RepA K fz H v d → Rep K fz H x y → RepA K fz H (v.set n x) (d.set n y)
  | _, _, _, _, _, .nil, _ => .nil
  | _, _, 0, _, _, .cons _ r, h => .cons h r
  | _, _, n + 1, _, _, .cons g r, h => .cons g (RepA.set n r h)
theorem RepA.reverse : ∀ {v : List V} {d : List PyData}, RepA K fz H v d → RepA K fz H v.reverse d.reverse
  | _, _, .nil => .nil
  | _, _, .cons h r => by simp only [List.reverse_cons]; exact (RepA.reverse r).append (.cons h .nil)
theorem RepA.ints : ∀ {v : List V} {ns : List Int}, RepA K fz H v (ns.map PyData.int) → v = ns.map V.int
  | _, [], h => by cases h; rfl
  | _, n :: ns, h => by
    cases h with
    | cons h r => cases h; rw [RepA.ints r]; rfl
theorem RepA.bls : ∀ {v : List V} {ns : List Bool}, RepA K fz H v (ns.map PyData.bool) → v = ns.map V.bl
  | _, [], h => by cases h; rfl
  | _, n :: ns, h => by
    cases h with
    | cons h r => cases h; rw [RepA.bls r]; rfl
theorem RepA.of_ints : ∀ (ns : List Int), RepA K fz H (ns.map V.int) (ns.map PyData.int)
  | [] => .nil
  | n :: ns => .cons (.int n) (RepA.of_ints ns)
mutual
theorem Rep.dp : ∀ {v : V} {d : PyData}, Rep K fz H v d → d.canLay0 = true → Dp K H v d
  | _, _, .non, _ => .non
  | _, _, .bl b, _ => .bl b
  | _, _, .int i, _ => .int i
  | _, _, .str x, _ => .str x
  | _, _, .lst h e r, s => .lst (SqL.of e) (RepA.dp r (by simpa [PyData.canLay0] using s))
  | _, _, .tup h r, s => .tup h.sq (RepA.dp r (by simpa [PyData.canLay0] using s))
  | _, _, .dic h e r, s => by simp [PyData.canLay0] at s
theorem RepA.dp : ∀ {v : List V} {d : List PyData}, RepA K fz H v d → PyData.canLayAll0 d = true → DpAll K H v d
  | _, _, .nil, _ => .nil
  | _, _, .cons h r, s => by
    have s' := s
    simp only [PyData.canLayAll0, Bool.and_eq_true] at s'
    exact .cons (Rep.dp h s'.1) (RepA.dp r s'.2)
end
end

/-! ### what a def alone holds -/
/-- lists and dicts: what can freeze; all else that is own is an object: a tuple of its class's name and its fields -/
def leafD : PyData → Bool
  | .list _ => true
  | .dict _ => true
  | _ => false
def OwnC (K : PySem.W.Frag) (fz : Addr → Prop) (H : Hp) (a : Addr) : PyData → Prop
  | .list ds => ∃ vs, H a = some (.lst vs) ∧ RepA K fz H vs ds
  | .dict ds => ∃ kvs, H a = some (.dK kvs) ∧ RepK K fz H kvs ds
  | _ => False
theorem OwnC.some {K : PySem.W.Frag} {fz : Addr → Prop} {H : Hp} {a : Addr} {d : PyData} (h : OwnC K fz H a d) : H a ≠ none := by
  cases d <;> first | exact h.elim | (obtain ⟨_, e, _⟩ := h; rw [e]; simp)
theorem OwnC.ext {K : PySem.W.Frag} {fz fz' : Addr → Prop} {H H' : Hp} {a : Addr} {d : PyData} (h : OwnC K fz H a d) (E : Ext fz H fz' H') (e : H' a = H a) : OwnC K fz' H' a d := by
  cases d <;> first | exact h.elim | (obtain ⟨x, e', r⟩ := h; exact ⟨x, e.trans e', r.ext E⟩)
theorem OwnC.leaf {K : PySem.W.Frag} {fz : Addr → Prop} {H : Hp} {a : Addr} {d : PyData} (h : OwnC K fz H a d) : leafD d = true := by
  cases d <;> first | exact h.elim | rfl
/-- it freezes -/
theorem OwnC.frz {K : PySem.W.Frag} {fz : Addr → Prop} {H : Hp} {a : Addr} {d : PyData} (h : OwnC K fz H a d) : Rep K (fun b => fz b ∨ b = a) H (.ref a) d := by
  have E : Ext fz H (fun b => fz b ∨ b = a) H := ⟨fun _ z => .inl z, fun _ _ => rfl⟩
  cases d with
  | list ds => obtain ⟨vs, e, r⟩ := h; exact .lst (.inr rfl) e (r.ext E)
  | dict ds => obtain ⟨vs, e, r⟩ := h; exact .dic (.inr rfl) e (r.ext E)
  | _ => exact h.elim
/-- the class (or def) that the module's name stands for -/
def clsAt (K : PySem.W.Frag) (n : Str) : Option Addr := match PySem.W.nsIn K mainGlobals n with
  | some (some (.ref C)) => some C
  | _ => none
/-- at a: a caught exception of the class at C, its dict at d -/
def exV (a C : Addr) (d : Option Addr) : HO := .ext fun h => ∃ (oe : Obj) (vs : Array Value), h.get? a = some oe ∧ Zc (.ref C) d oe ∧ oe.data = .fields vs
/-- a class and the names of the fields that an object has -/
def tagD (n : Str) (ns : List Str) : PyData := .tuple (.str n :: ns.map PyData.str)
/-- fields that are values -/
inductive FldV (K : PySem.W.Frag) (fz : Addr → Prop) (H : Hp) : List (Str × V) → List PyData → Prop
  | nil : FldV K fz H [] []
  | val {n : Str} {v : V} {d : PyData} {fs : List (Str × V)} {ds : List PyData} : Rep K fz H v d → FldV K fz H fs ds → FldV K fz H ((n, v) :: fs) (.tuple [d] :: ds)
mutual
/-- the object at a with its parts; the list: the addresses that belong to it alone -/
inductive OwnR (K : PySem.W.Frag) (fz : Addr → Prop) (H : Hp) : Addr → PyData → List Addr → Prop
  | lst {a : Addr} {vs : List V} {ds : List PyData} : H a = some (.lst vs) → RepA K fz H vs ds → OwnR K fz H a (.list ds) [a]
  | dic {a : Addr} {kvs : List (Key × V)} {ds : List (PyData × PyData)} : H a = some (.dK kvs) → RepK K fz H kvs ds → OwnR K fz H a (.dict ds) [a]
  | ins {a C dx : Addr} {fs : List (Str × V)} {n : Str} {t : PyData} {ds : List PyData} {F : List Addr} : t = tagD n (fs.map (·.1)) → clsAt K n = some C → H a = some (.ins C dx fs) → FldR K fz H fs ds F → (a :: F).Nodup → OwnR K fz H a (.tuple (t :: ds)) (a :: F)
  | exc {a C dx : Addr} {fs : List (Str × V)} {n : Str} {t : PyData} {ds : List PyData} : t = tagD n (fs.map (·.1)) → clsAt K n = some C → fz a → H a = some (exV a C (some dx)) → fz dx → H dx = some (.xd fs) → FldV K fz H fs ds → OwnR K fz H a (.tuple (.bool true :: t :: ds)) []
  | exc0 {a C : Addr} {n : Str} {t : PyData} : t = tagD n [] → clsAt K n = some C → fz a → H a = some (exV a C none) → OwnR K fz H a (.tuple [.bool true, t]) []
inductive FldR (K : PySem.W.Frag) (fz : Addr → Prop) (H : Hp) : List (Str × V) → List PyData → List Addr → Prop
  | nil : FldR K fz H [] [] []
  | val {fs : List (Str × V)} {n : Str} {v : V} {d : PyData} {ds : List PyData} {F : List Addr} : Rep K fz H v d → FldR K fz H fs ds F → FldR K fz H ((n, v) :: fs) (.tuple [d] :: ds) F
  | own {fs : List (Str × V)} {n : Str} {b : Addr} {d : PyData} {ds : List PyData} {G F : List Addr} : OwnR K fz H b d G → FldR K fz H fs ds F → FldR K fz H ((n, .ref b) :: fs) (.list [d] :: ds) (G ++ F)
end
section
variable {K : PySem.W.Frag} {fz fz' : Addr → Prop} {H H' : Hp}
theorem OwnC.reg {a : Addr} {d : PyData} (h : OwnC K fz H a d) : OwnR K fz H a d [a] := by
  cases d with
  | list ds => obtain ⟨vs, e, r⟩ := h; exact .lst e r
  | dict ds => obtain ⟨vs, e, r⟩ := h; exact .dic e r
  | _ => exact h.elim
theorem OwnR.leaf {a : Addr} {d : PyData} {F : List Addr} (h : OwnR K fz H a d F) (l : leafD d = true) : OwnC K fz H a d ∧ F = [a] := by
  cases h with
  | lst e r => exact ⟨⟨_, e, r⟩, rfl⟩
  | dic e r => exact ⟨⟨_, e, r⟩, rfl⟩
  | ins => cases l
  | exc => cases l
  | exc0 => cases l
theorem FldV.ext (E : Ext fz H fz' H') : ∀ {fs : List (Str × V)} {ds : List PyData}, FldV K fz H fs ds → FldV K fz' H' fs ds
  | _, _, .nil => .nil
  | _, _, .val r t => .val (r.ext E) (FldV.ext E t)
mutual
theorem OwnR.ext (E : Ext fz H fz' H') : ∀ {a : Addr} {d : PyData} {F : List Addr}, OwnR K fz H a d F → (∀ b ∈ F, H' b = H b) → OwnR K fz' H' a d F
  | _, _, _, .lst e r, k => .lst ((k _ List.mem_cons_self).trans e) (r.ext E)
  | _, _, _, .dic e r, k => .dic ((k _ List.mem_cons_self).trans e) (r.ext E)
  | _, _, _, .ins q c e f n, k => .ins q c ((k _ List.mem_cons_self).trans e) (FldR.ext E f fun b hb => k b (List.mem_cons_of_mem _ hb)) n
  | _, _, _, .exc q c za e zd ed f, _ => .exc q c (E.mono _ za) ((E.keep _ za).trans e) (E.mono _ zd) ((E.keep _ zd).trans ed) (f.ext E)
  | _, _, _, .exc0 q c za e, _ => .exc0 q c (E.mono _ za) ((E.keep _ za).trans e)
theorem FldR.ext (E : Ext fz H fz' H') : ∀ {fs : List (Str × V)} {d : List PyData} {F : List Addr}, FldR K fz H fs d F → (∀ b ∈ F, H' b = H b) → FldR K fz' H' fs d F
  | _, _, _, .nil, _ => .nil
  | _, _, _, .val r t, k => .val (r.ext E) (FldR.ext E t k)
  | _, _, _, .own r t, k => .own (OwnR.ext E r fun b hb => k b (List.mem_append_left _ hb)) (FldR.ext E t fun b hb => k b (List.mem_append_right _ hb))
end
mutual
theorem OwnR.some : ∀ {a : Addr} {d : PyData} {F : List Addr}, OwnR K fz H a d F → ∀ b ∈ F, H b ≠ none
  | _, _, _, .lst e r, b, hb => by rw [List.mem_singleton.mp hb, e]; simp
  | _, _, _, .dic e r, b, hb => by rw [List.mem_singleton.mp hb, e]; simp
  | _, _, _, .ins _ c e f n, b, hb => by
    rcases List.mem_cons.mp hb with rfl | hb
    · rw [e]; simp
    · exact FldR.some f b hb
  | _, _, _, .exc .., b, hb => nomatch hb
  | _, _, _, .exc0 .., b, hb => nomatch hb
theorem FldR.some : ∀ {fs : List (Str × V)} {d : List PyData} {F : List Addr}, FldR K fz H fs d F → ∀ b ∈ F, H b ≠ none
  | _, _, _, .nil, b, hb => nomatch hb
  | _, _, _, .val r t, b, hb => FldR.some t b hb
  | _, _, _, .own r t, b, hb => (List.mem_append.mp hb).elim (OwnR.some r b) (FldR.some t b)
end
mutual
/-- one description, one region -/
theorem OwnR.det {fz2 : Addr → Prop} : ∀ {a : Addr} {d : PyData} {F G : List Addr}, OwnR K fz H a d F → OwnR K fz2 H a d G → F = G
  | _, _, _, _, .lst .., .lst .. => rfl
  | _, _, _, _, .dic .., .dic .. => rfl
  | _, _, _, _, .ins _ c e f n, .ins _ c2 e2 f2 n2 => by
    rw [e] at e2
    cases e2
    rw [FldR.det f f2]
  | _, _, _, _, .exc .., .exc .. => rfl
  | _, _, _, _, .exc .., .exc0 .. => rfl
  | _, _, _, _, .exc0 .., .exc .. => rfl
  | _, _, _, _, .exc0 .., .exc0 .. => rfl
theorem FldR.det {fz2 : Addr → Prop} : ∀ {fs : List (Str × V)} {d : List PyData} {F G : List Addr}, FldR K fz H fs d F → FldR K fz2 H fs d G → F = G
  | _, _, _, _, .nil, .nil => rfl
  | _, _, _, _, .val r t, .val r2 t2 => FldR.det t t2
  | _, _, _, _, .own r t, .own r2 t2 => by
    rw [OwnR.det r r2, FldR.det t t2]
end
end

def SlR (K : PySem.W.Frag) (pr fz : Addr → Prop) (H : Hp) (o : Option V) : Sl → Prop
  | .emp => True
  | .val d => ∃ v, o = some v ∧ Rep K fz H v d
  | .own d => ∃ a F, o = some (.ref a) ∧ OwnR K fz H a d F ∧ ∀ b ∈ F, ¬ fz b ∧ ¬ pr b
  | .scr ns => ∃ a, o = some (.ref a) ∧ FzL K fz H a (ns.map V.int)
/-- the region of slot i -/
def Reg (K : PySem.W.Frag) (fz : Addr → Prop) (H : Hp) (σ : L2.St) (ρ : Env) (i : Nat) (F : List Addr) : Prop := ∃ (a : Addr) (x : PyData), ρ[i]? = some (.own x) ∧ σ[i]? = some (some (V.ref a)) ∧ OwnR K fz H a x F
/-- no slot's region holds b -/
def Free (K : PySem.W.Frag) (fz : Addr → Prop) (H : Hp) (σ : L2.St) (ρ : Env) (b : Addr) : Prop := ∀ i F, Reg K fz H σ ρ i F → b ∉ F

structure Rel (K : PySem.W.Frag) (pp : List (Nat × Addr)) (pr fz : Addr → Prop) (σ : L2.St) (H : Hp) (ρ : Env) : Prop where
  len : σ.length = ρ.length
  at_ : ∀ (i : Nat) (s : Sl), ρ[i]? = some s → SlR K pr fz H (σ[i]?.join) s
  sep : ∀ (i j : Nat) (F G : List Addr) (b : Addr), Reg K fz H σ ρ i F → Reg K fz H σ ρ j G → b ∈ F → b ∈ G → i = j
  fzH : ∀ a, fz a → H a ≠ none
  prH : ∀ a, pr a → H a ≠ none
  pin : ∀ p ∈ pp, ∃ x, ρ[p.1]? = some (.own x) ∧ σ[p.1]? = some (some (V.ref p.2))

structure Fr (pr fz : Addr → Prop) (H : Hp) (fz' : Addr → Prop) (H' : Hp) : Prop where
  mono : ∀ a, fz a → fz' a
  keep : ∀ a, fz a → H' a = H a
  keepP : ∀ a, pr a → H' a = H a
  new : ∀ a, pr a → fz' a → fz a
theorem Fr.refl {pr fz : Addr → Prop} {H : Hp} : Fr pr fz H fz H := ⟨fun _ h => h, fun _ _ => rfl, fun _ _ => rfl, fun _ _ h => h⟩
theorem Fr.trans {pr fz fz1 fz2 : Addr → Prop} {H H1 H2 : Hp} (a : Fr pr fz H fz1 H1) (b : Fr pr fz1 H1 fz2 H2) : Fr pr fz H fz2 H2 :=
  ⟨fun x h => b.mono x (a.mono x h), fun x h => (b.keep x (a.mono x h)).trans (a.keep x h), fun x h => (b.keepP x h).trans (a.keepP x h), fun x h z => a.new x h (b.new x h z)⟩
theorem Fr.ext {pr fz fz' : Addr → Prop} {H H' : Hp} (a : Fr pr fz H fz' H') : Ext fz H fz' H' := ⟨a.mono, a.keep⟩

theorem join_some {o : Option (Option V)} {v : V} : o.join = some v ↔ o = some (some v) := by
  cases o with
  | none => simp
  | some x => simp

section
variable {K : PySem.W.Frag} {pp : List (Nat × Addr)} {pr fz fz' : Addr → Prop} {σ : L2.St} {H H' : Hp} {ρ : Env}
theorem Rel.own_at (R : Rel K pp pr fz σ H ρ) {i : Nat} {x : PyData} (e : ρ[i]? = some (.own x)) : ∃ a F, σ[i]? = some (some (V.ref a)) ∧ OwnR K fz H a x F ∧ ∀ b ∈ F, ¬ fz b ∧ ¬ pr b := by
  obtain ⟨a, F, h, r⟩ := R.at_ i _ e
  exact ⟨a, F, join_some.mp h, r⟩
theorem Rel.own_ne (R : Rel K pp pr fz σ H ρ) {i : Nat} {x : PyData} (e : ρ[i]? = some (.own x)) (l : leafD x = true) : ∃ a, σ[i]? = some (some (V.ref a)) ∧ ¬ fz a ∧ ¬ pr a ∧ OwnC K fz H a x := by
  obtain ⟨a, F, h, r, n⟩ := R.own_at e
  obtain ⟨oc, rfl⟩ := r.leaf l
  exact ⟨a, h, (n a List.mem_cons_self).1, (n a List.mem_cons_self).2, oc⟩
theorem Rel.reg_ok (R : Rel K pp pr fz σ H ρ) {i : Nat} {F : List Addr} (g : Reg K fz H σ ρ i F) : ∀ b ∈ F, ¬ fz b ∧ ¬ pr b ∧ H b ≠ none := by
  obtain ⟨a, x, e, s, r⟩ := g
  obtain ⟨a', F', s', r', n⟩ := R.own_at e
  rw [s] at s'
  cases s'
  rw [r.det r']
  exact fun b hb => ⟨(n b hb).1, (n b hb).2, r'.some b hb⟩
/-- nothing of the slots' regions is changed -/
theorem rel_keep {pr' : Addr → Prop} (R : Rel K pp pr fz σ H ρ) (E : Ext fz H fz' H') (k : ∀ i F, Reg K fz H σ ρ i F → ∀ b ∈ F, H' b = H b ∧ ¬ fz' b ∧ ¬ pr' b) (hf : ∀ a, fz' a → H' a ≠ none) (hp : ∀ a, pr' a → H' a ≠ none) :
    Rel K pp pr' fz' σ H' ρ ∧ ∀ i F, Reg K fz' H' σ ρ i F → Reg K fz H σ ρ i F := by
  have back : ∀ i F, Reg K fz' H' σ ρ i F → Reg K fz H σ ρ i F := fun i F g => by
    obtain ⟨a, x, e, s, r⟩ := g
    obtain ⟨a', F', s', r', n⟩ := R.own_at e
    rw [s] at s'
    cases s'
    have r2 := r'.ext E fun b hb => (k i F' ⟨a, x, e, s, r'⟩ b hb).1
    rw [r.det r2]
    exact ⟨a, x, e, s, r'⟩
  refine ⟨⟨R.len, fun i s e => ?_, fun i j F G b h1 h2 => R.sep i j F G b (back i F h1) (back j G h2), hf, hp, R.pin⟩, back⟩
  have q := R.at_ i s e
  cases s with
  | emp => trivial
  | val d => obtain ⟨v, h, r⟩ := q; exact ⟨v, h, r.ext E⟩
  | scr ns => obtain ⟨v, h, r⟩ := q; exact ⟨v, h, r.ext E⟩
  | own d =>
    obtain ⟨a, F, h, r, n⟩ := q
    have g : Reg K fz H σ ρ i F := ⟨a, d, e, join_some.mp h, r⟩
    exact ⟨a, F, h, r.ext E fun b hb => (k i F g b hb).1, fun b hb => ⟨(k i F g b hb).2.1, (k i F g b hb).2.2⟩⟩

/-- new objects alone -/
structure Alc (fz : Addr → Prop) (H : Hp) (fz' : Addr → Prop) (H' : Hp) : Prop where
  keep : ∀ a, H a ≠ none → H' a = H a
  mono : ∀ a, fz a → fz' a
  new : ∀ a, fz' a → fz a ∨ H a = none
  some : ∀ a, fz' a → fz a ∨ H' a ≠ none
theorem Alc.refl : Alc fz H fz H := ⟨fun _ _ => rfl, fun _ h => h, fun _ h => .inl h, fun _ h => .inl h⟩
theorem Alc.one {p : Addr} {o : HO} (h : H p = none) : Alc fz H (fun b => fz b ∨ b = p) (upd H p o) :=
  ⟨fun a e => upd_ne (fun z => e (by rw [z]; exact h)), fun _ h => .inl h, fun a z => z.imp id (fun e => by rw [e]; exact h), fun a z => z.imp id (fun e => by rw [e, upd_same]; simp)⟩
theorem Alc.own {p : Addr} {o : HO} (h : H p = none) : Alc fz H fz (upd H p o) :=
  ⟨fun a e => upd_ne (fun z => e (by rw [z]; exact h)), fun _ h => h, fun a z => .inl z, fun a z => .inl z⟩
theorem Alc.fr (A : Alc fz H fz' H') (R : Rel K pp pr fz σ H ρ) : Fr pr fz H fz' H' :=
  ⟨A.mono, fun a h => A.keep a (R.fzH a h), fun a h => A.keep a (R.prH a h), fun a h z => (A.new a z).elim id fun e => absurd e (R.prH a h)⟩
theorem Alc.ext (A : Alc fz H fz' H') (h : ∀ a, fz a → H a ≠ none) : Ext fz H fz' H' := ⟨A.mono, fun a z => A.keep a (h a z)⟩
theorem Alc.rel2 (A : Alc fz H fz' H') (R : Rel K pp pr fz σ H ρ) : Rel K pp pr fz' σ H' ρ ∧ ∀ i F, Reg K fz' H' σ ρ i F → Reg K fz H σ ρ i F := by
  refine rel_keep R (A.ext R.fzH) (fun i F g b hb => ?_) (fun a h => ?_) fun a h => by rw [A.keep a (R.prH a h)]; exact R.prH a h
  · obtain ⟨n1, n2, n3⟩ := R.reg_ok g b hb
    exact ⟨A.keep b n3, fun z => (A.new b z).elim n1 n3, n2⟩
  · rcases A.some a h with z | z
    · rw [A.keep a (R.fzH a z)]; exact R.fzH a z
    · exact z
theorem Alc.rel (A : Alc fz H fz' H') (R : Rel K pp pr fz σ H ρ) : Rel K pp pr fz' σ H' ρ := (A.rel2 R).1
/-- an address not used before is in no region -/
theorem Rel.free_new (R : Rel K pp pr fz σ H ρ) {b : Addr} (h : H b = none) : Free K fz H σ ρ b := fun i F g hb => (R.reg_ok g b hb).2.2 h
/-- an owned object that no slot holds freezes -/
theorem frz_free {a : Addr} (R : Rel K pp pr fz σ H ρ) (ha : H a ≠ none) (hp : ¬ pr a) (hs : Free K fz H σ ρ a) :
    Fr pr fz H (fun b => fz b ∨ b = a) H ∧ Rel K pp pr (fun b => fz b ∨ b = a) σ H ρ := by
  have E : Ext fz H (fun b => fz b ∨ b = a) H := ⟨fun _ z => .inl z, fun _ _ => rfl⟩
  refine ⟨⟨fun _ z => .inl z, fun _ _ => rfl, fun _ _ => rfl, fun b h z => z.elim id fun e => absurd (e ▸ h) hp⟩, (rel_keep R E (fun i F g b hb => ?_) (fun b h => h.elim (R.fzH b) fun e => by rw [e]; exact ha) R.prH).1⟩
  obtain ⟨n1, n2, n3⟩ := R.reg_ok g b hb
  exact ⟨rfl, fun z => z.elim n1 fun e => hs i F g (e ▸ hb), n2⟩
/-- regions when one slot has changed -/
theorem Reg.other {i j : Nat} {o : Option V} {s : Sl} {F : List Addr} (n : j ≠ i) : Reg K fz H (σ.set i o) (ρ.set i s) j F ↔ Reg K fz H σ ρ j F := by
  unfold Reg
  rw [List.getElem?_set_ne (Ne.symm n), List.getElem?_set_ne (Ne.symm n)]
theorem Reg.none {i : Nat} {o : Option V} {s : Sl} {F : List Addr} (hs : ∀ x, s ≠ .own x) (g : Reg K fz H (σ.set i o) (ρ.set i s) i F) : False := by
  obtain ⟨a, x, e, _⟩ := g
  rw [List.getElem?_set] at e
  simp only [if_true] at e
  split at e
  · cases e; exact hs _ rfl
  · cases e
/-- a slot is set to what is not own -/
theorem Rel.setN {i : Nat} {o : Option V} {s : Sl} (R : Rel K pp pr fz σ H ρ) (hs : ∀ x, s ≠ .own x) (hi : i ∉ pp.map (·.1)) (r : SlR K pr fz H o s) : Rel K pp pr fz (σ.set i o) H (ρ.set i s) := by
  have back : ∀ j F, Reg K fz H (σ.set i o) (ρ.set i s) j F → Reg K fz H σ ρ j F := fun j F g => by
    by_cases h : j = i
    · subst h; exact (g.none hs).elim
    · exact (Reg.other h).mp g
  refine ⟨by simpa using R.len, fun j t e => ?_, fun j k F G b g1 g2 => R.sep j k F G b (back j F g1) (back k G g2), R.fzH, R.prH, fun p hp => ?_⟩
  · by_cases h : j = i
    · subst h
      have hl : j < ρ.length := by
        have := (List.getElem?_eq_some_iff.mp e).1
        simpa using this
      rw [List.getElem?_set_self hl] at e
      cases e
      rw [List.getElem?_set_self (by rw [R.len]; exact hl)]
      exact r
    · rw [List.getElem?_set_ne (Ne.symm h)] at e ⊢
      exact R.at_ j t e
  · have h : p.1 ≠ i := fun z => hi (z ▸ List.mem_map_of_mem hp)
    rw [List.getElem?_set_ne (Ne.symm h), List.getElem?_set_ne (Ne.symm h)]
    exact R.pin p hp
/-- a slot is set to a value -/
theorem Rel.setV {i : Nat} {v : V} {d : PyData} (R : Rel K pp pr fz σ H ρ) (r : Rep K fz H v d) (hi : i ∉ pp.map (·.1)) : Rel K pp pr fz (σ.set i (some v)) H (ρ.set i (.val d)) :=
  R.setN (fun x e => by cases e) hi ⟨v, rfl, r⟩
/-- a slot is set to an object whose region no slot holds -/
theorem Rel.setG {i : Nat} {a : Addr} {d : PyData} {F : List Addr} (R : Rel K pp pr fz σ H ρ) (r : OwnR K fz H a d F) (hF : ∀ b ∈ F, ¬ fz b ∧ ¬ pr b ∧ Free K fz H σ ρ b) (hi : i ∉ pp.map (·.1)) :
    Rel K pp pr fz (σ.set i (some (.ref a))) H (ρ.set i (.own d)) := by
  have here : ∀ G, Reg K fz H (σ.set i (some (.ref a))) (ρ.set i (.own d)) i G → G = F := fun G g => by
    obtain ⟨a', x, e, s, r'⟩ := g
    have hl : i < (ρ.set i (.own d)).length := (List.getElem?_eq_some_iff.mp e).1
    rw [List.length_set] at hl
    rw [List.getElem?_set_self hl] at e
    rw [List.getElem?_set_self (by rw [R.len]; exact hl)] at s
    cases e
    cases s
    exact r'.det r
  refine ⟨by simpa using R.len, fun j t e => ?_, fun j k F1 G1 b g1 g2 m1 m2 => ?_, R.fzH, R.prH, fun p hp => ?_⟩
  · by_cases h : j = i
    · subst h
      have hl : j < ρ.length := by
        have := (List.getElem?_eq_some_iff.mp e).1
        simpa using this
      rw [List.getElem?_set_self hl] at e
      cases e
      rw [List.getElem?_set_self (by rw [R.len]; exact hl)]
      exact ⟨a, F, rfl, r, fun b hb => ⟨(hF b hb).1, (hF b hb).2.1⟩⟩
    · rw [List.getElem?_set_ne (Ne.symm h)] at e ⊢
      exact R.at_ j t e
  · by_cases h1 : j = i
    · by_cases h2 : k = i
      · rw [h1, h2]
      · subst h1
        rw [here F1 g1] at m1
        exact absurd m2 ((hF b m1).2.2 k G1 ((Reg.other h2).mp g2))
    · by_cases h2 : k = i
      · subst h2
        rw [here G1 g2] at m2
        exact absurd m1 ((hF b m2).2.2 j F1 ((Reg.other h1).mp g1))
      · exact R.sep j k F1 G1 b ((Reg.other h1).mp g1) ((Reg.other h2).mp g2) m1 m2
  · have h : p.1 ≠ i := fun z => hi (z ▸ List.mem_map_of_mem hp)
    rw [List.getElem?_set_ne (Ne.symm h), List.getElem?_set_ne (Ne.symm h)]
    exact R.pin p hp
theorem Rel.setO {i : Nat} {a : Addr} {d : PyData} (R : Rel K pp pr fz σ H ρ) (hf : ¬ fz a) (hp : ¬ pr a) (r : OwnC K fz H a d) (hs : Free K fz H σ ρ a) (hi : i ∉ pp.map (·.1)) :
    Rel K pp pr fz (σ.set i (some (.ref a))) H (ρ.set i (.own d)) :=
  R.setG r.reg (fun b hb => by rw [List.mem_singleton.mp hb]; exact ⟨hf, hp, hs⟩) hi
/-- the object in slot i is changed, within its region and by parts that no slot holds -/
theorem Rel.wrG2 {i : Nat} {a : Addr} {d d' : PyData} {F F' : List Addr} (R : Rel K pp pr fz σ H ρ) (hr : ρ[i]? = some (.own d)) (hs : σ[i]? = some (some (V.ref a))) (r : OwnR K fz H a d F)
    (k : ∀ b, H b ≠ none → b ∉ F → H' b = H b) (r' : OwnR K fz H' a d' F') (hF : ∀ b ∈ F', b ∈ F ∨ (¬ fz b ∧ ¬ pr b ∧ Free K fz H σ ρ b)) :
    Fr pr fz H fz H' ∧ Rel K pp pr fz σ H' (ρ.set i (.own d')) := by
  have g0 : Reg K fz H σ ρ i F := ⟨a, d, hr, hs, r⟩
  have ok := R.reg_ok g0
  have kf : ∀ b, fz b → H' b = H b := fun b z => k b (R.fzH b z) fun q => (ok b q).1 z
  have kp : ∀ b, pr b → H' b = H b := fun b z => k b (R.prH b z) fun q => (ok b q).2.1 z
  have E : Ext fz H fz H' := ⟨fun _ z => z, kf⟩
  have hl : i < ρ.length := (List.getElem?_eq_some_iff.mp hr).1
  have hF' : ∀ b ∈ F', ¬ fz b ∧ ¬ pr b := fun b hb => by
    rcases hF b hb with q | q
    · exact ⟨(ok b q).1, (ok b q).2.1⟩
    · exact ⟨q.1, q.2.1⟩
  have keepR : ∀ j G, j ≠ i → Reg K fz H σ ρ j G → ∀ b ∈ G, H' b = H b := fun j G n g b hb => k b (R.reg_ok g b hb).2.2 fun q => n (R.sep j i G F b g g0 hb q)
  have here : ∀ G, Reg K fz H' σ (ρ.set i (.own d')) i G → G = F' := fun G g => by
    obtain ⟨a', x, e, s, r2⟩ := g
    rw [List.getElem?_set_self hl] at e
    rw [hs] at s
    cases e
    cases s
    exact r2.det r'
  have back : ∀ j G, j ≠ i → Reg K fz H' σ (ρ.set i (.own d')) j G → Reg K fz H σ ρ j G := fun j G n g => by
    obtain ⟨a', x, e, s, r2⟩ := g
    rw [List.getElem?_set_ne (Ne.symm n)] at e
    obtain ⟨a2, G2, s2, r3, _⟩ := R.own_at e
    rw [s] at s2
    cases s2
    have g3 : Reg K fz H σ ρ j G2 := ⟨a', x, e, s, r3⟩
    rw [r2.det (r3.ext E (keepR j G2 n g3))]
    exact g3
  refine ⟨⟨fun _ z => z, kf, kp, fun _ _ z => z⟩, by simpa using R.len, fun j s e => ?_, fun j l F1 G1 b g1 g2 m1 m2 => ?_, fun b z => by rw [kf b z]; exact R.fzH b z, fun b z => by rw [kp b z]; exact R.prH b z, fun p hp => ?_⟩
  · by_cases h : j = i
    · subst h
      rw [List.getElem?_set_self hl] at e
      cases e
      exact ⟨a, F', join_some.mpr hs, r', hF'⟩
    · rw [List.getElem?_set_ne (Ne.symm h)] at e
      have q := R.at_ j s e
      cases s with
      | emp => trivial
      | val x => obtain ⟨v, h1, h2⟩ := q; exact ⟨v, h1, h2.ext E⟩
      | scr ns => obtain ⟨v, h, r⟩ := q; exact ⟨v, h, r.ext E⟩
      | own x =>
        obtain ⟨b, G, h1, r2, n⟩ := q
        exact ⟨b, G, h1, r2.ext E (keepR j G h ⟨b, x, e, join_some.mp h1, r2⟩), n⟩
  · by_cases h1 : j = i
    · by_cases h2 : l = i
      · rw [h1, h2]
      · subst h1
        rw [here F1 g1] at m1
        have g3 := back l G1 h2 g2
        rcases hF b m1 with q | q
        · exact (R.sep l j G1 F b g3 g0 m2 q).symm
        · exact absurd m2 (q.2.2 l G1 g3)
    · by_cases h2 : l = i
      · subst h2
        rw [here G1 g2] at m2
        have g3 := back j F1 h1 g1
        rcases hF b m2 with q | q
        · exact R.sep j l F1 F b g3 g0 m1 q
        · exact absurd m1 (q.2.2 j F1 g3)
      · exact R.sep j l F1 G1 b (back j F1 h1 g1) (back l G1 h2 g2) m1 m2
  · obtain ⟨x, e, s⟩ := R.pin p hp
    by_cases h : p.1 = i
    · exact ⟨d', by rw [h, List.getElem?_set_self hl], s⟩
    · exact ⟨x, by rw [List.getElem?_set_ne (Ne.symm h)]; exact e, s⟩
/-- .. by new parts -/
theorem Rel.wrG {i : Nat} {a : Addr} {d d' : PyData} {F F' : List Addr} (R : Rel K pp pr fz σ H ρ) (hr : ρ[i]? = some (.own d)) (hs : σ[i]? = some (some (V.ref a))) (r : OwnR K fz H a d F)
    (k : ∀ b, H b ≠ none → b ∉ F → H' b = H b) (r' : OwnR K fz H' a d' F') (hF : ∀ b ∈ F', b ∈ F ∨ H b = none) :
    Fr pr fz H fz H' ∧ Rel K pp pr fz σ H' (ρ.set i (.own d')) :=
  R.wrG2 hr hs r k r' fun b hb => (hF b hb).imp id fun q => ⟨fun z => R.fzH b z q, fun z => R.prH b z q, R.free_new q⟩
theorem Rel.wr {i : Nat} {a : Addr} {d d' : PyData} {o : HO} (R : Rel K pp pr fz σ H ρ) (hr : ρ[i]? = some (.own d)) (hs : σ[i]? = some (some (V.ref a))) (l : leafD d = true) (r : OwnC K fz (upd H a o) a d') :
    Fr pr fz H fz (upd H a o) ∧ Rel K pp pr fz σ (upd H a o) (ρ.set i (.own d')) := by
  obtain ⟨a', h', nf, np, rc⟩ := R.own_ne hr l
  obtain rfl : a' = a := by rw [hs] at h'; cases h'; rfl
  exact R.wrG hr hs rc.reg (fun b _ n => upd_ne fun q => n (by rw [q]; exact List.mem_cons_self)) r.reg fun b hb => .inl hb
/-- the object in slot i freezes -/
theorem Rel.frz {i : Nat} {d : PyData} (R : Rel K pp pr fz σ H ρ) (hr : ρ[i]? = some (.own d)) (l : leafD d = true) (hi : i ∉ pp.map (·.1)) : ∃ a, σ[i]? = some (some (V.ref a)) ∧ Fr pr fz H (fun b => fz b ∨ b = a) H ∧ Rel K pp pr (fun b => fz b ∨ b = a) σ H (ρ.set i (.val d)) ∧ Rep K (fun b => fz b ∨ b = a) H (.ref a) d := by
  obtain ⟨a, hs, nf, np, rc⟩ := R.own_ne hr l
  have hl : i < ρ.length := (List.getElem?_eq_some_iff.mp hr).1
  have g0 : Reg K fz H σ ρ i [a] := ⟨a, d, hr, hs, rc.reg⟩
  -- first the slot is emptied
  have R0 : Rel K pp pr fz (σ.set i (some (V.ref a))) H (ρ.set i .emp) := R.setN (fun x e => by cases e) hi trivial
  have e1 : σ.set i (some (V.ref a)) = σ := by
    apply List.ext_getElem?
    intro j
    by_cases h : j = i
    · subst h
      rw [List.getElem?_set_self (by rw [R.len]; exact hl)]
      exact hs.symm
    · rw [List.getElem?_set_ne (Ne.symm h)]
  have ns : Free K fz H (σ.set i (some (V.ref a))) (ρ.set i .emp) a := fun j F g hb => by
    by_cases h : j = i
    · subst h; exact g.none fun x e => by cases e
    · exact h (R.sep j i F [a] a ((Reg.other h).mp g) g0 hb List.mem_cons_self)
  obtain ⟨F, R1⟩ := frz_free R0 rc.some np ns
  have rep := rc.frz
  have R2 := R1.setV (i := i) rep hi
  rw [List.set_set, List.set_set, e1] at R2
  exact ⟨a, hs, F, R2, rep⟩
end
end PL

end
section
/-! PL2: what a reading refines (Rf); names, constants, operators, built-ins of one and two arguments. -/
namespace PL
open PySem PySem.Spec L2
open PyProof.Rows hiding St

abbrev RXT := (Addr → Prop) → Hp → Value → Option Addr → PExc → Prop
structure Cw where
  K : PySem.W.Frag
  RX : RXT
  W : WX
  ps : List Nat
/-- how a value is borne: protected, slots, frozen, heap, pure slots -/
abbrev RT (α β : Type) := (Addr → Prop) → L2.St → (Addr → Prop) → Hp → Env → β → α → Prop
def RV (K : PySem.W.Frag) : RT PyData V := fun _ _ fz H _ v d => Rep K fz H v d
def RVs (K : PySem.W.Frag) : RT (List PyData) (List V) := fun _ _ fz H _ v d => RepA K fz H v d
def RB : RT Bool Bool := fun _ _ _ _ _ b c => b = c
def RO (K : PySem.W.Frag) : RT PyData V := fun pr σ fz H ρ v d => ∃ a, v = .ref a ∧ ¬ fz a ∧ ¬ pr a ∧ Free K fz H σ ρ a ∧ OwnC K fz H a d
/-- any own object, its region free -/
def RG (K : PySem.W.Frag) : RT PyData V := fun pr σ fz H ρ v d => ∃ a F, v = .ref a ∧ OwnR K fz H a d F ∧ ∀ b ∈ F, ¬ fz b ∧ ¬ pr b ∧ Free K fz H σ ρ b
theorem RO.g {K : PySem.W.Frag} {pr : Addr → Prop} {σ : L2.St} {fz : Addr → Prop} {H : Hp} {ρ : Env} {v : V} {d : PyData} (h : RO K pr σ fz H ρ v d) : RG K pr σ fz H ρ v d := by
  obtain ⟨a, rfl, nf, np, ns, oc⟩ := h
  exact ⟨a, [a], rfl, oc.reg, fun b hb => by rw [List.mem_singleton.mp hb]; exact ⟨nf, np, ns⟩⟩
theorem RG.o {K : PySem.W.Frag} {pr : Addr → Prop} {σ : L2.St} {fz : Addr → Prop} {H : Hp} {ρ : Env} {v : V} {d : PyData} (h : RG K pr σ fz H ρ v d) (l : leafD d = true) : RO K pr σ fz H ρ v d := by
  obtain ⟨a, F, rfl, r, n⟩ := h
  obtain ⟨oc, rfl⟩ := r.leaf l
  obtain ⟨n1, n2, n3⟩ := n a List.mem_cons_self
  exact ⟨a, rfl, n1, n2, n3, oc⟩
def PostG {α β : Type} (c : Cw) (pp : List (Nat × Addr)) (pr : Addr → Prop) (σ : L2.St) (R : RT α β) (fz : Addr → Prop) (H : Hp) (o : Out α) (Q : β → Hp → Prop) : Prop :=
  match o with
  | .ok a ρ => ∀ (b : β) (fz' : Addr → Prop) (H' : Hp), Fr pr fz H fz' H' → Rel c.K pp pr fz' σ H' ρ → R pr σ fz' H' ρ b a → Q b H'
  | .exc e ρ => ∀ (cls : Value) (dx : Option Addr) (fz' : Addr → Prop) (H' : Hp), Fr pr fz H fz' H' → Rel c.K pp pr fz' σ H' ρ → c.RX fz' H' cls dx e → c.W cls dx σ H'
  | .bad => False
def Rf {α β : Type} (c : Cw) (R : RT α β) (t : L2.St → Hp → (β → Hp → Prop) → Prop) (m : M α) : Prop :=
  ∀ (pp : List (Nat × Addr)) (pr fz : Addr → Prop) (σ : L2.St) (H : Hp) (ρ : Env) (Q : β → Hp → Prop), pp.map (·.1) = c.ps → Rel c.K pp pr fz σ H ρ → PostG c pp pr σ R fz H (m ρ) Q → t σ H Q
def bnd {α β : Type} (m : M α) (f : α → M β) : M β := fun ρ => match m ρ with
  | .ok a r => f a r
  | .exc e r => .exc e r
  | .bad => .bad
def lft {α : Type} (o : Option α) : M α := fun ρ => match o with
  | some a => .ok a ρ
  | none => .bad
section
variable {α β γ δ : Type} {c : Cw} {pp : List (Nat × Addr)} {pr fz : Addr → Prop} {σ : L2.St} {H : Hp} {ρ : Env}
theorem PostG.rest {R : RT α β} {fz1 : Addr → Prop} {H1 : Hp} {o : Out α} {Q : β → Hp → Prop} (F : Fr pr fz H fz1 H1) (h : PostG c pp pr σ R fz H o Q) : PostG c pp pr σ R fz1 H1 o Q := by
  cases o with
  | ok a r => exact fun b fz' H' F' => h b fz' H' (F.trans F')
  | exc e r => exact fun cls dx fz' H' F' => h cls dx fz' H' (F.trans F')
  | bad => exact h
theorem PostG.bnd {R1 : RT α β} {R2 : RT γ δ} {m : M α} {f : α → M γ} {Q : δ → Hp → Prop} {Q1 : β → Hp → Prop} (h : PostG c pp pr σ R2 fz H (bnd m f ρ) Q)
    (k : ∀ (b : β) (a : α) (fz1 : Addr → Prop) (H1 : Hp) (ρ1 : Env), Fr pr fz H fz1 H1 → Rel c.K pp pr fz1 σ H1 ρ1 → R1 pr σ fz1 H1 ρ1 b a → PostG c pp pr σ R2 fz1 H1 (f a ρ1) Q → Q1 b H1) : PostG c pp pr σ R1 fz H (m ρ) Q1 := by
  unfold PL.bnd at h
  cases e : m ρ with
  | ok a r =>
    rw [e] at h
    exact fun b fz1 H1 F R q => k b a fz1 H1 r F R q (h.rest F)
  | exc x r => rw [e] at h; exact h
  | bad => rw [e] at h; exact h.elim
theorem PostG.imp {R : RT α β} {o : Out α} {Q Q' : β → Hp → Prop} (h : PostG c pp pr σ R fz H o Q) (k : ∀ b H', Q b H' → Q' b H') : PostG c pp pr σ R fz H o Q' := by
  cases o with
  | ok a r => exact fun b fz' H' F' R' q => k _ _ (h b fz' H' F' R' q)
  | exc e r => exact h
  | bad => exact h
/-- an own result freezes -/
theorem Rf.frz {t : TE} {m : M PyData} (h : Rf c (RO c.K) t m) : Rf c (RV c.K) t m := by
  intro pp pr fz σ H ρ Q hp R hq
  refine h pp pr fz σ H ρ Q hp R ?_
  cases e : m ρ with
  | ok d r =>
    rw [e] at hq
    rintro v fz' H' F R' ⟨a, rfl, nf, np, ns, oc⟩
    obtain ⟨F2, R2⟩ := frz_free R' oc.some np ns
    exact hq (.ref a) _ H' (F.trans F2) R2 oc.frz
  | exc x r => rw [e] at hq; exact hq
  | bad => rw [e] at hq; exact hq
end

/-! ### names, constants -/
def mcon (d : PyData) : M PyData := fun ρ => .ok d ρ
def mvar (i : Nat) : M PyData := fun ρ => match ρ[i]? with
  | some (.val d) => .ok d ρ
  | some (.own d) => if leafD d = true then .ok d (ρ.set i (.val d)) else .bad
  | _ => .bad
def peek (i : Nat) (ρ : Env) : Option PyData := match ρ[i]? with
  | some (.val d) => some d
  | some (.own d) => if leafD d = true then some d else none
  | _ => none
def RepP (K : PySem.W.Frag) (fz : Addr → Prop) (H : Hp) (v : V) (d : PyData) : Prop := Rep K fz H v d ∨ ∃ a, v = .ref a ∧ ¬ fz a ∧ OwnC K fz H a d
section
variable {c : Cw} {pp : List (Nat × Addr)} {pr fz : Addr → Prop} {σ : L2.St} {H : Hp} {ρ : Env}
theorem rf_con {v : V} {d : PyData} (h : ∀ fz H, Rep c.K fz H v d) : Rf c (RV c.K) (tC v) (mcon d) := fun pp pr fz σ H ρ Q hp R hq => hq v fz H Fr.refl R (h fz H)
theorem rf_var {i : Nat} (hi : i ∉ c.ps) : Rf c (RV c.K) (tVar i) (mvar i) := by
  intro pp pr fz σ H ρ Q hp R hq
  unfold mvar at hq
  cases e : ρ[i]? with
  | none => rw [e] at hq; exact hq.elim
  | some s =>
    rw [e] at hq
    cases s with
    | emp => exact hq.elim
    | scr ns => exact hq.elim
    | val d =>
      obtain ⟨v, h, r⟩ := R.at_ i _ e
      exact ⟨v, join_some.mp h, hq v fz H Fr.refl R r⟩
    | own d =>
      dsimp only at hq
      split at hq
      · rename_i l
        obtain ⟨a, hs, F, R', r⟩ := R.frz e l (by rw [hp]; exact hi)
        exact ⟨_, hs, hq _ _ _ F R' r⟩
      · exact hq.elim
theorem Rel.peek {i : Nat} {d : PyData} (R : Rel c.K pp pr fz σ H ρ) (e : peek i ρ = some d) : ∃ v, σ[i]? = some (some v) ∧ RepP c.K fz H v d := by
  unfold PL.peek at e
  cases e1 : ρ[i]? with
  | none => rw [e1] at e; cases e
  | some s =>
    rw [e1] at e
    have q := R.at_ i _ e1
    cases s with
    | emp => cases e
    | scr ns => cases e
    | val x =>
      cases e
      obtain ⟨v, h, r⟩ := q
      exact ⟨v, join_some.mp h, .inl r⟩
    | own x =>
      dsimp only at e
      split at e
      · rename_i l
        cases e
        obtain ⟨a, F, h, r, n⟩ := q
        obtain ⟨oc, rfl⟩ := r.leaf l
        exact ⟨_, join_some.mp h, .inr ⟨a, rfl, (n a List.mem_cons_self).1, oc⟩⟩
      · cases e
theorem Rep.p {K : PySem.W.Frag} {v : V} {d : PyData} (h : Rep K fz H v d) : RepP K fz H v d := .inl h
theorem RepP.lst {K : PySem.W.Frag} {v : V} {ds : List PyData} (h : RepP K fz H v (.list ds)) : ∃ a vs, v = .ref a ∧ H a = some (.lst vs) ∧ RepA K fz H vs ds := by
  rcases h with h | ⟨a, rfl, _, vs, e, r⟩
  · cases h with
    | lst h e r => exact ⟨_, _, rfl, e, r⟩
  · exact ⟨a, vs, rfl, e, r⟩
theorem RepP.tup {K : PySem.W.Frag} {v : V} {ds : List PyData} (h : RepP K fz H v (.tuple ds)) : ∃ a vs, v = .ref a ∧ SqT K H a vs ∧ RepA K fz H vs ds ∧ Rep K fz H v (.tuple ds) := by
  rcases h with h | ⟨a, rfl, _, z⟩
  · have h' := h
    cases h with
    | tup h r => exact ⟨_, _, rfl, h.sq, r, h'⟩
  · exact z.elim
theorem RepP.int {K : PySem.W.Frag} {v : V} {i : Int} (h : RepP K fz H v (.int i)) : v = .int i := by
  rcases h with h | ⟨a, rfl, _, z⟩
  · cases h; rfl
  · exact z.elim
theorem RepP.str {K : PySem.W.Frag} {v : V} {i : Str} (h : RepP K fz H v (.str i)) : v = .str i := by
  rcases h with h | ⟨a, rfl, _, z⟩
  · cases h; rfl
  · exact z.elim
theorem RepP.bl {K : PySem.W.Frag} {v : V} {i : Bool} (h : RepP K fz H v (.bool i)) : v = .bl i := by
  rcases h with h | ⟨a, rfl, _, z⟩
  · cases h; rfl
  · exact z.elim
theorem RepP.non {K : PySem.W.Frag} {v : V} (h : RepP K fz H v .none) : v = .non := by
  rcases h with h | ⟨a, rfl, _, z⟩
  · cases h; rfl
  · exact z.elim
theorem OwnC.dp {K : PySem.W.Frag} {a : Addr} {d : PyData} (h : OwnC K fz H a d) (s : d.canLay0 = true) : Dp K H (.ref a) d := by
  cases d with
  | list ds => obtain ⟨vs, e, r⟩ := h; exact .lst (SqL.of e) (r.dp (by simpa [PyData.canLay0] using s))
  | dict ds => simp [PyData.canLay0] at s
  | _ => exact h.elim
theorem RepP.dp {K : PySem.W.Frag} {v : V} {d : PyData} (h : RepP K fz H v d) (s : d.canLay0 = true) : Dp K H v d := by
  rcases h with h | ⟨a, rfl, _, z⟩
  · exact h.dp s
  · exact z.dp s

/-! ### operators -/
/-- an operator by values, whose result is a value -/
def OpF (K : PySem.W.Frag) (r : R2) (f : PyData → PyData → Option PyData) : Prop :=
  ∀ (fz : Addr → Prop) (H : Hp) (v w : V) (x y z : PyData), RepP K fz H v x → RepP K fz H w y → f x y = some z → ∀ Q : VK, (∀ u fz' H', Alc fz H fz' H' → ((∀ a, fz a → H a ≠ none) → Rep K fz' H' u z) → Q u H') → r v w H Q
def op2 (f : PyData → PyData → Option PyData) (a b : M PyData) : M PyData := bnd a fun x => bnd b fun y => lft (f x y)
/-- the left a name -/
def op2l (f : PyData → PyData → Option PyData) (i : Nat) (b : M PyData) : M PyData := fun ρ => match peek i ρ with
  | none => .bad
  | some _ => bnd b (fun y ρ' => match peek i ρ' with
    | none => .bad
    | some x => lft (f x y) ρ') ρ
/-- the right a name -/
def op2r (f : PyData → PyData → Option PyData) (a : M PyData) (j : Nat) : M PyData := bnd a fun x ρ' => match peek j ρ' with
  | none => .bad
  | some y => lft (f x y) ρ'
def op2b (f : PyData → PyData → Option PyData) (i j : Nat) : M PyData := fun ρ => match peek i ρ, peek j ρ with
  | some x, some y => lft (f x y) ρ
  | _, _ => .bad
theorem lft_post {Q : VK} {o : Option PyData} {t : VK → Prop} (R : Rel c.K pp pr fz σ H ρ) (h : PostG c pp pr σ (RV c.K) fz H (lft o ρ) Q)
    (k : ∀ z, o = some z → (∀ u fz' H', Alc fz H fz' H' → ((∀ a, fz a → H a ≠ none) → Rep c.K fz' H' u z) → Q u H') → t Q) : t Q := by
  cases o with
  | none => exact h.elim
  | some z => exact k z rfl fun u fz' H' A r => h u fz' H' (A.fr R) (A.rel R) (r R.fzH)
variable {r : R2} {f : PyData → PyData → Option PyData} {ta tb : TE} {ma mb : M PyData}
theorem rf_op2 (ho : OpF c.K r f) (ha : Rf c (RV c.K) ta ma) (hb : Rf c (RV c.K) tb mb) : Rf c (RV c.K) (tOp r ta tb) (op2 f ma mb) := by
  intro pp pr fz σ H ρ Q hp R hq
  refine ha pp pr fz σ H ρ _ hp R (hq.bnd fun v x fz1 H1 ρ1 F1 R1 r1 P1 => ?_)
  refine hb pp pr fz1 σ H1 ρ1 _ hp R1 (P1.bnd fun w y fz2 H2 ρ2 F2 R2 r2 P2 => ?_)
  exact lft_post (t := r v w H2) R2 P2 fun z e k => ho fz2 H2 v w x y z (.inl (Rep.ext F2.ext r1)) (.inl r2) e Q k
theorem rf_op2l {i : Nat} (ho : OpF c.K r f) (hb : Rf c (RV c.K) tb mb) : Rf c (RV c.K) (tOp r (tVar i) tb) (op2l f i mb) := by
  intro pp pr fz σ H ρ Q hp R hq
  unfold op2l at hq
  cases e : peek i ρ with
  | none => rw [e] at hq; exact hq.elim
  | some x0 =>
    rw [e] at hq
    obtain ⟨v, hv, _⟩ := R.peek e
    refine ⟨v, hv, ?_⟩
    refine hb pp pr fz σ H ρ _ hp R (hq.bnd fun w y fz1 H1 ρ1 F1 R1 r1 P1 => ?_)
    cases e1 : peek i ρ1 with
    | none => simp only [e1] at P1; exact P1.elim
    | some x =>
      simp only [e1] at P1
      obtain ⟨v', hv', rv⟩ := R1.peek e1
      rw [hv] at hv'
      cases hv'
      exact lft_post (t := r v w H1) R1 P1 fun z e k => ho fz1 H1 v w x y z rv (.inl r1) e Q k
theorem rf_op2r {j : Nat} (ho : OpF c.K r f) (ha : Rf c (RV c.K) ta ma) : Rf c (RV c.K) (tOp r ta (tVar j)) (op2r f ma j) := by
  intro pp pr fz σ H ρ Q hp R hq
  refine ha pp pr fz σ H ρ _ hp R (hq.bnd fun v x fz1 H1 ρ1 F1 R1 r1 P1 => ?_)
  cases e1 : peek j ρ1 with
  | none => simp only [e1] at P1; exact P1.elim
  | some y =>
    simp only [e1] at P1
    obtain ⟨w, hw, rw'⟩ := R1.peek e1
    refine ⟨w, hw, ?_⟩
    exact lft_post (t := r v w H1) R1 P1 fun z e k => ho fz1 H1 v w x y z (.inl r1) rw' e Q k
theorem rf_op2b {i j : Nat} (ho : OpF c.K r f) : Rf c (RV c.K) (tOp r (tVar i) (tVar j)) (op2b f i j) := by
  intro pp pr fz σ H ρ Q hp R hq
  unfold op2b at hq
  cases e : peek i ρ with
  | none => rw [e] at hq; exact hq.elim
  | some x =>
    cases e1 : peek j ρ with
    | none => rw [e, e1] at hq; exact hq.elim
    | some y =>
      simp only [e, e1] at hq
      obtain ⟨v, hv, rv⟩ := R.peek e
      obtain ⟨w, hw, rw'⟩ := R.peek e1
      refine ⟨v, hv, w, hw, ?_⟩
      exact lft_post (t := r v w H) R hq fun z e k => ho fz H v w x y z rv rw' e Q k
end
end PL

end
section
/-! PL3: the operators and built-ins by pure values. -/
namespace PL
open PySem PySem.Spec L2
open PyProof.Rows hiding St

/-! ### numbers, texts, tuples, lists -/
def lenOk (n : Nat) : Bool := decide (n ≤ 16777216)
theorem lenOk_iff {n : Nat} : lenOk n = true ↔ n ≤ sizeLine := by rw [sizeLine_eq]; simp [lenOk]
def add? : PyData → PyData → Option PyData
  | .int i, .int j => some (.int (i + j))
  | .str x, .str y => if lenOk (x.length + y.length) = true then some (.str (x ++ y)) else none
  | .tuple x, .tuple y => if lenOk (x.length + y.length) = true then some (.tuple (x ++ y)) else none
  | .list x, .list y => if lenOk (x.length + y.length) = true then some (.list (x ++ y)) else none
  | _, _ => none
def sub? : PyData → PyData → Option PyData
  | .int i, .int j => some (.int (i - j))
  | _, _ => none
def mulOk (i j : Int) : Bool := decide (i.natAbs < 2 ^ 64) || decide (j.natAbs < 2 ^ 64) || decide (i.natAbs.log2 + j.natAbs.log2 < 1000000)
def repOk (n : Nat) (k : Int) : Bool := decide (-(2 ^ 63) ≤ k) && decide (k < 2 ^ 63) && lenOk (n * k.toNat)
/-- a text times a number -/
def strRep (x : Str) (k : Int) : Str := if k < 1 then Str.empty else if (k == 1 || x.length == 0) = true then x else ⟨(List.replicate k.toNat x.cps).foldl (· ++ ·) #[]⟩
def mul? : PyData → PyData → Option PyData
  | .int i, .int j => if mulOk i j = true then some (.int (i * j)) else none
  | .list x, .int k => if repOk x.length k = true then some (.list (List.replicate k.toNat x).flatten) else none
  | .str x, .int k => if repOk x.length k = true then some (.str (strRep x k)) else none
  | .tuple x, .int k => if (!x.isEmpty && decide (1 ≤ k) && decide (k ≤ 1000) && decide (x.length ≤ 1000)) = true then some (.tuple (List.replicate k.toNat x).flatten) else none
  | _, _ => none
def fdiv? : PyData → PyData → Option PyData
  | .int i, .int j => if (decide (0 < j) && decide (j.natAbs.log2 < 9000)) = true then some (.int (i / j)) else none
  | _, _ => none
def mod? : PyData → PyData → Option PyData
  | .int i, .int j => if decide (0 < j) = true then some (.int (i % j)) else none
  | _, _ => none
def powOk (i j : Int) : Bool := decide (0 ≤ j) && decide ((Builtin.Int.intBits i : Int) * j ≤ 2 ^ 27)
def pow? : PyData → PyData → Option PyData
  | .int i, .int j => if powOk i j = true then some (.int (i ^ j.toNat)) else none
  | _, _ => none
def neg? : PyData → Option PyData
  | .int i => some (.int (-i))
  | _ => none
def cmpI? (p : Int → Int → Bool) : PyData → PyData → Option PyData
  | .int i, .int j => some (.bool (p i j))
  | _, _ => none
abbrev lt? := cmpI? fun i j => decide (i < j)
abbrev le? := cmpI? fun i j => decide (i ≤ j)
abbrev gt? := cmpI? fun i j => decide (j < i)
abbrev ge? := cmpI? fun i j => decide (j ≤ i)
def strD : PyData → Bool
  | .str _ => true
  | _ => false
def cmpOk (x y : PyData) : Bool := (strD x && strD y) || (SeqAt.shaped x && SeqAt.shaped y)
def eq? (x y : PyData) : Option PyData := if cmpOk x y = true then some (.bool (PyData.eqv x y)) else none
def ne? (x y : PyData) : Option PyData := if cmpOk x y = true then some (.bool (!PyData.eqv x y)) else none
def isNb : PyData → Bool
  | .none => true
  | _ => false
def isN? (x y : PyData) : Option PyData := match y with
  | .none => some (.bool (isNb x))
  | _ => none
def notN? (x y : PyData) : Option PyData := match y with
  | .none => some (.bool (!isNb x))
  | _ => none
def flatD : PyData → Bool
  | .none => true
  | .bool _ => true
  | .int _ => true
  | .str _ => true
  | _ => false
def in? (x y : PyData) : Option PyData := match y with
  | .list ds => if (flatD x && ds.all flatD) = true then some (.bool (ds.any fun z => PyData.eqv z x)) else if (SeqAt.shaped x && SeqAt.shaped (.list ds)) = true then some (.bool (ds.any fun z => PyData.eqv z x)) else none
  | .tuple ds => if (flatD x && ds.all flatD) = true then some (.bool (ds.any fun z => PyData.eqv z x)) else none
  | _ => none
def notB? (o : Option PyData) : Option PyData := match o with
  | some (.bool b) => some (.bool (!b))
  | _ => none
def notIn? (x y : PyData) : Option PyData := notB? (in? x y)
/-- an item -/
def item? (x i : PyData) : Option PyData := match x, i with
  | .list ds, .int k => atI ds k
  | .tuple ds, .int k => atI ds k
  | .str z, .int k => if lenOk z.length = true then (atI z.cps.toList k).map fun c => .str ⟨#[c]⟩ else none
  | _, _ => none
/-- a slice by ones -/
def cut {α : Type} (xs : List α) (lo hi : Option Int) : List α := (xs.drop (HT.sIx xs.length 0 lo)).take (HT.sIx xs.length xs.length hi - HT.sIx xs.length 0 lo)
def slice? (x : PyData) (lo hi : Option Int) : Option PyData := match x with
  | .list ds => some (.list (cut ds lo hi))
  | .tuple ds => some (.tuple (cut ds lo hi))
  | .str z => if lenOk z.length = true then some (.str (cutS z lo hi)) else none
  | _ => none
/-- truth -/
def truth? : PyData → Option Bool
  | .none => some false
  | .bool b => some b
  | .int i => some (i != 0)
  | .str x => if lenOk x.length = true then some ((x.length : Int) != 0) else none
  | .list ds => some (!ds.isEmpty)
  | .tuple ds => some (!ds.isEmpty)
  | .dict ds => some (!ds.isEmpty)
def asB? : PyData → Option Bool
  | .bool b => some b
  | _ => none
def ints? : List PyData → Option (List Int)
  | [] => some []
  | .int i :: r => (ints? r).map (i :: ·)
  | _ => none
def bools? : List PyData → Option (List Bool)
  | [] => some []
  | .bool i :: r => (bools? r).map (i :: ·)
  | _ => none
theorem ints_of : ∀ {ds : List PyData} {ns : List Int}, ints? ds = some ns → ds = ns.map PyData.int
  | [], ns, h => by cases h; rfl
  | d :: r, ns, h => by
    cases d with
    | int i =>
      simp only [ints?] at h
      cases e : ints? r with
      | none => rw [e] at h; cases h
      | some ms => rw [e] at h; cases h; rw [ints_of e]; rfl
    | _ => simp [ints?] at h
theorem bools_of : ∀ {ds : List PyData} {ns : List Bool}, bools? ds = some ns → ds = ns.map PyData.bool
  | [], ns, h => by cases h; rfl
  | d :: r, ns, h => by
    cases d with
    | bool i =>
      simp only [bools?] at h
      cases e : bools? r with
      | none => rw [e] at h; cases h
      | some ms => rw [e] at h; cases h; rw [bools_of e]; rfl
    | _ => simp [bools?] at h
theorem ints_map (ns : List Int) : ints? (ns.map PyData.int) = some ns := by
  induction ns with
  | nil => rfl
  | cons n r ih => simp [ints?, ih]
theorem bools_map (ns : List Bool) : bools? (ns.map PyData.bool) = some ns := by
  induction ns with
  | nil => rfl
  | cons n r ih => simp [bools?, ih]
def maxL : List Int → Int
  | [] => 0
  | [a] => a
  | a :: b :: r => max a (maxL (b :: r))
def minL : List Int → Int
  | [] => 0
  | [a] => a
  | a :: b :: r => min a (minL (b :: r))
theorem maxL_spec : ∀ (ns : List Int), ns ≠ [] → maxL ns ∈ ns ∧ ∀ y ∈ ns, y ≤ maxL ns
  | [], h => absurd rfl h
  | [a], _ => by simp [maxL]
  | a :: b :: r, _ => by
    obtain ⟨h1, h2⟩ := maxL_spec (b :: r) (by simp)
    simp only [maxL]
    refine ⟨?_, fun y hy => ?_⟩
    · rcases Int.le_total a (maxL (b :: r)) with h | h
      · rw [Int.max_eq_right h]; exact List.mem_cons_of_mem _ h1
      · rw [Int.max_eq_left h]; exact List.mem_cons_self
    · rcases List.mem_cons.mp hy with e | e
      · rw [e]; exact Int.le_max_left _ _
      · exact Int.le_trans (h2 y e) (Int.le_max_right _ _)
theorem minL_spec : ∀ (ns : List Int), ns ≠ [] → minL ns ∈ ns ∧ ∀ y ∈ ns, minL ns ≤ y
  | [], h => absurd rfl h
  | [a], _ => by simp [minL]
  | a :: b :: r, _ => by
    obtain ⟨h1, h2⟩ := minL_spec (b :: r) (by simp)
    simp only [minL]
    refine ⟨?_, fun y hy => ?_⟩
    · rcases Int.le_total a (minL (b :: r)) with h | h
      · rw [Int.min_eq_left h]; exact List.mem_cons_self
      · rw [Int.min_eq_right h]; exact List.mem_cons_of_mem _ h1
    · rcases List.mem_cons.mp hy with e | e
      · rw [e]; exact Int.min_le_left _ _
      · exact Int.le_trans (Int.min_le_right _ _) (h2 y e)

section
variable {K : PySem.W.Frag} {fz : Addr → Prop} {H : Hp}
theorem Alc.same {Q : VK} {u : V} {z : PyData} (r : Rep K fz H u z) (q : ∀ u fz' H', Alc fz H fz' H' → ((∀ a, fz a → H a ≠ none) → Rep K fz' H' u z) → Q u H') : Q u H := q u fz H Alc.refl fun _ => r
theorem alc_tup {Q : VK} {vs : List V} {ds : List PyData} (r : RepA K fz H vs ds) (q : ∀ u fz' H', Alc fz H fz' H' → ((∀ a, fz a → H a ≠ none) → Rep K fz' H' u (.tuple ds)) → Q u H') : ∀ p, H p = none → Q (.ref p) (upd H p (.tup vs)) := fun p hp =>
  q _ _ _ (Alc.one hp) fun hf => .tup (.inl ⟨.inr rfl, .inl upd_same⟩) (r.ext ((Alc.one hp).ext hf))
theorem alc_lst {Q : VK} {vs : List V} {ds : List PyData} (r : RepA K fz H vs ds) (q : ∀ u fz' H', Alc fz H fz' H' → ((∀ a, fz a → H a ≠ none) → Rep K fz' H' u (.list ds)) → Q u H') : ∀ p, H p = none → Q (.ref p) (upd H p (.lst vs)) := fun p hp =>
  q _ _ _ (Alc.one hp) fun hf => .lst (.inr rfl) upd_same (r.ext ((Alc.one hp).ext hf))

def rAdd (K : PySem.W.Frag) : R2 := fun x y H Q => rI0 (fun i j => .int (i + j)) x y H Q ∨ (∃ i j, x = .str i ∧ y = .str j ∧ i.length + j.length ≤ sizeLine ∧ Q (.str (i ++ j)) H) ∨ rCatA K x y H Q ∨ rCat x y H Q
theorem opr_add {X : Cx} : OpR X (binaryOp .Add) (rAdd X.K) := op_add.or (op_add_str.or (op_catA.or op_cat))
theorem RepA.nil_iff {vs : List V} {ds : List PyData} (r : RepA K fz H vs ds) : vs = [] ↔ ds = [] := by
  cases r with
  | nil => simp
  | cons _ _ => simp
theorem of_add : OpF K (rAdd K) add? := by
  intro fz H v w x y z hv hw e Q q
  unfold add? at e
  split at e
  · cases e; rw [hv.int, hw.int]; exact .inl ⟨_, _, rfl, rfl, Alc.same (.int _) q⟩
  · split at e
    · rename_i h
      cases e
      rw [hv.str, hw.str]; exact .inr (.inl ⟨_, _, rfl, rfl, lenOk_iff.mp h, Alc.same (.str _) q⟩)
    · cases e
  · split at e
    · rename_i h
      cases e
      obtain ⟨a, vs, rfl, sa, ra, ra'⟩ := hv.tup
      obtain ⟨b, ws, rfl, sb, rb, rb'⟩ := hw.tup
      refine .inr (.inr (.inl ⟨a, b, vs, ws, rfl, rfl, sa, sb, ?_, fun z => ?_, fun _ z => ?_, fun _ _ => alc_tup (ra.append rb) q⟩))
      · rw [ra.length, rb.length]; exact lenOk_iff.mp h
      · rw [ra.nil_iff] at z
        subst z
        exact Alc.same rb' q
      · rw [rb.nil_iff] at z
        subst z
        rw [List.append_nil] at q
        exact Alc.same ra' q
    · cases e
  · split at e
    · rename_i h
      cases e
      obtain ⟨a, vs, rfl, sa, ra⟩ := hv.lst
      obtain ⟨b, ws, rfl, sb, rb⟩ := hw.lst
      refine .inr (.inr (.inr ⟨a, b, vs, ws, rfl, rfl, sa, sb, ?_, alc_lst (ra.append rb) q⟩))
      rw [ra.length, rb.length]; exact lenOk_iff.mp h
    · cases e
  · cases e
def rSub : R2 := rI0 fun i j => .int (i - j)
theorem of_sub : OpF K rSub sub? := by
  intro fz H v w x y z hv hw e Q q
  unfold sub? at e
  split at e
  · cases e; rw [hv.int, hw.int]; exact ⟨_, _, rfl, rfl, Alc.same (.int _) q⟩
  · cases e
def rRepS : R2 := fun x y H Q => ∃ a k, x = .str a ∧ y = .int k ∧ repOk a.length k = true ∧ Q (.str (strRep a k)) H
/-- a tuple once -/
theorem tuple_mul1 (l : Addr) (items : Array Value) (n : Nat) (dd : Option Addr) (sl : Array (Option Value)) (u : Tok) :
    Meets (Builtin.«tuple.__mul__» ⟨[.ref l, .int 1 u], []⟩) (fun _ R s => s.heap.get? l = some { cls := .type "tuple", dict := dd, data := .seq items n, slots := sl } ∧ R (.ok (.ret (Value.ref l))) s) :=
  .of_wp fun prog w A R s h => by
    obtain ⟨hp, g, d, tk, os⟩ := s
    obtain ⟨hl, h⟩ := h
    have f1 := AutoSeq1.idx_int
    have c1 : (items.isEmpty || (1 : Int) == 1) = true := by simp
    wp_walk using wpAny_loadPart' hl
    repeat (first
      | (refine wpAny_ite_true (decide_eq_true (by rw [c1])) ?_; wp_walk using wpAny_loadPart' hl)
      | (refine wpAny_ite_true c1 ?_; wp_walk using wpAny_loadPart' hl))
    all_goals exact ⟨_, rfl, h⟩
def rRep1 (K : PySem.W.Frag) : R2 := fun x y H Q => ∃ l xs, x = .ref l ∧ y = .int 1 ∧ SqT K H l xs ∧ Q (.ref l) H
theorem op_rep1 {X : Cx} : OpR X (binaryOp .Mult) (rRep1 X.K) := by
  intro pins s σ H x y v u Q I rx ry h
  obtain ⟨l, xs, rfl, rfl, hT, q⟩ := h
  cases rx
  obtain ⟨t, rfl⟩ := ry
  obtain ⟨its, r, ⟨⟨cls, dd, data, sl⟩, ho, hc, n, hd⟩, hs⟩ := I.tuple hT
  simp only at hc hd
  subst hc hd
  exact wpAny_binaryOp_repeat_ref (T := "tuple") (U := "int") (by decide) ⟨_, ho, rfl⟩ (fun s' => typeIs_int s' 1 t) noFill_tuple_mul F.fills_int_mul F.slot_int_rmul repeat_tuple F.slot_int_index.lookup
    (call_meets F.slot_int_rmul (typeIs_int s 1 t) F.entry_int_rmul (F.args_int_rmul_2 _ _) (int_rmul_tuple 1 t l its.toArray n dd sl)
      ⟨ho, rfl, ⟨_, ho, rfl⟩, call_meets F.slot_tuple_mul ⟨_, ho, rfl⟩ F.entry_tuple_mul (F.args_tuple_mul_2 _ _) (tuple_mul1 l its.toArray n dd sl t) ⟨ho, ⟨.ref l, H, I, rfl, q⟩⟩⟩)
def rMul (K : PySem.W.Frag) : R2 := fun x y H Q => rI (fun i j => mulOk i j = true) (fun i j => .int (i * j)) x y H Q ∨ rRep x y H Q ∨ rRepS x y H Q ∨ rRep1 K x y H Q ∨ rRepT K x y H Q
theorem foldl_app_size {α : Type} (a : Array α) : ∀ (n : Nat) (z : Array α), ((List.replicate n a).foldl (· ++ ·) z).size = z.size + n * a.size
  | 0, z => by simp
  | n + 1, z => by
    rw [List.replicate_succ, List.foldl_cons, foldl_app_size a n, Array.size_append, Nat.succ_mul]
    omega
theorem op_repS {X : Cx} : OpR X (binaryOp .Mult) rRepS := by
  intro pins s σ H x y v u Q I rx ry h
  obtain ⟨a, k, rfl, rfl, hk, q⟩ := h
  obtain ⟨t, rfl⟩ := rx
  obtain ⟨t', rfl⟩ := ry
  unfold repOk at hk
  simp only [Bool.and_eq_true, decide_eq_true_eq] at hk
  obtain ⟨⟨h1, h2⟩, h3⟩ := hk
  have h4 : a.length * k.toNat ≤ sizeLine := lenOk_iff.mp h3
  have big : (sizeLine : Nat) ≤ 16777216 := by decide
  have e1 : (decide (k < -(2 ^ 63 : Int)) || decide (k ≥ 2 ^ 63)) = false := by
    rw [decide_eq_false (by omega), decide_eq_false (by omega)]; rfl
  have tl : Builtin.Str.tooLong (a.length * k.toNat) = false := by
    unfold Builtin.Str.tooLong
    exact decide_eq_false (by omega)
  refine PySem.P.mul_str e1 (fun n1 n2 z => ?_) (fun _ _ => tl) ?_
  · have hkp : 0 < k := by omega
    have z1 : (2 ^ 63 - 1) / k < (a.length : Int) := z
    have z2 : (2 ^ 63 - 1 : Int) < (a.length : Int) * k := by
      have := Int.lt_mul_of_ediv_lt hkp z1
      exact this
    have z3 : ((a.length * k.toNat : Nat) : Int) = (a.length : Int) * k := by
      rw [Int.natCast_mul, Int.toNat_of_nonneg (Int.le_of_lt hkp)]
    omega
  · unfold strRep at q
    split
    · rename_i h; rw [if_pos h] at q; exact ⟨by decide, ⟨.str _, H, I.tok _, ⟨_, rfl⟩, q⟩⟩
    · rename_i h
      rw [if_neg h] at q
      split
      · rename_i h'; rw [if_pos h'] at q; exact ⟨.str _, H, I, ⟨_, rfl⟩, q⟩
      · rename_i h'
        rw [if_neg h'] at q
        refine ⟨?_, ⟨.str _, H, I.tok _, ⟨_, rfl⟩, q⟩⟩
        show ((List.replicate k.toNat a.cps).foldl (· ++ ·) #[]).size ≤ sizeLine
        rw [foldl_app_size, Nat.mul_comm]
        show 0 + a.length * k.toNat ≤ sizeLine
        rw [Nat.zero_add]
        exact h4
theorem mulOk_ok {i j : Int} (h : mulOk i j = true) : IntMulOk i j := by
  unfold mulOk at h
  simp only [Bool.or_eq_true, decide_eq_true_eq] at h
  rcases h with (h | h) | h
  · exact CMul.ok (.inl ⟨by omega, by omega⟩)
  · exact CMul.ok (.inr ⟨by omega, by omega⟩)
  · exact CMulW.ok h
theorem opr_mul {X : Cx} : OpR X (binaryOp .Mult) (rMul X.K) := (opI fun _ _ _ _ _ _ _ hc q => mul_int q (mulOk_ok hc)).or (op_rep.or (op_repS.or (op_rep1.or op_repT)))
theorem RepA.rep {vs : List V} {ds : List PyData} (r : RepA K fz H vs ds) : ∀ k : Nat, RepA K fz H (List.replicate k vs).flatten (List.replicate k ds).flatten
  | 0 => .nil
  | k + 1 => by
    rw [List.replicate_succ, List.replicate_succ, List.flatten_cons, List.flatten_cons]
    exact r.append (RepA.rep r k)
theorem of_mul : OpF K (rMul K) mul? := by
  intro fz H v w x y z hv hw e Q q
  unfold mul? at e
  split at e
  · split at e
    · rename_i h
      cases e; rw [hv.int, hw.int]; exact .inl ⟨_, _, rfl, rfl, h, Alc.same (.int _) q⟩
    · cases e
  · split at e
    · rename_i h
      cases e
      obtain ⟨a, vs, rfl, sa, ra⟩ := hv.lst
      unfold repOk at h
      simp only [Bool.and_eq_true, decide_eq_true_eq] at h
      rw [hw.int]
      exact .inr (.inl ⟨a, _, vs, rfl, rfl, sa, h.1.1, h.1.2, by rw [ra.length]; exact lenOk_iff.mp h.2, alc_lst (ra.rep _) q⟩)
    · cases e
  · split at e
    · rename_i h
      cases e
      rw [hv.str, hw.int]
      exact .inr (.inr (.inl ⟨_, _, rfl, rfl, h, Alc.same (.str _) q⟩))
    · cases e
  · rename_i ds k
    split at e
    · rename_i h
      cases e
      obtain ⟨a, vs, rfl, sa, ra, ra'⟩ := hv.tup
      rw [hw.int]
      simp only [Bool.and_eq_true, decide_eq_true_eq, Bool.not_eq_true', List.isEmpty_eq_false_iff] at h
      obtain ⟨⟨⟨h0, h1⟩, h2⟩, h3⟩ := h
      by_cases hk : k = 1
      · subst hk
        refine .inr (.inr (.inr (.inl ⟨a, vs, rfl, rfl, sa, ?_⟩)))
        have e1 : (List.replicate (1 : Int).toNat ds).flatten = ds := by
          show (List.replicate 1 ds).flatten = ds
          simp
        rw [e1] at q
        exact Alc.same ra' q
      · refine .inr (.inr (.inr (.inr ⟨a, _, vs, rfl, rfl, sa, fun e => h0 (ra.nil_iff.mp e), by omega, h2, by rw [ra.length]; exact h3, alc_tup (ra.rep _) q⟩)))
    · cases e
  · cases e
def rFdiv : R2 := rI CDivW fun i j => .int (i / j)
theorem of_fdiv : OpF K rFdiv fdiv? := by
  intro fz H v w x y z hv hw e Q q
  unfold fdiv? at e
  split at e
  · split at e
    · rename_i h
      simp only [Bool.and_eq_true, decide_eq_true_eq] at h
      cases e; rw [hv.int, hw.int]; exact ⟨_, _, rfl, rfl, h, Alc.same (.int _) q⟩
    · cases e
  · cases e
def rMod : R2 := rI (fun _ j => 0 < j) fun i j => .int (i % j)
theorem of_mod : OpF K rMod mod? := by
  intro fz H v w x y z hv hw e Q q
  unfold mod? at e
  split at e
  · split at e
    · rename_i h
      simp only [decide_eq_true_eq] at h
      cases e; rw [hv.int, hw.int]; exact ⟨_, _, rfl, rfl, h, Alc.same (.int _) q⟩
    · cases e
  · cases e
def rPow : R2 := rI (fun i j => powOk i j = true) fun i j => .int (i ^ j.toNat)
theorem opr_pow {X : Cx} : OpR X (binaryOp .Pow) rPow := opI fun i j _ _ _ _ _ hc q => by
  unfold powOk at hc
  simp only [Bool.and_eq_true, decide_eq_true_eq] at hc
  exact pow_int hc.1 hc.2 q
theorem of_pow : OpF K rPow pow? := by
  intro fz H v w x y z hv hw e Q q
  unfold pow? at e
  split at e
  · split at e
    · rename_i h
      cases e; rw [hv.int, hw.int]; exact ⟨_, _, rfl, rfl, h, Alc.same (.int _) q⟩
    · cases e
  · cases e
theorem of_cmpI (p : Int → Int → Bool) : OpF K (rI0 fun i j => .bl (p i j)) (cmpI? p) := by
  intro fz H v w x y z hv hw e Q q
  unfold cmpI? at e
  split at e
  · cases e; rw [hv.int, hw.int]; exact ⟨_, _, rfl, rfl, Alc.same (.bl _) q⟩
  · cases e
theorem strD_eq {x : PyData} (h : strD x = true) : ∃ a, x = .str a := by
  cases x <;> first | (cases h; done) | exact ⟨_, rfl⟩
theorem dec_strV {a b : Str} : decide (V.str a = V.str b) = PyData.eqv (.str a) (.str b) := by
  rw [dec_str]; simp [PyData.eqv]
def rEqA (K : PySem.W.Frag) : R2 := fun x y H Q => rEq x y H Q ∨ rEqD K x y H Q
def rNeA (K : PySem.W.Frag) : R2 := fun x y H Q => rNe x y H Q ∨ rNeD K x y H Q
theorem opr_eq {X : Cx} (hu : X.A.units + 64 < cLine) : OpR X (compareOp .Eq) (rEqA X.K) := op_eq.or (op_eqD hu)
theorem opr_ne {X : Cx} (hu : X.A.units + 64 < cLine) : OpR X (compareOp .NotEq) (rNeA X.K) := op_ne.or (op_neD hu)
theorem of_eq : OpF K (rEqA K) eq? := by
  intro fz H v w x y z hv hw e Q q
  unfold eq? at e
  split at e
  · rename_i h
    cases e
    simp only [cmpOk, Bool.or_eq_true, Bool.and_eq_true] at h
    rcases h with h | h
    · obtain ⟨a, rfl⟩ := strD_eq h.1
      obtain ⟨b, rfl⟩ := strD_eq h.2
      rw [hv.str, hw.str]
      refine .inl ⟨rfl, ?_⟩
      rw [dec_strV]
      exact Alc.same (.bl _) q
    · exact .inr ⟨x, y, hv.dp (SeqAt.canLay_of_shaped h.1), hw.dp (SeqAt.canLay_of_shaped h.2), h.1, h.2, Alc.same (.bl _) q⟩
  · cases e
theorem of_ne : OpF K (rNeA K) ne? := by
  intro fz H v w x y z hv hw e Q q
  unfold ne? at e
  split at e
  · rename_i h
    cases e
    simp only [cmpOk, Bool.or_eq_true, Bool.and_eq_true] at h
    rcases h with h | h
    · obtain ⟨a, rfl⟩ := strD_eq h.1
      obtain ⟨b, rfl⟩ := strD_eq h.2
      rw [hv.str, hw.str]
      refine .inl ⟨rfl, ?_⟩
      rw [dec_strV]
      exact Alc.same (.bl _) q
    · exact .inr ⟨x, y, hv.dp (SeqAt.canLay_of_shaped h.1), hw.dp (SeqAt.canLay_of_shaped h.2), h.1, h.2, Alc.same (.bl _) q⟩
  · cases e
theorem RepP.isNon {v : V} {x : PyData} (h : RepP K fz H v x) : decide (v = .non) = isNb x := by
  rcases h with h | ⟨a, rfl, _, z⟩
  · cases h <;> simp [isNb]
  · cases x <;> first | exact z.elim | simp [isNb]
def rIsN : R2 := fun x y H Q => y = .non ∧ Q (.bl (decide (x = .non))) H
def rNotN : R2 := fun x y H Q => y = .non ∧ Q (.bl (!decide (x = .non))) H
theorem of_isN : OpF K rIsN isN? := by
  intro fz H v w x y z hv hw e Q q
  unfold isN? at e
  split at e
  · cases e
    refine ⟨hw.non, ?_⟩
    rw [hv.isNon]
    exact Alc.same (.bl _) q
  · cases e
theorem of_notN : OpF K rNotN notN? := by
  intro fz H v w x y z hv hw e Q q
  unfold notN? at e
  split at e
  · cases e
    refine ⟨hw.non, ?_⟩
    rw [hv.isNon]
    exact Alc.same (.bl _) q
  · cases e
theorem RepP.flat {v : V} {x : PyData} (h : RepP K fz H v x) (f : flatD x = true) : Rep K fz H v x ∧ flatV v = true := by
  rcases h with h | ⟨a, rfl, _, z⟩
  · refine ⟨h, ?_⟩
    cases h <;> first | rfl | cases f
  · cases x <;> first | exact z.elim | cases f
theorem eqV_eqv {v w : V} {x y : PyData} (h : Rep K fz H v x) (h' : Rep K fz H w y) (f : flatD x = true) (g : flatD y = true) : eqV v w = PyData.eqv x y := by
  cases h <;> first | (cases f; done) | (cases h' <;> first | (cases g; done) | simp [eqV, PyData.eqv])
theorem any_eqV {w : V} {y : PyData} (h' : Rep K fz H w y) (g : flatD y = true) : ∀ {vs : List V} {ds : List PyData}, RepA K fz H vs ds → ds.all flatD = true → vs.all flatV = true ∧ inV w vs = ds.any fun z => PyData.eqv z y
  | _, _, .nil, _ => ⟨rfl, rfl⟩
  | _, _, .cons h r, f => by
    rw [List.all_cons, Bool.and_eq_true] at f
    obtain ⟨h1, h2⟩ := any_eqV h' g r f.2
    refine ⟨by rw [List.all_cons, (RepP.flat (.inl h) f.1).2, h1]; rfl, ?_⟩
    unfold inV at h2 ⊢
    rw [List.any_cons, List.any_cons, h2, eqV_eqv h h' f.1 g]
def rInA (K : PySem.W.Frag) : R2 := fun x y H Q => rIn K false x y H Q ∨ rInD K x y H Q
def rNotInA (K : PySem.W.Frag) : R2 := fun x y H Q => rIn K true x y H Q ∨ rNotInD K x y H Q
theorem opr_in {X : Cx} (hu : X.A.units + 65 < cLine) : OpR X (compareOp .In) (rInA X.K) := op_in_seq.or (op_inD hu)
theorem opr_notIn {X : Cx} (hu : X.A.units + 65 < cLine) : OpR X (compareOp .NotIn) (rNotInA X.K) := op_notIn_seq.or (op_notInD hu)
theorem in_both {v w : V} {x y z : PyData} (hv : RepP K fz H v x) (hw : RepP K fz H w y) (e : in? x y = some z) : ∃ b, z = .bool b ∧
    ∀ Q : VK, Q (.bl b) H → rInA K v w H Q := by
  unfold in? at e
  split at e
  · split at e
    · rename_i h
      cases e
      rw [Bool.and_eq_true] at h
      obtain ⟨a, vs, rfl, sa, ra⟩ := hw.lst
      obtain ⟨rx, fx⟩ := hv.flat h.1
      obtain ⟨h1, h2⟩ := any_eqV rx h.1 ra h.2
      refine ⟨_, rfl, fun Q q => .inl ⟨a, vs, rfl, .inl (SqL.of sa), fx, h1, ?_⟩⟩
      rw [h2]; exact q
    · split at e
      · rename_i h
        cases e
        rw [Bool.and_eq_true] at h
        exact ⟨_, rfl, fun Q q => .inr ⟨x, _, hv.dp (SeqAt.canLay_of_shaped h.1), hw.dp (SeqAt.canLay_of_shaped h.2), h.1, h.2, q⟩⟩
      · cases e
  · split at e
    · rename_i h
      cases e
      rw [Bool.and_eq_true] at h
      obtain ⟨a, vs, rfl, sa, ra, _⟩ := hw.tup
      obtain ⟨rx, fx⟩ := hv.flat h.1
      obtain ⟨h1, h2⟩ := any_eqV rx h.1 ra h.2
      refine ⟨_, rfl, fun Q q => .inl ⟨a, vs, rfl, .inr sa, fx, h1, ?_⟩⟩
      rw [h2]; exact q
    · cases e
  · cases e
theorem of_in : OpF K (rInA K) in? := by
  intro fz H v w x y z hv hw e Q q
  obtain ⟨b, rfl, h⟩ := in_both hv hw e
  exact h Q (Alc.same (.bl _) q)
theorem of_notIn : OpF K (rNotInA K) notIn? := by
  intro fz H v w x y z hv hw e Q q
  unfold notIn? notB? at e
  split at e
  · rename_i b h
    cases e
    obtain ⟨b', e', h⟩ := in_both hv hw h
    cases e'
    rcases h (fun u H' => u = .bl b ∧ H' = H) ⟨rfl, rfl⟩ with ⟨p, xs, h1, h2, h3, h4, h5⟩ | ⟨d, ds, h1, h2, h3, h4, h5⟩
    · refine .inl ⟨p, xs, h1, h2, h3, h4, ?_⟩
      have e5 : inV v xs = b := by have := h5.1; simp at this; exact this
      rw [if_pos rfl, e5]
      exact Alc.same (.bl _) q
    · refine .inr ⟨d, ds, h1, h2, h3, h4, ?_⟩
      have e5 : (ds.any fun z => PyData.eqv z d) = b := by have := h5.1; simp only [V.bl.injEq] at this; exact this
      rw [e5]
      exact Alc.same (.bl _) q
  · cases e
theorem RepA.atI {vs : List V} {ds : List PyData} {k : Int} {z : PyData} (r : RepA K fz H vs ds) (e : atI ds k = some z) : ∃ v, atI vs k = some v ∧ Rep K fz H v z := by
  unfold L2.atI at e ⊢
  rw [r.length]
  cases h : ixN ds.length k with
  | none => rw [h] at e; cases e
  | some j =>
    rw [h] at e
    exact r.get e
theorem of_item : OpF K (rIx K) item? := by
  intro fz H v w x y z hv hw e Q q
  unfold item? at e
  split at e
  · obtain ⟨a, vs, rfl, sa, ra⟩ := hv.lst
    obtain ⟨u, h, ru⟩ := ra.atI e
    rw [hw.int]
    exact .inl ⟨a, vs, _, u, rfl, rfl, SqL.of sa, h, Alc.same ru q⟩
  · obtain ⟨a, vs, rfl, sa, ra, _⟩ := hv.tup
    obtain ⟨u, h, ru⟩ := ra.atI e
    rw [hw.int]
    exact .inr (.inl ⟨a, vs, _, u, rfl, rfl, sa, h, Alc.same ru q⟩)
  · split at e
    · rename_i zz k h
      cases e1 : L2.atI zz.cps.toList k with
      | none => rw [e1] at e; cases e
      | some c =>
        rw [e1] at e
        cases e
        rw [hw.int, hv.str]
        exact .inr (.inr ⟨zz, k, c, rfl, rfl, lenOk_iff.mp h, e1, Alc.same (.str _) q⟩)
    · cases e
  · cases e
theorem RepA.cut {vs : List V} {ds : List PyData} (r : RepA K fz H vs ds) (lo hi : Option Int) : RepA K fz H (cutV vs lo hi) (cut ds lo hi) := by
  unfold cutV PL.cut
  rw [r.length]
  exact (r.drop _).take _
def rSl (K : PySem.W.Frag) : V → Option Int → Option Int → Hp → VK → Prop := fun x lo hi H Q => rSlL K x lo hi H Q ∨ rSlA K x lo hi H Q ∨ rSlS x lo hi H Q
theorem slr_any {X : Cx} : L2.SlR X (rSl X.K) := sl_list.or (sl_tupA.or sl_str)
theorem of_slice {v : V} {x z : PyData} {lo hi : Option Int} (hv : RepP K fz H v x) (e : slice? x lo hi = some z) (Q : VK) (q : ∀ u fz' H', Alc fz H fz' H' → ((∀ a, fz a → H a ≠ none) → Rep K fz' H' u z) → Q u H') : rSl K v lo hi H Q := by
  unfold slice? at e
  split at e
  · cases e
    obtain ⟨a, vs, rfl, sa, ra⟩ := hv.lst
    exact .inl ⟨a, vs, rfl, SqL.of sa, alc_lst (ra.cut lo hi) q⟩
  · cases e
    obtain ⟨a, vs, rfl, sa, ra, ra'⟩ := hv.tup
    refine .inr (.inl ⟨a, vs, rfl, sa, fun h => ?_, fun h => alc_tup (ra.cut lo hi) q⟩)
    rename_i ds
    have ec : PL.cut ds lo hi = ds := by
      unfold PL.cut
      rw [← ra.length, h.1, h.2, ra.length]
      simp
    rw [ec] at q
    exact Alc.same ra' q
  · split at e
    · rename_i h
      cases e
      rw [hv.str]
      exact .inr (.inr ⟨_, rfl, lenOk_iff.mp h, Alc.same (.str _) q⟩)
    · cases e
  · cases e
theorem RepP.tru {v : V} {x : PyData} {b : Bool} (h : RepP K fz H v x) (e : truth? x = some b) : TruV K v H b := by
  have emp : ∀ {vs : List V} {ds : List PyData}, RepA K fz H vs ds → (!vs.isEmpty) = !ds.isEmpty := fun r => by cases r <;> rfl
  have empK : ∀ {vs : List (Key × V)} {ds : List (PyData × PyData)}, RepK K fz H vs ds → (!vs.isEmpty) = !ds.isEmpty := fun r => by cases r <;> rfl
  cases x with
  | none => cases e; rw [h.non]; exact rfl
  | bool k => cases e; rw [h.bl]; exact rfl
  | int i => cases e; rw [h.int]; exact rfl
  | str y =>
    simp only [truth?] at e
    split at e
    · rename_i hl
      cases e
      rw [h.str]; exact ⟨lenOk_iff.mp hl, rfl⟩
    · cases e
  | list ds =>
    cases e
    obtain ⟨a, vs, rfl, sa, ra⟩ := h.lst
    exact .inl ⟨vs, SqL.of sa, (emp ra).symm⟩
  | tuple ds =>
    cases e
    obtain ⟨a, vs, rfl, sa, ra, _⟩ := h.tup
    exact .inr (.inl ⟨vs, sa, (emp ra).symm⟩)
  | dict ds =>
    cases e
    rcases h with h | ⟨a, rfl, _, kvs, z, r⟩
    · cases h with
      | dic h e r => exact .inr (.inr ⟨_, e, (empK r).symm⟩)
    · exact .inr (.inr ⟨kvs, z, (empK r).symm⟩)
end
end PL

end
section
/-! PL4: tests, displays, slices, calls of built-ins, what is walked, targets, comprehensions. -/
namespace PL
open PySem PySem.Spec L2
open PyProof.Rows hiding St

section
variable {c : Cw} {pp : List (Nat × Addr)} {pr fz : Addr → Prop} {σ : L2.St} {H : Hp} {ρ : Env}

/-! ### tests -/
def asB (m : M PyData) : M Bool := bnd m fun d => lft (asB? d)
def trB (m : M PyData) : M Bool := bnd m fun d => lft (truth? d)
def trBp (i : Nat) : M Bool := fun ρ => match peek i ρ with
  | some d => lft (truth? d) ρ
  | none => .bad
def mand (a b : M Bool) : M Bool := bnd a fun k => if k = true then b else fun ρ => .ok false ρ
def mor (a b : M Bool) : M Bool := bnd a fun k => if k = true then fun ρ => .ok true ρ else b
def mnot (a : M Bool) : M Bool := bnd a fun k ρ => .ok (!k) ρ
def mif {α : Type} (t : M Bool) (a b : M α) : M α := bnd t fun k => if k = true then a else b
def ofB (m : M Bool) : M PyData := bnd m fun b ρ => .ok (.bool b) ρ
theorem lftB_post {α β : Type} {R : RT α β} {Q : β → Hp → Prop} {o : Option α} (h : PostG c pp pr σ R fz H (lft o ρ) Q) : ∃ z, o = some z ∧ PostG c pp pr σ R fz H (.ok z ρ) Q := by
  cases o with
  | none => exact h.elim
  | some z => exact ⟨z, rfl, h⟩
theorem ok_post {α β : Type} {R : RT α β} {Q : β → Hp → Prop} {a : α} {b : β} (h : PostG c pp pr σ R fz H (.ok a ρ) Q) (R1 : Rel c.K pp pr fz σ H ρ) (r : R pr σ fz H ρ b a) : Q b H := h b fz H Fr.refl R1 r
theorem alc_post {α β : Type} {R : RT α β} {Q : β → Hp → Prop} {a : α} {b : β} {fz' : Addr → Prop} {H' : Hp} (h : PostG c pp pr σ R fz H (.ok a ρ) Q) (R1 : Rel c.K pp pr fz σ H ρ) (A : Alc fz H fz' H') (r : R pr σ fz' H' ρ b a) : Q b H' := h b fz' H' (A.fr R1) (A.rel R1) r
variable {te ta tb : TE} {t u : TT} {m ma mb : M PyData} {ka kb : M Bool}
theorem rf_tB (h : Rf c (RV c.K) te m) : Rf c RB (tB te) (asB m) := by
  intro pp pr fz σ H ρ Q hp R hq
  refine h pp pr fz σ H ρ _ hp R (hq.bnd fun v x fz1 H1 ρ1 F1 R1 r1 P1 => ?_)
  obtain ⟨z, e, P1⟩ := lftB_post P1
  cases x <;> first | (cases e; done) | skip
  cases e
  cases r1
  exact ⟨_, rfl, ok_post P1 R1 rfl⟩
theorem rf_tTest (h : Rf c (RV c.K) te m) : Rf c RB (tTest te) (asB m) := rf_tB h
theorem rf_tru (h : Rf c (RV c.K) te m) : Rf c RB (fun σ H Q => te σ H fun x H' => ∃ k, TruV c.K x H' k ∧ Q k H') (trB m) := by
  intro pp pr fz σ H ρ Q hp R hq
  refine h pp pr fz σ H ρ _ hp R (hq.bnd fun v x fz1 H1 ρ1 F1 R1 r1 P1 => ?_)
  obtain ⟨z, e, P1⟩ := lftB_post P1
  exact ⟨z, RepP.tru (.inl r1) e, ok_post P1 R1 rfl⟩
theorem rf_trup {i : Nat} : Rf c RB (fun σ H Q => tVar i σ H fun x H' => ∃ k, TruV c.K x H' k ∧ Q k H') (trBp i) := by
  intro pp pr fz σ H ρ Q hp R hq
  unfold trBp at hq
  cases e : peek i ρ with
  | none => rw [e] at hq; exact hq.elim
  | some d =>
    simp only [e] at hq
    obtain ⟨v, hv, rv⟩ := R.peek e
    obtain ⟨z, e2, P1⟩ := lftB_post hq
    exact ⟨v, hv, z, rv.tru e2, ok_post P1 R rfl⟩
theorem rf_and (h : Rf c RB t ka) (h2 : Rf c RB u kb) : Rf c RB (tAnd t u) (mand ka kb) := by
  intro pp pr fz σ H ρ Q hp R hq
  refine h pp pr fz σ H ρ _ hp R (hq.bnd fun v x fz1 H1 ρ1 F1 R1 r1 P1 => ?_)
  obtain rfl : v = x := r1
  cases v with
  | true => exact h2 pp pr fz1 σ H1 ρ1 Q hp R1 P1
  | false => exact ok_post P1 R1 rfl
theorem rf_or (h : Rf c RB t ka) (h2 : Rf c RB u kb) : Rf c RB (tOr t u) (mor ka kb) := by
  intro pp pr fz σ H ρ Q hp R hq
  refine h pp pr fz σ H ρ _ hp R (hq.bnd fun v x fz1 H1 ρ1 F1 R1 r1 P1 => ?_)
  obtain rfl : v = x := r1
  cases v with
  | false => exact h2 pp pr fz1 σ H1 ρ1 Q hp R1 P1
  | true => exact ok_post P1 R1 rfl
theorem rf_not (h : Rf c RB t ka) : Rf c RB (tNot t) (mnot ka) := by
  intro pp pr fz σ H ρ Q hp R hq
  refine h pp pr fz σ H ρ _ hp R (hq.bnd fun v x fz1 H1 ρ1 F1 R1 r1 P1 => ?_)
  obtain rfl : v = x := r1
  exact ok_post P1 R1 rfl
/-- and, or, not as values of bools -/
def mandV (a : M PyData) (b : M PyData) : M PyData := bnd (asB a) fun k => if k = true then b else fun ρ => .ok (.bool false) ρ
def morV (a : M PyData) (b : M PyData) : M PyData := bnd (asB a) fun k => if k = true then (fun ρ => .ok (.bool true) ρ) else b
def mnotV (a : M PyData) : M PyData := bnd (asB a) fun k ρ => .ok (.bool (!k)) ρ
theorem rf_andV (h : Rf c (RV c.K) ta ma) (h2 : Rf c (RV c.K) tb mb) : Rf c (RV c.K) (tAndV ta tb) (mandV ma mb) := by
  intro pp pr fz σ H ρ Q hp R hq
  refine rf_tB h pp pr fz σ H ρ (fun k H1 => if k = true then tb σ H1 Q else Q (.bl false) H1) hp R (hq.bnd fun v x fz1 H1 ρ1 F1 R1 r1 P1 => ?_)
  obtain rfl : v = x := r1
  cases v with
  | true => exact h2 pp pr fz1 σ H1 ρ1 Q hp R1 P1
  | false => exact ok_post P1 R1 (Rep.bl false)
theorem rf_orV (h : Rf c (RV c.K) ta ma) (h2 : Rf c (RV c.K) tb mb) : Rf c (RV c.K) (tOrV ta tb) (morV ma mb) := by
  intro pp pr fz σ H ρ Q hp R hq
  refine rf_tB h pp pr fz σ H ρ (fun k H1 => if k = true then Q (.bl true) H1 else tb σ H1 Q) hp R (hq.bnd fun v x fz1 H1 ρ1 F1 R1 r1 P1 => ?_)
  obtain rfl : v = x := r1
  cases v with
  | false => exact h2 pp pr fz1 σ H1 ρ1 Q hp R1 P1
  | true => exact ok_post P1 R1 (Rep.bl true)
theorem rf_notV (h : Rf c (RV c.K) ta ma) : Rf c (RV c.K) (tNotV ta) (mnotV ma) := by
  intro pp pr fz σ H ρ Q hp R hq
  refine rf_tB h pp pr fz σ H ρ (fun k H1 => Q (.bl (!k)) H1) hp R (hq.bnd fun v x fz1 H1 ρ1 F1 R1 r1 P1 => ?_)
  obtain rfl : v = x := r1
  exact ok_post P1 R1 (Rep.bl _)
theorem rf_ifE {R0 : RT PyData V} (h : Rf c RB t ka) (ha : Rf c R0 ta ma) (hb : Rf c R0 tb mb) : Rf c R0 (tIf t ta tb) (mif ka ma mb) := by
  intro pp pr fz σ H ρ Q hp R hq
  refine h pp pr fz σ H ρ _ hp R (hq.bnd fun v x fz1 H1 ρ1 F1 R1 r1 P1 => ?_)
  obtain rfl : v = x := r1
  cases v with
  | true => exact ha pp pr fz1 σ H1 ρ1 Q hp R1 P1
  | false => exact hb pp pr fz1 σ H1 ρ1 Q hp R1 P1
/-- -a -/
def mneg (m : M PyData) : M PyData := bnd m fun d => lft (neg? d)
theorem rf_neg (h : Rf c (RV c.K) te m) : Rf c (RV c.K) (tUn (rU fun i => .int (-i)) te) (mneg m) := by
  intro pp pr fz σ H ρ Q hp R hq
  refine h pp pr fz σ H ρ _ hp R (hq.bnd fun v x fz1 H1 ρ1 F1 R1 r1 P1 => ?_)
  obtain ⟨z, e, P1⟩ := lftB_post P1
  cases x <;> first | (cases e; done) | skip
  cases e
  cases r1
  exact ⟨_, rfl, ok_post P1 R1 (Rep.int _)⟩
/-- a op b op' d -/
def mchain (f g : PyData → PyData → Option PyData) (a b d : M PyData) : M PyData := bnd a fun x => bnd b fun y => bnd (lft (f x y)) fun z => bnd (lft (asB? z)) fun k =>
  if k = true then bnd d fun w => lft (g y w) else fun ρ => .ok (.bool false) ρ
theorem rf_chain {r r' : R2} {f g : PyData → PyData → Option PyData} {td : TE} {md : M PyData} (ho : OpF c.K r f) (ho' : OpF c.K r' g) (ha : Rf c (RV c.K) ta ma) (hb : Rf c (RV c.K) tb mb) (hd : Rf c (RV c.K) td md) :
    Rf c (RV c.K) (tChain r r' ta tb td) (mchain f g ma mb md) := by
  intro pp pr fz σ H ρ Q hp R hq
  refine ha pp pr fz σ H ρ _ hp R (hq.bnd fun v x fz1 H1 ρ1 F1 R1 r1 P1 => ?_)
  refine hb pp pr fz1 σ H1 ρ1 _ hp R1 (P1.bnd fun w y fz2 H2 ρ2 F2 R2 r2 P2 => ?_)
  unfold PL.bnd at P2
  cases e : f x y with
  | none => rw [e] at P2; exact P2.elim
  | some z =>
    rw [e] at P2
    simp only [lft] at P2
    refine ho fz2 H2 v w x y z (.inl (Rep.ext F2.ext r1)) (.inl r2) e _ fun u fz3 H3 A rz => ?_
    have P3 := P2.rest (A.fr R2)
    have R3 := A.rel R2
    have rz := rz R2.fzH
    cases z <;> first | (simp only [asB?] at P3; exact P3.elim) | skip
    rename_i k rz0
    have eu : u = .bl k := by cases rz; rfl
    subst eu
    refine ⟨k, rfl, ?_⟩
    cases k with
    | true =>
      rw [if_pos rfl]
      refine hd pp pr fz3 σ H3 ρ2 _ hp R3 (PostG.bnd (f := fun w => lft (g y w)) P3 fun q x4 fz4 H4 ρ4 F4 R4 r4 P4 => ?_)
      exact lft_post (t := fun Q => r' w q H4 Q) R4 P4 fun z e k => ho' fz4 H4 w q y x4 z (.inl (Rep.ext F4.ext (Rep.ext (A.fr R2).ext r2))) (.inl r4) e Q k
    | false =>
      rw [if_neg (by simp)]
      exact ok_post P3 R3 (Rep.bl false)

/-! ### argument lists, displays -/
def anil : M (List PyData) := fun ρ => .ok [] ρ
def acons (a : M PyData) (r : M (List PyData)) : M (List PyData) := bnd a fun x => bnd r fun xs ρ => .ok (x :: xs) ρ
theorem rf_nil : Rf c (RVs c.K) tNil anil := fun pp pr fz σ H ρ Q hp R hq => ok_post hq R .nil
theorem rf_cons {tr : TA} {mr : M (List PyData)} (ha : Rf c (RV c.K) ta ma) (hr : Rf c (RVs c.K) tr mr) : Rf c (RVs c.K) (tCons ta tr) (acons ma mr) := by
  intro pp pr fz σ H ρ Q hp R hq
  refine ha pp pr fz σ H ρ _ hp R (hq.bnd fun v x fz1 H1 ρ1 F1 R1 r1 P1 => ?_)
  refine hr pp pr fz1 σ H1 ρ1 _ hp R1 (P1.bnd fun w y fz2 H2 ρ2 F2 R2 r2 P2 => ?_)
  exact ok_post P2 R2 (.cons (Rep.ext F2.ext r1) r2)
def mtup (a : M (List PyData)) : M PyData := bnd a fun ds ρ => if lenOk ds.length = true then .ok (.tuple ds) ρ else .bad
def mlst (a : M (List PyData)) : M PyData := bnd a fun ds ρ => if lenOk ds.length = true then .ok (.list ds) ρ else .bad
variable {tas : TA} {mas : M (List PyData)}
theorem rf_tup (ha : Rf c (RVs c.K) tas mas) : Rf c (RV c.K) (tTup tas) (mtup mas) := by
  intro pp pr fz σ H ρ Q hp R hq
  refine ha pp pr fz σ H ρ _ hp R (hq.bnd fun v x fz1 H1 ρ1 F1 R1 r1 P1 => ?_)
  by_cases h : lenOk x.length = true
  · rw [if_pos h] at P1
    refine ⟨by rw [RepA.length r1]; exact lenOk_iff.mp h, alc_tup r1 fun u fz' H' A r => alc_post P1 R1 A (r R1.fzH)⟩
  · rw [if_neg h] at P1; exact P1.elim
/-- a new object that no slot holds -/
theorem ro_new {Q : VK} {p : Addr} {H' : Hp} {z : PyData} (R : Rel c.K pp pr fz σ H ρ) (hp : H p = none) (hk : ∀ a, a ≠ p → H' a = H a) (oc : OwnC c.K fz H' p z) (h : PostG c pp pr σ (RO c.K) fz H (.ok z ρ) Q) : Q (.ref p) H' := by
  have A : Alc fz H fz H' := ⟨fun a e => hk a fun z => e (z ▸ hp), fun _ h => h, fun _ h => .inl h, fun _ h => .inl h⟩
  exact alc_post h R A ⟨p, rfl, fun z => R.fzH p z hp, fun z => R.prH p z hp, fun i F g hb => R.free_new hp i F ((A.rel2 R).2 i F g) hb, oc⟩
theorem rf_lst (ha : Rf c (RVs c.K) tas mas) : Rf c (RO c.K) (tLst tas) (mlst mas) := by
  intro pp pr fz σ H ρ Q hp R hq
  refine ha pp pr fz σ H ρ _ hp R (hq.bnd fun v x fz1 H1 ρ1 F1 R1 r1 P1 => ?_)
  by_cases h : lenOk x.length = true
  · rw [if_pos h] at P1
    refine ⟨by rw [RepA.length r1]; exact lenOk_iff.mp h, fun p hp' => ro_new (z := .list x) R1 hp' (fun a n => upd_ne n) ⟨v, upd_same, RepA.ext ⟨fun _ z => z, fun a z => upd_ne fun q => R1.fzH a z (by rw [q]; exact hp')⟩ r1⟩ P1⟩
  · rw [if_neg h] at P1; exact P1.elim

/-! ### slices -/
def RI : RT (Option Int) (Option Int) := fun _ _ _ _ _ a b => a = b
def mpn : M (Option Int) := fun ρ => .ok none ρ
def asI? : PyData → Option Int
  | .int i => some i
  | _ => none
def mps (m : M PyData) : M (Option Int) := bnd m fun d => lft ((asI? d).map some)
theorem rf_pn : Rf c RI tNoPart mpn := fun pp pr fz σ H ρ Q hp R hq => ok_post hq R rfl
theorem rf_ps (h : Rf c (RV c.K) te m) : Rf c RI (tPart te) (mps m) := by
  intro pp pr fz σ H ρ Q hp R hq
  refine h pp pr fz σ H ρ _ hp R (hq.bnd fun v x fz1 H1 ρ1 F1 R1 r1 P1 => ?_)
  obtain ⟨z, e, P1⟩ := lftB_post P1
  cases x <;> first | (cases e; done) | skip
  cases e
  cases r1
  exact ⟨_, rfl, ok_post P1 R1 rfl⟩
def msl (m : M PyData) (lo hi : M (Option Int)) : M PyData := bnd m fun x => bnd lo fun l => bnd hi fun u => lft (slice? x l u)
def mslp (i : Nat) (lo hi : M (Option Int)) : M PyData := fun ρ => match peek i ρ with
  | none => .bad
  | some _ => bnd lo (fun l => bnd hi fun u ρ' => match peek i ρ' with
    | some x => lft (slice? x l u) ρ'
    | none => .bad) ρ
theorem rf_sl {tl th : TO} {ml mh : M (Option Int)} (h : Rf c (RV c.K) te m) (hl : Rf c RI tl ml) (hh : Rf c RI th mh) : Rf c (RV c.K) (tSl (rSl c.K) te tl th) (msl m ml mh) := by
  intro pp pr fz σ H ρ Q hp R hq
  refine h pp pr fz σ H ρ _ hp R (hq.bnd fun v x fz1 H1 ρ1 F1 R1 r1 P1 => ?_)
  refine hl pp pr fz1 σ H1 ρ1 _ hp R1 (P1.bnd fun l l' fz2 H2 ρ2 F2 R2 r2 P2 => ?_)
  obtain rfl : l = l' := r2
  refine hh pp pr fz2 σ H2 ρ2 _ hp R2 (P2.bnd fun u u' fz3 H3 ρ3 F3 R3 r3 P3 => ?_)
  obtain rfl : u = u' := r3
  obtain ⟨z, e, P4⟩ := lftB_post P3
  exact of_slice (.inl (Rep.ext (F2.trans F3).ext r1)) e Q fun u fz' H' A r => alc_post P4 R3 A (r R3.fzH)
theorem rf_slp {i : Nat} {tl th : TO} {ml mh : M (Option Int)} (hl : Rf c RI tl ml) (hh : Rf c RI th mh) : Rf c (RV c.K) (tSl (rSl c.K) (tVar i) tl th) (mslp i ml mh) := by
  intro pp pr fz σ H ρ Q hp R hq
  unfold mslp at hq
  cases e : peek i ρ with
  | none => rw [e] at hq; exact hq.elim
  | some x0 =>
    simp only [e] at hq
    obtain ⟨v, hv, _⟩ := R.peek e
    refine ⟨v, hv, ?_⟩
    refine hl pp pr fz σ H ρ _ hp R (hq.bnd fun l l' fz2 H2 ρ2 F2 R2 r2 P2 => ?_)
    obtain rfl : l = l' := r2
    refine hh pp pr fz2 σ H2 ρ2 _ hp R2 (P2.bnd fun u u' fz3 H3 ρ3 F3 R3 r3 P3 => ?_)
    obtain rfl : u = u' := r3
    cases e1 : peek i ρ3 with
    | none => simp only [e1] at P3; exact P3.elim
    | some x =>
      simp only [e1] at P3
      obtain ⟨v', hv', rv⟩ := R3.peek e1
      rw [hv] at hv'
      cases hv'
      obtain ⟨z, e, P4⟩ := lftB_post P3
      exact of_slice rv e Q fun u fz' H' A r => alc_post P4 R3 A (r R3.fzH)

/-! ### built-ins by values -/
abbrev RL := List V → Hp → VK → Prop
def C1 (K : PySem.W.Frag) (r : RL) (f : PyData → Option PyData) : Prop :=
  ∀ (fz : Addr → Prop) (H : Hp) (v : V) (x z : PyData), RepP K fz H v x → f x = some z → ∀ Q : VK, (∀ u fz' H', Alc fz H fz' H' → ((∀ a, fz a → H a ≠ none) → Rep K fz' H' u z) → Q u H') → r [v] H Q
def C2 (K : PySem.W.Frag) (r : RL) (f : PyData → PyData → Option PyData) : Prop :=
  ∀ (fz : Addr → Prop) (H : Hp) (v w : V) (x y z : PyData), Rep K fz H v x → Rep K fz H w y → f x y = some z → ∀ Q : VK, (∀ u fz' H', Alc fz H fz' H' → ((∀ a, fz a → H a ≠ none) → Rep K fz' H' u z) → Q u H') → r [v, w] H Q
def CO (K : PySem.W.Frag) (r : RL) (f : PyData → Option PyData) : Prop :=
  ∀ (fz : Addr → Prop) (H : Hp) (v : V) (x z : PyData), RepP K fz H v x → f x = some z → (∀ a, fz a → H a ≠ none) → ∀ Q : VK, (∀ p H', H p = none → (∀ a, a ≠ p → H' a = H a) → OwnC K fz H' p z → Q (.ref p) H') → r [v] H Q
def mc1 (f : PyData → Option PyData) (m : M PyData) : M PyData := bnd m fun x => lft (f x)
def mc1p (f : PyData → Option PyData) (i : Nat) : M PyData := fun ρ => match peek i ρ with
  | some x => lft (f x) ρ
  | none => .bad
theorem rf_c1 {r : RL} {f : PyData → Option PyData} (ho : C1 c.K r f) (h : Rf c (RV c.K) te m) : Rf c (RV c.K) (tCB r (tCons te tNil)) (mc1 f m) := by
  intro pp pr fz σ H ρ Q hp R hq
  refine h pp pr fz σ H ρ _ hp R (hq.bnd fun v x fz1 H1 ρ1 F1 R1 r1 P1 => ?_)
  obtain ⟨z, e, P1⟩ := lftB_post P1
  exact ho fz1 H1 v x z (.inl r1) e Q fun u fz' H' A r => alc_post P1 R1 A (r R1.fzH)
theorem rf_c1p {i : Nat} {r : RL} {f : PyData → Option PyData} (ho : C1 c.K r f) : Rf c (RV c.K) (tCB r (tCons (tVar i) tNil)) (mc1p f i) := by
  intro pp pr fz σ H ρ Q hp R hq
  unfold mc1p at hq
  cases e : peek i ρ with
  | none => rw [e] at hq; exact hq.elim
  | some x =>
    simp only [e] at hq
    obtain ⟨v, hv, rv⟩ := R.peek e
    obtain ⟨z, e1, P1⟩ := lftB_post hq
    exact ⟨v, hv, ho fz H v x z rv e1 Q fun u fz' H' A r => alc_post P1 R A (r R.fzH)⟩
theorem rf_c2 {r : RL} {f : PyData → PyData → Option PyData} (ho : C2 c.K r f) (h : Rf c (RV c.K) ta ma) (h2 : Rf c (RV c.K) tb mb) : Rf c (RV c.K) (tCB r (tCons ta (tCons tb tNil))) (op2 f ma mb) := by
  intro pp pr fz σ H ρ Q hp R hq
  refine h pp pr fz σ H ρ _ hp R (hq.bnd fun v x fz1 H1 ρ1 F1 R1 r1 P1 => ?_)
  refine h2 pp pr fz1 σ H1 ρ1 _ hp R1 (P1.bnd fun w y fz2 H2 ρ2 F2 R2 r2 P2 => ?_)
  obtain ⟨z, e, P3⟩ := lftB_post P2
  exact ho fz2 H2 v w x y z (Rep.ext F2.ext r1) r2 e Q fun u fz' H' A r => alc_post P3 R2 A (r R2.fzH)
theorem rf_co {r : RL} {f : PyData → Option PyData} (ho : CO c.K r f) (h : Rf c (RV c.K) te m) : Rf c (RO c.K) (tCB r (tCons te tNil)) (mc1 f m) := by
  intro pp pr fz σ H ρ Q hp R hq
  refine h pp pr fz σ H ρ _ hp R (hq.bnd fun v x fz1 H1 ρ1 F1 R1 r1 P1 => ?_)
  obtain ⟨z, e, P1⟩ := lftB_post P1
  exact ho fz1 H1 v x z (.inl r1) e R1.fzH Q fun p H' hp hk oc => ro_new R1 hp hk oc P1
theorem rf_cop {i : Nat} {r : RL} {f : PyData → Option PyData} (ho : CO c.K r f) : Rf c (RO c.K) (tCB r (tCons (tVar i) tNil)) (mc1p f i) := by
  intro pp pr fz σ H ρ Q hp R hq
  unfold mc1p at hq
  cases e : peek i ρ with
  | none => rw [e] at hq; exact hq.elim
  | some x =>
    simp only [e] at hq
    obtain ⟨v, hv, rv⟩ := R.peek e
    obtain ⟨z, e1, P1⟩ := lftB_post hq
    exact ⟨v, hv, ho fz H v x z rv e1 R.fzH Q fun p H' hp hk oc => ro_new R hp hk oc P1⟩
end
end PL

end
section
/-! PLz: zip of a tuple and a list (after the layer's own proof for two tuples, each side a tuple or a list). -/
namespace PL
open PySem PySem.Spec L2
open PySem.Sem (wp)
open PyProof.Rows hiding St

def IsIt : Bool → Heap → Addr → Addr → Nat → Prop
  | true, h, a, t, i => h.IsTupleIter a t i
  | false, h, a, t, i => h.IsListIter a t i
def IsSq : Bool → Heap → Addr → Array Value → Prop
  | true, h, a, xs => h.IsTuple a xs
  | false, h, a, xs => h.IsList a xs
theorem IsIt.extBut {u : Bool} {h h' : Heap} {a b t : Addr} {i : Nat} (x : IsIt u h a t i) (hs : Heap.ExtBut b h h') (n : a ≠ b) : IsIt u h' a t i := by
  cases u
  · exact Heap.IsListIter.extBut x hs n
  · exact Heap.IsTupleIter.extBut x hs n
theorem IsIt.at {u : Bool} {h h' : Heap} {a t : Addr} {i : Nat} (x : IsIt u h a t i) (e : ∀ o, h.get? a = some o → h'.get? a = some o) : IsIt u h' a t i := by
  cases u
  · exact Heap.IsListIter.at x e
  · exact Heap.IsTupleIter.at x e
theorem IsSq.extBut {u : Bool} {h h' : Heap} {a b : Addr} {xs : Array Value} (x : IsSq u h a xs) (hs : Heap.ExtBut b h h') (n : a ≠ b) : IsSq u h' a xs := by
  cases u
  · exact Heap.IsList.extBut x hs n
  · exact Heap.IsTuple.extBut x hs n
def itN (u : Bool) : String := match u with
  | true => "tuple_iterator"
  | false => "list_iterator"
theorem IsIt.obj {u : Bool} {h : Heap} {a t : Addr} {i : Nat} (x : IsIt u h a t i) : ∃ o, h.get? a = some o ∧ o.cls = .type (itN u) ∧ o.data = .fields #[.ref t, .int i 0] := by
  cases u <;> exact x
theorem IsIt.mk {u : Bool} {h : Heap} {a t : Addr} {i : Nat} {o : Obj} (e : h.get? a = some o) (c : o.cls = .type (itN u)) (d : o.data = .fields #[.ref t, .int i 0]) : IsIt u h a t i := by
  cases u <;> exact ⟨o, e, c, d⟩
section
variable {prog : Program} {w : World} {A : Around} {E : Value → Shared → Prop} {s : Shared} {u v : Bool}
theorem nextItem {it l : Addr} {i : Nat} {items : Array Value} {x : Value} {Q : Value → Shared → Prop} (hit : IsIt u s.heap it l i) (hl : IsSq u s.heap l items) (hx : items[i]? = some x)
    (k : ∀ h', IsIt u h' it l (i + 1) → Heap.SameBut it s.heap h' → Q x { s with heap := h' }) : wpAny (model prog w) A (Builtin.SmallTypes.nextOf (.ref it)) Q E s := by
  cases u
  · exact wpAny_nextOf_list_item hit hl hx k
  · exact RZ.nextOf_tuple_item hit hl hx k
theorem nextEnd {it l : Addr} {i : Nat} {items : Array Value} {Q : Value → Shared → Prop} (hh : A.handled = none) (hit : IsIt u s.heap it l i) (hl : IsSq u s.heap l items) (hx : items[i]? = none)
    (k : ∀ h' e, Heap.ExtBut it s.heap h' → (∃ o, h'.get? e = some o ∧ o.cls = .type "StopIteration") → E (.ref e) { s with heap := h' }) : wpAny (model prog w) A (Builtin.SmallTypes.nextOf (.ref it)) Q E s := by
  cases u
  · exact wpAny_nextOf_list_end hh hit hl hx k
  · exact RZ.nextOf_tuple_end hh hit hl hx k

theorem zipZ_item {z TI TO i1 i2 l1 l2 : Addr} {k1 k2 : Nat} {xs ys : Array Value} {x y a b : Value} {Q : Value → Shared → Prop} (D : ZipApart z TI TO i1 i2 l1 l2)
    (cz : IsZip s.heap z TI TO .none) (cI : IsPair s.heap TI (.ref i1) (.ref i2)) (cO : IsPair s.heap TO a b)
    (a1 : IsIt u s.heap i1 l1 k1) (a2 : IsIt v s.heap i2 l2 k2) (m1 : IsSq u s.heap l1 xs) (m2 : IsSq v s.heap l2 ys) (ex : xs[k1]? = some x) (ey : ys[k2]? = some y)
    (kQ : ∀ hh', IsZip hh' z TI TO (rawInt s.heap.objs.size) → IsPair hh' TO x y → IsIt u hh' i1 l1 (k1 + 1) → IsIt v hh' i2 l2 (k2 + 1) → IsPair hh' s.heap.objs.size x y → hh'.objs.size = s.heap.objs.size + 1 →
      (∀ c o, c ≠ z → c ≠ TO → c ≠ i1 → c ≠ i2 → s.heap.get? c = some o → hh'.get? c = some o) → Q (.ref s.heap.objs.size) { s with heap := hh' }) :
    wpAny (model prog w) A (Builtin.«zip.__next__» ⟨[.ref z], []⟩) (fun fin s' => ∃ v, fin = .done (.ret v) ∧ Q v s') E s := by
  show wpAny _ _ (field (.ref z) 2 >>= _) _ _ _
  refine wpAny_bind (wpAny_field cz rfl (x := .bool false) rfl ?_)
  show wpAny _ _ (field (.ref z) 3 >>= _) _ _ _
  refine wpAny_bind (wpAny_field cz rfl (x := .ref TI) rfl ?_)
  refine wpAny_bind (wpAny_seqItems cI rfl ?_)
  show wpAny _ _ (Builtin.SmallTypes.ownedTupleIsFree (.ref z) >>= _) _ _ _
  refine wpAny_bind ?_
  unfold Builtin.SmallTypes.ownedTupleIsFree
  refine wpAny_bind (wpAny_field cz rfl (x := .none) rfl (wpAny_pure ?_))
  simp only [if_true]
  refine wpAny_bind (wpAny_rule ?_)
  refine wpAny_bind (wpAny_field cz rfl (x := .ref TO) rfl ?_)
  refine wpAny_bind (wpAny_setField_rec cz (by simp) fun w1 cz1 q1 => ?_)
  replace cz1 : IsZip w1 z TI TO .ellipsis := cz1
  refine wpAny_bind ?_
  simp only [List.zipIdx_cons, List.zipIdx_nil, List.forIn_cons, List.forIn_nil]

  refine wpAny_bind (wpAny_bind (wpAny_onRaise ?_))
  show wpAny _ _ (Builtin.SmallTypes.nextOf (.ref i1) >>= _) _ _ _
  refine wpAny_bind (nextItem (a1.extBut q1.extBut D.i1z) (m1.extBut q1.extBut D.l1z) ex fun w2 a12 q2 => wpAny_pure ?_)
  have cO2 : IsPair w2 TO a b := q2.extBut _ _ D.TOi1 (q1.extBut _ _ D.TOz cO)
  refine wpAny_bind (wpAny_seqItems cO2 rfl ?_)
  refine wpAny_bind (wpAny_updateSeq_pair cO2 fun w3 cO3 q3 => ?_)
  replace cO3 : IsPair w3 TO x b := cO3
  refine wpAny_bind (wpAny_letGo (wpAny_pure ?_))

  refine wpAny_bind (wpAny_bind (wpAny_onRaise ?_))
  show wpAny _ _ (Builtin.SmallTypes.nextOf (.ref i2) >>= _) _ _ _
  refine wpAny_bind (nextItem (((a2.extBut q1.extBut D.i2z).extBut q2.extBut D.i12.symm).extBut q3.extBut D.TOi2.symm)
    (((m2.extBut q1.extBut D.l2z).extBut q2.extBut D.l2i1).extBut q3.extBut D.l2TO) ey fun w4 a24 q4 => wpAny_pure ?_)
  have cO4 : IsPair w4 TO x b := q4.extBut _ _ D.TOi2 cO3
  refine wpAny_bind (wpAny_seqItems cO4 rfl ?_)
  refine wpAny_bind (wpAny_updateSeq_pair cO4 fun w5 cO5 q5 => ?_)
  replace cO5 : IsPair w5 TO x y := cO5
  refine wpAny_bind (wpAny_letGo (wpAny_pure (wpAny_pure ?_)))

  refine wpAny_bind (wpAny_seqItems cO5 rfl ?_)
  refine wpAny_bind (wpAny_newTuple ?_)
  have csz : w5.objs.size = s.heap.objs.size := by rw [q5.1, q4.1, q3.1, q2.1, q1.1]
  have cz5 : IsZip w5 z TI TO .ellipsis := q5.extBut _ _ D.TOz.symm (q4.extBut _ _ D.i2z.symm (q3.extBut _ _ D.TOz.symm (q2.extBut _ _ D.i1z.symm cz1)))
  have ck5 : ∀ c o, c ≠ z → c ≠ TO → c ≠ i1 → c ≠ i2 → s.heap.get? c = some o → w5.get? c = some o := fun c o c1 c2 c3 c4 e =>
    q5.extBut _ _ c2 (q4.extBut _ _ c4 (q3.extBut _ _ c2 (q2.extBut _ _ c3 (q1.extBut _ _ c1 e))))
  have a15 : IsIt u w5 i1 l1 (k1 + 1) := ((a12.extBut q3.extBut D.TOi1.symm).extBut q4.extBut D.i12).extBut q5.extBut D.TOi1.symm
  have a25 : IsIt v w5 i2 l2 (k2 + 1) := a24.extBut q5.extBut D.TOi2.symm
  have ltz : z < w5.objs.size := Heap.lt_size cz5
  have ltO : TO < w5.objs.size := Heap.lt_size cO5
  have lt1 : i1 < w5.objs.size := by obtain ⟨_, e, _⟩ := a15.obj; exact Heap.lt_size e
  have lt2 : i2 < w5.objs.size := by obtain ⟨_, e, _⟩ := a25.obj; exact Heap.lt_size e
  show wpAny _ _ (Builtin.SmallTypes.ownedTupleHandOut (.ref z) (.ref w5.objs.size) >>= _) _ _ _
  refine wpAny_bind ?_
  unfold Builtin.SmallTypes.ownedTupleHandOut
  have cz6 : IsZip (w5.push { cls := .type "tuple", data := .seq #[x, y] }) z TI TO .ellipsis := Heap.get?_push_of_some _ cz5
  refine wpAny_bind (wpAny_setField_rec cz6 (by simp) fun w7 cz7 q7 => ?_)
  replace cz7 : IsZip w7 z TI TO (rawInt w5.objs.size) := cz7
  refine wpAny_setField_rec cz7 (by simp) fun w8 cz8 q8 => ?_
  replace cz8 : IsZip w8 z TI TO (rawInt w5.objs.size) := cz8
  have up : ∀ c o, c ≠ z → w5.get? c = some o → w8.get? c = some o := fun c o c1 e => q8.extBut _ _ c1 (q7.extBut _ _ c1 (Heap.get?_push_of_some _ e))
  have cT8 : IsPair w8 w5.objs.size x y := q8.extBut _ _ (Nat.ne_of_gt ltz) (q7.extBut _ _ (Nat.ne_of_gt ltz) (Heap.get?_push_size _ rfl))
  have cs8 : w8.objs.size = w5.objs.size + 1 := by rw [q8.1, q7.1, Heap.size_push]
  rw [csz] at cz8 cT8 cs8
  refine wpAny_pure ⟨_, rfl, ?_⟩
  show Q (.ref w5.objs.size) _
  rw [csz]
  exact kQ w8 cz8 (up _ _ D.TOz cO5) (a15.at fun o e => up _ o D.i1z e) (a25.at fun o e => up _ o D.i2z e) cT8 cs8 fun c o c1 c2 c3 c4 e => up c o c1 (ck5 c o c1 c2 c3 c4 e)

theorem zipZ_end {z TI TO i1 i2 l1 l2 : Addr} {k1 k2 : Nat} {xs ys : Array Value} {a b : Value} {Q : Fin → Shared → Prop} (nh : A.handled = none) (D : ZipApart z TI TO i1 i2 l1 l2)
    (cz : IsZip s.heap z TI TO .none) (cI : IsPair s.heap TI (.ref i1) (.ref i2)) (cO : IsPair s.heap TO a b)
    (a1 : IsIt u s.heap i1 l1 k1) (a2 : IsIt v s.heap i2 l2 k2) (m1 : IsSq u s.heap l1 xs) (m2 : IsSq v s.heap l2 ys) (fin : xs[k1]? = none ∨ ys[k2]? = none)
    (kE : ∀ hh' e, (∀ c o, c ≠ z → c ≠ TO → c ≠ i1 → c ≠ i2 → s.heap.get? c = some o → hh'.get? c = some o) → (∃ o, hh'.get? e = some o ∧ o.cls = .type "StopIteration") → E (.ref e) { s with heap := hh' }) :
    wpAny (model prog w) A (Builtin.«zip.__next__» ⟨[.ref z], []⟩) Q E s := by
  show wpAny _ _ (field (.ref z) 2 >>= _) _ _ _
  refine wpAny_bind (wpAny_field cz rfl (x := .bool false) rfl ?_)
  show wpAny _ _ (field (.ref z) 3 >>= _) _ _ _
  refine wpAny_bind (wpAny_field cz rfl (x := .ref TI) rfl ?_)
  refine wpAny_bind (wpAny_seqItems cI rfl ?_)
  show wpAny _ _ (Builtin.SmallTypes.ownedTupleIsFree (.ref z) >>= _) _ _ _
  refine wpAny_bind ?_
  unfold Builtin.SmallTypes.ownedTupleIsFree
  refine wpAny_bind (wpAny_field cz rfl (x := .none) rfl (wpAny_pure ?_))
  simp only [if_true]
  refine wpAny_bind (wpAny_rule ?_)
  refine wpAny_bind (wpAny_field cz rfl (x := .ref TO) rfl ?_)
  refine wpAny_bind (wpAny_setField_rec cz (by simp) fun w1 cz1 q1 => ?_)
  replace cz1 : IsZip w1 z TI TO .ellipsis := cz1
  refine wpAny_bind ?_
  simp only [List.zipIdx_cons, List.zipIdx_nil, List.forIn_cons, List.forIn_nil]
  refine wpAny_bind (wpAny_bind (wpAny_onRaise ?_))
  show wpAny _ _ (Builtin.SmallTypes.nextOf (.ref i1) >>= _) _ _ _
  cases ex : xs[k1]? with
  | none =>
    refine wpAny_bind (nextEnd nh (a1.extBut q1.extBut D.i1z) (m1.extBut q1.extBut D.l1z) ex fun w2 e q2 ge => ?_)
    obtain ⟨ob, goe, gce⟩ := ge
    have cz2 : IsZip w2 z TI TO .ellipsis := q2 _ _ D.i1z.symm cz1
    have nez : e ≠ z := fun x => by subst x; rw [cz2] at goe; cases goe; simp at gce
    refine wpAny_setField_rec cz2 (by simp) fun w3 _ q3 => kE w3 e (fun c o c1 _ c3 _ x => q3.extBut _ _ c1 (q2 _ _ c3 (q1.extBut _ _ c1 x))) ⟨ob, q3.extBut _ _ nez goe, gce⟩
  | some x =>
    have ey : ys[k2]? = none := by rcases fin with kk | kk; rw [ex] at kk; cases kk; exact kk
    refine wpAny_bind (nextItem (a1.extBut q1.extBut D.i1z) (m1.extBut q1.extBut D.l1z) ex fun w2 a12 q2 => wpAny_pure ?_)
    have cO2 : IsPair w2 TO a b := q2.extBut _ _ D.TOi1 (q1.extBut _ _ D.TOz cO)
    refine wpAny_bind (wpAny_seqItems cO2 rfl ?_)
    refine wpAny_bind (wpAny_updateSeq_pair cO2 fun w3 cO3 q3 => ?_)
    refine wpAny_bind (wpAny_letGo (wpAny_pure ?_))
    refine wpAny_bind (wpAny_bind (wpAny_onRaise ?_))
    show wpAny _ _ (Builtin.SmallTypes.nextOf (.ref i2) >>= _) _ _ _
    refine wpAny_bind (nextEnd nh (((a2.extBut q1.extBut D.i2z).extBut q2.extBut D.i12.symm).extBut q3.extBut D.TOi2.symm)
      (((m2.extBut q1.extBut D.l2z).extBut q2.extBut D.l2i1).extBut q3.extBut D.l2TO) ey fun w4 e q4 ge => ?_)
    obtain ⟨ob, goe, gce⟩ := ge
    have cz4 : IsZip w4 z TI TO .ellipsis := q4 _ _ D.i2z.symm (q3.extBut _ _ D.TOz.symm (q2.extBut _ _ D.i1z.symm cz1))
    have nez : e ≠ z := fun x => by subst x; rw [cz4] at goe; cases goe; simp at gce
    refine wpAny_setField_rec cz4 (by simp) fun w5 _ q5 => kE w5 e (fun c o c1 c2 c3 c4 x => q5.extBut _ _ c1 (q4 _ _ c4 (q3.extBut _ _ c2 (q2.extBut _ _ c3 (q1.extBut _ _ c1 x))))) ⟨ob, q5.extBut _ _ nez goe, gce⟩

theorem nextZ_item {z TI TO i1 i2 l1 l2 : Addr} {k1 k2 : Nat} {xs ys : Array Value} {x y a b : Value} {Q : Option Value → Shared → Prop} (D : ZipApart z TI TO i1 i2 l1 l2)
    (cz : IsZip s.heap z TI TO .none) (cI : IsPair s.heap TI (.ref i1) (.ref i2)) (cO : IsPair s.heap TO a b)
    (a1 : IsIt u s.heap i1 l1 k1) (a2 : IsIt v s.heap i2 l2 k2) (m1 : IsSq u s.heap l1 xs) (m2 : IsSq v s.heap l2 ys) (ex : xs[k1]? = some x) (ey : ys[k2]? = some y)
    (kQ : ∀ hh', IsZip hh' z TI TO (rawInt s.heap.objs.size) → IsPair hh' TO x y → IsIt u hh' i1 l1 (k1 + 1) → IsIt v hh' i2 l2 (k2 + 1) → IsPair hh' s.heap.objs.size x y → hh'.objs.size = s.heap.objs.size + 1 →
      (∀ c o, c ≠ z → c ≠ TO → c ≠ i1 → c ≠ i2 → s.heap.get? c = some o → hh'.get? c = some o) → Q (some (.ref s.heap.objs.size)) { s with heap := hh' }) :
    wpAny (model prog w) A (pyNext (.ref z)) Q E s := by
  have gT : s.TypeIs (.ref z) "zip" := ⟨_, cz, rfl⟩
  unfold pyNext
  exact wpAny_bind (wpAny_attempt (wpAny_callSpecial?_slot (name := Str.ofString "__next__") gT F.slot_zip_next
    (wpAny_call_entry F.slot_zip_next gT F.entry_zip_next
      (zipZ_item D cz cI cO a1 a2 m1 m2 ex ey fun hh' a1 a2 a3 a4 a5 a6 a7 => wpAny_pure (kQ hh' a1 a2 a3 a4 a5 a6 a7)) (F.args_zip_next_1 _))))

theorem nextZ_end {z TI TO i1 i2 l1 l2 : Addr} {k1 k2 : Nat} {xs ys : Array Value} {a b : Value} {Q : Option Value → Shared → Prop} (nh : A.handled = none) (D : ZipApart z TI TO i1 i2 l1 l2)
    (cz : IsZip s.heap z TI TO .none) (cI : IsPair s.heap TI (.ref i1) (.ref i2)) (cO : IsPair s.heap TO a b)
    (a1 : IsIt u s.heap i1 l1 k1) (a2 : IsIt v s.heap i2 l2 k2) (m1 : IsSq u s.heap l1 xs) (m2 : IsSq v s.heap l2 ys) (fin : xs[k1]? = none ∨ ys[k2]? = none)
    (kQ : ∀ hh', (∀ c o, c ≠ z → c ≠ TO → c ≠ i1 → c ≠ i2 → s.heap.get? c = some o → hh'.get? c = some o) → Q none { s with heap := hh' }) : wpAny (model prog w) A (pyNext (.ref z)) Q E s := by
  have gT : s.TypeIs (.ref z) "zip" := ⟨_, cz, rfl⟩
  unfold pyNext
  refine wpAny_bind (wpAny_attempt (wpAny_callSpecial?_slot (name := Str.ofString "__next__") gT F.slot_zip_next
    (wpAny_call_entry F.slot_zip_next gT F.entry_zip_next (zipZ_end nh D cz cI cO a1 a2 m1 m2 fin fun hh' e gk ge => ?_) (F.args_zip_next_1 _))))
  obtain ⟨o, go, gc⟩ := ge
  refine wpAny_bind (wpAny_isInstance (T := "StopIteration") (b := true) ⟨o, go, gc⟩ isSubtype_stop ?_)
  exact wpAny_pure (kQ _ gk)
end

abbrev zH1 (u : Bool) (kk : Heap) (l1 : Addr) : Heap := kk.push { cls := .type (itN u), data := .fields #[.ref l1, .int 0 0] }
abbrev zH2 (u v : Bool) (kk : Heap) (l1 l2 : Addr) : Heap := (zH1 u kk l1).push { cls := .type (itN v), data := .fields #[.ref l2, .int 0 0] }
abbrev zH3 (u v : Bool) (kk : Heap) (l1 l2 : Addr) : Heap := (zH2 u v kk l1 l2).push { cls := .type "tuple", data := .seq #[.ref kk.objs.size, .ref (zH1 u kk l1).objs.size] }
abbrev zH4 (u v : Bool) (kk : Heap) (l1 l2 : Addr) : Heap := (zH3 u v kk l1 l2).push { cls := .type "tuple", data := .seq #[.none, .none] }
abbrev zH5 (u v : Bool) (kk : Heap) (l1 l2 : Addr) : Heap := (zH4 u v kk l1 l2).push { cls := .type "zip", data := .fields #[.none, .bool false, .bool false, .ref (zH2 u v kk l1 l2).objs.size, .ref (zH3 u v kk l1 l2).objs.size] }


theorem meetsZ (u v : Bool) (l1 l2 : Addr) (xs ys : Array Value) :
    Meets (Builtin.«zip.__new__» ⟨[.type "zip", .ref l1, .ref l2], []⟩) (fun _ R s => IsSq u s.heap l1 xs ∧ IsSq v s.heap l2 ys ∧
      R (.ok (.ret (.ref (zH4 u v s.heap l1 l2).objs.size))) { s with heap := zH5 u v s.heap l1 l2 }) := by
  cases u <;> cases v
  · exact meets_zip_new l1 l2 xs ys
  · refine .of_wp fun prog w A R s kk => ?_
    obtain ⟨hp, g, d, tk, os⟩ := s; obtain ⟨m1, m2, kk⟩ := kk
    have sz := sub_zip
    have n1 : Heap.IsList (Shared.heap ⟨hp, g, d, tk, os⟩) l1 xs := m1
    have n2 : Heap.IsTuple (Shared.heap ⟨hp.push { cls := .type "list_iterator", data := .fields #[.ref l1, .int 0 0] }, g, d, tk, os⟩) l2 ys := Heap.IsTuple.push m2 _
    wp_walk using wpAny_pyIter_list n1, wpAny_pyIter_tuple n2
    exact ⟨_, rfl, kk⟩
  · refine .of_wp fun prog w A R s kk => ?_
    obtain ⟨hp, g, d, tk, os⟩ := s; obtain ⟨m1, m2, kk⟩ := kk
    have sz := sub_zip
    have n1 : Heap.IsTuple (Shared.heap ⟨hp, g, d, tk, os⟩) l1 xs := m1
    have n2 : Heap.IsList (Shared.heap ⟨hp.push { cls := .type "tuple_iterator", data := .fields #[.ref l1, .int 0 0] }, g, d, tk, os⟩) l2 ys := Heap.IsList.push m2 _
    wp_walk using wpAny_pyIter_tuple n1, wpAny_pyIter_list n2
    exact ⟨_, rfl, kk⟩
  · exact RZ.meets_zipT_new l1 l2 xs ys
section
variable {prog : Program} {w : World} {A : Around} {E : Value → Shared → Prop} {s : Shared} {u v : Bool}

theorem callZ {l1 l2 : Addr} {xs ys : Array Value} {Q : Value → Shared → Prop} (m1 : IsSq u s.heap l1 xs) (m2 : IsSq v s.heap l2 ys)
    (kk : ∀ hh', IsZip hh' (s.heap.objs.size + 4) (s.heap.objs.size + 2) (s.heap.objs.size + 3) .none → IsPair hh' (s.heap.objs.size + 2) (.ref s.heap.objs.size) (.ref (s.heap.objs.size + 1)) →
      IsPair hh' (s.heap.objs.size + 3) .none .none → IsIt u hh' s.heap.objs.size l1 0 → IsIt v hh' (s.heap.objs.size + 1) l2 0 → hh'.objs.size = s.heap.objs.size + 5 →
      (∀ c o, s.heap.get? c = some o → hh'.get? c = some o) → Q (.ref (s.heap.objs.size + 4)) { s with heap := hh' }) :
    wpAny (model prog w) A (call (.type "zip") [.ref l1, .ref l2]) Q E s := by
  refine callType_new F.called_zip (by decide) (F.typeCall_zip_2 _ _) (F.newCall_zip_2 _ _) (fun obj => F.args_object_init_3 obj _ _) F.entry_zip_new
    (meetsZ u v l1 l2 xs ys) ⟨m1, m2, ?_⟩
  have z1 : (zH1 u s.heap l1).objs.size = s.heap.objs.size + 1 := Heap.size_push ..
  have z2 : (zH2 u v s.heap l1 l2).objs.size = s.heap.objs.size + 2 := by rw [Heap.size_push, z1]
  have z3 : (zH3 u v s.heap l1 l2).objs.size = s.heap.objs.size + 3 := by rw [Heap.size_push, z2]
  have z4 : (zH4 u v s.heap l1 l2).objs.size = s.heap.objs.size + 4 := by rw [Heap.size_push, z3]
  have z5 : (zH5 u v s.heap l1 l2).objs.size = s.heap.objs.size + 5 := by rw [Heap.size_push, z4]
  have g5 : (zH5 u v s.heap l1 l2).get? (zH4 u v s.heap l1 l2).objs.size = some _ := Heap.get?_push_size _ rfl
  have g4 : (zH5 u v s.heap l1 l2).get? (zH3 u v s.heap l1 l2).objs.size = some _ := Heap.get?_push_of_some _ (Heap.get?_push_size _ rfl)
  have g3 : (zH5 u v s.heap l1 l2).get? (zH2 u v s.heap l1 l2).objs.size = some _ := Heap.get?_push_of_some _ (Heap.get?_push_of_some _ (Heap.get?_push_size _ rfl))
  have g2 : (zH5 u v s.heap l1 l2).get? (zH1 u s.heap l1).objs.size = some _ := Heap.get?_push_of_some _ (Heap.get?_push_of_some _ (Heap.get?_push_of_some _ (Heap.get?_push_size _ rfl)))
  have g1 : (zH5 u v s.heap l1 l2).get? s.heap.objs.size = some _ := Heap.get?_push_of_some _ (Heap.get?_push_of_some _ (Heap.get?_push_of_some _ (Heap.get?_push_of_some _ (Heap.get?_push_size _ rfl))))
  show _ ∧ _
  rw [z2, z3, z4] at g5
  rw [z1, z2] at g3
  rw [z3] at g4
  rw [z1] at g2
  rw [z4]
  exact ⟨⟨_, g5, rfl⟩, kk _ g5 g3 g4 (IsIt.mk g1 rfl rfl) (IsIt.mk g2 rfl rfl) z5 fun c o x =>
    Heap.get?_push_of_some _ (Heap.get?_push_of_some _ (Heap.get?_push_of_some _ (Heap.get?_push_of_some _ (Heap.get?_push_of_some _ x))))⟩
end

def SqU (K : PySem.W.Frag) (u : Bool) (H : Hp) (a : Addr) (xs : List V) : Prop := match u with
  | true => SqT K H a xs
  | false => SqL K H a xs
def ItZ (u v : Bool) (K : PySem.W.Frag) (a b : Addr) : It :=
  ⟨fun i H => ∃ (xs ys : List V) (x y : V), SqU K u H a xs ∧ SqU K v H b ys ∧ xs[i]? = some x ∧ ys[i]? = some y,
    fun i H r H' => ∃ T x y, r = .ref T ∧ H T = none ∧ H' = upd H T (.tup [x, y]) ∧ (∀ xs, SqU K u H a xs → xs[i]? = some x) ∧ ∀ ys, SqU K v H b ys → ys[i]? = some y,
    fun i H => ∃ xs ys : List V, SqU K u H a xs ∧ SqU K v H b ys ∧ (xs.length ≤ i ∨ ys.length ≤ i)⟩
section
variable {X : Cx} {pins : List (Addr × Obj)} {σ : L2.St} {H : Hp} {s : Shared}
theorem inv_sq {u : Bool} (I : Inv X pins σ H s) {a : Addr} {xs : List V} (h : SqU X.K u H a xs) : ∃ its : List Value, Vals xs its ∧ IsSq u s.heap a its.toArray ∧ a < s.heap.objs.size := by
  cases u
  · obtain ⟨its, rv, p, _⟩ := I.list h
    exact ⟨its, rv, p.isList, p.lt⟩
  · obtain ⟨its, rv, p, _⟩ := I.tuple h
    have p2 : s.heap.IsTuple a its.toArray := p
    obtain ⟨o1, ho1, _⟩ := id p2
    exact ⟨its, rv, p2, Heap.lt_size ho1⟩
theorem inv_sq_inj {u : Bool} (I : Inv X pins σ H s) {a : Addr} {xs ys : List V} (h : SqU X.K u H a xs) (h2 : SqU X.K u H a ys) : xs = ys := by
  cases u
  · exact I.list_inj h h2
  · exact I.tuple_inj h h2
end

theorem turnZ {P : Program} {w : World} {K : PySem.W.Frag} {elts : List Expr} {kk : Nat} {tpos : Pos} {a b z TI TO i1 i2 : Addr} {u v : Bool} (D : ZipApart z TI TO i1 i2 a b) :
    Turn P w K (.Tuple elts kk tpos) (ItZ u v K a b) [z, TI, TO, i1, i2] z (fun i h => IsZip h z TI TO .none ∧ IsPair h TI (.ref i1) (.ref i2) ∧ (∃ x y, IsPair h TO x y) ∧ IsIt u h i1 a i ∧ IsIt v h i2 b i) where
  mem := by simp
  obj := fun i h sta c gc => by
    obtain ⟨cz, cI, ⟨x, y, cO⟩, g1, g2⟩ := sta
    obtain ⟨o1, e1, _, d1⟩ := g1.obj
    obtain ⟨o2, e2, _, d2⟩ := g2.obj
    have em : c = z ∨ c = TI ∨ c = TO ∨ c = i1 ∨ c = i2 := by simpa using gc
    rcases em with q | q | q | q | q
    · rw [q]; exact ⟨_, cz, fun v q => nomatch q⟩
    · rw [q]; exact ⟨_, cI, fun v q => nomatch q⟩
    · rw [q]; exact ⟨_, cO, fun v q => nomatch q⟩
    · rw [q]; exact ⟨o1, e1, fun v q => by rw [d1] at q; cases q⟩
    · rw [q]; exact ⟨o2, e2, fun v q => by rw [d2] at q; cases q⟩
  keep := fun i h h' sta k => by
    obtain ⟨cz, cI, ⟨x, y, cO⟩, a1, a2⟩ := sta
    exact ⟨k z (by simp) _ cz, k TI (by simp) _ cI, ⟨x, y, k TO (by simp) _ cO⟩, a1.at fun o q => k i1 (by simp) o q, a2.at fun o q => k i2 (by simp) o q⟩
  item := by
    intro X gP gw gK gc i pins s σ H E I gf sta gg
    subst gP gw gK
    obtain ⟨cz, cI, ⟨x0, y0, cO⟩, a1, a2⟩ := sta
    obtain ⟨xs, ys, x, y, qx, qy, ex, ey⟩ := gg
    obtain ⟨its, rw1, p, _⟩ := inv_sq I qx
    obtain ⟨its2, rw2, p2, _⟩ := inv_sq I qy
    obtain ⟨r1, ku, ru⟩ := rw1.get ex
    obtain ⟨r2, ku2, ru2⟩ := rw2.get ey
    have ltz : z < s.heap.objs.size := Heap.lt_size cz
    refine nextZ_item D cz cI cO a1 a2 p p2 (x := r1) (y := r2) (by simpa using ku) (by simpa using ku2) fun h' z' TO' h1' h2' gT gsz gk => ?_
    refine ⟨_, rfl, wpAny_letOwnedTupleGo_zip (s := { s with heap := h' }) z' fun h'' z'' sm => ?_⟩
    have gT2 : h''.get? s.heap.objs.size = some { cls := .type "tuple", data := .seq #[r1, r2] } := (sm.2 _ (Nat.ne_of_gt ltz)).trans gT
    have new : ObjOk X.prog X.w (upd H s.heap.objs.size (.tup [x, y])) h'' s.heap.objs.size (.tup [x, y]) :=
      ⟨by show 2 ≤ sizeLine; decide, [r1, r2], .cons ru (.cons ru2 .nil), ⟨_, gT2, rfl, _, rfl⟩⟩
    have I1 : Inv X pins σ (upd H s.heap.objs.size (.tup [x, y])) { s with heap := h'' } :=
      I.turnedNew (t' := s.toks) (ch := [z, TI, TO, i1, i2]) (fun c o hb q => (sm.2 c (fun q' => hb (by simp [q']))).trans (gk c o (fun q' => hb (by simp [q'])) (fun q' => hb (by simp [q'])) (fun q' => hb (by simp [q'])) (fun q' => hb (by simp [q'])) q)) gf (Nat.le_refl _) new
    refine ⟨.ref s.heap.objs.size, _, I1, rfl, ⟨_, x, y, rfl, I.hok.fresh (Nat.le_refl _), rfl, fun l hl => by rw [inv_sq_inj I hl qx]; exact ex, fun l hl => by rw [inv_sq_inj I hl qy]; exact ey⟩, ⟨z'', ?_, ⟨r1, r2, ?_⟩, ?_, ?_⟩, fun c gcm => ?_⟩
    · exact (sm.2 _ D.TIz).trans (gk _ _ D.TIz D.TITO D.TIi1 D.TIi2 cI)
    · exact (sm.2 _ D.TOz).trans TO'
    · exact h1'.at fun o q => (sm.2 _ D.i1z).trans q
    · exact h2'.at fun o q => (sm.2 _ D.i2z).trans q
    · have glt : c < s.heap.objs.size := by
        have em : c = z ∨ c = TI ∨ c = TO ∨ c = i1 ∨ c = i2 := by simpa using gcm
        rcases em with q | q | q | q | q
        · rw [q]; exact ltz
        · rw [q]; exact Heap.lt_size cI
        · rw [q]; exact Heap.lt_size cO
        · rw [q]; obtain ⟨_, e1, _⟩ := a1.obj; exact Heap.lt_size e1
        · rw [q]; obtain ⟨_, e2, _⟩ := a2.obj; exact Heap.lt_size e2
      rw [upd_ne (Nat.ne_of_lt glt)]
      exact (gf c gcm).1
  done := by
    intro X gP gw gK gc i pins s σ H E I gf sta gg
    subst gP gw gK
    obtain ⟨cz, cI, ⟨x0, y0, cO⟩, a1, a2⟩ := sta
    obtain ⟨xs, ys, qx, qy, fin⟩ := gg
    obtain ⟨its, rw1, p, _⟩ := inv_sq I qx
    obtain ⟨its2, rw2, p2, _⟩ := inv_sq I qy
    have l1 := rw1.length
    have l2 := rw2.length
    have ge : its.toArray[i]? = none ∨ its2.toArray[i]? = none := by
      rcases fin with q | q
      · exact .inl (by simp; omega)
      · exact .inr (by simp; omega)
    exact nextZ_end (I.ok.hd gc) D cz cI cO a1 a2 p p2 ge fun h' gk => ⟨rfl, I.turnedL (t' := s.toks) (ch := [z, TI, TO, i1, i2]) (fun c o hb q =>
      gk c o (fun q' => hb (by simp [q'])) (fun q' => hb (by simp [q'])) (fun q' => hb (by simp [q'])) (fun q' => hb (by simp [q'])) q) gf⟩
  self := fun A i s Q E sta h => wpAny_pyIter_zip sta.1 h


def iZipU (u v : Bool) (K : PySem.W.Frag) (ta : TA) : TI := fun σ H R => ta σ H fun vs H1 => ∃ a b xs ys, vs = [.ref a, .ref b] ∧ SqU K u H1 a xs ∧ SqU K v H1 b ys ∧ R (ItZ u v K a b) H1
def iZipX (K : PySem.W.Frag) (ta : TA) : TI := fun σ H R => ta σ H fun vs H1 => ∃ u v a b xs ys, vs = [.ref a, .ref b] ∧ SqU K u H1 a xs ∧ SqU K v H1 b ys ∧ R (ItZ u v K a b) H1
theorem pi_zipX {X : Cx} {e e2 : Expr} {ta : TA} {p pos tpos : Pos} {elts : List Expr} {kk : Nat} (hg : Gl X "zip") (hm : X.mg "zip" = none) (ha : PA X [e, e2] ta)
    (hs : starEach [e, e2] X.env = (false, eval e X.env) :: starEach [e2] X.env := by rfl) (hpl : (backTo pos (starEach [e2] X.env)).any (·.1) = false := by rfl) :
    PI X (.Tuple elts kk tpos) (.Call (.Name "zip" p) [e, e2] [] pos) (iZipX X.K ta) := by
  refine ⟨fun pins s σ H R I hw => ?_⟩
  refine Call_ (ld_blt I hg hm PyProof.Rows.boot_zip (PyProof.Rows.callWith_type1 (thn (ha.run pos pins s σ H _ I hw) fun us s1 ⟨vs, H1, I1, r1, q1⟩ => ?_) hs hpl))
  obtain ⟨u, v, a, b, xs, ys, ex, qa, qb, q⟩ := q1
  subst ex
  obtain ⟨v1, v2, rfl, ra, rb⟩ : ∃ v1 v2, us = [v1, v2] ∧ RelV (.ref a) v1 ∧ RelV (.ref b) v2 := by
    cases r1 with
    | cons r rr => cases rr with
      | cons r' rr => cases rr; exact ⟨_, _, rfl, r, r'⟩
  cases ra
  cases rb
  have up : ∀ c, c ∈ [s1.heap.objs.size + 4, s1.heap.objs.size + 2, s1.heap.objs.size + 3, s1.heap.objs.size, s1.heap.objs.size + 1] → FpOk X pins H1 c := fun c hm => by
    have le : s1.heap.objs.size ≤ c := by
      simp only [List.mem_cons, List.not_mem_nil, or_false] at hm
      rcases hm with z | z | z | z | z <;> (rw [z]; first | exact Nat.le_refl _ | exact Nat.le_add_right _ _)
    exact I1.fpOk le (I1.hok.fresh le)
  obtain ⟨its, rv, p1, l1⟩ := inv_sq I1 qa
  obtain ⟨its2, rv2, p2, l2⟩ := inv_sq I1 qb
  refine callZ p1 p2 fun h' cz cI cO a1 a2 csz gk => wpAny_pyIter_zip cz ?_
  have I2 : Inv X pins σ H1 { s1 with heap := h' } := I1.kept (t' := s1.toks) gk
  exact ⟨s1.heap.objs.size + 4, [s1.heap.objs.size + 4, s1.heap.objs.size + 2, s1.heap.objs.size + 3, s1.heap.objs.size, s1.heap.objs.size + 1], _, _, H1, rfl, I2, turnZ (PySem.W.ktu_apart s1.heap.objs.size a b l1 l2), ⟨cz, cI, ⟨_, _, cO⟩, a1, a2⟩, up, q⟩
end PL

end
section
/-! PL5: what is walked, targets, comprehensions, statements. -/
namespace PL
open PySem PySem.Spec L2
open PyProof.Rows hiding St
open RZ (iZipA ItzT pi_zipA)

/-! ### what is walked -/
def IterOk (K : PySem.W.Frag) (fz : Addr → Prop) (H : Hp) (J : It) (ds : List PyData) : Prop :=
  ∀ (fz' : Addr → Prop) (H' : Hp), Ext fz H fz' H' → (∀ a, fz' a → H' a ≠ none) → ∀ i : Nat,
    (∀ d, ds[i]? = some d → J.go i H' ∧ ∀ x H'', J.yld i H' x H'' → ∃ fz'', Alc fz' H' fz'' H'' ∧ Rep K fz'' H'' x d) ∧ (ds.length ≤ i → J.stop i H')
def RIt (K : PySem.W.Frag) : RT (List PyData) It := fun _ _ fz H _ J ds => IterOk K fz H J ds
def seq? : PyData → Option (List PyData)
  | .list ds => some ds
  | .tuple ds => some ds
  | _ => none
def mseqI (m : M PyData) : M (List PyData) := bnd m fun d => lft (seq? d)
def iSeq (K : PySem.W.Frag) (tl : TE) : TI := fun σ H R => iList K tl σ H R ∨ iTup K tl σ H R
theorem pi_seq {X : Cx} {tg l : Expr} {tl : TE} (hl : PE X l tl) : PI X tg l (iSeq X.K tl) := by
  refine ⟨fun pins s σ H R I h => ?_⟩
  rcases h with h | h
  · exact (pi_list (tg := tg) hl).run pins s σ H R I h
  · exact (pi_tup (tg := tg) hl).run pins s σ H R I h
section
variable {c : Cw} {pp : List (Nat × Addr)} {pr fz : Addr → Prop} {σ : L2.St} {H : Hp} {ρ : Env}
theorem sqL_inj {K : PySem.W.Frag} {a : Addr} {xs ys : List V} (h : H a = some (.lst xs)) (h' : H a = some (.lst ys)) : xs = ys := by rw [h] at h'; cases h'; rfl
theorem iterOk_list {K : PySem.W.Frag} {a : Addr} {vs : List V} {ds : List PyData} (hf : fz a) (h : H a = some (.lst vs)) (r : RepA K fz H vs ds) : IterOk K fz H (Itl K a) ds := by
  intro fz' H' E hf' i
  have e : H' a = some (.lst vs) := (E.keep a hf).trans h
  refine ⟨fun d hd => ?_, fun hl => ⟨vs, SqL.of e, by rw [r.length]; exact hl⟩⟩
  obtain ⟨y, hy, ry⟩ := r.get hd
  refine ⟨⟨vs, y, SqL.of e, hy⟩, fun x H'' hx => ?_⟩
  obtain ⟨rfl, hx⟩ := hx
  have := hx vs (SqL.of e)
  rw [hy] at this
  cases this
  exact ⟨fz', Alc.refl, ry.ext E⟩
theorem iterOk_tup {K : PySem.W.Frag} {a : Addr} {vs : List V} {ds : List PyData} (h : FzT K fz H a vs) (r : RepA K fz H vs ds) : IterOk K fz H (Itt K a) ds := by
  intro fz' H' E hf' i
  have e : SqT K H' a vs := FzT.sq (fz := fz') (h.imp (fun z => ⟨E.mono _ z.1, Rd.ext z.2 (E.keep _ z.1)⟩) id)
  refine ⟨fun d hd => ?_, fun hl => ⟨vs, e, by rw [r.length]; exact hl⟩⟩
  obtain ⟨y, hy, ry⟩ := r.get hd
  refine ⟨⟨vs, y, e, hy⟩, fun x H'' hx => ?_⟩
  obtain ⟨rfl, hx⟩ := hx
  have := hx vs e
  rw [hy] at this
  cases this
  exact ⟨fz', Alc.refl, ry.ext E⟩
variable {te ta tb : TE} {m ma mb : M PyData}
theorem rf_seqI (h : Rf c (RV c.K) te m) : Rf c (RIt c.K) (iSeq c.K te) (mseqI m) := by
  intro pp pr fz σ H ρ Q hp R hq
  have key : ∀ tl : Bool, (∀ d ρ', m ρ = .ok d ρ' → (match d with | .list _ => tl = true | .tuple _ => tl = false | _ => True)) → iSeq c.K te σ H Q := by
    intro tl hk
    cases tl with
    | true =>
      refine .inl (h pp pr fz σ H ρ _ hp R ?_)
      unfold mseqI PL.bnd at hq
      cases e : m ρ with
      | ok d ρ' =>
        rw [e] at hq
        have hk := hk d ρ' e
        intro v fz1 H1 F R1 r
        have P1 := PostG.rest F hq
        obtain ⟨z, e1, P1⟩ := lftB_post P1
        cases r <;> first | (cases e1; done) | skip
        · rename_i a xs ds hf hH ra
          cases e1
          exact ⟨a, rfl, ⟨xs, SqL.of hH⟩, ok_post P1 R1 (iterOk_list hf hH ra)⟩
        · cases hk
      | exc x r => rw [e] at hq; exact hq
      | bad => rw [e] at hq; exact hq.elim
    | false =>
      refine .inr (h pp pr fz σ H ρ _ hp R ?_)
      unfold mseqI PL.bnd at hq
      cases e : m ρ with
      | ok d ρ' =>
        rw [e] at hq
        have hk := hk d ρ' e
        intro v fz1 H1 F R1 r
        have P1 := PostG.rest F hq
        obtain ⟨z, e1, P1⟩ := lftB_post P1
        cases r <;> first | (cases e1; done) | skip
        · cases hk
        · rename_i a xs ds hH ra
          cases e1
          exact ⟨a, rfl, ⟨xs, hH.sq⟩, ok_post P1 R1 (iterOk_tup hH ra)⟩
      | exc x r => rw [e] at hq; exact hq
      | bad => rw [e] at hq; exact hq.elim
  cases e : m ρ with
  | ok d ρ' =>
    cases d with
    | list ds => exact key true fun d' ρ'' e' => by rw [e] at e'; cases e'; exact rfl
    | tuple ds => exact key false fun d' ρ'' e' => by rw [e] at e'; cases e'; exact rfl
    | _ => exact key true fun d' ρ'' e' => by rw [e] at e'; cases e'; trivial
  | exc x r => exact key true fun d' ρ'' e' => by rw [e] at e'; cases e'
  | bad => exact key true fun d' ρ'' e' => by rw [e] at e'; cases e'
def rangeL (lo : Int) (n : Nat) : List PyData := (List.range n).map fun (i : Nat) => PyData.int (lo + i)
theorem rangeL_get {lo : Int} {n i : Nat} {d : PyData} (h : (rangeL lo n)[i]? = some d) : i < n ∧ d = .int (lo + i) := by
  unfold rangeL at h
  rw [List.getElem?_map] at h
  cases e : (List.range n)[i]? with
  | none => rw [e] at h; cases h
  | some j =>
    obtain ⟨hi, ej⟩ := List.getElem?_eq_some_iff.mp e
    simp at hi ej
    subst ej
    rw [e] at h
    cases h
    exact ⟨hi, rfl⟩
theorem iterOk_range {K : PySem.W.Frag} {lo : Int} {n : Nat} : IterOk K fz H (Itr lo n) (rangeL lo n) := by
  intro fz' H' E hf' i
  refine ⟨fun d hd => ?_, fun hl => ?_⟩
  · obtain ⟨hi, rfl⟩ := rangeL_get hd
    refine ⟨hi, fun x H'' hx => ?_⟩
    obtain ⟨rfl, rfl⟩ := hx
    exact ⟨fz', Alc.refl, .int _⟩
  · unfold rangeL at hl
    simp at hl
    exact hl
def rOk (i : Int) : Bool := decide (i.natAbs.log2 < 62)
def rng1? : PyData → Option (List PyData)
  | .int j => if rOk j = true then some (rangeL 0 j.toNat) else none
  | _ => none
def rng2? : PyData → PyData → Option (List PyData)
  | .int i, .int j => if (rOk i && rOk j) = true then some (rangeL i (j - i).toNat) else none
  | _, _ => none
def rangeC (lo step : Int) (n : Nat) : List PyData := (List.range n).map fun (i : Nat) => PyData.int (lo + (i : Nat) * step)
def rng3? : PyData → PyData → PyData → Option (List PyData)
  | .int i, .int j, .int k => if (decide (k ≠ 0) && decide (k.natAbs < 1073741824) && Builtin.Range.small i j k && decide (0 ≤ Builtin.Range.rangeSize i j k)) = true then some (rangeC i k (Builtin.Range.rangeSize i j k).toNat) else none
  | _, _, _ => none
def mrng1 (a : M PyData) : M (List PyData) := bnd a fun x => lft (rng1? x)
def mrng2 (a b : M PyData) : M (List PyData) := bnd a fun x => bnd b fun y => lft (rng2? x y)
def mrng3 (a b d : M PyData) : M (List PyData) := bnd a fun x => bnd b fun y => bnd d fun z => lft (rng3? x y z)
theorem rOk_iff {i : Int} (h : rOk i = true) : -(2 ^ 62) ≤ i ∧ i < 2 ^ 62 := by
  unfold rOk at h
  simp only [decide_eq_true_eq] at h
  by_cases z : i.natAbs = 0
  · omega
  · have := (Nat.log2_lt z).mp h
    omega
theorem rf_rng1 (h : Rf c (RV c.K) ta ma) : Rf c (RIt c.K) (iRng1 (tCons ta tNil)) (mrng1 ma) := by
  intro pp pr fz σ H ρ Q hp R hq
  refine h pp pr fz σ H ρ _ hp R (hq.bnd fun v x fz1 H1 ρ1 F1 R1 r1 P1 => ?_)
  obtain ⟨z, e, P1⟩ := lftB_post P1
  cases x <;> first | (cases e; done) | skip
  simp only [rng1?] at e
  split at e
  · rename_i j h
    cases e
    cases r1
    obtain ⟨h1, h2⟩ := rOk_iff h
    exact ⟨j, rfl, h1, h2, ok_post P1 R1 iterOk_range⟩
  · cases e
theorem rf_rng2 (h : Rf c (RV c.K) ta ma) (h2 : Rf c (RV c.K) tb mb) : Rf c (RIt c.K) (iRng2 (tCons ta (tCons tb tNil))) (mrng2 ma mb) := by
  intro pp pr fz σ H ρ Q hp R hq
  refine h pp pr fz σ H ρ _ hp R (hq.bnd fun v x fz1 H1 ρ1 F1 R1 r1 P1 => ?_)
  refine h2 pp pr fz1 σ H1 ρ1 _ hp R1 (P1.bnd fun w y fz2 H2 ρ2 F2 R2 r2 P2 => ?_)
  obtain ⟨z, e, P3⟩ := lftB_post P2
  cases x <;> first | (cases e; done) | skip
  cases y <;> first | (cases e; done) | skip
  simp only [rng2?] at e
  split at e
  · rename_i i j h
    cases e
    cases r1
    cases r2
    rw [Bool.and_eq_true] at h
    obtain ⟨h1, h2⟩ := rOk_iff h.1
    obtain ⟨h3, h4⟩ := rOk_iff h.2
    exact ⟨i, j, rfl, ⟨h1, h2, h3, h4⟩, ok_post P3 R2 iterOk_range⟩
  · cases e
theorem iterOk_rangeC {K : PySem.W.Frag} {lo k : Int} {n : Nat} : IterOk K fz H (Itc lo k n) (rangeC lo k n) := by
  intro fz' H' E hf' i
  refine ⟨fun d hd => ?_, fun hl => ?_⟩
  · unfold rangeC at hd
    rw [List.getElem?_map] at hd
    cases e : (List.range n)[i]? with
    | none => rw [e] at hd; cases hd
    | some j =>
      obtain ⟨hi, ej⟩ := List.getElem?_eq_some_iff.mp e
      simp at hi ej
      subst ej
      rw [e] at hd
      cases hd
      refine ⟨hi, fun x H'' hx => ?_⟩
      obtain ⟨rfl, rfl⟩ := hx
      exact ⟨fz', Alc.refl, .int _⟩
  · unfold rangeC at hl
    simp at hl
    exact hl
theorem rf_rng3 {td : TE} {md : M PyData} (h : Rf c (RV c.K) ta ma) (h2 : Rf c (RV c.K) tb mb) (h3 : Rf c (RV c.K) td md) : Rf c (RIt c.K) (iRng3 (tCons ta (tCons tb (tCons td tNil)))) (mrng3 ma mb md) := by
  intro pp pr fz σ H ρ Q hp R hq
  refine h pp pr fz σ H ρ _ hp R (hq.bnd fun v x fz1 H1 ρ1 F1 R1 r1 P1 => ?_)
  refine h2 pp pr fz1 σ H1 ρ1 _ hp R1 (P1.bnd fun w y fz2 H2 ρ2 F2 R2 r2 P2 => ?_)
  refine h3 pp pr fz2 σ H2 ρ2 _ hp R2 (P2.bnd fun w3 y3 fz3 H3 ρ3 F3 R3 r3 P3 => ?_)
  obtain ⟨z, e, P4⟩ := lftB_post P3
  cases x <;> first | (cases e; done) | skip
  cases y <;> first | (cases e; done) | skip
  cases y3 <;> first | (cases e; done) | skip
  simp only [rng3?] at e
  split at e
  · rename_i i j k h
    cases e
    cases r1
    cases r2
    cases r3
    simp only [Bool.and_eq_true, decide_eq_true_eq] at h
    obtain ⟨⟨⟨h1, h2⟩, h3⟩, h4⟩ := h
    exact ⟨i, j, k, _, rfl, ⟨h1, h2, h3, by omega⟩, ok_post P4 R3 iterOk_rangeC⟩
  · cases e
def zipP (xs ys : List PyData) : List PyData := (xs.zip ys).map fun p => .tuple [p.1, p.2]
def zip? (x y : PyData) : Option (List PyData) := match seq? x, seq? y with
  | some xs, some ys => some (zipP xs ys)
  | _, _ => none
def mzip (a b : M PyData) : M (List PyData) := bnd a fun x => bnd b fun y => lft (zip? x y)
theorem zipP_get {xs ys : List PyData} {i : Nat} {d : PyData} (h : (zipP xs ys)[i]? = some d) : ∃ x y, xs[i]? = some x ∧ ys[i]? = some y ∧ d = .tuple [x, y] := by
  unfold zipP at h
  rw [List.getElem?_map] at h
  cases e : (xs.zip ys)[i]? with
  | none => rw [e] at h; cases h
  | some p =>
    rw [e] at h
    cases h
    obtain ⟨h1, h2⟩ := List.getElem?_zip_eq_some.mp e
    exact ⟨_, _, h1, h2, rfl⟩
theorem pair_new {K : PySem.W.Frag} {fz' : Addr → Prop} {H' : Hp} {T : Addr} {v w : V} {x y : PyData} (hf : ∀ a, fz' a → H' a ≠ none) (hT : H' T = none) (r1 : Rep K fz' H' v x) (r2 : Rep K fz' H' w y) :
    ∃ fz'', Alc fz' H' fz'' (upd H' T (.tup [v, w])) ∧ Rep K fz'' (upd H' T (.tup [v, w])) (.ref T) (.tuple [x, y]) :=
  ⟨_, Alc.one hT, .tup (.inl ⟨.inr rfl, .inl upd_same⟩) (RepA.ext ((Alc.one hT).ext hf) (.cons r1 (.cons r2 .nil)))⟩
theorem rep_sq {K : PySem.W.Frag} {fz : Addr → Prop} {H : Hp} {v : V} {d : PyData} {xs : List PyData} (r : Rep K fz H v d) (h : seq? d = some xs) :
    ∃ (u : Bool) (a : Addr) (vs : List V), v = .ref a ∧ RepA K fz H vs xs ∧ ∀ (fz' : Addr → Prop) (H' : Hp), Ext fz H fz' H' → SqU K u H' a vs := by
  cases r with
  | @lst a vs ds hf hH ra => cases h; exact ⟨false, a, vs, rfl, ra, fun fz' H' E => SqL.of ((E.keep a hf).trans hH)⟩
  | @tup a vs ds hH ra => cases h; exact ⟨true, a, vs, rfl, ra, fun fz' H' E => FzT.sq (fz := fz') (hH.imp (fun z => ⟨E.mono _ z.1, Rd.ext z.2 (E.keep _ z.1)⟩) id)⟩
  | _ => cases h
theorem rf_zip (h : Rf c (RV c.K) ta ma) (h2 : Rf c (RV c.K) tb mb) : Rf c (RIt c.K) (iZipX c.K (tCons ta (tCons tb tNil))) (mzip ma mb) := by
  intro pp pr fz σ H ρ Q hp R hq
  refine h pp pr fz σ H ρ _ hp R (hq.bnd fun v x fz1 H1 ρ1 F1 R1 r1 P1 => ?_)
  refine h2 pp pr fz1 σ H1 ρ1 _ hp R1 (P1.bnd fun w y fz2 H2 ρ2 F2 R2 r2 P2 => ?_)
  obtain ⟨z, e, P3⟩ := lftB_post P2
  have r1 : Rep c.K fz2 H2 v x := Rep.ext F2.ext r1
  unfold zip? at e
  cases ex : seq? x with
  | none => rw [ex] at e; cases e
  | some xs =>
    cases ey : seq? y with
    | none => rw [ex, ey] at e; cases e
    | some ys =>
      rw [ex, ey] at e
      cases e
      obtain ⟨u1, a, vs, rfl, ra, sa⟩ := rep_sq r1 ex
      obtain ⟨u2, b, ws, rfl, rb, sb⟩ := rep_sq r2 ey
      have E0 : Ext fz2 H2 fz2 H2 := ⟨fun _ z => z, fun _ _ => rfl⟩
      refine ⟨u1, u2, a, b, vs, ws, rfl, sa _ _ E0, sb _ _ E0, ok_post P3 R2 ?_⟩
      intro fz' H' E hff i
      have e1 := sa _ _ E
      have e2 := sb _ _ E
      refine ⟨fun d hd => ?_, fun hl => ⟨vs, ws, e1, e2, ?_⟩⟩
      · obtain ⟨x, y, hx, hy, rfl⟩ := zipP_get hd
        obtain ⟨v, hv, rv⟩ := ra.get hx
        obtain ⟨w, hw, rw'⟩ := rb.get hy
        refine ⟨⟨vs, ws, v, w, e1, e2, hv, hw⟩, fun u H'' hu => ?_⟩
        obtain ⟨T, x1, x2, rfl, hT, rfl, f1, f2⟩ := hu
        have q1 := f1 _ e1
        have q2 := f2 _ e2
        rw [hv] at q1
        rw [hw] at q2
        cases q1
        cases q2
        exact pair_new hff hT (rv.ext E) (rw'.ext E)
      · unfold zipP at hl
        rw [List.length_map, List.length_zip] at hl
        rw [ra.length, rb.length]
        omega
def enumP (xs : List PyData) : List PyData := xs.mapIdx fun (i : Nat) x => .tuple [.int i, x]
def enum? : PyData → Option (List PyData)
  | .list xs => some (enumP xs)
  | _ => none
def menum (a : M PyData) : M (List PyData) := bnd a fun x => lft (enum? x)
theorem rf_enum (h : Rf c (RV c.K) ta ma) : Rf c (RIt c.K) (iEnum c.K (tCons ta tNil)) (menum ma) := by
  intro pp pr fz σ H ρ Q hp R hq
  refine h pp pr fz σ H ρ _ hp R (hq.bnd fun v x fz1 H1 ρ1 F1 R1 r1 P1 => ?_)
  obtain ⟨z, e, P1⟩ := lftB_post P1
  cases x <;> first | (cases e; done) | skip
  rename_i xs
  cases e
  cases r1 with
  | @lst a vs _ hf hH ra =>
    refine ⟨a, vs, rfl, SqL.of hH, ok_post P1 R1 ?_⟩
    intro fz' H' E hff i
    have e1 : H' a = some (.lst vs) := (E.keep a hf).trans hH
    refine ⟨fun d hd => ?_, fun hl => ⟨vs, SqL.of e1, ?_⟩⟩
    · unfold enumP at hd
      rw [List.getElem?_mapIdx] at hd
      cases e : xs[i]? with
      | none => rw [e] at hd; cases hd
      | some x =>
        rw [e] at hd
        cases hd
        obtain ⟨v, hv, rv⟩ := ra.get e
        refine ⟨⟨vs, v, SqL.of e1, hv⟩, fun u H'' hu => ?_⟩
        obtain ⟨T, x1, rfl, hT, rfl, f1⟩ := hu
        have q1 := f1 _ (SqL.of e1)
        rw [hv] at q1
        cases q1
        exact pair_new hff hT (.int _) (rv.ext E)
    · unfold enumP at hl
      rw [List.length_mapIdx] at hl
      rw [ra.length]; exact hl

/-! ### targets -/
abbrev Asg := PyData → Env → Option Env
def RfG (c : Cw) (ts : List Nat) (g : TG) (a : Asg) : Prop :=
  ∀ (pp : List (Nat × Addr)) (pr fz : Addr → Prop) (σ : L2.St) (H : Hp) (ρ ρ' : Env) (v : V) (d : PyData) (Q : L2.St → Hp → Prop), pp.map (·.1) = c.ps → Rel c.K pp pr fz σ H ρ → Rep c.K fz H v d → a d ρ = some ρ' →
    (∀ σ', Rel c.K pp pr fz σ' H ρ' → σ'.length = σ.length → (∀ i : Nat, i ∉ ts → σ'[i]? = σ[i]?) → Q σ' H) → g v σ H Q
def RfGs (c : Cw) (ts : List Nat) (g : TGs) (a : List PyData → Env → Option Env) : Prop :=
  ∀ (pp : List (Nat × Addr)) (pr fz : Addr → Prop) (σ : L2.St) (H : Hp) (ρ ρ' : Env) (v : List V) (d : List PyData) (Q : L2.St → Hp → Prop), pp.map (·.1) = c.ps → Rel c.K pp pr fz σ H ρ → RepA c.K fz H v d → a d ρ = some ρ' →
    (∀ σ', Rel c.K pp pr fz σ' H ρ' → σ'.length = σ.length → (∀ i : Nat, i ∉ ts → σ'[i]? = σ[i]?) → Q σ' H) → g v σ H Q
def aname (i : Nat) : Asg := fun d ρ => some (ρ.set i (.val d))
def agnil : List PyData → Env → Option Env := fun ds ρ => match ds with
  | [] => some ρ
  | _ => none
def agcons (a : Asg) (r : List PyData → Env → Option Env) : List PyData → Env → Option Env := fun ds ρ => match ds with
  | d :: ds => (a d ρ).bind fun ρ' => r ds ρ'
  | [] => none
def atup (n : Nat) (a : List PyData → Env → Option Env) : Asg := fun d ρ => match d with
  | .tuple ds => if ds.length = n then a ds ρ else none
  | _ => none
theorem rg_name {i : Nat} (hi : i ∉ c.ps) : RfG c [i] (gName i) (aname i) := by
  intro pp pr fz σ H ρ ρ' v d Q hp R r e q
  cases e
  refine q _ (R.setV r (by rw [hp]; exact hi)) (by simp) fun j hj => ?_
  have : i ≠ j := fun z => hj (by rw [z]; exact List.mem_singleton.mpr rfl)
  rw [List.getElem?_set_ne this]
theorem rgs_nil : RfGs c [] gNil agnil := by
  intro pp pr fz σ H ρ ρ' v d Q hp R r e q
  cases r with
  | nil => cases e; exact ⟨rfl, q σ R rfl fun _ _ => rfl⟩
  | cons _ _ => cases e
theorem rgs_cons {ts us : List Nat} {g : TG} {gs : TGs} {a : Asg} {as : List PyData → Env → Option Env} (h : RfG c ts g a) (hs : RfGs c us gs as) : RfGs c (ts ++ us) (gCons g gs) (agcons a as) := by
  intro pp pr fz σ H ρ ρ' v d Q hp R r e q
  cases r with
  | nil => cases e
  | cons r rr =>
    rename_i v vs d ds
    simp only [agcons] at e
    cases e1 : a d ρ with
    | none => rw [e1] at e; cases e
    | some ρ1 =>
      rw [e1] at e
      refine ⟨v, vs, rfl, h pp pr fz σ H ρ ρ1 v d _ hp R r e1 fun σ1 R1 l1 k1 => ?_⟩
      refine hs pp pr fz σ1 H ρ1 ρ' vs ds Q hp R1 rr e fun σ2 R2 l2 k2 => q σ2 R2 (l2.trans l1) fun i hi => ?_
      rw [List.mem_append, not_or] at hi
      exact (k2 i hi.2).trans (k1 i hi.1)
theorem rg_tup {ts : List Nat} {n : Nat} {gs : TGs} {as : List PyData → Env → Option Env} (hs : RfGs c ts gs as) : RfG c ts (gTup c.K n gs) (atup n as) := by
  intro pp pr fz σ H ρ ρ' v d Q hp R r e q
  cases d <;> first | (cases e; done) | skip
  rename_i ds
  simp only [atup] at e
  split at e
  · rename_i hn
    cases r with
    | tup hH ra =>
      exact ⟨_, _, rfl, hH.sq, by rw [ra.length]; exact hn, hs pp pr fz σ H ρ ρ' _ ds Q hp R ra e q⟩
  · cases e
end
end PL

end
section
/-! PL6: list comprehensions. -/
namespace PL
open PySem PySem.Spec L2
open PyProof.Rows hiding St

def wipeE (ρ : Env) : List Nat → Env
  | [] => ρ
  | v :: vs => (wipeE ρ vs).set v .emp
def unw (ρ0 ρ : Env) : List Nat → Env
  | [] => ρ
  | v :: vs => match ρ0[v]? with
    | some (.val d) => (unw ρ0 ρ vs).set v (.val d)
    | _ => unw ρ0 ρ vs
theorem wipe_at {σ : L2.St} {i : Nat} : ∀ {vs : List Nat}, i ∈ vs → (wipe σ vs)[i]? = if i < σ.length then some none else none
  | v :: vs, h => by
    unfold wipe
    by_cases hv : v = i
    · subst hv
      rw [List.getElem?_set]
      simp [wipe_length]
    · rw [List.getElem?_set_ne hv]
      exact wipe_at ((List.mem_cons.mp h).resolve_left (Ne.symm hv))
theorem wipe_congr {σ σ2 : L2.St} {vs : List Nat} (hl : σ2.length = σ.length) (h : ∀ i : Nat, i ∉ vs → σ2[i]? = σ[i]?) : wipe σ2 vs = wipe σ vs := by
  apply List.ext_getElem?
  intro j
  by_cases hj : j ∈ vs
  · rw [wipe_at hj, wipe_at hj, hl]
  · rw [wipe_out hj, wipe_out hj]; exact h j hj
theorem unw_length {ρ0 ρ : Env} : ∀ {vs : List Nat}, (unw ρ0 ρ vs).length = ρ.length
  | [] => rfl
  | v :: vs => by
    unfold unw
    split
    · rw [List.length_set]; exact unw_length
    · exact unw_length
theorem unw_out {ρ0 ρ : Env} {i : Nat} : ∀ {vs : List Nat}, i ∉ vs → (unw ρ0 ρ vs)[i]? = ρ[i]?
  | [], _ => rfl
  | v :: vs, h => by
    have h1 : v ≠ i := fun e => h (by rw [e]; exact List.mem_cons_self)
    have h2 : i ∉ vs := fun m => h (List.mem_cons_of_mem _ m)
    unfold unw
    split
    · rw [List.getElem?_set_ne h1]; exact unw_out h2
    · exact unw_out h2
theorem unw_at {ρ0 ρ : Env} {i : Nat} {s : Sl} : ∀ {vs : List Nat}, (unw ρ0 ρ vs)[i]? = some s → ρ[i]? = some s ∨ ∃ d, s = .val d ∧ ρ0[i]? = some (.val d)
  | [], h => .inl h
  | v :: vs, h => by
    unfold unw at h
    split at h
    · rename_i d hd
      by_cases hv : v = i
      · subst hv
        rw [List.getElem?_set] at h
        simp only [if_true] at h
        split at h
        · cases h; exact .inr ⟨d, rfl, hd⟩
        · cases h
      · rw [List.getElem?_set_ne hv] at h
        exact unw_at h
    · exact unw_at h
section
variable {K : PySem.W.Frag} {pp : List (Nat × Addr)} {pr fz fz' : Addr → Prop} {σ : L2.St} {H H' : Hp} {ρ ρ' : Env}
theorem Rel.setEmp {i : Nat} (R : Rel K pp pr fz σ H ρ) (hi : i ∉ pp.map (·.1)) (o : Option V) : Rel K pp pr fz (σ.set i o) H (ρ.set i .emp) := R.setN (fun x e => by cases e) hi trivial
theorem Rel.wipe (R : Rel K pp pr fz σ H ρ) : ∀ {vs : List Nat}, (∀ i ∈ vs, i ∉ pp.map (·.1)) → Rel K pp pr fz (L2.wipe σ vs) H (wipeE ρ vs)
  | [], _ => R
  | v :: vs, h => (Rel.wipe R fun i hi => h i (List.mem_cons_of_mem _ hi)).setEmp (h v List.mem_cons_self) none
/-- a wider, a narrower protection -/
theorem Rel.wideF {F : List Addr} (R : Rel K pp pr fz σ H ρ) (hF : ∀ b ∈ F, H b ≠ none ∧ Free K fz H σ ρ b) : Rel K pp (fun a => pr a ∨ a ∈ F) fz σ H ρ :=
  (rel_keep R ⟨fun _ z => z, fun _ _ => rfl⟩ (fun i G g b hb => ⟨rfl, (R.reg_ok g b hb).1, fun z => z.elim (R.reg_ok g b hb).2.1 fun q => (hF b q).2 i G g hb⟩) R.fzH fun a h => h.elim (R.prH a) fun q => (hF a q).1).1
theorem Rel.wide {D : Addr} (R : Rel K pp pr fz σ H ρ) (hD : H D ≠ none) (hs : Free K fz H σ ρ D) : Rel K pp (fun a => pr a ∨ a = D) fz σ H ρ :=
  (rel_keep R ⟨fun _ z => z, fun _ _ => rfl⟩ (fun i G g b hb => ⟨rfl, (R.reg_ok g b hb).1, fun z => z.elim (R.reg_ok g b hb).2.1 fun q => hs i G g (q ▸ hb)⟩) R.fzH fun a h => h.elim (R.prH a) fun q => by rw [q]; exact hD).1
theorem Rel.narrow {pr' : Addr → Prop} (R : Rel K pp pr' fz σ H ρ) (h : ∀ a, pr a → pr' a) : Rel K pp pr fz σ H ρ :=
  (rel_keep R ⟨fun _ z => z, fun _ _ => rfl⟩ (fun i G g b hb => ⟨rfl, (R.reg_ok g b hb).1, fun z => (R.reg_ok g b hb).2.1 (h b z)⟩) R.fzH fun a q => R.prH a (h a q)).1
theorem Fr.narrow {pr' : Addr → Prop} (F : Fr pr' fz H fz' H') (h : ∀ a, pr a → pr' a) : Fr pr fz H fz' H' := ⟨F.mono, F.keep, fun a z => F.keepP a (h a z), fun a z => F.new a (h a z)⟩
/-- what is protected is in no region -/
theorem Rel.free_pr (R : Rel K pp pr fz σ H ρ) {b : Addr} (h : pr b) : Free K fz H σ ρ b := fun i F g hb => (R.reg_ok g b hb).2.1 h
/-- an object that no slot holds is changed -/
theorem Rel.other2 {D : Addr} {o : HO} (R : Rel K pp pr fz σ H ρ) (hf : ¬ fz D) (hs : Free K fz H σ ρ D) : Rel K pp pr fz σ (upd H D o) ρ ∧ ∀ i F, Reg K fz (upd H D o) σ ρ i F → Reg K fz H σ ρ i F := by
  have there : ∀ a, H a ≠ none → upd H D o a ≠ none := fun a z => by
    by_cases h : a = D
    · rw [h, upd_same]; simp
    · rw [upd_ne h]; exact z
  exact rel_keep R ⟨fun _ z => z, fun a z => upd_ne fun q => hf (q ▸ z)⟩ (fun i G g b hb => ⟨upd_ne fun q => hs i G g (q ▸ hb), (R.reg_ok g b hb).1, (R.reg_ok g b hb).2.1⟩) (fun a z => there a (R.fzH a z)) fun a z => there a (R.prH a z)
theorem Rel.other {D : Addr} {o : HO} (R : Rel K pp pr fz σ H ρ) (hf : ¬ fz D) (hs : Free K fz H σ ρ D) : Rel K pp pr fz σ (upd H D o) ρ := (R.other2 hf hs).1
/-- back from the block -/
theorem Rel.unw {vs : List Nat} (R0 : Rel K pp pr fz σ H ρ) (R : Rel K pp pr fz' (L2.wipe σ vs) H' ρ') (F : Fr pr fz H fz' H') (hv : ∀ i ∈ vs, i ∉ pp.map (·.1)) : Rel K pp pr fz' σ H' (PL.unw ρ ρ' vs) := by
  have emp : ∀ (i : Nat) (s : Sl), i ∈ vs → ρ'[i]? = some s → s = .emp := fun i s hi e => by
    have q := R.at_ i s e
    rw [wipe_at hi] at q
    have hn : (if i < σ.length then some none else none : Option (Option V)).join = none := by split <;> rfl
    rw [hn] at q
    cases s with
    | emp => rfl
    | val d => obtain ⟨v, h, _⟩ := q; cases h
    | own d => obtain ⟨v, _, h, _⟩ := q; cases h
    | scr d => obtain ⟨v, h, _⟩ := q; cases h
  have own : ∀ (i : Nat) (x : PyData), (PL.unw ρ ρ' vs)[i]? = some (.own x) → ρ'[i]? = some (.own x) ∧ i ∉ vs := fun i x e => by
    rcases unw_at e with h | ⟨d, h, _⟩
    · exact ⟨h, fun z => by cases emp i _ z h⟩
    · cases h
  have back : ∀ i F, Reg K fz' H' σ (PL.unw ρ ρ' vs) i F → Reg K fz' H' (L2.wipe σ vs) ρ' i F := fun i F g => by
    obtain ⟨a, x, e, s, r⟩ := g
    obtain ⟨e1, n1⟩ := own i x e
    exact ⟨a, x, e1, by rw [wipe_out n1]; exact s, r⟩
  refine ⟨by rw [unw_length, ← R.len, wipe_length], fun i s e => ?_, fun i j F G b g1 g2 => R.sep i j F G b (back i F g1) (back j G g2), R.fzH, R.prH, fun p hp => ?_⟩
  · by_cases hi : i ∈ vs
    · rcases unw_at e with h | ⟨d, rfl, h⟩
      · rw [emp i s hi h]; trivial
      · obtain ⟨v, hv', r⟩ := R0.at_ i _ h
        exact ⟨v, hv', r.ext F.ext⟩
    · rw [unw_out hi] at e
      have q := R.at_ i s e
      rw [wipe_out hi] at q
      exact q
  · have hn : p.1 ∉ vs := fun z => hv p.1 z (List.mem_map_of_mem hp)
    obtain ⟨x, e, s⟩ := R.pin p hp
    rw [wipe_out hn] at s
    exact ⟨x, by rw [unw_out hn]; exact e, s⟩
theorem Reg.unw {vs : List Nat} {i : Nat} {F : List Addr} (R : Rel K pp pr fz' (L2.wipe σ vs) H' ρ') (g : Reg K fz' H' σ (PL.unw ρ ρ' vs) i F) : Reg K fz' H' (L2.wipe σ vs) ρ' i F := by
  obtain ⟨a, x, e, s, r⟩ := g
  rcases unw_at e with h | ⟨d, h, _⟩
  · by_cases hi : i ∈ vs
    · obtain ⟨a', _, h', _⟩ := R.own_at h
      rw [wipe_at hi] at h'
      split at h' <;> cases h'
    · exact ⟨a, x, h, by rw [wipe_out hi]; exact s, r⟩
  · cases h
end

def compL (asg : Asg) (test : M Bool) (elt : M PyData) (vs : List Nat) : List PyData → Env → List PyData → Out PyData
  | [], ρ, acc => .ok (.list acc) ρ
  | d :: r, ρ, acc => match asg d ρ with
    | none => .bad
    | some ρ1 => match test ρ1 with
      | .ok b ρ2 => if b = true then match elt ρ2 with
          | .ok y ρ3 => if lenOk (acc.length + 1) = true then compL asg test elt vs r (wipeE ρ3 vs) (acc ++ [y]) else .bad
          | _ => .bad
        else compL asg test elt vs r (wipeE ρ2 vs) acc
      | _ => .bad
def mlc (items : M (List PyData)) (asg : Asg) (test : M Bool) (elt : M PyData) (vs : List Nat) : M PyData := bnd items fun ds ρ => match compL asg test elt vs ds (wipeE ρ vs) [] with
  | .ok d ρ' => .ok d (unw ρ ρ' vs)
  | _ => .bad
abbrev Cw.calm0 (c : Cw) : Cw := { c with W := fun _ _ _ _ => False }
def myes : M Bool := fun ρ => .ok true ρ
section
variable {c : Cw} {wi : TI} {g : TG} {tt : TT} {te : TE} {items : M (List PyData)} {asg : Asg} {test : M Bool} {elt : M PyData} {vs ts : List Nat}
theorem rf_yes : Rf c RB tYes myes := fun pp pr fz σ H ρ Q hp R hq => ok_post hq R rfl
theorem rf_lc (hi : Rf c (RIt c.K) wi items) (hg : RfG c.calm0 ts g asg) (ht : Rf c.calm0 RB tt test) (he : Rf c.calm0 (RV c.K) te elt) (hts : ∀ i ∈ ts, i ∈ vs) (hvs : ∀ i ∈ vs, i ∉ c.ps) :
    Rf c (RO c.K) (tLc wi g tt te vs) (mlc items asg test elt vs) := by
  intro pp pr fz σ H ρ Q hp R hq
  refine hi pp pr fz σ H ρ _ hp R (hq.bnd fun J ds fz1 H1 ρ1 F1 R1 J1 P1 D hD => ?_)
  cases eo : compL asg test elt vs ds (wipeE ρ1 vs) [] with
  | bad => rw [eo] at P1; exact P1.elim
  | exc x r => rw [eo] at P1; exact P1.elim
  | ok dF ρF =>
  rw [eo] at P1
  have hvp : ∀ i ∈ vs, i ∉ pp.map (·.1) := fun i h => by rw [hp]; exact hvs i h
  have nD : ¬ fz1 D := fun z => R1.fzH D z hD
  have npD : ¬ pr D := fun z => R1.prH D z hD
  let prD : Addr → Prop := fun a => pr a ∨ a = D
  let W : Nat → Nat → Hp → Prop := fun i m H2 => m = ds.length - i ∧ i ≤ ds.length ∧ ∃ (fz2 : Addr → Prop) (ρ2 : Env) (acc : List PyData) (vacc : List V), Fr pr fz1 H1 fz2 H2 ∧ Rel c.K pp prD fz2 (wipe σ vs) H2 ρ2 ∧ ¬ fz2 D ∧ H2 D = some (.lst vacc) ∧ RepA c.K fz2 H2 vacc acc ∧
    compL asg test elt vs (ds.drop i) ρ2 acc = .ok dF ρF
  refine ⟨W, ⟨_, rfl, Nat.zero_le _, fz1, wipeE ρ1 vs, [], [], ?_, ?_, nD, upd_same, .nil, by rw [List.drop_zero]; exact eo⟩, fun i m H2 hW => ?_⟩
  · exact ⟨fun _ z => z, fun a z => upd_ne fun q => nD (q ▸ z), fun a z => upd_ne fun q => npD (q ▸ z), fun _ _ z => z⟩
  · have Rw := R1.wipe hvp
    have ns := Rw.free_new hD
    have Ro := Rw.other2 (o := .lst []) nD ns
    exact Ro.1.wide (by rw [upd_same]; simp) fun i F g => ns i F (Ro.2 i F g)
  · obtain ⟨rfl, hil, fz2, ρ2, acc, vacc, F2, R2, nf2, hD2, ra, ec⟩ := hW
    have nown : ∀ {fz3 : Addr → Prop} {σ3 : L2.St} {H3 : Hp} {ρ3 : Env}, Rel c.K pp prD fz3 σ3 H3 ρ3 → Free c.K fz3 H3 σ3 ρ3 D := fun R3 => R3.free_pr (.inr rfl)
    by_cases hlt : i < ds.length
    · obtain ⟨go, yld⟩ := (J1 fz2 H2 F2.ext R2.fzH i).1 ds[i] (List.getElem?_eq_getElem hlt)
      rw [List.drop_eq_getElem_cons hlt] at ec
      unfold compL at ec
      refine .inr ⟨go, W (i + 1) (ds.length - (i + 1)), fun H' h => ⟨_, by omega, h⟩, fun x H3 hx => ?_⟩
      obtain ⟨fz3, A3, r3⟩ := yld x H3 hx
      have R3 := A3.rel R2
      have F3 := A3.fr R2
      cases ea : asg ds[i] ρ2 with
      | none => rw [ea] at ec; cases ec
      | some ρ3 =>
        simp only [ea] at ec
        refine hg pp prD fz3 (wipe σ vs) H3 ρ2 ρ3 x ds[i] _ hp R3 r3 ea fun σ4 R4 l4 k4 => ?_
        have w4 : wipe σ4 vs = wipe σ vs := wipe_congr (l4.trans (wipe_length σ vs)) fun j hj => (k4 j fun z => hj (hts j z)).trans (wipe_out hj)
        refine ⟨w4, ?_⟩
        cases et : test ρ3 with
        | bad => simp only [et] at ec; cases ec
        | exc x r => simp only [et] at ec; cases ec
        | ok b ρ5 =>
          simp only [et] at ec
          refine ht pp prD fz3 σ4 H3 ρ3 _ hp R4 ?_
          rw [et]
          intro b' fz5 H5 F5 R5 hb
          obtain rfl : b' = b := hb
          cases b' with
          | false =>
            rw [if_neg (by simp)] at ec ⊢
            have R6 := R5.wipe hvp
            rw [w4] at R6
            refine ⟨rfl, hlt, fz5, _, acc, vacc, F2.trans ((F3.trans F5).narrow fun a z => .inl z), R6, fun z => nf2 (F3.new D (.inr rfl) (F5.new D (.inr rfl) z)), ?_, RepA.ext F5.ext (RepA.ext F3.ext ra), ec⟩
            rw [F5.keepP D (.inr rfl), F3.keepP D (.inr rfl)]; exact hD2
          | true =>
            rw [if_pos rfl] at ec ⊢
            cases ee : elt ρ5 with
            | bad => simp only [ee] at ec; cases ec
            | exc x r => simp only [ee] at ec; cases ec
            | ok y ρ6 =>
              simp only [ee] at ec
              split at ec
              · rename_i hlen
                refine he pp prD fz5 σ4 H5 ρ5 _ hp R5 ?_
                rw [ee]
                intro w fz6 H6 F6 R6 rw6
                have hD6 : H6 D = some (.lst vacc) := by rw [F6.keepP D (.inr rfl), F5.keepP D (.inr rfl), F3.keepP D (.inr rfl)]; exact hD2
                have nf6 : ¬ fz6 D := fun z => nf2 (F3.new D (.inr rfl) (F5.new D (.inr rfl) (F6.new D (.inr rfl) z)))
                have ra6 := RepA.ext F6.ext (RepA.ext F5.ext (RepA.ext F3.ext ra))
                have R7 := R6.wipe hvp
                rw [w4] at R7
                have E7 : Ext fz6 H6 fz6 (upd H6 D (.lst (vacc ++ [w]))) := ⟨fun _ z => z, fun a z => upd_ne fun q => nf6 (q ▸ z)⟩
                refine ⟨vacc, hD6, ?_, rfl, hlt, fz6, _, acc ++ [y], vacc ++ [w], ?_, R7.other nf6 (nown R7), nf6, upd_same, RepA.ext E7 (ra6.append (.cons rw6 .nil)), ec⟩
                · rw [ra6.length]
                  have := lenOk_iff.mp hlen
                  omega
                · have F := F2.trans (((F3.trans F5).trans F6).narrow fun a z => Or.inl z)
                  exact ⟨F.mono, fun a z => (upd_ne fun q => nf6 (by rw [← q]; exact F.mono a z)).trans (F.keep a z), fun a z => (upd_ne fun q => npD (by rw [← q]; exact z)).trans (F.keepP a z), F.new⟩
              · cases ec
    · have e : i = ds.length := by omega
      subst e
      rw [List.drop_length] at ec
      unfold compL at ec
      obtain ⟨rfl, rfl⟩ : PyData.list acc = dF ∧ ρ2 = ρF := by cases ec; exact ⟨rfl, rfl⟩
      refine .inl ⟨(J1 fz2 H2 F2.ext R2.fzH _).2 (Nat.le_refl _), ?_⟩
      have Rn : Rel c.K pp pr fz2 (wipe σ vs) H2 ρ2 := R2.narrow fun a z => .inl z
      have Ru := R1.unw Rn F2 hvp
      exact P1 (.ref D) fz2 H2 F2 Ru ⟨D, rfl, nf2, npD, fun i F g => nown R2 i F (g.unw R2), vacc, hD2, ra⟩
end
end PL

end
section
/-! PL7: statements. -/
namespace PL
open PySem PySem.Spec L2
open PyProof.Rows hiding St

inductive Rt where
  | v (d : PyData) | o (d : PyData)
inductive SOut where
  | nx (r : Env) | rt (a : Rt) (r : Env) | bk (r : Env) | ct (r : Env) | exc (e : PExc) (r : Env) | bad
abbrev SM := Env → SOut
def PostS (c : Cw) (pp : List (Nat × Addr)) (pr fz : Addr → Prop) (H : Hp) (o : SOut) (D : Ends) : Prop :=
  match o with
  | .nx ρ => ∀ (σ' : L2.St) (fz' : Addr → Prop) (H' : Hp), Fr pr fz H fz' H' → Rel c.K pp pr fz' σ' H' ρ → D.nx σ' H'
  | .bk ρ => ∀ (σ' : L2.St) (fz' : Addr → Prop) (H' : Hp), Fr pr fz H fz' H' → Rel c.K pp pr fz' σ' H' ρ → D.bk σ' H'
  | .ct ρ => ∀ (σ' : L2.St) (fz' : Addr → Prop) (H' : Hp), Fr pr fz H fz' H' → Rel c.K pp pr fz' σ' H' ρ → D.ct σ' H'
  | .rt (.v d) ρ => ∀ (v : V) (σ' : L2.St) (fz' : Addr → Prop) (H' : Hp), Fr pr fz H fz' H' → Rel c.K pp pr fz' σ' H' ρ → Rep c.K fz' H' v d → D.rt v H'
  | .rt (.o d) ρ => ∀ (v : V) (σ' : L2.St) (fz' : Addr → Prop) (H' : Hp), Fr pr fz H fz' H' → Rel c.K pp pr fz' σ' H' ρ → RG c.K pr σ' fz' H' ρ v d → D.rt v H'
  | .exc e ρ => ∀ (cls : Value) (dx : Option Addr) (σ' : L2.St) (fz' : Addr → Prop) (H' : Hp), Fr pr fz H fz' H' → Rel c.K pp pr fz' σ' H' ρ → c.RX fz' H' cls dx e → c.W cls dx σ' H'
  | .bad => False
def RfS (c : Cw) (t : TS) (m : SM) : Prop :=
  ∀ (pp : List (Nat × Addr)) (pr fz : Addr → Prop) (σ : L2.St) (H : Hp) (ρ : Env) (D : Ends), pp.map (·.1) = c.ps → Rel c.K pp pr fz σ H ρ → PostS c pp pr fz H (m ρ) D → t D σ H
section
variable {c : Cw} {pp : List (Nat × Addr)} {pr fz : Addr → Prop} {σ : L2.St} {H : Hp} {ρ : Env}
theorem PostS.rest {fz1 : Addr → Prop} {H1 : Hp} {o : SOut} {D : Ends} (F : Fr pr fz H fz1 H1) (h : PostS c pp pr fz H o D) : PostS c pp pr fz1 H1 o D := by
  cases o with
  | nx r => exact fun σ' fz' H' F' => h σ' fz' H' (F.trans F')
  | bk r => exact fun σ' fz' H' F' => h σ' fz' H' (F.trans F')
  | ct r => exact fun σ' fz' H' F' => h σ' fz' H' (F.trans F')
  | rt a r => cases a <;> exact fun v σ' fz' H' F' => h v σ' fz' H' (F.trans F')
  | exc e r => exact fun cls dx σ' fz' H' F' => h cls dx σ' fz' H' (F.trans F')
  | bad => exact h
/-- an expression within a statement -/
def sbnd {α : Type} (m : M α) (f : α → SM) : SM := fun ρ => match m ρ with
  | .ok a r => f a r
  | .exc e r => .exc e r
  | .bad => .bad
theorem PostS.bnd {α β : Type} {R1 : RT α β} {m : M α} {f : α → SM} {D : Ends} {Q1 : β → Hp → Prop} (h : PostS c pp pr fz H (sbnd m f ρ) D)
    (k : ∀ (b : β) (a : α) (fz1 : Addr → Prop) (H1 : Hp) (ρ1 : Env), Fr pr fz H fz1 H1 → Rel c.K pp pr fz1 σ H1 ρ1 → R1 pr σ fz1 H1 ρ1 b a → PostS c pp pr fz1 H1 (f a ρ1) D → Q1 b H1) : PostG c pp pr σ R1 fz H (m ρ) Q1 := by
  unfold sbnd at h
  cases e : m ρ with
  | ok a r =>
    rw [e] at h
    exact fun b fz1 H1 F R q => k b a fz1 H1 r F R q (h.rest F)
  | exc x r => rw [e] at h; exact fun cls dx fz1 H1 F R q => h cls dx σ fz1 H1 F R q
  | bad => rw [e] at h; exact h.elim
def slft {α : Type} (o : Option α) (f : α → SOut) : SOut := match o with
  | some a => f a
  | none => .bad
variable {t u : TS} {ma mb : SM} {te : TE} {m : M PyData} {g : TG} {asg : Asg} {ts : List Nat}

def mnext : SM := fun ρ => .nx ρ
def mseq (a b : SM) : SM := fun ρ => match a ρ with
  | .nx r => b r
  | o => o
theorem rs_next : RfS c tNext mnext := fun pp pr fz σ H ρ D hp R h => h σ fz H Fr.refl R
theorem rs_seq (h1 : RfS c t ma) (h2 : RfS c u mb) : RfS c (tSeq t u) (mseq ma mb) := by
  intro pp pr fz σ H ρ D hp R hq
  refine h1 pp pr fz σ H ρ { D with nx := u D } hp R ?_
  unfold mseq at hq
  cases e : ma ρ with
  | nx r =>
    rw [e] at hq
    exact fun σ' fz' H' F R' => h2 pp pr fz' σ' H' r D hp R' (PostS.rest F hq)
  | rt a r => rw [e] at hq; cases a <;> exact hq
  | bk r => rw [e] at hq; exact hq
  | ct r => rw [e] at hq; exact hq
  | exc x r => rw [e] at hq; exact hq
  | bad => rw [e] at hq; exact hq
def mbreak : SM := fun ρ => .bk ρ
def mcont : SM := fun ρ => .ct ρ
theorem rs_break : RfS c tBreak mbreak := fun pp pr fz σ H ρ D hp R h => h σ fz H Fr.refl R
theorem rs_cont : RfS c tCont mcont := fun pp pr fz σ H ρ D hp R h => h σ fz H Fr.refl R
def mexpr (e : M PyData) : SM := sbnd e fun _ r => .nx r
theorem rs_expr (h : Rf c (RV c.K) te m) : RfS c (tDrop te) (mexpr m) := by
  intro pp pr fz σ H ρ D hp R hq
  exact h pp pr fz σ H ρ _ hp R (hq.bnd fun v x fz1 H1 ρ1 F1 R1 r1 P1 => P1 σ fz1 H1 Fr.refl R1)
def mret (e : M PyData) : SM := sbnd e fun d r => .rt (.v d) r
def mretO (e : M PyData) : SM := sbnd e fun d r => .rt (.o d) r
theorem rs_ret (h : Rf c (RV c.K) te m) : RfS c (tRet te) (mret m) := by
  intro pp pr fz σ H ρ D hp R hq
  exact h pp pr fz σ H ρ _ hp R (hq.bnd fun v x fz1 H1 ρ1 F1 R1 r1 P1 => P1 v σ fz1 H1 Fr.refl R1 r1)
theorem rs_retO (h : Rf c (RO c.K) te m) : RfS c (tRet te) (mretO m) := by
  intro pp pr fz σ H ρ D hp R hq
  exact h pp pr fz σ H ρ _ hp R (hq.bnd fun v x fz1 H1 ρ1 F1 R1 r1 P1 => P1 v σ fz1 H1 Fr.refl R1 r1.g)
theorem rs_retG (h : Rf c (RG c.K) te m) : RfS c (tRet te) (mretO m) := by
  intro pp pr fz σ H ρ D hp R hq
  exact h pp pr fz σ H ρ _ hp R (hq.bnd fun v x fz1 H1 ρ1 F1 R1 r1 P1 => P1 v σ fz1 H1 Fr.refl R1 r1)
def mretN : SM := fun ρ => .rt (.v .none) ρ
theorem rs_retN : RfS c tRetN mretN := fun pp pr fz σ H ρ D hp R h => h .non σ fz H Fr.refl R .non
/-- a slot's own object is given away -/
def mtakeG (i : Nat) : M PyData := fun ρ => match ρ[i]? with
  | some (.own d) => .ok d (ρ.set i .emp)
  | _ => .bad
theorem rf_takeG {i : Nat} (hi : i ∉ c.ps) : Rf c (RG c.K) (tVar i) (mtakeG i) := by
  intro pp pr fz σ H ρ Q hp R hq
  unfold mtakeG at hq
  cases e : ρ[i]? with
  | none => rw [e] at hq; exact hq.elim
  | some s =>
    rw [e] at hq
    cases s with
    | own d =>
      obtain ⟨a, F, hs, oc, n⟩ := R.own_at e
      have g0 : Reg c.K fz H σ ρ i F := ⟨a, d, e, hs, oc⟩
      refine ⟨_, hs, ?_⟩
      have hil : i < σ.length := (List.getElem?_eq_some_iff.mp hs).1
      have R1 := R.setEmp (i := i) (by rw [hp]; exact hi) (some (V.ref a))
      have e1 : σ.set i (some (V.ref a)) = σ := by
        apply List.ext_getElem?
        intro j
        by_cases h : j = i
        · subst h
          rw [List.getElem?_set_self hil]
          exact hs.symm
        · rw [List.getElem?_set_ne (Ne.symm h)]
      have fr : ∀ b ∈ F, Free c.K fz H (σ.set i (some (V.ref a))) (ρ.set i .emp) b := fun b hb j G g hG => by
        by_cases h : j = i
        · subst h; exact g.none fun x e => by cases e
        · exact h (R.sep j i G F b ((Reg.other h).mp g) g0 hG hb)
      rw [e1] at R1 fr
      exact hq _ fz H Fr.refl R1 ⟨a, F, rfl, oc, fun b hb => ⟨(n b hb).1, (n b hb).2, fr b hb⟩⟩
    | _ => exact hq.elim
def mtake (i : Nat) : M PyData := fun ρ => match ρ[i]? with
  | some (.own d) => if leafD d = true then .ok d (ρ.set i .emp) else .bad
  | _ => .bad
theorem rf_take {i : Nat} (hi : i ∉ c.ps) : Rf c (RO c.K) (tVar i) (mtake i) := by
  intro pp pr fz σ H ρ Q hp R hq
  refine rf_takeG hi pp pr fz σ H ρ Q hp R ?_
  unfold mtake at hq
  unfold mtakeG
  cases e : ρ[i]? with
  | none => rw [e] at hq; exact hq
  | some s =>
    rw [e] at hq
    cases s with
    | own d =>
      dsimp only at hq ⊢
      split at hq
      · rename_i l
        exact fun v fz' H' F R' r => hq v fz' H' F R' (r.o l)
      · exact hq.elim
    | _ => exact hq
/-- target = e -/
def massign (e : M PyData) (a : Asg) : SM := sbnd e fun d r => slft (a d r) .nx
theorem rs_assign (h : Rf c (RV c.K) te m) (hg : RfG c ts g asg) : RfS c (tAsg te g) (massign m asg) := by
  intro pp pr fz σ H ρ D hp R hq
  refine h pp pr fz σ H ρ _ hp R (hq.bnd fun v x fz1 H1 ρ1 F1 R1 r1 P1 => ?_)
  cases e : asg x ρ1 with
  | none => simp only [e, slft] at P1; exact P1.elim
  | some ρ2 =>
    simp only [e, slft] at P1
    exact hg pp pr fz1 σ H1 ρ1 ρ2 v x _ hp R1 r1 e fun σ' R' _ _ => P1 σ' fz1 H1 Fr.refl R'
/-- name = a new list or dict -/
def mown (e : M PyData) (i : Nat) : SM := sbnd e fun d r => .nx (r.set i (.own d))
theorem rs_own {i : Nat} (hi : i ∉ c.ps) (h : Rf c (RO c.K) te m) : RfS c (tAsg te (gName i)) (mown m i) := by
  intro pp pr fz σ H ρ D hp R hq
  refine h pp pr fz σ H ρ _ hp R (hq.bnd fun v x fz1 H1 ρ1 F1 R1 r1 P1 => ?_)
  obtain ⟨a, rfl, nf, np, ns, oc⟩ := r1
  exact P1 _ fz1 H1 Fr.refl (R1.setO nf np oc ns (by rw [hp]; exact hi))
theorem rs_ownG {i : Nat} (hi : i ∉ c.ps) (h : Rf c (RG c.K) te m) : RfS c (tAsg te (gName i)) (mown m i) := by
  intro pp pr fz σ H ρ D hp R hq
  refine h pp pr fz σ H ρ _ hp R (hq.bnd fun v x fz1 H1 ρ1 F1 R1 r1 P1 => ?_)
  obtain ⟨a, F, rfl, oc, n⟩ := r1
  exact P1 _ fz1 H1 Fr.refl (R1.setG oc n (by rw [hp]; exact hi))
/-- name op= e -/
def maug (f : PyData → PyData → Option PyData) (i : Nat) (e : M PyData) : SM := fun ρ => match ρ[i]? with
  | some (.val x) => sbnd e (fun y r => slft (f x y) fun z => .nx (r.set i (.val z))) ρ
  | _ => .bad
theorem rs_aug {r : R2} {f : PyData → PyData → Option PyData} {i : Nat} (hi : i ∉ c.ps) (ho : OpF c.K r f) (h : Rf c (RV c.K) te m) : RfS c (tAug i te r) (maug f i m) := by
  intro pp pr fz σ H ρ D hp R hq
  unfold maug at hq
  cases e : ρ[i]? with
  | none => rw [e] at hq; exact hq.elim
  | some s =>
    rw [e] at hq
    cases s with
    | val x =>
      obtain ⟨v, hv, rv⟩ := R.at_ i _ e
      refine ⟨v, join_some.mp hv, ?_⟩
      refine h pp pr fz σ H ρ _ hp R (PostS.bnd (f := fun y r => slft (f x y) fun z => .nx (r.set i (.val z))) hq fun w y fz1 H1 ρ1 F1 R1 r1 P1 => ?_)
      cases ez : f x y with
      | none => simp only [ez, slft] at P1; exact P1.elim
      | some z =>
        simp only [ez, slft] at P1
        refine ho fz1 H1 v w x y z (.inl (Rep.ext F1.ext rv)) (.inl r1) ez _ fun u fz2 H2 A r2 => ?_
        exact P1 _ fz2 H2 (A.fr R1) ((A.rel R1).setV (r2 R1.fzH) (by rw [hp]; exact hi))
    | _ => exact hq.elim
def mifS (k : M Bool) (a b : SM) : SM := sbnd k fun x => if x = true then a else b
theorem rs_if {tc : TT} {k : M Bool} (hk : Rf c RB tc k) (ha : RfS c t ma) (hb : RfS c u mb) : RfS c (tIfS tc t u) (mifS k ma mb) := by
  intro pp pr fz σ H ρ D hp R hq
  refine hk pp pr fz σ H ρ _ hp R (hq.bnd fun v x fz1 H1 ρ1 F1 R1 r1 P1 => ?_)
  obtain rfl : v = x := r1
  cases v with
  | true => exact ha pp pr fz1 σ H1 ρ1 D hp R1 P1
  | false => exact hb pp pr fz1 σ H1 ρ1 D hp R1 P1

/-! ### loops -/
def forL (asg : Asg) (body : SM) : List PyData → Env → SOut
  | [], ρ => .nx ρ
  | d :: r, ρ => match asg d ρ with
    | none => .bad
    | some ρ1 => match body ρ1 with
      | .nx ρ2 => forL asg body r ρ2
      | .ct ρ2 => forL asg body r ρ2
      | .bk ρ2 => .nx ρ2
      | o => o
def mfor (items : M (List PyData)) (asg : Asg) (body : SM) : SM := sbnd items fun ds => forL asg body ds
theorem rs_for {wi : TI} {items : M (List PyData)} (hi : Rf c (RIt c.K) wi items) (hg : RfG c ts g asg) (hb : RfS c t ma) : RfS c (tFor wi g t) (mfor items asg ma) := by
  intro pp pr fz σ H ρ D hp R hq
  refine hi pp pr fz σ H ρ _ hp R (hq.bnd fun J ds fz1 H1 ρ1 F1 R1 J1 P1 => ?_)
  let W : Nat → Nat → L2.St → Hp → Prop := fun i n σ2 H2 => n = ds.length - i ∧ i ≤ ds.length ∧ ∃ (fz2 : Addr → Prop) (ρ2 : Env), Fr pr fz1 H1 fz2 H2 ∧ Rel c.K pp pr fz2 σ2 H2 ρ2 ∧ PostS c pp pr fz2 H2 (forL asg ma (ds.drop i) ρ2) D
  refine ⟨W, ⟨_, rfl, Nat.zero_le _, fz1, ρ1, Fr.refl, R1, by rw [List.drop_zero]; exact P1⟩, fun i n σ2 H2 hW => ?_⟩
  obtain ⟨rfl, hil, fz2, ρ2, F2, R2, P2⟩ := hW
  by_cases hlt : i < ds.length
  · obtain ⟨go, yld⟩ := (J1 fz2 H2 F2.ext R2.fzH i).1 ds[i] (List.getElem?_eq_getElem hlt)
    rw [List.drop_eq_getElem_cons hlt] at P2
    unfold forL at P2
    refine .inr ⟨go, W (i + 1) (ds.length - (i + 1)), fun σ' H' h => ⟨_, by omega, h⟩, fun x H3 hx => ?_⟩
    obtain ⟨fz3, A3, r3⟩ := yld x H3 hx
    have R3 := A3.rel R2
    have F3 := A3.fr R2
    cases ea : asg ds[i] ρ2 with
    | none => rw [ea] at P2; exact P2.elim
    | some ρ3 =>
      simp only [ea] at P2
      refine hg pp pr fz3 σ2 H3 ρ2 ρ3 x ds[i] _ hp R3 r3 ea fun σ4 R4 l4 k4 => ?_
      refine hb pp pr fz3 σ4 H3 ρ3 _ hp R4 ?_
      have P2 := PostS.rest F3 P2
      cases eb : ma ρ3 with
      | nx ρ5 =>
        simp only [eb] at P2
        exact fun σ' fz' H' F' R' => ⟨rfl, hlt, fz', ρ5, F2.trans (F3.trans F'), R', PostS.rest F' P2⟩
      | ct ρ5 =>
        simp only [eb] at P2
        exact fun σ' fz' H' F' R' => ⟨rfl, hlt, fz', ρ5, F2.trans (F3.trans F'), R', PostS.rest F' P2⟩
      | bk ρ5 =>
        simp only [eb] at P2
        exact P2
      | rt a r => simp only [eb] at P2; cases a <;> exact P2
      | exc x r => simp only [eb] at P2; exact P2
      | bad => simp only [eb] at P2; exact P2.elim
  · have e : i = ds.length := by omega
    subst e
    rw [List.drop_length] at P2
    exact .inl ⟨(J1 fz2 H2 F2.ext R2.fzH _).2 (Nat.le_refl _), P2 σ2 fz2 H2 Fr.refl R2⟩
def whileN (k : M Bool) (b : SM) : Nat → Env → SOut
  | 0, _ => .bad
  | n + 1, ρ => match k ρ with
    | .ok x ρ1 => if x = true then match b ρ1 with
        | .nx ρ2 => whileN k b n ρ2
        | .ct ρ2 => whileN k b n ρ2
        | .bk ρ2 => .nx ρ2
        | o => o
      else .nx ρ1
    | .exc e r => .exc e r
    | .bad => .bad
open Classical in
noncomputable def mwhile (k : M Bool) (b : SM) : SM := fun ρ => if h : ∃ n, whileN k b n ρ ≠ .bad then whileN k b (Classical.choose h) ρ else .bad
theorem whileN_mono {k : M Bool} {b : SM} : ∀ {n : Nat} {ρ : Env}, whileN k b n ρ ≠ .bad → ∀ j, whileN k b (n + j) ρ = whileN k b n ρ
  | 0, ρ, h, j => absurd rfl h
  | n + 1, ρ, h, j => by
    rw [show n + 1 + j = (n + j) + 1 by omega]
    unfold whileN at h ⊢
    cases e : k ρ with
    | bad => rfl
    | exc x r => rfl
    | ok x r =>
      simp only [e] at h ⊢
      cases x with
      | false => rfl
      | true =>
        simp only [if_true] at h ⊢
        cases eb : b r with
        | nx r2 => simp only [eb] at h ⊢; exact whileN_mono h j
        | ct r2 => simp only [eb] at h ⊢; exact whileN_mono h j
        | _ => rfl
theorem mwhile_eq {k : M Bool} {b : SM} {ρ : Env} (n : Nat) (h : whileN k b n ρ ≠ .bad) : mwhile k b ρ = whileN k b n ρ := by
  have hx : ∃ n, whileN k b n ρ ≠ .bad := ⟨n, h⟩
  unfold mwhile
  rw [dif_pos hx]
  have h2 := Classical.choose_spec hx
  rcases Nat.le_total n (Classical.choose hx) with hl | hl
  · obtain ⟨j, ej⟩ := Nat.le.dest hl
    rw [← ej]; exact whileN_mono h j
  · obtain ⟨j, ej⟩ := Nat.le.dest hl
    have := whileN_mono h2 j
    rw [ej] at this
    exact this.symm
theorem rs_while {tc : TT} {k : M Bool} (hk : Rf c RB tc k) (hb : RfS c t ma) : RfS c (tWhile tc t) (mwhile k ma) := by
  intro pp pr fz σ H ρ D hp R hq
  unfold mwhile at hq
  split at hq
  · rename_i hx
    refine ⟨fun n σ2 H2 => ∃ (fz2 : Addr → Prop) (ρ2 : Env), Fr pr fz H fz2 H2 ∧ Rel c.K pp pr fz2 σ2 H2 ρ2 ∧ PostS c pp pr fz2 H2 (whileN k ma n ρ2) D, ⟨_, fz, ρ, Fr.refl, R, hq⟩, fun n σ2 H2 hW => ?_⟩
    obtain ⟨fz2, ρ2, F2, R2, P2⟩ := hW
    cases n with
    | zero => exact P2.elim
    | succ n =>
      unfold whileN at P2
      refine hk pp pr fz2 σ2 H2 ρ2 _ hp R2 ?_
      cases e : k ρ2 with
      | bad => simp only [e] at P2; exact P2.elim
      | exc x r => simp only [e] at P2; exact fun cls dx fz' H' F' R' q => P2 cls dx σ2 fz' H' F' R' q
      | ok x ρ3 =>
        simp only [e] at P2
        intro b fz3 H3 F3 R3 hb'
        obtain rfl : b = x := hb'
        cases b with
        | false =>
          simp only [Bool.false_eq_true, if_false] at P2 ⊢
          exact P2 σ2 fz3 H3 F3 R3
        | true =>
          simp only [if_true] at P2 ⊢
          refine ⟨fun σ4 H4 => ∃ (fz4 : Addr → Prop) (ρ4 : Env), Fr pr fz H fz4 H4 ∧ Rel c.K pp pr fz4 σ4 H4 ρ4 ∧ PostS c pp pr fz4 H4 (whileN k ma n ρ4) D, fun σ' H' h => ⟨n, Nat.lt_succ_self n, h⟩, ?_⟩
          refine hb pp pr fz3 σ2 H3 ρ3 _ hp R3 ?_
          have P2 := PostS.rest F3 P2
          cases eb : ma ρ3 with
          | nx ρ5 =>
            simp only [eb] at P2
            exact fun σ' fz' H' F' R' => ⟨fz', ρ5, F2.trans (F3.trans F'), R', PostS.rest F' P2⟩
          | ct ρ5 =>
            simp only [eb] at P2
            exact fun σ' fz' H' F' R' => ⟨fz', ρ5, F2.trans (F3.trans F'), R', PostS.rest F' P2⟩
          | bk ρ5 => simp only [eb] at P2; exact P2
          | rt a r => simp only [eb] at P2; cases a <;> exact P2
          | exc x r => simp only [eb] at P2; exact P2
          | bad => simp only [eb] at P2; exact P2.elim
  · exact hq.elim

/-! ### lists that a slot holds: append, pop, x[i] = e -/
def ownL (i : Nat) (ρ : Env) : Option (List PyData) := match ρ[i]? with
  | some (.own (.list ds)) => some ds
  | _ => none
theorem ownL_eq {i : Nat} {ds : List PyData} (h : ownL i ρ = some ds) : ρ[i]? = some (.own (.list ds)) := by
  unfold ownL at h
  split at h
  · rename_i e; cases h; exact e
  · cases h
def mappend (i : Nat) (e : M PyData) : SM := fun ρ => slft (ownL i ρ) fun _ => sbnd e (fun d r => slft (ownL i r) fun ds => if lenOk (ds.length + 1) = true then .nx (r.set i (.own (.list (ds ++ [d])))) else .bad) ρ
theorem rs_append {i : Nat} (h : Rf c (RV c.K) te m) : RfS c (tDrop (tBM c.K "list" rAppend (tVar i) (tCons te tNil))) (mappend i m) := by
  intro pp pr fz σ H ρ D hp R hq
  unfold mappend at hq
  cases e : ownL i ρ with
  | none => simp only [e, slft] at hq; exact hq.elim
  | some ds0 =>
    simp only [e, slft] at hq
    obtain ⟨a, hs, nf, np, vs0, hH0, _⟩ := R.own_ne (ownL_eq e) rfl
    refine ⟨_, hs, .inl ⟨rfl, vs0, SqL.of hH0⟩, ?_⟩
    refine h pp pr fz σ H ρ _ hp R (PostS.bnd (f := fun d r => slft (ownL i r) fun ds => if lenOk (ds.length + 1) = true then .nx (r.set i (.own (.list (ds ++ [d])))) else .bad) hq fun v x fz1 H1 ρ1 F1 R1 r1 P1 => ?_)
    cases e1 : ownL i ρ1 with
    | none => simp only [e1, slft] at P1; exact P1.elim
    | some ds =>
      simp only [e1, slft] at P1
      split at P1
      · rename_i hl
        have er := ownL_eq e1
        obtain ⟨a', hs', nf', np', vs, hH, ra⟩ := R1.own_ne er rfl
        obtain rfl : a' = a := by rw [hs] at hs'; cases hs'; rfl
        refine ⟨a', vs, v, rfl, rfl, hH, ?_, ?_⟩
        · have := lenOk_iff.mp hl
          rw [ra.length]; omega
        · have E : Ext fz1 H1 fz1 (upd H1 a' (.lst (vs ++ [v]))) := ⟨fun _ z => z, fun b z => upd_ne fun q => nf' (by rw [← q]; exact z)⟩
          obtain ⟨F2, R2⟩ := R1.wr (d' := .list (ds ++ [x])) er hs rfl ⟨_, upd_same, RepA.ext E (ra.append (.cons r1 .nil))⟩
          exact P1 σ fz1 _ F2 R2
      · exact P1.elim
def mpop (i : Nat) : M PyData := fun ρ => match ownL i ρ with
  | some ds => (match ds[ds.length - 1]? with
    | some d => .ok d (ρ.set i (.own (.list ds.dropLast)))
    | none => .bad)
  | none => .bad
theorem rf_pop {i : Nat} : Rf c (RV c.K) (tBM0 c.K "list" rPop (tVar i)) (mpop i) := by
  intro pp pr fz σ H ρ Q hp R hq
  unfold mpop at hq
  cases e : ownL i ρ with
  | none => simp only [e] at hq; exact hq.elim
  | some ds =>
    simp only [e] at hq
    cases e1 : ds[ds.length - 1]? with
    | none => simp only [e1] at hq; exact hq.elim
    | some d =>
      simp only [e1] at hq
      have er := ownL_eq e
      obtain ⟨a, hs, nf, np, vs, hH, ra⟩ := R.own_ne er rfl
      obtain ⟨y, hy, ry⟩ := ra.get e1
      have E : Ext fz H fz (upd H a (.lst vs.dropLast)) := ⟨fun _ z => z, fun b z => upd_ne fun q => nf (by rw [← q]; exact z)⟩
      obtain ⟨F2, R2⟩ := R.wr (d' := .list ds.dropLast) er hs rfl ⟨_, upd_same, RepA.ext E ra.dropLast⟩
      refine ⟨_, hs, .inl ⟨rfl, vs, SqL.of hH⟩, a, vs, y, rfl, rfl, hH, by rw [ra.length]; exact hy, ?_⟩
      exact hq y fz _ F2 R2 (ry.ext E)
def mstore (i : Nat) (k : M PyData) (e : M PyData) : SM := sbnd e fun d ρ1 => slft (ownL i ρ1) fun _ => sbnd k (fun j r => slft (ownL i r) fun ds => slft ((asI? j).bind (ixN ds.length)) fun n => .nx (r.set i (.own (.list (ds.set n d))))) ρ1
theorem rs_store {i : Nat} {tk : TE} {mk : M PyData} (h : Rf c (RV c.K) te m) (hk : Rf c (RV c.K) tk mk) : RfS c (tAsg te (gSub (tVar i) tk rSetL)) (mstore i mk m) := by
  intro pp pr fz σ H ρ D hp R hq
  refine h pp pr fz σ H ρ _ hp R (hq.bnd fun v x fz1 H1 ρ1 F1 R1 r1 P1 => ?_)
  cases e : ownL i ρ1 with
  | none => simp only [e, slft] at P1; exact P1.elim
  | some ds0 =>
    simp only [e, slft] at P1
    obtain ⟨a, hs, nf, np, vs0, hH0, _⟩ := R1.own_ne (ownL_eq e) rfl
    refine ⟨_, hs, ?_⟩
    refine hk pp pr fz1 σ H1 ρ1 _ hp R1 (PostS.bnd (f := fun j r => slft (ownL i r) fun ds => slft ((asI? j).bind (ixN ds.length)) fun n => .nx (r.set i (.own (.list (ds.set n x))))) P1 fun w j fz2 H2 ρ2 F2 R2 r2 P2 => ?_)
    cases e1 : ownL i ρ2 with
    | none => simp only [e1, slft] at P2; exact P2.elim
    | some ds =>
      simp only [e1, slft] at P2
      cases j <;> first | (simp only [asI?, Option.bind_none] at P2; exact P2.elim) | skip
      rename_i k
      simp only [asI?, Option.bind_some] at P2
      cases e2 : ixN ds.length k with
      | none => simp only [e2] at P2; exact P2.elim
      | some n =>
        simp only [e2] at P2
        have er := ownL_eq e1
        obtain ⟨a', hs', nf', np', vs, hH, ra⟩ := R2.own_ne er rfl
        obtain rfl : a' = a := by rw [hs] at hs'; cases hs'; rfl
        cases r2
        refine ⟨a', vs, k, n, rfl, rfl, hH, by rw [ra.length]; exact e2, ?_⟩
        have E : Ext fz2 H2 fz2 (upd H2 a' (.lst (vs.set n v))) := ⟨fun _ z => z, fun b z => upd_ne fun q => nf' (by rw [← q]; exact z)⟩
        obtain ⟨F3, R3⟩ := R2.wr (d' := .list (ds.set n x)) er hs rfl ⟨_, upd_same, RepA.ext E (ra.set n (Rep.ext F2.ext r1))⟩
        exact P2 σ fz2 _ F3 R3
end
end PL

end
section
/-! PL8: defs and calls. -/
namespace PL
open PySem PySem.Spec L2
open PyProof.Rows hiding St

/-- a parameter: a value, an object lent, the script -/
inductive PKd where
  | v | o | s
  deriving DecidableEq
inductive FOut where
  | ok (r : Rt) (outs : List PyData) | exc (e : PExc) (outs : List PyData) | bad
def ArgR (K : PySem.W.Frag) (pr fz : Addr → Prop) (H : Hp) : PKd → V → PyData → Prop
  | .v, w, x => Rep K fz H w x
  | .o, w, x => ∃ a F, w = .ref a ∧ OwnR K fz H a x F ∧ ∀ b ∈ F, ¬ fz b ∧ ¬ pr b
  | .s, w, x => ∃ (a : Addr) (ns : List Int), w = .ref a ∧ FzL K fz H a (ns.map V.int) ∧ x = .list (ns.map PyData.int)
def ArgsR (K : PySem.W.Frag) (pr fz : Addr → Prop) (H : Hp) : List PKd → List V → List PyData → Prop
  | [], [], [] => True
  | k :: ks, v :: vs, x :: xs => ArgR K pr fz H k v x ∧ ArgsR K pr fz H ks vs xs
  | _, _, _ => False
/-- b belongs to an argument that is lent -/
def InA (K : PySem.W.Frag) (fz : Addr → Prop) (H : Hp) : List PKd → List V → List PyData → Addr → Prop
  | .o :: ks, v :: vs, x :: xs, b => (∃ a F, v = .ref a ∧ OwnR K fz H a x F ∧ b ∈ F) ∨ InA K fz H ks vs xs b
  | .v :: ks, _ :: vs, _ :: xs, b => InA K fz H ks vs xs b
  | .s :: ks, _ :: vs, _ :: xs, b => InA K fz H ks vs xs b
  | _, _, _, _ => False
/-- what is lent stands apart -/
def ArgSep (K : PySem.W.Frag) (fz : Addr → Prop) (H : Hp) : List PKd → List V → List PyData → Prop
  | .o :: ks, v :: vs, x :: xs => (∀ a F, v = .ref a → OwnR K fz H a x F → ∀ b ∈ F, ¬ InA K fz H ks vs xs b) ∧ ArgSep K fz H ks vs xs
  | .v :: ks, _ :: vs, _ :: xs => ArgSep K fz H ks vs xs
  | .s :: ks, _ :: vs, _ :: xs => ArgSep K fz H ks vs xs
  | _, _, _ => True
/-- b belongs to an object that comes back -/
def InO (K : PySem.W.Frag) (fz : Addr → Prop) (H : Hp) : List PKd → List V → List PyData → Addr → Prop
  | .o :: ks, v :: vs, x :: xs, b => (∃ a F, v = .ref a ∧ OwnR K fz H a x F ∧ b ∈ F) ∨ InO K fz H ks vs xs b
  | .v :: ks, _ :: vs, xs, b => InO K fz H ks vs xs b
  | .s :: ks, _ :: vs, xs, b => InO K fz H ks vs xs b
  | _, _, _, _ => False
def OutsR (K : PySem.W.Frag) (pr fz : Addr → Prop) (H : Hp) : List PKd → List V → List PyData → Prop
  | [], _, [] => True
  | .o :: ks, v :: vs, x :: xs => (∃ a F, v = .ref a ∧ OwnR K fz H a x F ∧ ∀ b ∈ F, ¬ fz b ∧ ¬ pr b ∧ ¬ InO K fz H ks vs xs b) ∧ OutsR K pr fz H ks vs xs
  | .v :: ks, _ :: vs, xs => OutsR K pr fz H ks vs xs
  | .s :: ks, _ :: vs, xs => OutsR K pr fz H ks vs xs
  | _, _, _ => False
def RetR (K : PySem.W.Frag) (pr fz : Addr → Prop) (H : Hp) (io : Addr → Prop) : Rt → V → Prop
  | .v d, v => Rep K fz H v d
  | .o d, v => ∃ a F, v = .ref a ∧ OwnR K fz H a d F ∧ ∀ b ∈ F, ¬ fz b ∧ ¬ pr b ∧ ¬ io b
def PostF (K : PySem.W.Frag) (RX : RXT) (pr fz : Addr → Prop) (H : Hp) (ks : List PKd) (vs : List V) (o : FOut) (Q : VK) (E : XK) : Prop :=
  match o with
  | .ok r outs => ∀ (v : V) (fz' : Addr → Prop) (H' : Hp), Fr pr fz H fz' H' → (∀ a, fz' a → H' a ≠ none) → OutsR K pr fz' H' ks vs outs → RetR K pr fz' H' (InO K fz' H' ks vs outs) r v → Q v H'
  | .exc e outs => ∀ (cls : Value) (dx : Option Addr) (fz' : Addr → Prop) (H' : Hp), Fr pr fz H fz' H' → (∀ a, fz' a → H' a ≠ none) → OutsR K pr fz' H' ks vs outs → RX fz' H' cls dx e → E cls dx H'
  | .bad => False
/-- the promise of a def that is the pure function f -/
def spF (K : PySem.W.Frag) (RX : RXT) (ks : List PKd) (f : List PyData → FOut) : Sp := fun vs H Q E =>
  ∃ (pr fz : Addr → Prop) (xs : List PyData), ArgsR K pr fz H ks vs xs ∧ ArgSep K fz H ks vs xs ∧ (∀ a, fz a → H a ≠ none) ∧ (∀ a, pr a → H a ≠ none) ∧ PostF K RX pr fz H ks vs (f xs) Q E
theorem ArgsR.len {K : PySem.W.Frag} {pr fz : Addr → Prop} {H : Hp} : ∀ {ks : List PKd} {vs : List V} {xs : List PyData}, ArgsR K pr fz H ks vs xs → vs.length = ks.length
  | [], [], [], _ => rfl
  | _ :: _, _ :: _, _ :: _, h => by simp [ArgsR.len h.2]
  | [], [], _ :: _, h => h.elim
  | [], _ :: _, _, h => h.elim
  | _ :: _, [], _, h => h.elim
  | _ :: _, _ :: _, [], h => h.elim

/-! ### a body -/
def entrySl : PKd → PyData → Sl
  | .v, x => .val x
  | .o, x => .own x
  | .s, .list ds => .scr ((ints? ds).getD [])
  | .s, _ => .emp
def entrySls : List PKd → List PyData → Env
  | k :: ks, x :: xs => entrySl k x :: entrySls ks xs
  | _, _ => []
def entry (n : Nat) (ks : List PKd) (xs : List PyData) : Env := entrySls ks xs ++ List.replicate (n - ks.length) .emp
def ownIx : Nat → List PKd → List Nat
  | _, [] => []
  | n, .o :: ks => n :: ownIx (n + 1) ks
  | n, .v :: ks => ownIx (n + 1) ks
  | n, .s :: ks => ownIx (n + 1) ks
def ownPP : Nat → List PKd → List V → List (Nat × Addr)
  | n, .o :: ks, .ref a :: vs => (n, a) :: ownPP (n + 1) ks vs
  | n, _ :: ks, _ :: vs => ownPP (n + 1) ks vs
  | _, _, _ => []
def outAt (i : Nat) (ρ : Env) : PyData := match ρ[i]? with
  | some (.own x) => x
  | _ => .none
def fin (ks : List PKd) : SOut → FOut
  | .nx ρ => .ok (.v .none) ((ownIx 0 ks).map fun i => outAt i ρ)
  | .rt r ρ => .ok r ((ownIx 0 ks).map fun i => outAt i ρ)
  | .exc e ρ => .exc e ((ownIx 0 ks).map fun i => outAt i ρ)
  | _ => .bad
def bodyF (n : Nat) (ks : List PKd) (m : SM) (xs : List PyData) : FOut := fin ks (m (entry n ks xs))
section
variable {K : PySem.W.Frag} {pr fz fz' : Addr → Prop} {H H' : Hp}
theorem ownPP_ix : ∀ {n : Nat} {ks : List PKd} {vs : List V} {xs : List PyData}, ArgsR K pr fz H ks vs xs → (ownPP n ks vs).map (·.1) = ownIx n ks
  | _, [], [], [], _ => rfl
  | n, .v :: ks, v :: vs, x :: xs, h => by
    have : ownPP n (.v :: ks) (v :: vs) = ownPP (n + 1) ks vs := by cases v <;> rfl
    rw [this]; exact ownPP_ix h.2
  | n, .s :: ks, v :: vs, x :: xs, h => by
    have : ownPP n (.s :: ks) (v :: vs) = ownPP (n + 1) ks vs := by cases v <;> rfl
    rw [this]; exact ownPP_ix h.2
  | n, .o :: ks, v :: vs, x :: xs, h => by
    obtain ⟨⟨a, _, rfl, _⟩, h2⟩ := h
    simp only [ownPP, ownIx, List.map_cons, ownPP_ix h2]
  | _, [], [], _ :: _, h => h.elim
  | _, [], _ :: _, _, h => h.elim
  | _, _ :: _, [], _, h => h.elim
  | _, _ :: _, _ :: _, [], h => h.elim
theorem ownPP_get : ∀ {n : Nat} {ks : List PKd} {vs : List V} {xs : List PyData} {p : Nat × Addr}, ArgsR K pr fz H ks vs xs → p ∈ ownPP n ks vs → n ≤ p.1 ∧ vs[p.1 - n]? = some (.ref p.2) ∧ ∃ x, (entrySls ks xs)[p.1 - n]? = some (.own x)
  | _, [], [], [], p, _, hp => by simp [ownPP] at hp
  | n, k :: ks, v :: vs, x :: xs, p, h, hp => by
    have tail : p ∈ ownPP (n + 1) ks vs → n ≤ p.1 ∧ (v :: vs)[p.1 - n]? = some (.ref p.2) ∧ ∃ y, (entrySls (k :: ks) (x :: xs))[p.1 - n]? = some (.own y) := fun hp => by
      obtain ⟨h1, h2, y, h3⟩ := ownPP_get h.2 hp
      have e : p.1 - n = (p.1 - (n + 1)) + 1 := by omega
      refine ⟨by omega, by rw [e]; exact h2, y, by rw [e]; exact h3⟩
    cases k with
    | v =>
      have : ownPP n (.v :: ks) (v :: vs) = ownPP (n + 1) ks vs := by cases v <;> rfl
      rw [this] at hp; exact tail hp
    | s =>
      have : ownPP n (.s :: ks) (v :: vs) = ownPP (n + 1) ks vs := by cases v <;> rfl
      rw [this] at hp; exact tail hp
    | o =>
      obtain ⟨⟨a, _, rfl, _⟩, _⟩ := id h
      simp only [ownPP] at hp
      rcases List.mem_cons.mp hp with e | hp
      · subst e
        refine ⟨Nat.le_refl _, ?_, x, ?_⟩ <;> simp [entrySls, entrySl]
      · exact tail hp
  | _, [], [], _ :: _, _, h, _ => h.elim
  | _, [], _ :: _, _, _, h, _ => h.elim
  | _, _ :: _, [], _, _, h, _ => h.elim
  | _, _ :: _, _ :: _, [], _, h, _ => h.elim
theorem entrySls_len : ∀ {ks : List PKd} {vs : List V} {xs : List PyData}, ArgsR K pr fz H ks vs xs → (entrySls ks xs).length = ks.length
  | [], [], [], _ => rfl
  | _ :: _, _ :: _, _ :: _, h => by simp [entrySls, entrySls_len h.2]
  | [], [], _ :: _, h => h.elim
  | [], _ :: _, _, h => h.elim
  | _ :: _, [], _, h => h.elim
  | _ :: _, _ :: _, [], h => h.elim
theorem entrySls_at : ∀ {ks : List PKd} {vs : List V} {xs : List PyData} {i : Nat} {s : Sl}, ArgsR K pr fz H ks vs xs → (entrySls ks xs)[i]? = some s → SlR K pr fz H vs[i]? s
  | [], [], [], _, _, _, e => by simp [entrySls] at e
  | k :: ks, v :: vs, x :: xs, 0, s, h, e => by
    simp only [entrySls, List.getElem?_cons_zero, Option.some.injEq] at e
    subst e
    obtain ⟨h, _⟩ := h
    cases k with
    | v => exact ⟨v, rfl, h⟩
    | o => obtain ⟨a, F, rfl, r⟩ := h; exact ⟨a, F, rfl, r⟩
    | s =>
      obtain ⟨a, ns, rfl, hr, rfl⟩ := h
      refine ⟨a, rfl, ?_⟩
      rw [ints_map]; exact hr
  | k :: ks, v :: vs, x :: xs, i + 1, s, h, e => by
    simp only [entrySls, List.getElem?_cons_succ] at e ⊢
    exact entrySls_at h.2 e
  | [], [], _ :: _, _, _, h, _ => h.elim
  | [], _ :: _, _, _, _, h, _ => h.elim
  | _ :: _, [], _, _, _, h, _ => h.elim
  | _ :: _, _ :: _, [], _, _, h, _ => h.elim
theorem inA_at : ∀ {ks : List PKd} {vs : List V} {xs : List PyData} {i : Nat} {x : PyData} {a b : Addr} {F : List Addr}, ArgsR K pr fz H ks vs xs → (entrySls ks xs)[i]? = some (.own x) → vs[i]? = some (.ref a) → OwnR K fz H a x F → b ∈ F → InA K fz H ks vs xs b
  | [], [], [], _, _, _, _, _, _, e, _, _, _ => by simp [entrySls] at e
  | k :: ks, v :: vs, x :: xs, 0, s, a, b, F, h, e, ev, r, hb => by
    simp only [entrySls, List.getElem?_cons_zero, Option.some.injEq] at e ev
    subst ev
    cases k with
    | v => cases e
    | o => cases e; exact .inl ⟨_, F, rfl, r, hb⟩
    | s => obtain ⟨⟨_, ns, _, _, rfl⟩, _⟩ := h; simp [entrySl] at e
  | k :: ks, v :: vs, x :: xs, i + 1, s, a, b, F, h, e, ev, r, hb => by
    simp only [entrySls, List.getElem?_cons_succ] at e ev
    have q := inA_at h.2 e ev r hb
    cases k with
    | v => exact q
    | s => exact q
    | o => exact .inr q
  | [], [], _ :: _, _, _, _, _, _, h, _, _, _, _ => h.elim
  | [], _ :: _, _, _, _, _, _, _, h, _, _, _, _ => h.elim
  | _ :: _, [], _, _, _, _, _, _, h, _, _, _, _ => h.elim
  | _ :: _, _ :: _, [], _, _, _, _, _, h, _, _, _, _ => h.elim
theorem argSep_at : ∀ {ks : List PKd} {vs : List V} {xs : List PyData} {i j : Nat} {x y : PyData} {a c b : Addr} {F G : List Addr}, ArgsR K pr fz H ks vs xs → ArgSep K fz H ks vs xs → (entrySls ks xs)[i]? = some (.own x) → (entrySls ks xs)[j]? = some (.own y) →
    vs[i]? = some (.ref a) → vs[j]? = some (.ref c) → OwnR K fz H a x F → OwnR K fz H c y G → b ∈ F → b ∈ G → i = j
  | [], [], [], _, _, _, _, _, _, _, _, _, _, _, e, _, _, _, _, _, _, _ => by simp [entrySls] at e
  | k :: ks, v :: vs, z :: xs, 0, 0, _, _, _, _, _, _, _, _, _, _, _, _, _, _, _, _, _ => rfl
  | k :: ks, v :: vs, z :: xs, i + 1, j + 1, x, y, a, c, b, F, G, h, n, e1, e2, s1, s2, r1, r2, m1, m2 => by
    simp only [entrySls, List.getElem?_cons_succ] at e1 e2 s1 s2
    have n' : ArgSep K fz H ks vs xs := by
      cases k with
      | v => exact n
      | s => exact n
      | o => exact n.2
    rw [argSep_at h.2 n' e1 e2 s1 s2 r1 r2 m1 m2]
  | k :: ks, v :: vs, z :: xs, 0, j + 1, x, y, a, c, b, F, G, h, n, e1, e2, s1, s2, r1, r2, m1, m2 => by
    simp only [entrySls, List.getElem?_cons_succ, List.getElem?_cons_zero, Option.some.injEq] at e1 e2 s1 s2
    subst s1
    cases k with
    | v => cases e1
    | s => obtain ⟨⟨_, ns, _, _, rfl⟩, _⟩ := h; simp [entrySl] at e1
    | o => cases e1; exact absurd (inA_at h.2 e2 s2 r2 m2) (n.1 _ F rfl r1 b m1)
  | k :: ks, v :: vs, z :: xs, i + 1, 0, x, y, a, c, b, F, G, h, n, e1, e2, s1, s2, r1, r2, m1, m2 => by
    simp only [entrySls, List.getElem?_cons_succ, List.getElem?_cons_zero, Option.some.injEq] at e1 e2 s1 s2
    subst s2
    cases k with
    | v => cases e2
    | s => obtain ⟨⟨_, ns, _, _, rfl⟩, _⟩ := h; simp [entrySl] at e2
    | o => cases e2; exact absurd (inA_at h.2 e1 s1 r1 m1) (n.1 _ G rfl r2 b m2)
  | [], [], _ :: _, _, _, _, _, _, _, _, _, _, h, _, _, _, _, _, _, _, _, _ => h.elim
  | [], _ :: _, _, _, _, _, _, _, _, _, _, _, h, _, _, _, _, _, _, _, _, _ => h.elim
  | _ :: _, [], _, _, _, _, _, _, _, _, _, _, h, _, _, _, _, _, _, _, _, _ => h.elim
  | _ :: _, _ :: _, [], _, _, _, _, _, _, _, _, _, h, _, _, _, _, _, _, _, _, _ => h.elim
theorem start_at {N : List Str} {vs : List V} {i : Nat} : ((L2.start N vs)[i]?).join = vs[i]? := by
  unfold L2.start
  by_cases h : i < vs.length
  · rw [List.getElem?_append_left (by simpa using h), List.getElem?_map, List.getElem?_eq_getElem h]; rfl
  · rw [List.getElem?_append_right (by simpa using h), List.getElem?_eq_none (by omega : vs.length ≤ i)]
    rw [List.getElem?_replicate]
    split <;> rfl
theorem Rel.start {N : List Str} {ks : List PKd} {vs : List V} {xs : List PyData} (h : ArgsR K pr fz H ks vs xs) (hn : ArgSep K fz H ks vs xs) (hf : ∀ a, fz a → H a ≠ none) (hp : ∀ a, pr a → H a ≠ none) (hl : ks.length ≤ N.length) :
    Rel K (ownPP 0 ks vs) pr fz (L2.start N vs) H (entry N.length ks xs) := by
  have lv := h.len
  have le := entrySls_len h
  have at1 : ∀ {i : Nat} {s : Sl}, (entry N.length ks xs)[i]? = some s → s = .emp ∨ (entrySls ks xs)[i]? = some s := fun {i s} e => by
    unfold entry at e
    by_cases hi : i < (entrySls ks xs).length
    · rw [List.getElem?_append_left hi] at e; exact .inr e
    · rw [List.getElem?_append_right (by omega), List.getElem?_replicate] at e
      split at e
      · cases e; exact .inl rfl
      · cases e
  have own1 : ∀ {i : Nat} {x : PyData}, (entry N.length ks xs)[i]? = some (.own x) → (entrySls ks xs)[i]? = some (.own x) := fun e => (at1 e).elim (fun z => by cases z) id
  have st : ∀ {i : Nat} {a : Addr}, (L2.start N vs)[i]? = some (some (V.ref a)) → vs[i]? = some (.ref a) := fun {i a} e => by
    have := join_some.mpr e
    rw [start_at] at this
    exact this
  refine ⟨?_, fun i s e => ?_, fun i j F G b g1 g2 m1 m2 => ?_, hf, hp, fun p hpp => ?_⟩
  · unfold L2.start entry
    simp [lv, le]
  · rcases at1 e with rfl | e
    · trivial
    · rw [start_at]
      exact entrySls_at h e
  · obtain ⟨a, x, e1, s1, r1⟩ := g1
    obtain ⟨c, y, e2, s2, r2⟩ := g2
    exact argSep_at h hn (own1 e1) (own1 e2) (st s1) (st s2) r1 r2 m1 m2
  · obtain ⟨_, h2, x, h3⟩ := ownPP_get h hpp
    rw [Nat.sub_zero] at h2 h3
    refine ⟨x, ?_, ?_⟩
    · unfold entry
      rw [List.getElem?_append_left (List.getElem?_eq_some_iff.mp h3).1]
      exact h3
    · refine join_some.mp ?_
      rw [start_at]; exact h2
/-- what comes back, by the slots that hold it -/
theorem inO_pp {b : Addr} : ∀ {n : Nat} {ks : List PKd} {vs : List V} {ρ : Env}, (∀ p ∈ ownPP n ks vs, ∃ x, ρ[p.1]? = some (.own x)) → InO K fz' H' ks vs ((ownIx n ks).map fun i => outAt i ρ) b →
    ∃ p ∈ ownPP n ks vs, ∃ x F, ρ[p.1]? = some (.own x) ∧ OwnR K fz' H' p.2 x F ∧ b ∈ F
  | n, [], vs, ρ, _, h => by simp [InO] at h
  | n, .v :: ks, [], ρ, _, h => by simp [InO] at h
  | n, .s :: ks, [], ρ, _, h => by simp [InO] at h
  | n, .o :: ks, [], ρ, _, h => by simp [InO] at h
  | n, .v :: ks, v :: vs, ρ, hp, h => by
    have e : ownPP n (.v :: ks) (v :: vs) = ownPP (n + 1) ks vs := by cases v <;> rfl
    rw [e] at hp ⊢
    exact inO_pp hp h
  | n, .s :: ks, v :: vs, ρ, hp, h => by
    have e : ownPP n (.s :: ks) (v :: vs) = ownPP (n + 1) ks vs := by cases v <;> rfl
    rw [e] at hp ⊢
    exact inO_pp hp h
  | n, .o :: ks, v :: vs, ρ, hp, h => by
    simp only [ownIx, List.map_cons, InO] at h
    rcases h with ⟨a, F, rfl, r, hb⟩ | h
    · simp only [ownPP] at hp ⊢
      obtain ⟨x, e⟩ := hp (n, a) List.mem_cons_self
      simp only at e
      simp only [outAt, e] at r
      exact ⟨(n, a), List.mem_cons_self, x, F, e, r, hb⟩
    · have sub : ∀ p ∈ ownPP (n + 1) ks vs, p ∈ ownPP n (.o :: ks) (v :: vs) := fun p hpm => by
        cases v <;> first | exact hpm | exact List.mem_cons_of_mem _ hpm
      obtain ⟨p, hpm, r⟩ := inO_pp (fun p q => hp p (sub p q)) h
      exact ⟨p, sub p hpm, r⟩
theorem outs_of : ∀ {n : Nat} {ks : List PKd} {vs : List V} {xs : List PyData} {ρ : Env}, ArgsR K pr fz H ks vs xs → (∀ p ∈ ownPP n ks vs, ∃ x F, ρ[p.1]? = some (.own x) ∧ OwnR K fz' H' p.2 x F ∧ ∀ b ∈ F, ¬ fz' b ∧ ¬ pr b) →
    (∀ p ∈ ownPP n ks vs, ∀ q ∈ ownPP n ks vs, ∀ x y F G b, ρ[p.1]? = some (.own x) → ρ[q.1]? = some (.own y) → OwnR K fz' H' p.2 x F → OwnR K fz' H' q.2 y G → b ∈ F → b ∈ G → p.1 = q.1) → OutsR K pr fz' H' ks vs ((ownIx n ks).map fun i => outAt i ρ)
  | _, [], [], [], _, _, _, _ => trivial
  | n, .v :: ks, v :: vs, x :: xs, ρ, h, hp, hs => by
    have : ownPP n (.v :: ks) (v :: vs) = ownPP (n + 1) ks vs := by cases v <;> rfl
    rw [this] at hp hs
    simp only [ownIx, OutsR]
    exact outs_of h.2 hp hs
  | n, .s :: ks, v :: vs, x :: xs, ρ, h, hp, hs => by
    have : ownPP n (.s :: ks) (v :: vs) = ownPP (n + 1) ks vs := by cases v <;> rfl
    rw [this] at hp hs
    simp only [ownIx, OutsR]
    exact outs_of h.2 hp hs
  | n, .o :: ks, v :: vs, x :: xs, ρ, h, hp, hs => by
    obtain ⟨⟨a, F0, rfl, _⟩, h2⟩ := h
    simp only [ownPP] at hp hs
    simp only [ownIx, List.map_cons, OutsR]
    obtain ⟨y, F, e, oc, nf⟩ := hp (n, a) List.mem_cons_self
    have tl := fun p q => hp p (List.mem_cons_of_mem _ q)
    refine ⟨⟨a, F, rfl, ?_, fun b hb => ⟨(nf b hb).1, (nf b hb).2, fun z => ?_⟩⟩, outs_of h2 tl fun p q p' q' => hs p (List.mem_cons_of_mem _ q) p' (List.mem_cons_of_mem _ q')⟩
    · simp only at e
      simp only [outAt, e]
      exact oc
    · obtain ⟨p, hpm, w, G, ew, rw', hbG⟩ := inO_pp (fun p q => let ⟨x, _, e, _⟩ := tl p q; ⟨x, e⟩) z
      have := hs (n, a) List.mem_cons_self p (List.mem_cons_of_mem _ hpm) y w F G b e ew oc rw' hb hbG
      have := (ownPP_get h2 hpm).1
      simp only at *
      omega
  | _, [], [], _ :: _, _, h, _, _ => h.elim
  | _, [], _ :: _, _, _, h, _, _ => h.elim
  | _, _ :: _, [], _, _, h, _, _ => h.elim
  | _, _ :: _, _ :: _, [], _, h, _, _ => h.elim
end
section
variable {P : Program} {w : World} {K : PySem.W.Frag} {mg : Str → Option Value} {base : Heap}
def cwOf (K : PySem.W.Frag) (RX : RXT) (ks : List PKd) (E : XK) : Cw := ⟨K, RX, fun cls d _ H => E cls d H, ownIx 0 ks⟩
/-- THE RULE for a def -/
theorem pure_walk {RX : RXT} {ks : List PKd} {m : SM} {qual : Str} {st : Stmt} {f : Addr} {N ps : List Str} {k : Nat} (hk : ks.length = ps.length) (hN : ks.length ≤ N.length)
    (hbody : ∀ (cdv : Value) (A : Around) (outer : List PySem.Env) (s : Shared) (H : Hp) (E : XK), Room k (A.deeper (envOfC qual (defScope st) s.heap.objs.size f cdv)) → (A.deeper (envOfC qual (defScope st) s.heap.objs.size f cdv)).guards = some [] →
      ∃ t, PSs (cxOf (L2.CX P w) P w K mg base N qual (defScope st) f cdv A outer s H E) (defBody st) t ∧ RfS (cwOf K RX ks E) t m) : ∀ (cdv : Value) (A : Around) (outer : List PySem.Env) (s : Shared) (H : Hp) (vs : List V) (Q : VK) (E : XK), Room k (A.deeper (envOfC qual (defScope st) s.heap.objs.size f cdv)) → (A.deeper (envOfC qual (defScope st) s.heap.objs.size f cdv)).guards = some [] → spF K RX ks (bodyF N.length ks m) vs H Q E →
      ∃ t, PSs (cxOf (L2.CX P w) P w K mg base N qual (defScope st) f cdv A outer s H E) (defBody st) t ∧ t { nx := fun _ H' => Q .non H', rt := Q } (L2.start N vs) H := by
  intro cdv A outer s H vs Q E hr hg h
  · obtain ⟨t, ht, hm⟩ := hbody cdv A outer s H E hr hg
    refine ⟨t, ht, ?_⟩
    obtain ⟨pr, fz, xs, ha, hn, hf, hp, hq⟩ := h
    have R := Rel.start (N := N) ha hn hf hp hN
    have pinr : ∀ {fz' : Addr → Prop} {H' : Hp} {σ' : L2.St} {ρ : Env}, Rel K (ownPP 0 ks vs) pr fz' σ' H' ρ → ∀ p ∈ ownPP 0 ks vs, ∃ x F, ρ[p.1]? = some (.own x) ∧ OwnR K fz' H' p.2 x F ∧ ∀ b ∈ F, ¬ fz' b ∧ ¬ pr b := fun R' p hpp => by
      obtain ⟨y, e, s⟩ := R'.pin p hpp
      obtain ⟨a, F, s', r, n⟩ := R'.own_at e
      rw [s] at s'
      cases s'
      exact ⟨y, F, e, r, n⟩
    have outs : ∀ {fz' : Addr → Prop} {H' : Hp} {σ' : L2.St} {ρ : Env}, Rel K (ownPP 0 ks vs) pr fz' σ' H' ρ → OutsR K pr fz' H' ks vs ((ownIx 0 ks).map fun i => outAt i ρ) := fun R' => outs_of ha (pinr R') fun p hpp q hqq x y F G b e1 e2 r1 r2 => by
      obtain ⟨x', e1', s1⟩ := R'.pin p hpp
      obtain ⟨y', e2', s2⟩ := R'.pin q hqq
      exact R'.sep p.1 q.1 F G b ⟨p.2, x, e1, s1, r1⟩ ⟨q.2, y, e2, s2, r2⟩
    refine hm (ownPP 0 ks vs) pr fz _ H (entry N.length ks xs) _ (ownPP_ix ha) R ?_
    unfold bodyF at hq
    cases e : m (entry N.length ks xs) with
    | nx ρ =>
      rw [e] at hq
      exact fun σ' fz' H' F' R' => hq .non fz' H' F' R'.fzH (outs R') .non
    | rt r ρ =>
      rw [e] at hq
      cases r with
      | v d => exact fun v σ' fz' H' F' R' r => hq v fz' H' F' R'.fzH (outs R') r
      | o d =>
        intro v σ' fz' H' F' R' r
        obtain ⟨a, F, rfl, oc, n⟩ := r
        refine hq _ fz' H' F' R'.fzH (outs R') ⟨a, F, rfl, oc, fun b hb => ⟨(n b hb).1, (n b hb).2.1, fun z => ?_⟩⟩
        obtain ⟨p, hpm, x, G, e1, r1, hbG⟩ := inO_pp (fun p q => let ⟨x, _, e, _⟩ := pinr R' p q; ⟨x, e⟩) z
        obtain ⟨y, _, s1⟩ := R'.pin _ hpm
        exact (n b hb).2.2 p.1 G ⟨p.2, x, e1, s1, r1⟩ hbG
    | exc x ρ =>
      rw [e] at hq
      exact fun cls dx σ' fz' H' F' R' r => hq cls dx fz' H' F' R'.fzH (outs R') r
    | bk ρ => rw [e] at hq; exact hq.elim
    | ct ρ => rw [e] at hq; exact hq.elim
    | bad => rw [e] at hq; exact hq.elim
theorem fn_pure {RX : RXT} {ks : List PKd} {m : SM} {x qual : Str} {st : Stmt} {f : Addr} {fd : FuncData} {N ps : List Str} {k : Nat} (F : Fun K x qual st f fd) (S : FnScope N ps (defScope st)) (hk : ks.length = ps.length) (hN : ks.length ≤ N.length)
    (hbody : ∀ (cdv : Value) (A : Around) (outer : List PySem.Env) (s : Shared) (H : Hp) (E : XK), Room k (A.deeper (envOfC qual (defScope st) s.heap.objs.size f cdv)) → (A.deeper (envOfC qual (defScope st) s.heap.objs.size f cdv)).guards = some [] →
      ∃ t, PSs (cxOf (L2.CX P w) P w K mg base N qual (defScope st) f cdv A outer s H E) (defBody st) t ∧ RfS (cwOf K RX ks E) t m) : FnG P w K mg base (k + 1) f fd ps (spF K RX ks (bodyF N.length ks m)) :=
  fnG_of F S (fun vs H Q E h => by obtain ⟨pr, fz, xs, ha, _⟩ := h; rw [ha.len, hk]) (pure_walk hk hN hbody)
end
end PL

end
section
/-! PL9: calls of defs that are pure functions. -/
namespace PL
open PySem PySem.Spec L2
open PyProof.Rows hiding St

/-- an argument: a value, the object of a slot that is lent, the script of a slot -/
inductive CArg where
  | v (m : M PyData) | lend (i : Nat) | scr (i : Nat)
def CArg.kd : CArg → PKd
  | .v _ => .v
  | .lend _ => .o
  | .scr _ => .s
def lendIx : List CArg → List Nat
  | [] => []
  | .lend i :: as => i :: lendIx as
  | .v _ :: as => lendIx as
  | .scr _ :: as => lendIx as
def isOwn (i : Nat) (ρ : Env) : Bool := match ρ[i]? with
  | some (.own _) => true
  | _ => false
def isScr (i : Nat) (ρ : Env) : Bool := match ρ[i]? with
  | some (.scr _) => true
  | _ => false
/-- the values, from the left -/
def evA : List CArg → M (List PyData)
  | [] => fun ρ => .ok [] ρ
  | .v m :: as => bnd m fun x => bnd (evA as) fun xs ρ => .ok (x :: xs) ρ
  | .lend i :: as => fun ρ => if isOwn i ρ = true then bnd (evA as) (fun xs ρ => .ok (.none :: xs) ρ) ρ else .bad
  | .scr i :: as => fun ρ => if isScr i ρ = true then bnd (evA as) (fun xs ρ => .ok (.none :: xs) ρ) ρ else .bad
def scrAt (i : Nat) (ρ : Env) : PyData := match ρ[i]? with
  | some (.scr ns) => .list (ns.map PyData.int)
  | _ => .none
/-- what is lent, as it stands at the call -/
def fillA (ρ : Env) : List CArg → List PyData → List PyData
  | .v _ :: as, x :: xs => x :: fillA ρ as xs
  | .lend i :: as, _ :: xs => outAt i ρ :: fillA ρ as xs
  | .scr i :: as, _ :: xs => scrAt i ρ :: fillA ρ as xs
  | _, _ => []
/-- what was lent comes back -/
def wbA : List CArg → List PyData → Env → Env
  | .lend i :: as, x :: xs, ρ => (wbA as xs ρ).set i (.own x)
  | .v _ :: as, xs, ρ => wbA as xs ρ
  | .scr _ :: as, xs, ρ => wbA as xs ρ
  | _, _, ρ => ρ
def lendOk (as : List CArg) (ρ : Env) : Bool := decide (lendIx as).Nodup && (lendIx as).all fun i => isOwn i ρ
def scrOk : List CArg → Env → Bool
  | [], _ => true
  | .scr i :: as, ρ => isScr i ρ && scrOk as ρ
  | _ :: as, ρ => scrOk as ρ
def mcall (f : List PyData → FOut) (as : List CArg) : M Rt := fun ρ => match evA as ρ with
  | .ok xs ρ1 => if (lendOk as ρ1 && scrOk as ρ1) = true then (match f (fillA ρ1 as xs) with
      | .ok r outs => .ok r (wbA as outs ρ1)
      | .exc e outs => .exc e (wbA as outs ρ1)
      | .bad => .bad) else .bad
  | .exc e r => .exc e r
  | .bad => .bad
def RRt (K : PySem.W.Frag) : RT Rt V := fun pr σ fz H ρ v r => match r with
  | .v d => Rep K fz H v d
  | .o d => RG K pr σ fz H ρ v d
def ArgsV (K : PySem.W.Frag) (σ : L2.St) (fz : Addr → Prop) (H : Hp) : List CArg → List V → List PyData → Prop
  | [], [], [] => True
  | .v _ :: as, v :: vs, x :: xs => Rep K fz H v x ∧ ArgsV K σ fz H as vs xs
  | .lend i :: as, v :: vs, _ :: xs => σ[i]? = some (some v) ∧ ArgsV K σ fz H as vs xs
  | .scr i :: as, v :: vs, _ :: xs => σ[i]? = some (some v) ∧ ArgsV K σ fz H as vs xs
  | _, _, _ => False
def RArgs (K : PySem.W.Frag) (as : List CArg) : RT (List PyData) (List V) := fun _ σ fz H _ vs xs => ArgsV K σ fz H as vs xs
section
variable {c : Cw} {pp : List (Nat × Addr)} {pr fz : Addr → Prop} {σ : L2.St} {H : Hp} {ρ : Env}
theorem rf_anil : Rf c (RArgs c.K []) tNil (evA []) := fun pp pr fz σ H ρ Q hp R hq => ok_post hq R (show ArgsV c.K σ fz H [] [] [] from trivial)
theorem rf_acons {te : TE} {tr : TA} {m : M PyData} {as : List CArg} (ha : Rf c (RV c.K) te m) (hr : Rf c (RArgs c.K as) tr (evA as)) : Rf c (RArgs c.K (.v m :: as)) (tCons te tr) (evA (.v m :: as)) := by
  intro pp pr fz σ H ρ Q hp R hq
  refine ha pp pr fz σ H ρ _ hp R (PostG.bnd (f := fun x => bnd (evA as) fun xs ρ => .ok (x :: xs) ρ) hq fun v x fz1 H1 ρ1 F1 R1 r1 P1 => ?_)
  refine hr pp pr fz1 σ H1 ρ1 _ hp R1 (P1.bnd fun w y fz2 H2 ρ2 F2 R2 r2 P2 => ?_)
  exact ok_post P2 R2 (show ArgsV c.K σ fz2 H2 (.v m :: as) (v :: w) (x :: y) from ⟨Rep.ext F2.ext r1, r2⟩)
theorem isOwn_eq {i : Nat} (h : isOwn i ρ = true) : ∃ x, ρ[i]? = some (.own x) := by
  unfold isOwn at h
  split at h
  · rename_i x e; exact ⟨x, e⟩
  · cases h
theorem isScr_eq {i : Nat} (h : isScr i ρ = true) : ∃ x, ρ[i]? = some (.scr x) := by
  unfold isScr at h
  split at h
  · rename_i x e; exact ⟨x, e⟩
  · cases h
theorem rf_alend {i : Nat} {tr : TA} {as : List CArg} (hr : Rf c (RArgs c.K as) tr (evA as)) : Rf c (RArgs c.K (.lend i :: as)) (tCons (tVar i) tr) (evA (.lend i :: as)) := by
  intro pp pr fz σ H ρ Q hp R hq
  simp only [evA] at hq
  split at hq
  · rename_i h
    obtain ⟨x, e⟩ := isOwn_eq h
    obtain ⟨a, _, hs, _⟩ := R.own_at e
    refine ⟨_, hs, ?_⟩
    refine hr pp pr fz σ H ρ _ hp R (hq.bnd fun w y fz2 H2 ρ2 F2 R2 r2 P2 => ?_)
    exact ok_post P2 R2 (show ArgsV c.K σ fz2 H2 (.lend i :: as) (.ref a :: w) (.none :: y) from ⟨hs, r2⟩)
  · exact hq.elim
theorem rf_ascr {i : Nat} {tr : TA} {as : List CArg} (hr : Rf c (RArgs c.K as) tr (evA as)) : Rf c (RArgs c.K (.scr i :: as)) (tCons (tVar i) tr) (evA (.scr i :: as)) := by
  intro pp pr fz σ H ρ Q hp R hq
  simp only [evA] at hq
  split at hq
  · rename_i h
    obtain ⟨x, e⟩ := isScr_eq h
    obtain ⟨a, hs, _⟩ := R.at_ i _ e
    have hs := join_some.mp hs
    refine ⟨_, hs, ?_⟩
    refine hr pp pr fz σ H ρ _ hp R (hq.bnd fun w y fz2 H2 ρ2 F2 R2 r2 P2 => ?_)
    exact ok_post P2 R2 (show ArgsV c.K σ fz2 H2 (.scr i :: as) (.ref a :: w) (.none :: y) from ⟨hs, r2⟩)
  · exact hq.elim
theorem outAt_own {i : Nat} {x : PyData} (e : ρ[i]? = some (.own x)) : outAt i ρ = x := by simp only [outAt, e]

theorem argsR_of (R : Rel c.K pp pr fz σ H ρ) (pr1 : Addr → Prop) : ∀ {as : List CArg} {vs : List V} {xs : List PyData}, ArgsV c.K σ fz H as vs xs → (∀ i ∈ lendIx as, isOwn i ρ = true) → (∀ i ∈ lendIx as, ∀ F, Reg c.K fz H σ ρ i F → ∀ b ∈ F, ¬ pr1 b) → scrOk as ρ = true →
    ArgsR c.K pr1 fz H (as.map CArg.kd) vs (fillA ρ as xs)
  | [], [], [], _, _, _, _ => trivial
  | .v m :: as, v :: vs, x :: xs, h, hl, hn, hs => ⟨h.1, argsR_of R pr1 h.2 hl hn hs⟩
  | .lend i :: as, v :: vs, x :: xs, h, hl, hn, hs => by
    obtain ⟨y, e⟩ := isOwn_eq (hl i List.mem_cons_self)
    obtain ⟨a, F, s, oc, nf⟩ := R.own_at e
    have ev := h.1
    rw [s] at ev
    cases ev
    refine ⟨⟨a, F, rfl, ?_, fun b hb => ⟨(nf b hb).1, hn i List.mem_cons_self F ⟨a, y, e, s, oc⟩ b hb⟩⟩, argsR_of R pr1 h.2 (fun j hj => hl j (List.mem_cons_of_mem _ hj)) (fun j hj => hn j (List.mem_cons_of_mem _ hj)) hs⟩
    rw [outAt_own e]; exact oc
  | .scr i :: as, v :: vs, x :: xs, h, hl, hn, hs => by
    simp only [scrOk, Bool.and_eq_true] at hs
    obtain ⟨ns, e⟩ := isScr_eq hs.1
    obtain ⟨a, s, hr⟩ := R.at_ i _ e
    have s := join_some.mp s
    have ev := h.1
    rw [s] at ev
    cases ev
    refine ⟨⟨a, ns, rfl, hr, by simp only [scrAt, e]⟩, argsR_of R pr1 h.2 hl hn hs.2⟩
  | [], [], _ :: _, h, _, _, _ => h.elim
  | [], _ :: _, _, h, _, _, _ => h.elim
  | .v _ :: _, [], _, h, _, _, _ => h.elim
  | .v _ :: _, _ :: _, [], h, _, _, _ => h.elim
  | .lend _ :: _, [], _, h, _, _, _ => h.elim
  | .lend _ :: _, _ :: _, [], h, _, _, _ => h.elim
  | .scr _ :: _, [], _, h, _, _, _ => h.elim
  | .scr _ :: _, _ :: _, [], h, _, _, _ => h.elim
/-- what is lent, by the slots -/
theorem inA_of (R : Rel c.K pp pr fz σ H ρ) {b : Addr} : ∀ {as : List CArg} {vs : List V} {xs : List PyData}, ArgsV c.K σ fz H as vs xs → (∀ i ∈ lendIx as, isOwn i ρ = true) → InA c.K fz H (as.map CArg.kd) vs (fillA ρ as xs) b → ∃ i ∈ lendIx as, ∃ F, Reg c.K fz H σ ρ i F ∧ b ∈ F
  | [], [], [], _, _, z => by simp [InA] at z
  | .v m :: as, v :: vs, x :: xs, h, hl, z => inA_of (as := as) (vs := vs) (xs := xs) R h.2 hl z
  | .scr m :: as, v :: vs, x :: xs, h, hl, z => inA_of (as := as) (vs := vs) (xs := xs) R h.2 hl z
  | .lend i :: as, v :: vs, x :: xs, h, hl, z => by
    obtain ⟨y, e⟩ := isOwn_eq (hl i List.mem_cons_self)
    obtain ⟨a, F, s, oc, nf⟩ := R.own_at e
    have ev := h.1
    rw [s] at ev
    cases ev
    rcases z with ⟨a2, G, e2, r, hb⟩ | z
    · cases e2
      rw [outAt_own e] at r
      exact ⟨i, List.mem_cons_self, G, ⟨a, y, e, s, r⟩, hb⟩
    · obtain ⟨j, hj, q⟩ := inA_of R h.2 (fun j hj => hl j (List.mem_cons_of_mem _ hj)) z
      exact ⟨j, List.mem_cons_of_mem _ hj, q⟩
  | [], [], _ :: _, h, _, _ => h.elim
  | [], _ :: _, _, h, _, _ => h.elim
  | .v _ :: _, [], _, h, _, _ => h.elim
  | .v _ :: _, _ :: _, [], h, _, _ => h.elim
  | .lend _ :: _, [], _, h, _, _ => h.elim
  | .lend _ :: _, _ :: _, [], h, _, _ => h.elim
  | .scr _ :: _, [], _, h, _, _ => h.elim
  | .scr _ :: _, _ :: _, [], h, _, _ => h.elim
theorem argSep_of (R : Rel c.K pp pr fz σ H ρ) : ∀ {as : List CArg} {vs : List V} {xs : List PyData}, ArgsV c.K σ fz H as vs xs → (lendIx as).Nodup → (∀ i ∈ lendIx as, isOwn i ρ = true) → ArgSep c.K fz H (as.map CArg.kd) vs (fillA ρ as xs)
  | [], [], [], _, _, _ => trivial
  | .v m :: as, v :: vs, x :: xs, h, n, hl => argSep_of (as := as) (vs := vs) (xs := xs) R h.2 n hl
  | .scr m :: as, v :: vs, x :: xs, h, n, hl => argSep_of (as := as) (vs := vs) (xs := xs) R h.2 n hl
  | .lend i :: as, v :: vs, x :: xs, h, n, hl => by
    simp only [lendIx, List.nodup_cons] at n
    have hl2 := fun j hj => hl j (List.mem_cons_of_mem i hj)
    have ih := argSep_of R h.2 n.2 hl2
    obtain ⟨y, e⟩ := isOwn_eq (hl i List.mem_cons_self)
    obtain ⟨a, F, s, oc, _⟩ := R.own_at e
    have ev := h.1
    rw [s] at ev
    cases ev
    refine ⟨fun a2 G e2 r b hb z => ?_, ih⟩
    cases e2
    rw [outAt_own e] at r
    obtain ⟨j, hj, F2, g2, hb2⟩ := inA_of R h.2 hl2 z
    exact n.1 (R.sep i j G F2 b ⟨a, y, e, s, r⟩ g2 hb hb2 ▸ hj)
  | [], [], _ :: _, h, _, _ => h.elim
  | [], _ :: _, _, h, _, _ => h.elim
  | .v _ :: _, [], _, h, _, _ => h.elim
  | .v _ :: _, _ :: _, [], h, _, _ => h.elim
  | .lend _ :: _, [], _, h, _, _ => h.elim
  | .lend _ :: _, _ :: _, [], h, _, _ => h.elim
  | .scr _ :: _, [], _, h, _, _ => h.elim
  | .scr _ :: _, _ :: _, [], h, _, _ => h.elim
theorem wbA_len : ∀ {as : List CArg} {outs : List PyData}, (wbA as outs ρ).length = ρ.length
  | [], _ => rfl
  | .v _ :: as, outs => by unfold wbA; exact wbA_len (as := as)
  | .scr _ :: as, outs => by unfold wbA; exact wbA_len (as := as)
  | .lend i :: as, [] => rfl
  | .lend i :: as, x :: xs => by unfold wbA; rw [List.length_set]; exact wbA_len
theorem wbA_out {j : Nat} : ∀ {as : List CArg} {outs : List PyData}, j ∉ lendIx as → (wbA as outs ρ)[j]? = ρ[j]?
  | [], _, _ => rfl
  | .v _ :: as, outs, h => by unfold wbA; exact wbA_out (as := as) h
  | .scr _ :: as, outs, h => by unfold wbA; exact wbA_out (as := as) h
  | .lend i :: as, [], _ => rfl
  | .lend i :: as, x :: xs, h => by
    simp only [lendIx, List.mem_cons, not_or] at h
    unfold wbA
    rw [List.getElem?_set_ne (Ne.symm h.1)]
    exact wbA_out h.2
theorem wbA_at {pr1 fz' : Addr → Prop} {H' : Hp} {j : Nat} : ∀ {as : List CArg} {vs : List V} {xs outs : List PyData}, ArgsV c.K σ fz H as vs xs → OutsR c.K pr1 fz' H' (as.map CArg.kd) vs outs → (lendIx as).Nodup → j ∈ lendIx as →
    ∃ (a : Addr) (x : PyData) (F : List Addr), σ[j]? = some (some (V.ref a)) ∧ OwnR c.K fz' H' a x F ∧ (∀ b ∈ F, ¬ fz' b ∧ ¬ pr1 b ∧ InO c.K fz' H' (as.map CArg.kd) vs outs b) ∧ (wbA as outs ρ)[j]? = if j < ρ.length then some (.own x) else none
  | .v m :: as, v :: vs, x :: xs, outs, h, ho, n, hj => by
    unfold wbA
    simp only [List.map_cons, CArg.kd, OutsR] at ho
    exact wbA_at (as := as) (vs := vs) (xs := xs) (outs := outs) h.2 ho n hj
  | .scr m :: as, v :: vs, x :: xs, outs, h, ho, n, hj => by
    unfold wbA
    simp only [List.map_cons, CArg.kd, OutsR] at ho
    exact wbA_at (as := as) (vs := vs) (xs := xs) (outs := outs) h.2 ho n hj
  | .lend i :: as, v :: vs, x :: xs, outs, h, ho, n, hj => by
    simp only [lendIx, List.nodup_cons] at n
    cases outs with
    | nil => exact ho.elim
    | cons o outs =>
      simp only [List.map_cons, CArg.kd, OutsR] at ho
      obtain ⟨⟨a, F, rfl, oc, nf⟩, ho⟩ := ho
      unfold wbA
      by_cases e : j = i
      · subst e
        refine ⟨a, o, F, h.1, oc, fun b hb => ⟨(nf b hb).1, (nf b hb).2.1, .inl ⟨_, F, rfl, oc, hb⟩⟩, ?_⟩
        rw [List.getElem?_set]
        simp only [if_true, wbA_len]
      · rw [List.getElem?_set_ne (Ne.symm e)]
        obtain ⟨a', x', F', h1, h2, h3, h4⟩ := wbA_at h.2 ho n.2 ((List.mem_cons.mp hj).resolve_left e)
        exact ⟨a', x', F', h1, h2, fun b hb => ⟨(h3 b hb).1, (h3 b hb).2.1, .inr (h3 b hb).2.2⟩, h4⟩
  | [], _, _, _, _, _, _, hj => by simp [lendIx] at hj
  | .v _ :: _, [], _, _, h, _, _, _ => h.elim
  | .v _ :: _, _ :: _, [], _, h, _, _, _ => h.elim
  | .lend _ :: _, [], _, _, h, _, _, _ => h.elim
  | .lend _ :: _, _ :: _, [], _, h, _, _, _ => h.elim
  | .scr _ :: _, [], _, _, h, _, _, _ => h.elim
  | .scr _ :: _, _ :: _, [], _, h, _, _, _ => h.elim
/-- what comes back stands apart -/
theorem wbA_sep {pr1 fz' : Addr → Prop} {H' : Hp} {j k : Nat} {F G : List Addr} {b : Addr} : ∀ {as : List CArg} {vs : List V} {xs outs : List PyData}, ArgsV c.K σ fz H as vs xs → OutsR c.K pr1 fz' H' (as.map CArg.kd) vs outs → (lendIx as).Nodup → j ∈ lendIx as → k ∈ lendIx as →
    Reg c.K fz' H' σ (wbA as outs ρ) j F → Reg c.K fz' H' σ (wbA as outs ρ) k G → b ∈ F → b ∈ G → j = k
  | .v m :: as, v :: vs, x :: xs, outs, h, ho, n, hj, hk, g1, g2, m1, m2 => by
    unfold wbA at g1 g2
    simp only [List.map_cons, CArg.kd, OutsR] at ho
    exact wbA_sep (as := as) (vs := vs) (xs := xs) (outs := outs) h.2 ho n hj hk g1 g2 m1 m2
  | .scr m :: as, v :: vs, x :: xs, outs, h, ho, n, hj, hk, g1, g2, m1, m2 => by
    unfold wbA at g1 g2
    simp only [List.map_cons, CArg.kd, OutsR] at ho
    exact wbA_sep (as := as) (vs := vs) (xs := xs) (outs := outs) h.2 ho n hj hk g1 g2 m1 m2
  | .lend i :: as, v :: vs, x :: xs, outs, h, ho, n, hj, hk, g1, g2, m1, m2 => by
    simp only [lendIx, List.nodup_cons] at n
    cases outs with
    | nil => exact ho.elim
    | cons o outs =>
      simp only [List.map_cons, CArg.kd, OutsR] at ho
      obtain ⟨⟨a, F0, rfl, oc, nf⟩, ho⟩ := ho
      unfold wbA at g1 g2
      have here : ∀ {L : List Addr}, Reg c.K fz' H' σ ((wbA as outs ρ).set i (.own o)) i L → L = F0 := fun {L} g => by
        obtain ⟨a', y, e, s, r⟩ := g
        have hl := (List.getElem?_eq_some_iff.mp e).1
        rw [List.length_set] at hl
        rw [List.getElem?_set_self hl] at e
        rw [h.1] at s
        cases e; cases s
        exact r.det oc
      have there : ∀ {l : Nat} {L : List Addr}, l ≠ i → Reg c.K fz' H' σ ((wbA as outs ρ).set i (.own o)) l L → Reg c.K fz' H' σ (wbA as outs ρ) l L := fun {l L} q g => by
        obtain ⟨a', y, e, s, r⟩ := g
        rw [List.getElem?_set_ne (Ne.symm q)] at e
        exact ⟨a', y, e, s, r⟩
      have inO : ∀ {l : Nat} {L : List Addr}, l ∈ lendIx as → Reg c.K fz' H' σ (wbA as outs ρ) l L → b ∈ L → InO c.K fz' H' (as.map CArg.kd) vs outs b := fun {l L} q g hb => by
        obtain ⟨a', y, F', s', r', n', e'⟩ := wbA_at (ρ := ρ) h.2 ho n.2 q
        obtain ⟨a2, y2, e2, s2, r2⟩ := g
        rw [e'] at e2
        rw [s'] at s2
        split at e2
        · cases e2; cases s2
          rw [r2.det r'] at hb
          exact (n' b hb).2.2
        · cases e2
      by_cases e1 : j = i
      · by_cases e2 : k = i
        · rw [e1, e2]
        · subst e1
          rw [here g1] at m1
          exact absurd (inO ((List.mem_cons.mp hk).resolve_left e2) (there e2 g2) m2) (nf b m1).2.2
      · by_cases e2 : k = i
        · subst e2
          rw [here g2] at m2
          exact absurd (inO ((List.mem_cons.mp hj).resolve_left e1) (there e1 g1) m1) (nf b m2).2.2
        · exact wbA_sep h.2 ho n.2 ((List.mem_cons.mp hj).resolve_left e1) ((List.mem_cons.mp hk).resolve_left e2) (there e1 g1) (there e2 g2) m1 m2
  | [], _, _, _, _, _, _, hj, _, _, _, _, _ => by simp [lendIx] at hj
  | .v _ :: _, [], _, _, h, _, _, _, _, _, _, _, _ => h.elim
  | .v _ :: _, _ :: _, [], _, h, _, _, _, _, _, _, _, _ => h.elim
  | .lend _ :: _, [], _, _, h, _, _, _, _, _, _, _, _ => h.elim
  | .lend _ :: _, _ :: _, [], _, h, _, _, _, _, _, _, _, _ => h.elim
  | .scr _ :: _, [], _, _, h, _, _, _, _, _, _, _, _ => h.elim
  | .scr _ :: _, _ :: _, [], _, h, _, _, _, _, _, _, _, _ => h.elim
/-- what a caller protects -/
def prC (K : PySem.W.Frag) (pr fz : Addr → Prop) (H : Hp) (σ : L2.St) (ρ : Env) (as : List CArg) : Addr → Prop := fun a => pr a ∨ ∃ (i : Nat) (F : List Addr), Reg K fz H σ ρ i F ∧ a ∈ F ∧ i ∉ lendIx as
theorem Rel.prC_some (R : Rel c.K pp pr fz σ H ρ) {as : List CArg} : ∀ a, prC c.K pr fz H σ ρ as a → H a ≠ none := fun a z => by
  rcases z with z | ⟨i, F, g, hb, _⟩
  · exact R.prH a z
  · exact (R.reg_ok g a hb).2.2
theorem Rel.prC_no (R : Rel c.K pp pr fz σ H ρ) {as : List CArg} : ∀ i ∈ lendIx as, ∀ F, Reg c.K fz H σ ρ i F → ∀ b ∈ F, ¬ prC c.K pr fz H σ ρ as b := fun i hi F g b hb z => by
  rcases z with z | ⟨j, G, g2, hb2, hj⟩
  · exact (R.reg_ok g b hb).2.1 z
  · exact hj (R.sep i j F G b g g2 hb hb2 ▸ hi)
theorem Rel.back2 {as : List CArg} {vs : List V} {xs outs : List PyData} {fz' : Addr → Prop} {H' : Hp} (R : Rel c.K pp pr fz σ H ρ) (ha : ArgsV c.K σ fz H as vs xs) (hn : (lendIx as).Nodup) (hl : ∀ i ∈ lendIx as, isOwn i ρ = true)
    (F : Fr (prC c.K pr fz H σ ρ as) fz H fz' H') (hf : ∀ a, fz' a → H' a ≠ none) (ho : OutsR c.K (prC c.K pr fz H σ ρ as) fz' H' (as.map CArg.kd) vs outs) : Fr pr fz H fz' H' ∧ Rel c.K pp pr fz' σ H' (wbA as outs ρ) ∧
      ∀ b, ¬ prC c.K pr fz H σ ρ as b → ¬ InO c.K fz' H' (as.map CArg.kd) vs outs b → Free c.K fz' H' σ (wbA as outs ρ) b := by
  have F1 : Fr pr fz H fz' H' := F.narrow fun a z => .inl z
  -- a slot that was not lent
  have un : ∀ i G, i ∉ lendIx as → Reg c.K fz' H' σ (wbA as outs ρ) i G → Reg c.K fz H σ ρ i G ∧ ∀ b ∈ G, prC c.K pr fz H σ ρ as b := fun i G hi g => by
    obtain ⟨a, x, e, s, r⟩ := g
    rw [wbA_out hi] at e
    obtain ⟨a', G', s', r', _⟩ := R.own_at e
    rw [s] at s'
    cases s'
    have g' : Reg c.K fz H σ ρ i G' := ⟨a, x, e, s, r'⟩
    have pa : ∀ b ∈ G', prC c.K pr fz H σ ρ as b := fun b hb => .inr ⟨i, G', g', hb, hi⟩
    have r2 := r'.ext F1.ext fun b hb => F.keepP b (pa b hb)
    rw [r.det r2]
    exact ⟨g', pa⟩
  -- a slot that was lent
  have le : ∀ i G, i ∈ lendIx as → Reg c.K fz' H' σ (wbA as outs ρ) i G → ∀ b ∈ G, ¬ fz' b ∧ ¬ prC c.K pr fz H σ ρ as b ∧ InO c.K fz' H' (as.map CArg.kd) vs outs b := fun i G hi g b hb => by
    obtain ⟨a, x, F2, s', oc, n, e'⟩ := wbA_at (ρ := ρ) ha ho hn hi
    obtain ⟨a2, x2, e2, s2, r2⟩ := g
    rw [e'] at e2
    rw [s'] at s2
    split at e2
    · cases e2; cases s2
      rw [r2.det oc] at hb
      exact n b hb
    · cases e2
  refine ⟨F1, ⟨by rw [wbA_len]; exact R.len, fun i s e => ?_, fun i j G1 G2 b g1 g2 m1 m2 => ?_, hf, fun a z => by rw [F1.keepP a z]; exact R.prH a z, fun p hp => ?_⟩, fun b n1 n2 i G g hb => ?_⟩
  · by_cases hi : i ∈ lendIx as
    · obtain ⟨a, x, F2, s', oc, n, e'⟩ := wbA_at (ρ := ρ) ha ho hn hi
      rw [e'] at e
      split at e
      · cases e
        exact ⟨a, F2, join_some.mpr s', oc, fun b hb => ⟨(n b hb).1, fun z => (n b hb).2.1 (.inl z)⟩⟩
      · cases e
    · have e0 := e
      rw [wbA_out hi] at e
      have q := R.at_ i s e
      cases s with
      | emp => trivial
      | val d => obtain ⟨v, h, r⟩ := q; exact ⟨v, h, r.ext F1.ext⟩
      | scr ns => obtain ⟨v, h, r⟩ := q; exact ⟨v, h, r.ext F1.ext⟩
      | own d =>
        obtain ⟨a, G, h, r, n⟩ := q
        have pa : ∀ b ∈ G, prC c.K pr fz H σ ρ as b := fun b hb => .inr ⟨i, G, ⟨a, d, e, join_some.mp h, r⟩, hb, hi⟩
        exact ⟨a, G, h, r.ext F1.ext fun b hb => F.keepP b (pa b hb), fun b hb => ⟨fun z => (n b hb).1 (F.new b (pa b hb) z), (n b hb).2⟩⟩
  · by_cases hi : i ∈ lendIx as
    · by_cases hj : j ∈ lendIx as
      · exact wbA_sep ha ho hn hi hj g1 g2 m1 m2
      · exact absurd ((un j G2 hj g2).2 b m2) (le i G1 hi g1 b m1).2.1
    · by_cases hj : j ∈ lendIx as
      · exact absurd ((un i G1 hi g1).2 b m1) (le j G2 hj g2 b m2).2.1
      · exact R.sep i j G1 G2 b (un i G1 hi g1).1 (un j G2 hj g2).1 m1 m2
  · obtain ⟨x, e, s⟩ := R.pin p hp
    by_cases hi : p.1 ∈ lendIx as
    · obtain ⟨a, y, _, s', _, _, e'⟩ := wbA_at (ρ := ρ) ha ho hn hi
      rw [if_pos (List.getElem?_eq_some_iff.mp e).1] at e'
      exact ⟨y, e', s⟩
    · exact ⟨x, by rw [wbA_out hi]; exact e, s⟩
  · by_cases hi : i ∈ lendIx as
    · exact n2 (le i G hi g b hb).2.2
    · exact n1 ((un i G hi g).2 b hb)
/-- THE RULE for a call -/
theorem rf_call {as : List CArg} {f : List PyData → FOut} {ta : TA} {ks : List PKd} (hks : as.map CArg.kd = ks) (ha : Rf c (RArgs c.K as) ta (evA as)) : Rf c (RRt c.K) (tCallSD (spF c.K c.RX ks f) [] (fun σ => WE c.W σ) ta) (mcall f as) := by
  subst hks
  intro pp pr fz σ H ρ Q hp R hq
  refine ha pp pr fz σ H ρ _ hp R ?_
  unfold mcall at hq
  cases e : evA as ρ with
  | bad => rw [e] at hq; exact hq.elim
  | exc x r => rw [e] at hq; exact hq
  | ok xs ρ1 =>
    rw [e] at hq
    intro vs fz1 H1 F1 R1 r1
    have r1 : ArgsV c.K σ fz1 H1 as vs xs := r1
    have hq := PostG.rest F1 hq
    simp only at hq
    split at hq
    · rename_i hok
      simp only [lendOk, Bool.and_eq_true, decide_eq_true_eq, List.all_eq_true] at hok
      obtain ⟨⟨hn, hl⟩, hs⟩ := hok
      rw [List.append_nil]
      refine ⟨prC c.K pr fz1 H1 σ ρ1 as, fz1, fillA ρ1 as xs, argsR_of R1 _ r1 hl R1.prC_no hs, argSep_of R1 r1 hn hl, R1.fzH, R1.prC_some, ?_⟩
      cases ef : f (fillA ρ1 as xs) with
      | bad => rw [ef] at hq; exact hq.elim
      | ok r outs =>
        rw [ef] at hq
        intro v fz2 H2 F2 hf2 ho hr
        obtain ⟨F3, R3, free⟩ := R1.back2 r1 hn hl F2 hf2 ho
        refine hq v fz2 H2 F3 R3 ?_
        cases r with
        | v d => exact hr
        | o d =>
          obtain ⟨a, F, rfl, oc, n⟩ := hr
          exact ⟨a, F, rfl, oc, fun b hb => ⟨(n b hb).1, fun z => (n b hb).2.1 (.inl z), free b (n b hb).2.1 (n b hb).2.2⟩⟩
      | exc x outs =>
        rw [ef] at hq
        intro cls dx fz2 H2 F2 hf2 ho hr
        obtain ⟨F3, R3, _⟩ := R1.back2 r1 hn hl F2 hf2 ho
        exact hq cls dx fz2 H2 F3 R3 hr
    · exact hq.elim
/-- the result as a value -/
def rtV (m : M Rt) : M PyData := bnd m fun r ρ => match r with
  | .v d => .ok d ρ
  | .o d => if leafD d = true then .ok d ρ else .bad
def rtO (m : M Rt) : M PyData := bnd m fun r ρ => match r with
  | .o d => if leafD d = true then .ok d ρ else .bad
  | .v _ => .bad
/-- .. any own object -/
def rtG (m : M Rt) : M PyData := bnd m fun r ρ => match r with
  | .o d => .ok d ρ
  | .v _ => .bad
theorem rf_rtV {t : TE} {m : M Rt} (h : Rf c (RRt c.K) t m) : Rf c (RV c.K) t (rtV m) := by
  intro pp pr fz σ H ρ Q hp R hq
  refine h pp pr fz σ H ρ _ hp R (hq.bnd fun v x fz1 H1 ρ1 F1 R1 r1 P1 => ?_)
  cases x with
  | v d => exact ok_post P1 R1 r1
  | o d =>
    dsimp only at P1
    split at P1
    · rename_i l
      obtain ⟨a, rfl, nf, np, ns, oc⟩ := RG.o (show RG c.K pr σ fz1 H1 ρ1 v d from r1) l
      obtain ⟨F2, R2⟩ := frz_free R1 oc.some np ns
      exact P1 (.ref a) _ H1 F2 R2 oc.frz
    · exact P1.elim
theorem rf_rtO {t : TE} {m : M Rt} (h : Rf c (RRt c.K) t m) : Rf c (RO c.K) t (rtO m) := by
  intro pp pr fz σ H ρ Q hp R hq
  refine h pp pr fz σ H ρ _ hp R (hq.bnd fun v x fz1 H1 ρ1 F1 R1 r1 P1 => ?_)
  cases x with
  | o d =>
    dsimp only at P1
    split at P1
    · rename_i l
      exact ok_post P1 R1 (RG.o (show RG c.K pr σ fz1 H1 ρ1 v d from r1) l)
    · exact P1.elim
  | v d => exact P1.elim
theorem rf_rtG {t : TE} {m : M Rt} (h : Rf c (RRt c.K) t m) : Rf c (RG c.K) t (rtG m) := by
  intro pp pr fz σ H ρ Q hp R hq
  refine h pp pr fz σ H ρ _ hp R (hq.bnd fun v x fz1 H1 ρ1 F1 R1 r1 P1 => ?_)
  cases x with
  | o d => exact ok_post P1 R1 (show RG c.K pr σ fz1 H1 ρ1 v d from r1)
  | v d => exact P1.elim
end
end PL

end
section
/-! PLs: sorted of a list or a tuple of ints. -/
namespace PL
open PySem PySem.Spec L2
open PyProof.Rows hiding St

def rSortedU (K : PySem.W.Frag) : List V → Hp → VK → Prop := fun vs H Q => ∃ (u : Bool) (a : Addr) (ns : List Int), vs = [V.ref a] ∧ SqU K u H a (ns.map V.int) ∧
  ∀ (ns' : List Int) (p : Addr), ns'.Perm ns → ns'.Pairwise (· ≤ ·) → H p = none → Q (.ref p) (upd H p (.lst (ns'.map V.int)))
theorem inv_sq_obj {X : Cx} {pins : List (Addr × Obj)} {σ : L2.St} {H : Hp} {s : Shared} {u : Bool} (I : Inv X pins σ H s) {a : Addr} {xs : List V} (h : SqU X.K u H a xs) :
    ∃ (its : List Value) (T : String) (o : Obj) (n : Nat), Vals xs its ∧ (T = "list" ∨ T = "tuple") ∧ s.heap.get? a = some o ∧ o.cls = .type T ∧ o.data = .seq its.toArray n ∧ xs.length ≤ sizeLine := by
  cases u
  · obtain ⟨its, rv, p, hz⟩ := I.list h
    obtain ⟨o, e1, e2, n, e3⟩ := p.isList
    exact ⟨its, "list", o, n, rv, .inl rfl, e1, e2, e3, hz⟩
  · obtain ⟨its, rv, p, hz⟩ := I.tuple h
    obtain ⟨o, e1, e2, n, e3⟩ := (show s.heap.IsTuple a its.toArray from p)
    exact ⟨its, "tuple", o, n, rv, .inr rfl, e1, e2, e3, hz⟩
section
variable {X : Cx}
theorem cr_sortedU : CallR X (.builtin "sorted") (rSortedU X.K) := by
  intro pins s σ H vs us Q I r h
  obtain ⟨u, a, ns, rfl, hs, q⟩ := h
  obtain ⟨its, T, o, n, rv, hT, ho, hc, hd, hz⟩ := inv_sq_obj I hs
  rw [Vals.ref1 r]
  have hi := rv.ints
  have lz : its.length ≤ sizeLine := by rw [← rv.length]; exact hz
  refine Calls.call_function_entry kind_sorted plain_sorted PyProof.Rows.entry_sorted (PyProof.Rows.args_sorted1 _) ?_
  unfold Builtin.«sorted»
  refine wpAny_bind (wpAny_pure ?_)
  refine wpAny_bind (wpAny_collect_seq a hT ho hc hd (fun h' hk => ?_) (by rw [List.size_toArray]; exact lz))
  have I2 : Inv X pins σ H { s with heap := h' } := I.kept (t' := s.toks) hk
  refine wpAny_bind (wpAny_newList ?_ lz)
  have oL : (h'.push (seqObj "list" its.toArray 0)).get? h'.objs.size = some (seqObj "list" its.toArray 0) := Heap.get?_push_size _ rfl
  refine wpAny_bind (wpAny_holding (wpAny_call_entry PyProof.Rows.slot_list_sort ⟨_, oL, rfl⟩ PyProof.Rows.entry_list_sort
    (SrtO.list_sort_ord SrtO.swo_int oL lz (fun h2 => SrtO.ints_sortable hi h2) fun out h1 h2 => ⟨_, rfl, ?_⟩) (PyProof.Rows.args_list_sort _)))
  obtain ⟨k1, k2, k3⟩ := SrtO.ints_out hi h1 h2
  obtain ⟨ep, he⟩ := PyProof.Rows.sortedHeap_at (vs := its) (out := out.toArray) oL
  have hlen : ((out.map SrtO.iv).map V.int).length ≤ sizeLine := by
    rw [List.length_map, k2.length_eq]
    rw [List.length_map] at hz
    exact hz
  refine wpAny_pure ⟨_, rfl, .ref h'.objs.size, upd H h'.objs.size (.lst ((out.map SrtO.iv).map V.int)), I2.laid (t' := s.toks) (fun b ob e => ?_) (Nat.le_refl _) ⟨hlen, out, ep, vals_of_ints k1, he⟩, rfl, q _ _ k2 k3 (I2.hok.fresh (Nat.le_refl _))⟩
  have lt : b < h'.objs.size := Heap.lt_size e
  show (sortedHeap (h'.push (seqObj "list" its.toArray 0)) h'.objs.size its out.toArray).get? b = some ob
  rw [PyProof.Rows.sortedHeap_old (Nat.ne_of_lt lt) (by rw [Heap.size_push]; exact Nat.lt_succ_of_lt lt), Heap.get?_push_of_some _ e]
end
end PL

end
section
/-! PLa: any, all of a list of bools and ints. -/
namespace PL
open PySem PySem.Spec L2
open PyProof.Rows hiding St
def tvV : V → Option Bool
  | .bl b => some b
  | .int i => some (i != 0)
  | .non => some false
  | _ => none
theorem truth_vals {prog : Program} {w : World} {A : Around} {xs : List V} {bs : List Bool} {its : List Value} (rv : Vals xs its) (e : xs.map tvV = bs.map some) :
    TruthOf prog w A (fun i v => its.toArray[i]? = some v) (fun i => bs.getD i false) := fun i v s Q E hv hq => by
  have hv' : its[i]? = some v := by simpa using hv
  have hx : ∃ x, xs[i]? = some x ∧ RelV x v := by
    have hl := rv.length
    have hi : i < its.length := (List.getElem?_eq_some_iff.mp hv').1
    have hi2 : i < xs.length := by omega
    obtain ⟨u, hu, ru⟩ := rv.get (List.getElem?_eq_getElem hi2)
    rw [hv'] at hu
    cases hu
    exact ⟨_, List.getElem?_eq_getElem hi2, ru⟩
  obtain ⟨x, hx, rx⟩ := hx
  have hb : (bs.map some)[i]? = some (tvV x) := by rw [← e, List.getElem?_map, hx]; rfl
  rw [List.getElem?_map] at hb
  obtain ⟨b, hb, eb⟩ := Option.map_eq_some_iff.mp hb
  have hg : bs.getD i false = b := by rw [List.getD_eq_getElem?_getD, hb] <;> rfl
  have hq' : Q (bs.getD i false) s := hq
  rw [hg] at hq'
  cases x with
  | bl c => cases rx; cases eb; exact wpAny_truthy_bool hq'
  | int c => obtain ⟨t, rfl⟩ := rx; cases eb; exact PySem.P.truthy_int hq'
  | non => cases rx; cases eb; exact fun _ _ _ => hq'
  | _ => cases eb
def rAnyV (K : PySem.W.Frag) : List V → Hp → VK → Prop := fun vs H Q => ∃ (a : Addr) (xs : List V) (bs : List Bool), vs = [V.ref a] ∧ SqL K H a xs ∧ xs.map tvV = bs.map some ∧ Q (.bl (bs.any id)) H
def rAllV (K : PySem.W.Frag) : List V → Hp → VK → Prop := fun vs H Q => ∃ (a : Addr) (xs : List V) (bs : List Bool), vs = [V.ref a] ∧ SqL K H a xs ∧ xs.map tvV = bs.map some ∧ Q (.bl (bs.all id)) H
section
variable {X : Cx}
theorem cr_anyV (hc : X.calm = true) : CallR X (.builtin "any") (rAnyV X.K) := by
  intro pins s σ H vs us Q I r h
  obtain ⟨a, xs, bs, rfl, hs, hb, q⟩ := h
  obtain ⟨its, rv, hl, _⟩ := I.list hs
  rw [Vals.ref1 r]
  have hn : its.length = bs.length := by
    have := congrArg List.length hb
    rw [List.length_map, List.length_map] at this
    rw [← rv.length, this]
  refine call_any_walk (iter_any hl.isList fun z ez st hne => ?_)
  subst ez
  refine ⟨_, _, _, _, _, _, _, rfl, Walks.list (A := X.A.in1) (I.ok.hd hc) _ a hne its.toArray, st, truth_vals rv hb, fun h' tk hk => ?_⟩
  refine ⟨.bl _, H, I.kept fun b o eo => hk b o (fun hm => ?_) (Heap.get?_push_of_some _ eo), ?_, q⟩
  · rcases List.mem_cons.mp hm with e1 | hm
    · exact absurd (e1 ▸ Heap.lt_size eo) (Nat.lt_irrefl _)
    · cases hm
  · show Value.bool _ = Value.bool _
    rw [← L2.any_range, List.size_toArray, hn]
theorem cr_allV (hc : X.calm = true) : CallR X (.builtin "all") (rAllV X.K) := by
  intro pins s σ H vs us Q I r h
  obtain ⟨a, xs, bs, rfl, hs, hb, q⟩ := h
  obtain ⟨its, rv, hl, _⟩ := I.list hs
  rw [Vals.ref1 r]
  have hn : its.length = bs.length := by
    have := congrArg List.length hb
    rw [List.length_map, List.length_map] at this
    rw [← rv.length, this]
  refine call_all_walk (iter_any hl.isList fun z ez st hne => ?_)
  subst ez
  refine ⟨_, _, _, _, _, _, _, rfl, Walks.list (A := X.A.in1) (I.ok.hd hc) _ a hne its.toArray, st, truth_vals rv hb, fun h' tk hk => ?_⟩
  refine ⟨.bl _, H, I.kept fun b o eo => hk b o (fun hm => ?_) (Heap.get?_push_of_some _ eo), ?_, q⟩
  · rcases List.mem_cons.mp hm with e1 | hm
    · exact absurd (e1 ▸ Heap.lt_size eo) (Nat.lt_irrefl _)
    · cases hm
  · show Value.bool _ = Value.bool _
    rw [← L2.all_range, List.size_toArray, hn]
end
end PL

end
section
/-! PLt: sorted of a list or a tuple of pairs of ints, of any length. -/
namespace PL
open PySem PySem.Spec L2
open PyProof.Rows hiding St

def PairV (K : PySem.W.Frag) (H : Hp) (x : V) (p : Int × Int) : Prop := ∃ t, x = V.ref t ∧ SqT K H t [.int p.1, .int p.2]
def leP (p q : Int × Int) : Bool := !SrtO.lexB q p
def rSortedPU (K : PySem.W.Frag) : List V → Hp → VK → Prop := fun vs H Q => ∃ (u : Bool) (a : Addr) (xs : List V) (ps : List (Int × Int)), vs = [V.ref a] ∧ SqU K u H a xs ∧ xs.length = ps.length ∧ (∀ z ∈ xs.zip ps, PairV K H z.1 z.2) ∧
  ∀ (ys : List V) (qs : List (Int × Int)) (p : Addr), ys.length = qs.length → (ys.zip qs).Perm (xs.zip ps) → qs.Pairwise (fun p q => leP p q = true) → H p = none → Q (.ref p) (upd H p (.lst ys))
section
variable {X : Cx}
theorem pairV_is {pins : List (Addr × Obj)} {σ : L2.St} {H : Hp} {s : Shared} (I : Inv X pins σ H s) {t : Addr} {x y : Int} (h : SqT X.K H t [.int x, .int y]) : Srt.IsPair s.heap (.ref t) x y := by
  obtain ⟨its, rv, p, hz⟩ := I.tuple h
  obtain ⟨o, e1, e2, n, e3⟩ := (show s.heap.IsTuple t its.toArray from p)
  obtain ⟨u1, u2, rfl, ri, rj⟩ := vals2 rv
  obtain ⟨t1, rfl⟩ := ri
  obtain ⟨t2, rfl⟩ := rj
  exact ⟨t, o, t1, t2, n, rfl, e1, e2, e3⟩
theorem cr_sortedPU : CallR X (.builtin "sorted") (rSortedPU X.K) := by
  intro pins s σ H vs us Q I r h
  obtain ⟨u, a, xs, ps, rfl, hs, hlen0, hz0, q⟩ := h
  have un : ∀ {x : V} {p p' : Int × Int}, PairV X.K H x p → PairV X.K H x p' → p = p' := fun {x p p'} h1 h2 => by
    obtain ⟨t, e, h1⟩ := h1
    obtain ⟨t', e', h2⟩ := h2
    rw [e] at e'
    cases e'
    obtain ⟨a1, o1, t1, u1, n1, e1, ho1, hc1, hd1⟩ := pairV_is I h1
    obtain ⟨a2, o2, t2, u2, n2, e2, ho2, hc2, hd2⟩ := pairV_is I h2
    cases e1
    cases e2
    rw [ho1] at ho2
    cases ho2
    rw [hd1] at hd2
    injection hd2 with hd2
    injection hd2 with hd2
    injection hd2 with z1 z2
    injection z1 with z1
    injection z2 with z2
    injection z2 with z2
    exact Prod.ext z1 z2
  have hx0 : ∀ x ∈ xs, ∃ p, PairV X.K H x p := fun x m => by
    obtain ⟨i, hi, e⟩ := List.mem_iff_getElem.mp m
    exact ⟨ps[i]'(by omega), hz0 (x, ps[i]'(by omega)) (by
      rw [List.mem_iff_getElem]
      exact ⟨i, by simp; omega, by simp [e]⟩)⟩
  obtain ⟨k, hx⟩ : ∃ k : V → Int × Int, ∀ x ∈ xs, PairV X.K H x (k x) := by
    classical
    refine ⟨fun x => if h : ∃ p, PairV X.K H x p then h.choose else (0, 0), fun x m => ?_⟩
    dsimp only
    rw [dif_pos (hx0 x m)]
    exact (hx0 x m).choose_spec
  have hps : xs.zip ps = xs.map fun x => (x, k x) := by
    apply List.ext_getElem (by simp; omega)
    intro i h1 h2
    have hi : i < xs.length := by simpa using h2
    have := hz0 (xs[i], ps[i]'(by omega)) (by
      rw [List.mem_iff_getElem]
      exact ⟨i, h1, by simp⟩)
    have e : ps[i]'(by omega) = k xs[i] := un this (hx xs[i] (List.getElem_mem hi))
    rw [List.getElem_zip, List.getElem_map, e]
  obtain ⟨its, T, o, n, rv, hT, ho, hc, hd, hz⟩ := inv_sq_obj I hs
  rw [Vals.ref1 r]
  obtain ⟨e1, e2⟩ := refs_back rv fun x m => by
    obtain ⟨t, e, _⟩ := hx x m
    exact ⟨t, e⟩
  have lz : its.length ≤ sizeLine := by rw [← rv.length]; exact hz
  refine Calls.call_function_entry kind_sorted plain_sorted PyProof.Rows.entry_sorted (PyProof.Rows.args_sorted1 _) ?_
  unfold Builtin.«sorted»
  refine wpAny_bind (wpAny_pure ?_)
  refine wpAny_bind (wpAny_collect_seq a hT ho hc hd (fun h' hk => ?_) (by rw [List.size_toArray]; exact lz))
  have I2 : Inv X pins σ H { s with heap := h' } := I.kept (t' := s.toks) hk
  refine wpAny_bind (wpAny_newList ?_ lz)
  have oL : (h'.push (seqObj "list" its.toArray 0)).get? h'.objs.size = some (seqObj "list" its.toArray 0) := Heap.get?_push_size _ rfl
  have hp : ∀ v ∈ its, Srt.IsPair (h'.push (seqObj "list" its.toArray 0)) v (k (backV v)).1 (k (backV v)).2 := fun v hv => by
    obtain ⟨t, rfl⟩ := e2 v hv
    have hm : V.ref t ∈ xs := by rw [e1]; exact List.mem_map.mpr ⟨_, hv, rfl⟩
    obtain ⟨t', e, ht⟩ := hx _ hm
    cases e
    exact (pairV_is I2 ht).keeps fun b o e _ => Heap.get?_push_of_some _ e
  refine wpAny_bind (wpAny_holding (wpAny_call_entry PyProof.Rows.slot_list_sort ⟨_, oL, rfl⟩ PyProof.Rows.entry_list_sort
    (SrtO.list_sort_ord (SrtO.swo_lex fun u => k (backV u)) oL lz (fun h2 => SrtO.pairs_sortableO (by omega) hp fun o e => ?_) fun out h1 h2 => ⟨_, rfl, ?_⟩) (PyProof.Rows.args_list_sort _)))
  · have e' : some o = some (seqObj "list" its.toArray 0) := e.symm.trans oL
    cases e'
    intro c
    exact absurd (Value.type.inj c) (by decide)
  have h3 : ∀ u ∈ out, ∃ a, u = Value.ref a := fun u hu => e2 u (h2.perm.mem_iff.mp hu)
  have hb : (out.map backV).Perm xs := by
    rw [e1]
    exact h2.perm.map _
  have hq1 : ((out.map backV).zip ((out.map backV).map k)).Perm (xs.zip ps) := by
    rw [hps]
    have : (out.map backV).zip ((out.map backV).map k) = (out.map backV).map fun x => (x, k x) := by
      apply List.ext_getElem (by simp)
      intro i h1 h2
      simp
    rw [this]
    exact hb.map _
  have hq2 : ((out.map backV).map k).Pairwise (fun p q => leP p q = true) := by
    rw [List.map_map, List.pairwise_map]
    refine List.Pairwise.imp (fun {x y} h => ?_) h1
    unfold leP
    have h' : SrtO.lexB (k (backV y)) (k (backV x)) = false := h
    show (!SrtO.lexB (k (backV y)) (k (backV x))) = true
    rw [h']; rfl
  obtain ⟨ep, he⟩ := PyProof.Rows.sortedHeap_at (vs := its) (out := out.toArray) oL
  have hlen : (out.map backV).length ≤ sizeLine := by
    rw [hb.length_eq]
    exact hz
  refine wpAny_pure ⟨_, rfl, .ref h'.objs.size, upd H h'.objs.size (.lst (out.map backV)), I2.laid (t' := s.toks) (fun b ob e => ?_) (Nat.le_refl _) ⟨hlen, out, ep, vals_back h3, he⟩, rfl, q _ ((out.map backV).map k) _ (by simp) hq1 hq2 (I2.hok.fresh (Nat.le_refl _))⟩
  have lt : b < h'.objs.size := Heap.lt_size e
  show (sortedHeap (h'.push (seqObj "list" its.toArray 0)) h'.objs.size its out.toArray).get? b = some ob
  rw [PyProof.Rows.sortedHeap_old (Nat.ne_of_lt lt) (by rw [Heap.size_push]; exact Nat.lt_succ_of_lt lt), Heap.get?_push_of_some _ e]
end
end PL

end
section
/-! PL10: built-in functions by pure values. -/
namespace PL
open PySem PySem.Spec L2
open PyProof.Rows hiding St

def len? : PyData → Option PyData
  | .list ds => some (.int ds.length)
  | .tuple ds => some (.int ds.length)
  | .str x => if lenOk x.length = true then some (.int x.length) else none
  | _ => none
def abs? : PyData → Option PyData
  | .int i => some (.int (if i < 0 then -i else i))
  | _ => none
def int? : PyData → Option PyData
  | .int i => some (.int i)
  | .bool b => some (.int (if b then 1 else 0))
  | .str x => if lenOk x.length = true then (intText? x).map .int else none
  | _ => none
def tuple? : PyData → Option PyData
  | .list ds => some (.tuple ds)
  | .tuple ds => some (.tuple ds)
  | _ => none
def list? : PyData → Option PyData
  | .list ds => some (.list ds)
  | .tuple ds => some (.list ds)
  | _ => none
def sum? : PyData → Option PyData
  | .list ds => (ints? ds).map fun ns => .int ns.sum
  | _ => none
def max? : PyData → Option PyData
  | .list ds => (ints? ds).bind fun ns => if ns.isEmpty = true then none else some (.int (maxL ns))
  | _ => none
def min? : PyData → Option PyData
  | .list ds => (ints? ds).bind fun ns => if ns.isEmpty = true then none else some (.int (minL ns))
  | _ => none
def tv? : PyData → Option Bool
  | .bool b => some b
  | .int i => some (i != 0)
  | .none => some false
  | _ => none
def tvs? : List PyData → Option (List Bool)
  | [] => some []
  | d :: ds => (tv? d).bind fun b => (tvs? ds).map (b :: ·)
def any? : PyData → Option PyData
  | .list ds => (tvs? ds).map fun bs => .bool (bs.any id)
  | _ => none
def all? : PyData → Option PyData
  | .list ds => (tvs? ds).map fun bs => .bool (bs.all id)
  | _ => none
def isort : List Int → List Int := fun l => l.mergeSort (fun a b => decide (a ≤ b))
def prI (p : Int × Int) : PyData := .tuple [.int p.1, .int p.2]
def pair? : PyData → Option (Int × Int)
  | .tuple [.int i, .int j] => some (i, j)
  | _ => none
def pairs? : List PyData → Option (List (Int × Int))
  | [] => some []
  | d :: ds => (pair? d).bind fun p => (pairs? ds).map fun ps => p :: ps
def psort (ps : List (Int × Int)) : List (Int × Int) := ps.mergeSort leP
/-- sorted: of ints, of pairs of ints -/
def sortI? (x : PyData) : Option PyData := (seq? x).bind fun ds => match ints? ds with
  | some ns => some (.list ((isort ns).map PyData.int))
  | none => (pairs? ds).map fun ps => .list ((psort ps).map prI)
def max2? : PyData → PyData → Option PyData
  | .int i, .int j => some (.int (if j > i then j else i))
  | _, _ => none
def min2? : PyData → PyData → Option PyData
  | .int i, .int j => some (.int (if j < i then j else i))
  | _, _ => none
def reprOk (d : PyData) : Bool := d.showable && decide (d.depth ≤ 60) && lenOk d.shown.length
def repr? : PyData → Option PyData
  | .int i => if i.natAbs.log2 < 12900 then some (.str (toString i)) else none
  | d => if reprOk d = true then some (.str d.shown) else none

theorem leP_iff {p q : Int × Int} : leP p q = true ↔ p.1 < q.1 ∨ (p.1 = q.1 ∧ p.2 ≤ q.2) := by
  unfold leP
  rw [Bool.not_eq_true', SrtO.lexB_no]
  omega
theorem psort_perm (ps : List (Int × Int)) : (psort ps).Perm ps := List.mergeSort_perm ps _
theorem psort_sorted (ps : List (Int × Int)) : (psort ps).Pairwise (fun p q => leP p q = true) :=
  List.pairwise_mergeSort (fun a b c h1 h2 => by rw [leP_iff] at *; omega) (fun a b => by
    rw [Bool.or_eq_true, leP_iff, leP_iff]; omega) ps
theorem psort_unique {a b : List (Int × Int)} (p : a.Perm b) (h1 : a.Pairwise fun p q => leP p q = true) (h2 : b.Pairwise fun p q => leP p q = true) : a = b :=
  p.eq_of_pairwise (fun x y _ _ h h' => by
    rw [leP_iff] at h h'
    exact Prod.ext (by omega) (by omega)) h1 h2
theorem psort_id {ps : List (Int × Int)} (h : ps.Pairwise fun p q => leP p q = true) : psort ps = ps := psort_unique (psort_perm ps) (psort_sorted ps) h
theorem isort_perm (ns : List Int) : (isort ns).Perm ns := List.mergeSort_perm ns _
theorem isort_sorted (ns : List Int) : (isort ns).Pairwise (· ≤ ·) := by
  have h := List.pairwise_mergeSort (le := fun a b : Int => decide (a ≤ b)) (fun a b c h1 h2 => by simp at *; omega) (fun a b => by simp; omega) ns
  exact h.imp fun h => by simpa using h
theorem sorted_unique : ∀ {a b : List Int}, a.Perm b → a.Pairwise (· ≤ ·) → b.Pairwise (· ≤ ·) → a = b := fun p h1 h2 => p.eq_of_pairwise (fun x y _ _ h h' => Int.le_antisymm h h') h1 h2
theorem isort_of_sorted {ns : List Int} (h : ns.Pairwise (· ≤ ·)) : isort ns = ns := sorted_unique (isort_perm ns) (isort_sorted ns) h

section
variable {K : PySem.W.Frag} {fz : Addr → Prop} {H : Hp}
def rLen (K : PySem.W.Frag) : RL := fun xs H Q => (∃ p ys, xs = [.ref p] ∧ (SqL K H p ys ∨ SqT K H p ys) ∧ Q (.int ys.length) H) ∨ (∃ z, xs = [.str z] ∧ z.length ≤ sizeLine ∧ Q (.int z.length) H)
theorem cr_len {X : Cx} : CallR X (.builtin "len") (rLen X.K) := call_len_seq.or call_len_str
theorem c1_len : C1 K (rLen K) len? := by
  intro fz H v x z hv e Q q
  cases x <;> first | (cases e; done) | skip
  · rename_i s
    simp only [len?] at e
    split at e
    · rename_i h
      cases e
      rw [hv.str]
      exact .inr ⟨s, rfl, lenOk_iff.mp h, Alc.same (.int _) q⟩
    · cases e
  · cases e
    obtain ⟨a, vs, rfl, sa, ra⟩ := hv.lst
    refine .inl ⟨a, vs, rfl, .inl (SqL.of sa), ?_⟩
    rw [ra.length]
    exact Alc.same (.int _) q
  · cases e
    obtain ⟨a, vs, rfl, sa, ra, _⟩ := hv.tup
    refine .inl ⟨a, vs, rfl, .inr sa, ?_⟩
    rw [ra.length]
    exact Alc.same (.int _) q
def rAbs : RL := fun xs H Q => ∃ i, xs = [.int i] ∧ Q (.int (if i < 0 then -i else i)) H
theorem c1_abs : C1 K rAbs abs? := by
  intro fz H v x z hv e Q q
  cases x <;> first | (cases e; done) | skip
  cases e
  rw [hv.int]
  exact ⟨_, rfl, Alc.same (.int _) q⟩
/-- no digits limit set -/
def NoDg (K : PySem.W.Frag) : Prop := PySem.W.nsIn K cStatics "sys.int_max_str_digits" = some none
theorem NoDg.looks {K : PySem.W.Frag} {M : Model} {h : Heap} (n : NoDg K) (k : K.In h) : PySem.W.Looks M h (nsGet cStatics "sys.int_max_str_digits") none := PySem.W.looks_nsIn k n
theorem digitsW {M : Model} {A : Around} {E : Value → Shared → Prop} {s : Shared} {Q : Nat → Shared → Prop} {K : PySem.W.Frag} (n : NoDg K) (k : K.In s.heap) (h : Q 4300 s) : wpAny M A Builtin.intMaxStrDigits Q E s := by
  unfold Builtin.intMaxStrDigits
  exact wpAny_bind ((n.looks k).here (wpAny_pure h))
theorem intTextW {M : Model} {A : Around} {E : Value → Shared → Prop} {s : Shared} {Q : Value → Shared → Prop} {v : Value} {text : List Nat} {n : Int} {K : PySem.W.Frag} (nd : NoDg K) (k : K.In s.heap)
    (hr : (int_private% "readNumeral") (if (text.takeWhile (· != 0)).length ≤ 640 then 0 else 4300) 10 (text.takeWhile (· != 0)) = (int_private% "Numeral.value") n)
    (ha : ((text.takeWhile (· != 0)).length == text.length) = true) (h : Q (.int n s.toks) { s with toks := s.toks + 1 }) :
    wpAny M A ((int_private% "intFromText") v text 10) Q E s := by
  by_cases hs : (text.takeWhile (· != 0)).length ≤ 640
  · rw [if_pos hs] at hr
    exact PySem.W.KIN.wp_text hs hr ha h
  · rw [if_neg hs] at hr
    obtain ⟨hp, g, d, tk, os⟩ := s
    repeat (any_goals (first
      | assumption
      | (with_reducible refine wpAny_ite_false (decide_eq_false hs) ?_)
      | (refine wpAny_bind (digitsW nd k ?_))
      | (with_reducible refine wpAny_ite_true (decide_eq_true ha) ?_)
      | wp_step))
    all_goals (try rw [hr])
    all_goals (try dsimp only)
    repeat (any_goals (first
      | assumption
      | (with_reducible refine wpAny_ite_true (decide_eq_true ha) ?_)
      | wp_step))
theorem meets_textW {x : PySem.Str} {u : Tok} {n : Int} {K : PySem.W.Frag} (nd : NoDg K) (hl : x.length ≤ sizeLine) (hn : PySem.intText? x = some n) :
    Meets (Builtin.«int.__new__» ⟨[.type "int", .str x u], []⟩) (fun _ R s => K.In s.heap ∧ R (.ok (.ret (.int n s.toks))) { s with toks := s.toks + 1 }) :=
  .of_wp fun prog w A R s hh => by
    obtain ⟨k, h⟩ := hh
    obtain ⟨hp, g, d, tk, os⟩ := s
    have f1 := F.conv_sub_int
    have f2 := F.madeHere_int
    have f3 := PySem.W.KIN.str_int
    have f4 := PySem.W.KIN.str_idx
    have f5 := PySem.W.KIN.str_trunc
    have f6 : typeOf (.str x u) = pure (.type "str") := rfl
    have hr : (int_private% "readNumeral") (numLimitOf x) 10 (numSeenOf x) = (int_private% "Numeral.value") n ∧ ((numSeenOf x).length == (numTextOf x).length) = true := by
      rcases readAny x hl with ⟨m, h1, h2, h3⟩ | ⟨h1, _⟩
      · rw [hn] at h1
        injection h1 with h1
        subst h1
        exact ⟨h3, h2⟩
      · rw [hn] at h1
        cases h1
    have hk := PySem.W.KIN.Hid.mk hr
    clear hr hl hn
    repeat (any_goals (first
      | assumption
      | ((with_reducible show wpAny _ _ ((int_private% "intFromText") _ _ _) _ _ _); refine intTextW nd k hk.out.1 hk.out.2 ?_)
      | wp_step))
    all_goals first | exact ⟨_, rfl, h⟩ | skip
def rIntS : RL := fun xs H Q => ∃ a n, xs = [.str a] ∧ PySem.intText? a = some n ∧ a.length ≤ sizeLine ∧ Q (.int n) H
theorem call_intS {X : Cx} (nd : NoDg X.K) : CallR X (.type "int") rIntS := by
  intro pins s σ H xs us Q I rs h
  obtain ⟨a, n, rfl, hn, hl, h⟩ := h
  obtain ⟨u, rfl, t, rfl⟩ := vals1 rs
  exact call_int_1 (meets_textW nd hl hn) ⟨I.kIn, ⟨rfl, ⟨.int n, H, I.tok _, ⟨_, rfl⟩, h⟩⟩⟩
def rInt0 : RL := fun xs H Q => (∃ i, xs = [.int i] ∧ Q (.int i) H) ∨ ∃ k, xs = [.bl k] ∧ Q (.int (if k then 1 else 0)) H
def rInt : RL := fun xs H Q => rInt0 xs H Q ∨ rIntS xs H Q
theorem cr_int {X : Cx} (nd : NoDg X.K) : CallR X (.type "int") rInt := fun pins s σ H xs us Q I rs h =>
  h.elim (call_int1 pins s σ H xs us Q I rs) (call_intS nd pins s σ H xs us Q I rs)
theorem c1_int : C1 K rInt int? := by
  intro fz H v x z hv e Q q
  cases x <;> first | (cases e; done) | skip
  · cases e; rw [hv.bl]; exact .inl (.inr ⟨_, rfl, Alc.same (.int _) q⟩)
  · cases e; rw [hv.int]; exact .inl (.inl ⟨_, rfl, Alc.same (.int _) q⟩)
  · rename_i a
    rw [hv.str]
    simp only [int?] at e
    split at e
    · rename_i h
      cases ea : intText? a with
      | none => rw [ea] at e; cases e
      | some n =>
        rw [ea] at e
        cases e
        exact .inr ⟨_, _, rfl, ea, lenOk_iff.mp h, Alc.same (.int _) q⟩
    · cases e
def rTuple (K : PySem.W.Frag) : RL := fun xs H Q => ∃ p ys, xs = [.ref p] ∧ ((SqL K H p ys ∧ ∀ l, H l = none → Q (.ref l) (upd H l (.tup ys))) ∨ (SqT K H p ys ∧ Q (.ref p) H))
theorem c1_tuple : C1 K (rTuple K) tuple? := by
  intro fz H v x z hv e Q q
  cases x <;> first | (cases e; done) | skip
  · cases e
    obtain ⟨a, vs, rfl, sa, ra⟩ := hv.lst
    exact ⟨a, vs, rfl, .inl ⟨SqL.of sa, alc_tup ra q⟩⟩
  · cases e
    obtain ⟨a, vs, rfl, sa, ra, ra'⟩ := hv.tup
    exact ⟨a, vs, rfl, .inr ⟨sa, Alc.same ra' q⟩⟩
def rList (K : PySem.W.Frag) : RL := fun xs H Q => ∃ p ys, xs = [.ref p] ∧ (SqL K H p ys ∨ SqT K H p ys) ∧ ∀ l, H l = none → Q (.ref l) (upd H l (.lst ys))
theorem co_list : CO K (rList K) list? := by
  intro fz H v x z hv e hf Q q
  have go : ∀ {vs : List V} {ds : List PyData}, RepA K fz H vs ds → ∀ p, H p = none → OwnC K fz (upd H p (.lst vs)) p (.list ds) := fun r p hp =>
    ⟨_, upd_same, RepA.ext ⟨fun _ z => z, fun a z => upd_ne fun q => hf a z (by rw [q]; exact hp)⟩ r⟩
  cases x <;> first | (cases e; done) | skip
  · cases e
    obtain ⟨a, vs, rfl, sa, ra⟩ := hv.lst
    exact ⟨a, vs, rfl, .inl (SqL.of sa), fun l hl => q l _ hl (fun b n => upd_ne n) (go ra l hl)⟩
  · cases e
    obtain ⟨a, vs, rfl, sa, ra, _⟩ := hv.tup
    exact ⟨a, vs, rfl, .inr sa, fun l hl => q l _ hl (fun b n => upd_ne n) (go ra l hl)⟩
theorem ints_rep {vs : List V} {ds : List PyData} {ns : List Int} (r : RepA K fz H vs ds) (e : ints? ds = some ns) : vs = ns.map V.int := by
  rw [ints_of e] at r; exact r.ints
theorem bools_rep {vs : List V} {ds : List PyData} {ns : List Bool} (r : RepA K fz H vs ds) (e : bools? ds = some ns) : vs = ns.map V.bl := by
  rw [bools_of e] at r; exact r.bls
theorem c1_sum : C1 K (rSum K) sum? := by
  intro fz H v x z hv e Q q
  cases x <;> first | (cases e; done) | skip
  rename_i ds
  simp only [sum?] at e
  cases e1 : ints? ds with
  | none => rw [e1] at e; cases e
  | some ns =>
    rw [e1] at e
    cases e
    obtain ⟨a, vs, rfl, sa, ra⟩ := hv.lst
    rw [ints_rep ra e1] at sa
    exact ⟨a, ns, rfl, SqL.of sa, Alc.same (.int _) q⟩
theorem isEmpty_pos {α : Type} {l : List α} (h : ¬ l.isEmpty = true) : 0 < l.length := by cases l <;> simp_all
theorem c1_max : C1 K (rMax K) max? := by
  intro fz H v x z hv e Q q
  cases x <;> first | (cases e; done) | skip
  rename_i ds
  simp only [max?] at e
  cases e1 : ints? ds with
  | none => rw [e1] at e; cases e
  | some ns =>
    rw [e1] at e
    simp only [Option.bind_some] at e
    split at e
    · cases e
    · rename_i hn
      cases e
      obtain ⟨a, vs, rfl, sa, ra⟩ := hv.lst
      rw [ints_rep ra e1] at sa
      refine ⟨a, ns, rfl, SqL.of sa, isEmpty_pos hn, fun m hm hle => ?_⟩
      obtain ⟨h1, h2⟩ := maxL_spec ns (fun z => by rw [z] at hn; simp at hn)
      rw [show m = maxL ns from Int.le_antisymm (h2 m hm) (hle _ h1)]
      exact Alc.same (.int _) q
theorem c1_min : C1 K (rMin K) min? := by
  intro fz H v x z hv e Q q
  cases x <;> first | (cases e; done) | skip
  rename_i ds
  simp only [min?] at e
  cases e1 : ints? ds with
  | none => rw [e1] at e; cases e
  | some ns =>
    rw [e1] at e
    simp only [Option.bind_some] at e
    split at e
    · cases e
    · rename_i hn
      cases e
      obtain ⟨a, vs, rfl, sa, ra⟩ := hv.lst
      rw [ints_rep ra e1] at sa
      refine ⟨a, ns, rfl, SqL.of sa, isEmpty_pos hn, fun m hm hle => ?_⟩
      obtain ⟨h1, h2⟩ := minL_spec ns (fun z => by rw [z] at hn; simp at hn)
      rw [show m = minL ns from Int.le_antisymm (hle _ h1) (h2 m hm)]
      exact Alc.same (.int _) q
theorem tvs_rep : ∀ {vs : List V} {ds : List PyData} {bs : List Bool}, RepA K fz H vs ds → tvs? ds = some bs → vs.map tvV = bs.map some
  | _, _, bs, .nil, e => by cases e; rfl
  | _, _, bs, @RepA.cons _ _ _ v vs d ds h r, e => by
    simp only [tvs?] at e
    cases e1 : tv? d with
    | none => rw [e1] at e; cases e
    | some b =>
      rw [e1] at e
      simp only [Option.bind_some] at e
      cases e2 : tvs? ds with
      | none => rw [e2] at e; cases e
      | some cs =>
        rw [e2] at e
        cases e
        rw [List.map_cons, List.map_cons, tvs_rep r e2]
        congr 1
        cases d <;> first | (cases e1; done) | skip
        · cases e1; cases h; rfl
        · cases e1; cases h; rfl
        · cases e1; cases h; rfl
theorem c1_any : C1 K (rAnyV K) any? := by
  intro fz H v x z hv e Q q
  cases x <;> first | (cases e; done) | skip
  rename_i ds
  simp only [any?] at e
  cases e1 : tvs? ds with
  | none => rw [e1] at e; cases e
  | some ns =>
    rw [e1] at e
    cases e
    obtain ⟨a, vs, rfl, sa, ra⟩ := hv.lst
    exact ⟨a, vs, ns, rfl, SqL.of sa, tvs_rep ra e1, Alc.same (.bl _) q⟩
theorem c1_all : C1 K (rAllV K) all? := by
  intro fz H v x z hv e Q q
  cases x <;> first | (cases e; done) | skip
  rename_i ds
  simp only [all?] at e
  cases e1 : tvs? ds with
  | none => rw [e1] at e; cases e
  | some ns =>
    rw [e1] at e
    cases e
    obtain ⟨a, vs, rfl, sa, ra⟩ := hv.lst
    exact ⟨a, vs, ns, rfl, SqL.of sa, tvs_rep ra e1, Alc.same (.bl _) q⟩
theorem pairs_rep : ∀ {vs : List V} {ds : List PyData} {ps : List (Int × Int)}, RepA K fz H vs ds → pairs? ds = some ps → ds = ps.map prI ∧ ∀ (x : V), x ∈ vs → ∃ p, p ∈ ps ∧ Rep K fz H x (prI p)
  | _, [], ps, .nil, e => by cases e; exact ⟨rfl, fun x h => nomatch h⟩
  | _, d :: ds, ps, .cons (v := v) (vs := vs) r t, e => by
    unfold pairs? at e
    cases e1 : pair? d with
    | none => rw [e1] at e; cases e
    | some p =>
      rw [e1] at e
      simp only [Option.bind_some] at e
      cases e2 : pairs? ds with
      | none => rw [e2] at e; cases e
      | some qs =>
        rw [e2] at e
        cases e
        have ed : d = prI p := by
          unfold pair? at e1
          split at e1
          · cases e1; rfl
          · cases e1
        obtain ⟨h1, h2⟩ := pairs_rep t e2
        refine ⟨by rw [List.map_cons, ← h1, ed], fun x hx => ?_⟩
        rcases List.mem_cons.mp hx with rfl | hx
        · exact ⟨p, List.mem_cons_self, ed ▸ r⟩
        · obtain ⟨q, hq, hr⟩ := h2 x hx
          exact ⟨q, List.mem_cons_of_mem _ hq, hr⟩
theorem rep_pair {x : V} {p : Int × Int} (h : Rep K fz H x (prI p)) : PairV K H x p := by
  cases h with
  | tup h r =>
    cases r with
    | cons r1 r =>
      cases r with
      | cons r2 r => cases r; cases r1; cases r2; exact ⟨_, rfl, h.sq⟩
theorem repA_zip : ∀ {vs : List V} {ps : List (Int × Int)}, vs.length = ps.length → (∀ z ∈ vs.zip ps, Rep K fz H z.1 (prI z.2)) → RepA K fz H vs (ps.map prI)
  | [], [], _, _ => .nil
  | v :: vs, p :: ps, h, k => .cons (k (v, p) (by simp)) (repA_zip (by simpa using h) fun z m => k z (by simp [m]))
theorem zip_repA : ∀ {vs : List V} {ps : List (Int × Int)}, RepA K fz H vs (ps.map prI) → ∀ z ∈ vs.zip ps, Rep K fz H z.1 (prI z.2)
  | _, [], _, z, m => by simp at m
  | _, p :: ps, .cons r t, z, m => by
    rw [List.zip_cons_cons] at m
    rcases List.mem_cons.mp m with rfl | m
    · exact r
    · exact zip_repA t z m
theorem zip_snd : ∀ {α β : Type} {xs : List α} {ys : List β}, xs.length = ys.length → (xs.zip ys).map (·.2) = ys := fun {α β xs ys} h => by
  rw [List.map_snd_zip]; omega
theorem cr_sortedA {X : Cx} : CallR X (.builtin "sorted") (fun vs H Q => rSortedU X.K vs H Q ∨ rSortedPU X.K vs H Q) := cr_sortedU.or cr_sortedPU
theorem co_sortI : CO K (fun vs H Q => rSortedU K vs H Q ∨ rSortedPU K vs H Q) sortI? := by
  intro fz H v x z hv e hf Q q
  unfold sortI? at e
  cases es : seq? x with
  | none => rw [es] at e; cases e
  | some ds =>
    rw [es] at e
    simp only [Option.bind_some] at e
    have fin : ∀ (u : Bool) (a : Addr) (vs : List V), RepA K fz H vs ds → SqU K u H a vs → rSortedU K [V.ref a] H Q ∨ rSortedPU K [V.ref a] H Q := fun u a vs ra sa => by
      cases e1 : ints? ds with
      | some ns =>
        rw [e1] at e
        cases e
        left
        rw [ints_rep ra e1] at sa
        refine ⟨u, a, ns, rfl, sa, fun ns' p hp hs hn => ?_⟩
        have : ns' = isort ns := sorted_unique (hp.trans (isort_perm ns).symm) hs (isort_sorted ns)
        subst this
        exact q p _ hn (fun b n => upd_ne n) ⟨_, upd_same, RepA.of_ints _⟩
      | none =>
        rw [e1] at e
        dsimp only at e
        cases e2 : pairs? ds with
        | none => rw [e2] at e; cases e
        | some ps =>
          rw [e2] at e
          cases e
          right
          obtain ⟨ed, hx⟩ := pairs_rep ra e2
          subst ed
          have hl : vs.length = ps.length := by simpa using ra.length
          refine ⟨u, a, vs, ps, rfl, sa, hl, fun z m => rep_pair (zip_repA ra z m), fun ys qs p hq hp hs hn => ?_⟩
          have e3 : qs = psort ps := by
            refine psort_unique ?_ hs (psort_sorted ps)
            have h1 := hp.map (·.2)
            rw [zip_snd hq, zip_snd hl] at h1
            exact h1.trans (psort_perm ps).symm
          subst e3
          have r1 : RepA K fz H ys ((psort ps).map prI) := repA_zip hq fun z m => zip_repA ra z (hp.mem_iff.mp m)
          have E : Ext fz H fz (upd H p (.lst ys)) := ⟨fun _ z => z, fun b z => upd_ne fun e => hf b z (e ▸ hn)⟩
          exact q p _ hn (fun b n => upd_ne n) ⟨_, upd_same, r1.ext E⟩
    cases x <;> first | (cases es; done) | skip
    · cases es
      obtain ⟨a, vs, rfl, sa, ra⟩ := hv.lst
      exact fin false a vs ra (SqL.of sa)
    · cases es
      obtain ⟨a, vs, rfl, sa, ra, _⟩ := hv.tup
      exact fin true a vs ra sa
def rMax2 : RL := fun xs H Q => ∃ i j, xs = [.int i, .int j] ∧ Q (.int (if j > i then j else i)) H
def rMin2 : RL := fun xs H Q => ∃ i j, xs = [.int i, .int j] ∧ Q (.int (if j < i then j else i)) H
theorem c2_max : C2 K rMax2 max2? := by
  intro fz H v w x y z hv hw e Q q
  cases x <;> first | (cases e; done) | skip
  cases y <;> first | (cases e; done) | skip
  cases e; cases hv; cases hw
  exact ⟨_, _, rfl, Alc.same (.int _) q⟩
theorem c2_min : C2 K rMin2 min2? := by
  intro fz H v w x y z hv hw e Q q
  cases x <;> first | (cases e; done) | skip
  cases y <;> first | (cases e; done) | skip
  cases e; cases hv; cases hw
  exact ⟨_, _, rfl, Alc.same (.int _) q⟩

/-! ### repr -/
mutual
/-- a value without own parts, dicts among them -/
inductive Dd (K : PySem.W.Frag) (H : Hp) : V → PyData → Prop
  | non : Dd K H .non .none
  | bl (b : Bool) : Dd K H (.bl b) (.bool b)
  | int (i : Int) : Dd K H (.int i) (.int i)
  | str (x : Str) : Dd K H (.str x) (.str x)
  | lst {a : Addr} {xs : List V} {ds : List PyData} : SqL K H a xs → DdA K H xs ds → Dd K H (.ref a) (.list ds)
  | tup {a : Addr} {xs : List V} {ds : List PyData} : SqT K H a xs → DdA K H xs ds → Dd K H (.ref a) (.tuple ds)
  | dic {a : Addr} {kvs : List (Key × V)} {ds : List (PyData × PyData)} : H a = some (.dK kvs) → DdK K H kvs ds → Dd K H (.ref a) (.dict ds)
inductive DdA (K : PySem.W.Frag) (H : Hp) : List V → List PyData → Prop
  | nil : DdA K H [] []
  | cons {v : V} {vs : List V} {d : PyData} {ds : List PyData} : Dd K H v d → DdA K H vs ds → DdA K H (v :: vs) (d :: ds)
inductive DdK (K : PySem.W.Frag) (H : Hp) : List (Key × V) → List (PyData × PyData) → Prop
  | nil : DdK K H [] []
  | cons {k : Key} {v : V} {kvs : List (Key × V)} {d : PyData} {ds : List (PyData × PyData)} : Dd K H v d → DdK K H kvs ds → DdK K H ((k, v) :: kvs) ((keyD k, d) :: ds)
end
mutual
theorem Rep.dd : ∀ {v : V} {d : PyData}, Rep K fz H v d → Dd K H v d
  | _, _, .non => .non
  | _, _, .bl b => .bl b
  | _, _, .int i => .int i
  | _, _, .str x => .str x
  | _, _, .lst h e r => .lst (SqL.of e) (RepA.dd r)
  | _, _, .tup h r => .tup h.sq (RepA.dd r)
  | _, _, .dic h e r => .dic e (RepK.dd r)
theorem RepA.dd : ∀ {v : List V} {d : List PyData}, RepA K fz H v d → DdA K H v d
  | _, _, .nil => .nil
  | _, _, .cons h r => .cons (Rep.dd h) (RepA.dd r)
theorem RepK.dd : ∀ {v : List (Key × V)} {d : List (PyData × PyData)}, RepK K fz H v d → DdK K H v d
  | _, _, .nil => .nil
  | _, _, .cons h r => .cons (Rep.dd h) (RepK.dd r)
end
theorem RepP.dd {v : V} {d : PyData} (h : RepP K fz H v d) : Dd K H v d := by
  rcases h with h | ⟨a, rfl, _, z⟩
  · exact h.dd
  · cases d with
    | list ds => obtain ⟨vs, e, r⟩ := z; exact .lst (SqL.of e) r.dd
    | dict ds => obtain ⟨vs, e, r⟩ := z; exact .dic e r.dd
    | _ => exact z.elim
section
variable {X : Cx} {pins : List (Addr × Obj)} {σ : L2.St} {s : Shared}
theorem ReprAllK.wider {P : Program} {w : World} {h : Heap} {as bs : List Addr} {n m : Nat} (hs : ∀ b ∈ as, b ∈ bs) (hd : n ≤ m) {l : List Value} {ts : List Str} (k : ReprAllK P w as h n l ts) : ReprAllK P w bs h m l ts := ReprAllK.more_le hs hd k
mutual
/-- what repr writes of it, as a part of something greater -/
theorem Dd.part (I : Inv X pins σ H s) : ∀ (d : PyData) (v : V) (u : Value), Dd X.K H v d → RelV v u → d.showable = true → d.shown.length ≤ sizeLine →
    ∃ as bs, Reads s.heap u d as ∧ ReadAtMost s.heap d.depth bs ∧ ReprK X.prog X.w bs s.heap d.depth u d.shown
  | .none, _, _, h, r, _, _ => by
    cases h; cases r
    exact ⟨_, [], Reads.none, (fun _ q => nomatch q), ReprK.of_is ReprIs.none _ _ _⟩
  | .bool b, _, _, h, r, _, _ => by
    cases h; cases r
    refine ⟨_, [], Reads.bool b, (fun _ q => nomatch q), ?_⟩
    simp only [PyData.shown]
    exact ReprK.of_is (ReprIs.bool b) _ _ _
  | .int i, _, _, h, r, hs, _ => by
    cases h; obtain ⟨t, rfl⟩ := r
    refine ⟨_, [], Reads.int i t, (fun _ q => nomatch q), ?_⟩
    simp only [PyData.shown]
    exact ReprK.of_is (ReprIs.int t (by simpa only [PyData.showable, decide_eq_true_eq] using hs)) _ _ _
  | .str x, _, _, h, r, _, hz => by
    cases h; obtain ⟨t, rfl⟩ := r
    refine ⟨_, [], Reads.str x t, (fun _ q => nomatch q), ?_⟩
    simp only [PyData.shown] at hz ⊢
    exact ReprK.of_is (ReprIs.str x t hz) _ _ _
  | .list ds, _, _, h, r, hs, hz => by
    cases h with
    | lst hq ha =>
      cases r
      obtain ⟨its, rv, ⟨o, n, ho, hc, _, hd⟩, _⟩ := I.list hq
      have hz2 : (listText (PyData.shownAll ds)).length ≤ sizeLine := by simpa only [PyData.shown] using hz
      obtain ⟨as, bs, h4, hb, hk⟩ := Dd.parts I ds _ its ha rv (by simpa only [PyData.showable] using hs) (fun t ht => Nat.le_trans (listText_mem_le ht) hz2)
      have rr := Reads.list ho hc hd h4
      have nb := not_mem_of_deeper rr (n := PyData.depthAll ds) (by simp only [PyData.depth]; omega) hb
      refine ⟨_, _, rr, ReadAtMost.cons rr (by simp only [PyData.depth]; omega) hb, ?_⟩
      simp only [PyData.depth, PyData.shown]
      cases its with
      | nil =>
        cases h4
        simp only [PyData.shownAll, listText_nil]
        exact ReprK.listEmpty ho hc hd
      | cons y l => exact ReprK.list ho hc hd nb (by simpa using hk.length_eq) (fun i z e => hk.item i z (by simpa using e))
  | .tuple ds, _, _, h, r, hs, hz => by
    cases h with
    | tup hq ha =>
      cases r
      obtain ⟨its, rv, ⟨o, ho, hc, n, hd⟩, _⟩ := I.tuple hq
      have hz2 : (tupleText (PyData.shownAll ds)).length ≤ sizeLine := by simpa only [PyData.shown] using hz
      obtain ⟨as, bs, h4, hb, hk⟩ := Dd.parts I ds _ its ha rv (by simpa only [PyData.showable] using hs) (fun t ht => Nat.le_trans (tupleText_mem_le ht) hz2)
      have rr := Reads.tuple ho hc hd h4
      have nb := not_mem_of_deeper rr (n := PyData.depthAll ds) (by simp only [PyData.depth]; omega) hb
      refine ⟨_, _, rr, ReadAtMost.cons rr (by simp only [PyData.depth]; omega) hb, ?_⟩
      simp only [PyData.depth, PyData.shown]
      exact ReprK.tuple ho hc hd nb hk
  | .dict ds, _, _, h, r, hs, hz => by
    cases h with
    | dic hq ha =>
      cases r
      obtain ⟨_, nsys, vs, kv, o, es, ep, ho, hx, hd, hks, hp, _⟩ := dk_of I.hok hq
      have hz2 : (dictText (PyData.shownKv ds)).length ≤ sizeLine := by simpa only [PyData.shown] using hz
      obtain ⟨s1, s2⟩ := PyData.showableKv_split ds (by simpa only [PyData.showable] using hs)
      obtain ⟨a1, b1, r1, c1, k1, a2, b2, r2, c2, k2⟩ := Dd.pairs I ds _ vs es.toList ha kv hp s1 s2
        (fun t ht => let ⟨p, hp, hl⟩ := PyData.shownKv_key_le ds t ht; Nat.le_trans hl (Nat.le_trans (dictText_mem_le hp) hz2))
        (fun t ht => let ⟨p, hp, hl⟩ := PyData.shownKv_val_le ds t ht; Nat.le_trans hl (Nat.le_trans (dictText_mem_le hp) hz2))
      have rr := Reads.dict ho hx.1 hd r1 r2
      have cc : ReadAtMost s.heap (PyData.depthKv ds) (b1 ++ b2) := (c1.mono (PyData.depthAll_keys_le ds)).append (c2.mono (PyData.depthAll_vals_le ds))
      have nb := not_mem_of_deeper rr (n := PyData.depthKv ds) (by simp only [PyData.depth]; omega) cc
      refine ⟨_, _, rr, ReadAtMost.cons rr (by simp only [PyData.depth]; omega) cc, ?_⟩
      simp only [PyData.depth, PyData.shown, PyData.shownKv_eq]
      exact ReprK.dict ho hx.1 hd nsys nb (ReprEntriesK.of_two _ _ _ (ReprAllK.wider (fun _ q => List.mem_append_left _ q) (PyData.depthAll_keys_le ds) k1) (ReprAllK.wider (fun _ q => List.mem_append_right _ q) (PyData.depthAll_vals_le ds) k2))
theorem Dd.parts (I : Inv X pins σ H s) : ∀ (ds : List PyData) (vs : List V) (us : List Value), DdA X.K H vs ds → Vals vs us → PyData.showableAll ds = true → (∀ t ∈ PyData.shownAll ds, t.length ≤ sizeLine) →
    ∃ as bs, ReadsAll s.heap us ds as ∧ ReadAtMost s.heap (PyData.depthAll ds) bs ∧ ReprAllK X.prog X.w bs s.heap (PyData.depthAll ds) us (PyData.shownAll ds)
  | [], _, _, h, r, _, _ => by
    cases h; cases r
    refine ⟨_, [], ReadsAll.nil, (fun _ q => nomatch q), ?_⟩
    simp only [PyData.shownAll]
    exact .nil
  | d :: ds, _, _, h, r, hs, hz => by
    cases h with
    | cons h1 h2 =>
      cases r with
      | cons g1 g2 =>
        simp only [PyData.showableAll, Bool.and_eq_true] at hs
        simp only [PyData.shownAll, List.mem_cons] at hz
        obtain ⟨a1, b1, r1, c1, k1⟩ := Dd.part I d _ _ h1 g1 hs.1 (hz _ (.inl rfl))
        obtain ⟨a2, b2, r2, c2, k2⟩ := Dd.parts I ds _ _ h2 g2 hs.2 (fun t q => hz t (.inr q))
        refine ⟨_, b1 ++ b2, ReadsAll.cons r1 r2, ?_, ?_⟩
        · simp only [PyData.depthAll]
          exact (c1.mono (Nat.le_max_left _ _)).append (c2.mono (Nat.le_max_right _ _))
        · simp only [PyData.depthAll, PyData.shownAll]
          exact .cons ((k1.more fun _ q => List.mem_append_left _ q).level_le (Nat.le_max_left _ _)) (ReprAllK.wider (fun _ q => List.mem_append_right _ q) (Nat.le_max_right _ _) k2)
theorem Dd.pairs (I : Inv X pins σ H s) : ∀ (ds : List (PyData × PyData)) (kvs : List (Key × V)) (vs : List (Key × Value)) (es : List DictEntry), DdK X.K H kvs ds → KV kvs vs → Pairs (mixKind X.prog X.w) es vs →
    PyData.showableAll (ds.map (·.1)) = true → PyData.showableAll (ds.map (·.2)) = true → (∀ t ∈ PyData.shownAll (ds.map (·.1)), t.length ≤ sizeLine) → (∀ t ∈ PyData.shownAll (ds.map (·.2)), t.length ≤ sizeLine) →
    ∃ a1 b1, ReadsAll s.heap (es.map (·.key)) (ds.map (·.1)) a1 ∧ ReadAtMost s.heap (PyData.depthAll (ds.map (·.1))) b1 ∧ ReprAllK X.prog X.w b1 s.heap (PyData.depthAll (ds.map (·.1))) (es.map (·.key)) (PyData.shownAll (ds.map (·.1))) ∧
    ∃ a2 b2, ReadsAll s.heap (es.map (·.val)) (ds.map (·.2)) a2 ∧ ReadAtMost s.heap (PyData.depthAll (ds.map (·.2))) b2 ∧ ReprAllK X.prog X.w b2 s.heap (PyData.depthAll (ds.map (·.2))) (es.map (·.val)) (PyData.shownAll (ds.map (·.2)))
  | [], _, _, _, h, r, p, _, _, _, _ => by
    cases h; cases r; cases p
    refine ⟨_, [], ReadsAll.nil, (fun _ q => nomatch q), ?_, _, [], ReadsAll.nil, (fun _ q => nomatch q), ?_⟩ <;>
    · simp only [List.map_nil, PyData.shownAll]
      exact .nil
  | (_, d) :: ds, _, _, _, h, r, p, z1, z2, l1, l2 => by
    cases h with
    | @cons k v kvs _ _ h1 h2 =>
      cases r with
      | @cons _ bq _ _ g1 g2 =>
        cases p with
        | @cons en _ es _ p0 p1 p2 =>
          simp only [List.map_cons, PyData.showableAll, Bool.and_eq_true] at z1 z2
          simp only [List.map_cons, PyData.shownAll, List.mem_cons] at l1 l2
          obtain ⟨g0, g1⟩ := g1
          obtain ⟨bk, bv⟩ := bq
          dsimp only at g0 g1 p0 p1
          subst g0
          obtain ⟨aa, bb, r1, c1, k1, ab, bc, r2, c2, k2⟩ := Dd.pairs I ds _ _ _ h2 g2 p2 z1.2 z2.2 (fun t q => l1 t (.inr q)) (fun t q => l2 t (.inr q))
          obtain ⟨ad, bd, r3, c3, k3⟩ := Dd.part I d v en.val h1 (by rw [p1]; exact g1) z2.1 (l2 _ (.inl rfl))
          obtain ⟨ae, r4, k4⟩ : ∃ ae, Reads s.heap en.key (keyD k) ae ∧ ReprK X.prog X.w [] s.heap (keyD k).depth en.key (keyD k).shown := by
            rcases keyIs_shape p0 with ⟨i, t, e1, e2⟩ | ⟨x, t, e1, e2⟩
            · rw [e1, e2]
              rw [e1] at z1
              refine ⟨_, Reads.int i t, ?_⟩
              simp only [keyD, PyData.shown]
              exact ReprK.of_is (ReprIs.int t (by simpa only [keyD, PyData.showable, decide_eq_true_eq] using z1.1)) _ _ _
            · rw [e1, e2]
              rw [e1] at l1
              refine ⟨_, Reads.str x t, ?_⟩
              simp only [keyD, PyData.shown] at l1 ⊢
              exact ReprK.of_is (ReprIs.str x t (l1 _ (.inl rfl))) _ _ _
          refine ⟨_, bb, ReadsAll.cons r4 r1, ?_, ?_, _, bd ++ bc, ReadsAll.cons r3 r2, ?_, ?_⟩
          · simp only [List.map_cons, PyData.depthAll]
            exact c1.mono (Nat.le_max_right _ _)
          · simp only [List.map_cons, PyData.depthAll, PyData.shownAll]
            exact .cons ((k4.more fun _ q => nomatch q).level_le (Nat.le_max_left _ _)) (ReprAllK.wider (fun _ q => q) (Nat.le_max_right _ _) k1)
          · simp only [List.map_cons, PyData.depthAll]
            exact (c3.mono (Nat.le_max_left _ _)).append (c2.mono (Nat.le_max_right _ _))
          · simp only [List.map_cons, PyData.depthAll, PyData.shownAll]
            exact .cons ((k3.more fun _ q => List.mem_append_left _ q).level_le (Nat.le_max_left _ _)) (ReprAllK.wider (fun _ q => List.mem_append_right _ q) (Nat.le_max_right _ _) k2)
end
end
theorem NoDg.digits {K : PySem.W.Frag} {h : Heap} (n : NoDg K) (k : K.In h) (l : h.NoLimit) : h.NoDigits := by
  obtain ⟨mc, ⟨o, es, ep, e1, e2, e3, e4⟩, _⟩ := l
  refine ⟨mc, ⟨o, es, ep, e1, e2, e3, e4⟩, ?_⟩
  unfold NoDg PySem.W.nsIn at n
  split at n
  · rename_i c d es' n' sl ho
    have e5 := k _ _ ho
    rw [e1] at e5
    cases e5
    cases e2
    rw [← e4]
    unfold nsFind findBy
    rw [← Array.find?_toList]
    split at n
    · cases n
    · rename_i he
      rw [he]
      rfl
  · cases n
def rReprI : RL := fun vs H Q => ∃ i, vs = [.int i] ∧ i.natAbs.log2 < 12900 ∧ Q (.str (toString i)) H
theorem cr_reprI {X : Cx} (nd : NoDg X.K) (hu : X.A.units + 64 < cLine) : CallR X (.builtin "repr") rReprI := by
  intro pins s σ H xs us Q I rs h
  obtain ⟨i, rfl, hl, q⟩ := h
  obtain ⟨u, rfl, t, rfl⟩ := vals1 rs
  have hd : s.heap.NoDigits := nd.digits I.kIn (I.ok.mod.nolimit.keeps fun b o e => (I.bs b o e).1)
  have lt : i.natAbs < 10 ^ 4300 := Nat.lt_of_lt_of_le (PyProof.Rows.lt_of_log2 hl) PyProof.Rows.pow_lo
  refine PySem.call_repr_slot (T := "int") (idr := "int.__repr__") (by omega) (typeIs_int s i t) PySem.F.slot_int_repr.toG ?_
  refine wpAny_call_entry F.slot_int_repr (typeIs_int s i t) F.entry_int_repr ?_ (F.args_int_repr_1 _)
  unfold Builtin.«int.__repr__»
  show wpAny _ _ (do let r ← Builtin.overDigitLimit? i; _) _ _ s
  refine wpAny_bind (PyProof.Rows.overDigitLimit_any hd (fun hlt => ?_) (fun hge => absurd lt (Nat.not_lt.mpr hge)))
  exact wpAny_bind (wpAny_mkStr (wpAny_pure ⟨_, rfl, _, _, rfl, .str _, H, I.tok _, ⟨_, rfl⟩, q⟩) (int_text_fits10 hlt))
def rRepr1 (K : PySem.W.Frag) : RL := fun vs H Q => ∃ v d, vs = [v] ∧ Dd K H v d ∧ d.showable = true ∧ d.depth ≤ 60 ∧ d.shown.length ≤ sizeLine ∧ Q (.str d.shown) H
theorem cr_repr1 {X : Cx} (hg : X.A.guards = some []) (hu : X.A.units + 64 < cLine) : CallR X (.builtin "repr") (rRepr1 X.K) := by
  intro pins s σ H xs us Q I r h
  obtain ⟨v, d, rfl, hd, hs, hl, hz, q⟩ := h
  obtain ⟨u, rfl, rx⟩ := vals1 r
  have fin : ∀ (h' : Heap) (t : Tok) (tk : Nat), (∀ b o, s.heap.get? b = some o → h'.get? b = some o) → EP X pins σ Q (.str d.shown t) { s with heap := h', toks := tk } := fun h' t tk hk => ⟨.str d.shown, H, I.kept hk, ⟨t, rfl⟩, q⟩
  cases hd with
  | non => cases rx; exact PySem.P.repr_of_none (by have := fin s.heap s.toks (s.toks + 1) (fun _ _ e => e); simpa [PyData.shown] using this)
  | bl b =>
    cases rx
    refine PySem.P.repr_of_bool ?_
    have := fin s.heap s.toks (s.toks + 1) (fun _ _ e => e)
    cases b <;> simpa [PyData.shown] using this
  | int i =>
    obtain ⟨t, rfl⟩ := rx
    exact PySem.P.repr_of_int (by simpa [PyData.showable] using hs) (by have := fin s.heap s.toks (s.toks + 1) (fun _ _ e => e); simpa [PyData.shown] using this)
  | str x =>
    obtain ⟨t, rfl⟩ := rx
    exact PySem.P.repr_of_str (by have := fin s.heap s.toks (s.toks + 1) (fun _ _ e => e); simpa [PyData.shown] using this) (by simpa [PyData.shown] using hz)
  | @lst a ys ds hq ha =>
    cases rx
    obtain ⟨its, rv, ⟨o, n, ho, hc, _, hd⟩, _⟩ := I.list hq
    have hz2 : (listText (PyData.shownAll ds)).length ≤ sizeLine := by simpa only [PyData.shown] using hz
    obtain ⟨as, bs, h4, hb, hk⟩ := Dd.parts I ds _ its ha rv (by simpa only [PyData.showable] using hs) (fun t ht => Nat.le_trans (listText_mem_le ht) hz2)
    have rr := Reads.list ho hc hd h4
    have nb := not_mem_of_deeper rr (n := PyData.depthAll ds) (by simp only [PyData.depth]; omega) hb
    refine PySem.call_repr_slot (by omega) ⟨o, ho, hc⟩ F.slot_list_repr.toG ?_
    simp only [PyData.depth] at hl
    simp only [PyData.shown] at fin
    cases its with
    | nil =>
      cases h4
      simp only [PyData.shownAll, listText_nil] at fin
      exact call_list_repr_empty ⟨o, ho, hc⟩ ho hd ⟨_, _, rfl, fin s.heap s.toks (s.toks + 1) (fun _ _ e => e)⟩
    | cons y l =>
      exact call_list_reprK ho hc hd nb (by simpa using hk.length_eq) (fun i z e => hk.item i z (by simpa using e)) hg (fun b _ => Clear.nil b) (by show X.A.units + 1 + (PyData.depthAll ds + 1) < cLine; omega) (fun _ _ e => e) (fun h' u tk k => ⟨_, _, rfl, fin h' u tk k⟩) hz2
  | @tup a ys ds hq ha =>
    cases rx
    obtain ⟨its, rv, ⟨o, ho, hc, n, hd⟩, _⟩ := I.tuple hq
    have hz2 : (tupleText (PyData.shownAll ds)).length ≤ sizeLine := by simpa only [PyData.shown] using hz
    obtain ⟨as, bs, h4, hb, hk⟩ := Dd.parts I ds _ its ha rv (by simpa only [PyData.showable] using hs) (fun t ht => Nat.le_trans (tupleText_mem_le ht) hz2)
    have rr := Reads.tuple ho hc hd h4
    have nb := not_mem_of_deeper rr (n := PyData.depthAll ds) (by simp only [PyData.depth]; omega) hb
    refine PySem.call_repr_slot (by omega) ⟨o, ho, hc⟩ F.slot_tuple_repr ?_
    simp only [PyData.depth] at hl
    simp only [PyData.shown] at fin
    exact call_tuple_reprK ho hc hd nb hk hg (fun b _ => Clear.nil b) (by show X.A.units + 1 + (PyData.depthAll ds + 1) < cLine; omega) (fun _ _ e => e) (fun h' u tk k => ⟨_, _, rfl, fin h' u tk k⟩) hz2
  | @dic a kvs ds hq ha =>
    cases rx
    obtain ⟨_, nsys, vs, kv, o, es, ep, ho, hx, hd, hks, hp, _⟩ := dk_of I.hok hq
    have hz2 : (dictText (PyData.shownKv ds)).length ≤ sizeLine := by simpa only [PyData.shown] using hz
    obtain ⟨s1, s2⟩ := PyData.showableKv_split ds (by simpa only [PyData.showable] using hs)
    obtain ⟨a1, b1, r1, c1, k1, a2, b2, r2, c2, k2⟩ := Dd.pairs I ds _ vs es.toList ha kv hp s1 s2
      (fun t ht => let ⟨p, hp, hl⟩ := PyData.shownKv_key_le ds t ht; Nat.le_trans hl (Nat.le_trans (dictText_mem_le hp) hz2))
      (fun t ht => let ⟨p, hp, hl⟩ := PyData.shownKv_val_le ds t ht; Nat.le_trans hl (Nat.le_trans (dictText_mem_le hp) hz2))
    have rr := Reads.dict ho hx.1 hd r1 r2
    have cc : ReadAtMost s.heap (PyData.depthKv ds) (b1 ++ b2) := (c1.mono (PyData.depthAll_keys_le ds)).append (c2.mono (PyData.depthAll_vals_le ds))
    have nb := not_mem_of_deeper rr (n := PyData.depthKv ds) (by simp only [PyData.depth]; omega) cc
    refine PySem.call_repr_slot (by omega) ⟨o, ho, hx.1⟩ F.slot_dict_repr ?_
    simp only [PyData.depth] at hl
    simp only [PyData.shown, PyData.shownKv_eq] at fin
    exact call_dict_reprK ho hx.1 hd nsys nb (ReprEntriesK.of_two _ _ _ (ReprAllK.wider (fun _ q => List.mem_append_left _ q) (PyData.depthAll_keys_le ds) k1) (ReprAllK.wider (fun _ q => List.mem_append_right _ q) (PyData.depthAll_vals_le ds) k2)) hg (fun b _ => Clear.nil b) (by show X.A.units + 1 + (PyData.depthKv ds + 1) < cLine; omega) (fun _ _ e => e) (fun h' u tk k => ⟨_, _, rfl, fin h' u tk k⟩) (by rw [← PyData.shownKv_eq]; exact hz2)
def rRepr (K : PySem.W.Frag) : RL := fun vs H Q => rReprI vs H Q ∨ rRepr1 K vs H Q
theorem cr_repr {X : Cx} (nd : NoDg X.K) (hg : X.A.guards = some []) (hu : X.A.units + 64 < cLine) : CallR X (.builtin "repr") (rRepr X.K) := fun pins s σ H xs us Q I rs h =>
  h.elim (cr_reprI nd hu pins s σ H xs us Q I rs) (cr_repr1 hg hu pins s σ H xs us Q I rs)
theorem c1_repr : C1 K (rRepr K) repr? := by
  intro fz H v x z hv e Q q
  unfold repr? at e
  split at e
  · split at e
    · rename_i h
      cases e
      rw [hv.int]
      exact .inl ⟨_, rfl, h, Alc.same (.str _) q⟩
    · cases e
  refine .inr ?_
  split at e
  · rename_i h
    simp only [reprOk, Bool.and_eq_true, decide_eq_true_eq] at h
    obtain ⟨⟨h1, h3⟩, h4⟩ := h
    cases e
    exact ⟨v, x, rfl, hv.dd, h1, h3, lenOk_iff.mp h4, Alc.same (.str _) q⟩
  · cases e
end

/-! ### the script -/
section
variable {c : Cw} {pp : List (Nat × Addr)} {pr fz : Addr → Prop} {σ : L2.St} {H : Hp} {ρ : Env}
def scrNs (i : Nat) (ρ : Env) : Option (List Int) := match ρ[i]? with
  | some (.scr ns) => some ns
  | _ => none
theorem scrNs_eq {i : Nat} {ns : List Int} (h : scrNs i ρ = some ns) : ρ[i]? = some (.scr ns) := by
  unfold scrNs at h
  split at h
  · rename_i e; cases h; exact e
  · cases h
def mlenS (i : Nat) : M PyData := fun ρ => match scrNs i ρ with
  | some ns => .ok (.int ns.length) ρ
  | none => .bad
theorem rf_lenS {i : Nat} : Rf c (RV c.K) (tCB (rLen c.K) (tCons (tVar i) tNil)) (mlenS i) := by
  intro pp pr fz σ H ρ Q hp R hq
  unfold mlenS at hq
  cases e : scrNs i ρ with
  | none => rw [e] at hq; exact hq.elim
  | some ns =>
    simp only [e] at hq
    obtain ⟨a, hs, hr⟩ := R.at_ i _ (scrNs_eq e)
    refine ⟨_, join_some.mp hs, .inl ⟨a, _, rfl, .inl hr.sq, ?_⟩⟩
    rw [List.length_map]
    exact ok_post hq R (.int _)
def mixS (i : Nat) (m : M PyData) : M PyData := fun ρ => match scrNs i ρ with
  | some ns => bnd m (fun k => lft ((asI? k).bind fun j => (atI ns j).map PyData.int)) ρ
  | none => .bad
theorem rf_ixS {i : Nat} {te : TE} {m : M PyData} (h : Rf c (RV c.K) te m) : Rf c (RV c.K) (tOp (rIx c.K) (tVar i) te) (mixS i m) := by
  intro pp pr fz σ H ρ Q hp R hq
  unfold mixS at hq
  cases e : scrNs i ρ with
  | none => rw [e] at hq; exact hq.elim
  | some ns =>
    simp only [e] at hq
    obtain ⟨a, hs, hr⟩ := R.at_ i _ (scrNs_eq e)
    refine ⟨_, join_some.mp hs, h pp pr fz σ H ρ _ hp R (hq.bnd fun w k fz1 H1 ρ1 F1 R1 r1 P1 => ?_)⟩
    obtain ⟨z, e1, P1⟩ := lftB_post P1
    cases k <;> first | (cases e1; done) | skip
    rename_i j
    cases r1
    simp only [asI?, Option.bind_some] at e1
    cases e2 : atI ns j with
    | none => rw [e2] at e1; cases e1
    | some n =>
      rw [e2] at e1
      cases e1
      refine .inl ⟨a, _, j, .int n, rfl, rfl, (hr.ext F1.ext).sq, ?_, ok_post P1 R1 (.int n)⟩
      unfold atI at e2 ⊢
      rw [List.length_map]
      cases e3 : ixN ns.length j with
      | none => rw [e3] at e2; cases e2
      | some k =>
        rw [e3] at e2
        simp only [Option.bind_some] at e2 ⊢
        rw [List.getElem?_map, e2]; rfl
end
end PL

end
section
/-! PL11: several targets at once; facts of built-in names. -/
namespace PL
open PySem PySem.Spec L2
open PyProof.Rows hiding St

inductive PArg where
  | v (m : M PyData) | o (m : M PyData)
def pev : List PArg → M (List Sl)
  | [] => fun ρ => .ok [] ρ
  | .v m :: as => bnd m fun d => bnd (pev as) fun ss ρ => .ok (.val d :: ss) ρ
  | .o m :: as => bnd m fun d => bnd (pev as) fun ss ρ => .ok (.own d :: ss) ρ
def SlsR (K : PySem.W.Frag) (pr : Addr → Prop) (σ : L2.St) (fz : Addr → Prop) (H : Hp) (ρ : Env) : List Sl → List V → Prop
  | [], [] => True
  | .val d :: ss, v :: vs => Rep K fz H v d ∧ SlsR K pr σ fz H ρ ss vs
  | .own d :: ss, v :: vs => (∃ a F, v = .ref a ∧ OwnR K fz H a d F ∧ ∀ b ∈ F, ¬ fz b ∧ ¬ pr b ∧ Free K fz H σ ρ b ∧ ∀ (j : Nat) (x : PyData) (c : Addr) (G : List Addr), ss[j]? = some (.own x) → vs[j]? = some (V.ref c) → OwnR K fz H c x G → b ∉ G) ∧ SlsR K pr σ fz H ρ ss vs
  | _, _ => False
def RSls (K : PySem.W.Frag) : RT (List Sl) (List V) := fun pr σ fz H ρ vs ss => SlsR K pr σ fz H ρ ss vs
def setsE : Env → List Nat → List Sl → Env
  | ρ, i :: is, s :: ss => setsE (ρ.set i s) is ss
  | ρ, _, _ => ρ
def setsV : L2.St → List Nat → List V → L2.St
  | σ, i :: is, v :: vs => setsV (σ.set i (some v)) is vs
  | σ, _, _ => σ
def mpar (as : List PArg) (is : List Nat) : SM := sbnd (pev as) fun ss r => if ss.length = is.length then .nx (setsE r is ss) else .bad
section
variable {c : Cw} {pp : List (Nat × Addr)} {pr fz : Addr → Prop} {σ : L2.St} {H : Hp} {ρ : Env}
theorem rf_pnil : Rf c (RSls c.K) tNil (pev []) := fun pp pr fz σ H ρ Q hp R hq => ok_post hq R (show SlsR c.K pr σ fz H ρ [] [] from trivial)
theorem rf_pv {te : TE} {tr : TA} {m : M PyData} {as : List PArg} (ha : Rf c (RV c.K) te m) (hr : Rf c (RSls c.K) tr (pev as)) : Rf c (RSls c.K) (tCons te tr) (pev (.v m :: as)) := by
  intro pp pr fz σ H ρ Q hp R hq
  refine ha pp pr fz σ H ρ _ hp R (PostG.bnd (f := fun d => bnd (pev as) fun ss ρ => .ok (.val d :: ss) ρ) hq fun v x fz1 H1 ρ1 F1 R1 r1 P1 => ?_)
  refine hr pp pr fz1 σ H1 ρ1 _ hp R1 (P1.bnd fun w y fz2 H2 ρ2 F2 R2 r2 P2 => ?_)
  exact ok_post P2 R2 (show SlsR c.K pr σ fz2 H2 ρ2 (.val x :: y) (v :: w) from ⟨Rep.ext F2.ext r1, r2⟩)
theorem SlsR.narrow {K : PySem.W.Frag} {pr' : Addr → Prop} (h : ∀ a, pr a → pr' a) : ∀ {ss : List Sl} {vs : List V}, SlsR K pr' σ fz H ρ ss vs → SlsR K pr σ fz H ρ ss vs ∧ ∀ b, pr' b → ∀ (j : Nat) (x : PyData) (c : Addr) (G : List Addr), ss[j]? = some (.own x) → vs[j]? = some (V.ref c) → OwnR K fz H c x G → b ∉ G
  | [], [], _ => ⟨trivial, fun a _ j x c G e => by simp at e⟩
  | .val d :: ss, v :: vs, q => by
    obtain ⟨h1, h2⟩ := SlsR.narrow h q.2
    refine ⟨⟨q.1, h1⟩, fun a pa j x c G e s r => ?_⟩
    cases j with
    | zero => simp at e
    | succ j => exact h2 a pa j x c G (by simpa using e) (by simpa using s) r
  | .own d :: ss, v :: vs, q => by
    obtain ⟨⟨a, F, rfl, oc, n⟩, q2⟩ := q
    obtain ⟨h1, h2⟩ := SlsR.narrow h q2
    refine ⟨⟨⟨a, F, rfl, oc, fun b hb => ⟨(n b hb).1, fun z => (n b hb).2.1 (h b z), (n b hb).2.2⟩⟩, h1⟩, fun b pa j x c G e s r => ?_⟩
    cases j with
    | zero =>
      simp only [List.getElem?_cons_zero, Option.some.injEq, Sl.own.injEq, V.ref.injEq] at e s
      subst e; subst s
      rw [r.det oc]
      exact fun hb => (n b hb).2.1 pa
    | succ j => exact h2 b pa j x c G (by simpa using e) (by simpa using s) r
  | .emp :: _, _, q => by cases ‹List V› <;> exact q.elim
  | .scr _ :: _, _, q => by cases ‹List V› <;> exact q.elim
  | [], _ :: _, q => q.elim
  | .val _ :: _, [], q => q.elim
  | .own _ :: _, [], q => q.elim
theorem rf_poG {te : TE} {tr : TA} {m : M PyData} {as : List PArg} (ha : Rf c (RG c.K) te m) (hr : Rf c (RSls c.K) tr (pev as)) : Rf c (RSls c.K) (tCons te tr) (pev (.o m :: as)) := by
  intro pp pr fz σ H ρ Q hp R hq
  refine ha pp pr fz σ H ρ _ hp R (PostG.bnd (f := fun d => bnd (pev as) fun ss ρ => .ok (.own d :: ss) ρ) hq fun v x fz1 H1 ρ1 F1 R1 r1 P1 => ?_)
  obtain ⟨a, F, rfl, oc, n⟩ := r1
  have R1w := R1.wideF (F := F) fun b hb => ⟨oc.some b hb, (n b hb).2.2⟩
  refine hr pp _ fz1 σ H1 ρ1 _ hp R1w ?_
  unfold PL.bnd at P1
  cases e : pev as ρ1 with
  | bad => rw [e] at P1; exact P1.elim
  | exc y r => rw [e] at P1; exact fun cls dx fz' H' F' R' q => P1 cls dx fz' H' (F'.narrow fun a z => .inl z) (R'.narrow fun a z => .inl z) q
  | ok ss ρ2 =>
    rw [e] at P1
    intro vs fz2 H2 F2 R2 r2
    obtain ⟨r3, r4⟩ := SlsR.narrow (pr := pr) (fun a z => Or.inl z) (show SlsR c.K (fun b => pr b ∨ b ∈ F) σ fz2 H2 ρ2 ss vs from r2)
    have oc2 := oc.ext F2.ext fun b hb => F2.keepP b (.inr hb)
    have R3 := R2.narrow (pr := pr) fun a z => .inl z
    refine P1 (.ref a :: vs) fz2 H2 (F2.narrow fun a z => .inl z) R3 (show SlsR c.K pr σ fz2 H2 ρ2 (.own x :: ss) (.ref a :: vs) from ⟨⟨a, F, rfl, oc2, fun b hb => ⟨fun z => (n b hb).1 (F2.new b (.inr hb) z), (n b hb).2.1, R2.free_pr (.inr hb), r4 b (.inr hb)⟩⟩, r3⟩)
theorem rf_po {te : TE} {tr : TA} {m : M PyData} {as : List PArg} (ha : Rf c (RO c.K) te m) (hr : Rf c (RSls c.K) tr (pev as)) : Rf c (RSls c.K) (tCons te tr) (pev (.o m :: as)) := by
  refine rf_poG (fun pp pr fz σ H ρ Q hp R hq => ha pp pr fz σ H ρ Q hp R ?_) hr
  cases e : m ρ with
  | ok d r => rw [e] at hq; exact fun v fz' H' F R' q => hq v fz' H' F R' q.g
  | exc x r => rw [e] at hq; exact hq
  | bad => rw [e] at hq; exact hq
/-- a slot is set, the rest to come stays apart -/
theorem SlsR.setS {i : Nat} {o : Option V} {s : Sl} (h : ∀ b, Free c.K fz H σ ρ b → (∀ F, Reg c.K fz H (σ.set i o) (ρ.set i s) i F → b ∉ F) → Free c.K fz H (σ.set i o) (ρ.set i s) b) : ∀ {ss : List Sl} {vs : List V},
    (∀ F, Reg c.K fz H (σ.set i o) (ρ.set i s) i F → ∀ b ∈ F, ∀ (j : Nat) (x : PyData) (d : Addr) (G : List Addr), ss[j]? = some (.own x) → vs[j]? = some (V.ref d) → OwnR c.K fz H d x G → b ∉ G) → SlsR c.K pr σ fz H ρ ss vs → SlsR c.K pr (σ.set i o) fz H (ρ.set i s) ss vs
  | [], [], _, _ => trivial
  | .val x :: ss, v :: vs, n, q => ⟨q.1, SlsR.setS h (fun F g b hb j y d G e s' r => n F g b hb (j + 1) y d G (by simpa using e) (by simpa using s') r) q.2⟩
  | .own x :: ss, v :: vs, n, q => by
    obtain ⟨⟨a, F, rfl, oc, m⟩, q2⟩ := q
    refine ⟨⟨a, F, rfl, oc, fun b hb => ⟨(m b hb).1, (m b hb).2.1, h b (m b hb).2.2.1 fun F2 g hb2 => n F2 g b hb2 0 x a F rfl rfl oc hb, (m b hb).2.2.2⟩⟩, SlsR.setS h (fun F g b hb j y d G e s' r => n F g b hb (j + 1) y d G (by simpa using e) (by simpa using s') r) q2⟩
  | .emp :: _, _, _, q => by cases ‹List V› <;> exact q.elim
  | .scr _ :: _, _, _, q => by cases ‹List V› <;> exact q.elim
  | [], _ :: _, _, q => q.elim
  | .val _ :: _, [], _, q => q.elim
  | .own _ :: _, [], _, q => q.elim
theorem free_set {i : Nat} {o : Option V} {s : Sl} {b : Addr} (h : Free c.K fz H σ ρ b) (n : ∀ F, Reg c.K fz H (σ.set i o) (ρ.set i s) i F → b ∉ F) : Free c.K fz H (σ.set i o) (ρ.set i s) b := fun j F g => by
  by_cases e : j = i
  · subst e; exact n F g
  · exact h j F ((Reg.other e).mp g)
theorem Rel.sets : ∀ {is : List Nat} {ss : List Sl} {vs : List V} {σ : L2.St} {ρ : Env}, Rel c.K pp pr fz σ H ρ → SlsR c.K pr σ fz H ρ ss vs → (∀ i ∈ is, i ∉ pp.map (·.1)) → Rel c.K pp pr fz (setsV σ is vs) H (setsE ρ is ss)
  | [], ss, vs, σ, ρ, R, _, _ => by cases ss <;> cases vs <;> exact R
  | i :: is, [], [], σ, ρ, R, _, _ => R
  | i :: is, .val d :: ss, v :: vs, σ, ρ, R, h, hi => by
    have R2 := R.setV h.1 (hi i List.mem_cons_self)
    show Rel c.K pp pr fz (setsV (σ.set i (some v)) is vs) H (setsE (ρ.set i (.val d)) is ss)
    have no : ∀ F, Reg c.K fz H (σ.set i (some v)) (ρ.set i (.val d)) i F → False := fun F g => g.none fun x e => by cases e
    exact Rel.sets (is := is) (vs := vs) (ss := ss) R2 (SlsR.setS (c := c) (fun b hb _ => free_set (c := c) hb fun F g => (no F g).elim) (fun F g => (no F g).elim) h.2) fun j hj => hi j (List.mem_cons_of_mem _ hj)
  | i :: is, .own d :: ss, v :: vs, σ, ρ, R, h, hi => by
    obtain ⟨⟨a, F, rfl, oc, n⟩, h2⟩ := h
    have R2 := R.setG oc (fun b hb => ⟨(n b hb).1, (n b hb).2.1, (n b hb).2.2.1⟩) (hi i List.mem_cons_self)
    show Rel c.K pp pr fz (setsV (σ.set i (some (V.ref a))) is vs) H (setsE (ρ.set i (.own d)) is ss)
    have here : ∀ G, Reg c.K fz H (σ.set i (some (V.ref a))) (ρ.set i (.own d)) i G → G = F := fun G g => by
      obtain ⟨a', x, e, s, r⟩ := g
      have hl := (List.getElem?_eq_some_iff.mp e).1
      rw [List.length_set] at hl
      rw [List.getElem?_set_self hl] at e
      rw [List.getElem?_set_self (by rw [R.len]; exact hl)] at s
      cases e; cases s
      exact r.det oc
    exact Rel.sets (is := is) (vs := vs) (ss := ss) R2 (SlsR.setS (c := c) (fun b hb q => free_set (c := c) hb q) (fun G g b hb => by rw [here G g] at hb; exact (n b hb).2.2.2) h2) fun j hj => hi j (List.mem_cons_of_mem _ hj)
  | _ :: _, .emp :: _, _, _, _, _, h, _ => by cases ‹List V› <;> exact h.elim
  | _ :: _, .scr _ :: _, _, _, _, _, h, _ => by cases ‹List V› <;> exact h.elim
  | _ :: _, [], _ :: _, _, _, _, h, _ => h.elim
  | _ :: _, .val _ :: _, [], _, _, _, h, _ => h.elim
  | _ :: _, .own _ :: _, [], _, _, _, h, _ => h.elim
theorem SlsR.len {K : PySem.W.Frag} : ∀ {ss : List Sl} {vs : List V}, SlsR K pr σ fz H ρ ss vs → vs.length = ss.length
  | [], [], _ => rfl
  | .val d :: ss, v :: vs, h => by simp [SlsR.len h.2]
  | .own d :: ss, v :: vs, h => by simp [SlsR.len h.2]
  | .emp :: _, _, q => by cases ‹List V› <;> exact q.elim
  | .scr _ :: _, _, q => by cases ‹List V› <;> exact q.elim
  | [], _ :: _, q => q.elim
  | .val _ :: _, [], q => q.elim
  | .own _ :: _, [], q => q.elim
theorem SlsR.alc {K : PySem.W.Frag} {H2 : Hp} (E : Ext fz H fz H2) (k : ∀ a, H a ≠ none → H2 a = H a) (back : ∀ i F, Reg K fz H2 σ ρ i F → Reg K fz H σ ρ i F) : ∀ {ss : List Sl} {vs : List V}, SlsR K pr σ fz H ρ ss vs → SlsR K pr σ fz H2 ρ ss vs ∧
    ∀ (j : Nat) (x : PyData) (c : Addr) (G : List Addr), ss[j]? = some (.own x) → vs[j]? = some (V.ref c) → OwnR K fz H2 c x G → OwnR K fz H c x G
  | [], [], _ => ⟨trivial, fun j x c G e => by simp at e⟩
  | .val d :: ss, v :: vs, h => by
    obtain ⟨h1, h2⟩ := SlsR.alc E k back h.2
    refine ⟨⟨Rep.ext E h.1, h1⟩, fun j x c G e s r => ?_⟩
    cases j with
    | zero => simp at e
    | succ j => exact h2 j x c G (by simpa using e) (by simpa using s) r
  | .own d :: ss, v :: vs, h => by
    obtain ⟨⟨a, F, rfl, oc, n⟩, h3⟩ := h
    obtain ⟨h1, h2⟩ := SlsR.alc E k back h3
    have oc2 := oc.ext E fun b hb => k b (oc.some b hb)
    refine ⟨⟨⟨a, F, rfl, oc2, fun b hb => ⟨(n b hb).1, (n b hb).2.1, fun i G g => (n b hb).2.2.1 i G (back i G g), fun j x c G e s r => (n b hb).2.2.2 j x c G e s (h2 j x c G e s r)⟩⟩, h1⟩, fun j x c G e s r => ?_⟩
    cases j with
    | zero =>
      simp only [List.getElem?_cons_zero, Option.some.injEq, Sl.own.injEq, V.ref.injEq] at e s
      subst e; subst s
      rw [r.det oc2]
      exact oc
    | succ j => exact h2 j x c G (by simpa using e) (by simpa using s) r
  | .emp :: _, _, q => by cases ‹List V› <;> exact q.elim
  | .scr _ :: _, _, q => by cases ‹List V› <;> exact q.elim
  | [], _ :: _, q => q.elim
  | .val _ :: _, [], q => q.elim
  | .own _ :: _, [], q => q.elim
variable {ta : TA} {as : List PArg}
theorem rs_par {i j : Nat} (h : Rf c (RSls c.K) ta (pev as)) (hi : ∀ n ∈ [i, j], n ∉ c.ps) : RfS c (tPar i j ta) (mpar as [i, j]) := by
  intro pp pr fz σ H ρ D hp R hq
  refine h pp pr fz σ H ρ _ hp R (hq.bnd fun vs ss fz1 H1 ρ1 F1 R1 r1 P1 => ?_)
  split at P1
  · rename_i hl
    have r1 : SlsR c.K pr σ fz1 H1 ρ1 ss vs := r1
    have ln := r1.len
    have R2 := Rel.sets (is := [i, j]) R1 r1 (fun n hn => by rw [hp]; exact hi n hn)
    have l2 : vs.length = 2 := ln.trans hl
    obtain ⟨v, w, rfl⟩ : ∃ v w, vs = [v, w] := by
      match vs, l2 with
      | [v, w], _ => exact ⟨v, w, rfl⟩
    exact ⟨v, w, rfl, P1 _ fz1 H1 Fr.refl R2⟩
  · exact P1.elim
theorem rs_par3 {i j l : Nat} (h : Rf c (RSls c.K) ta (pev as)) (hi : ∀ n ∈ [i, j, l], n ∉ c.ps) : RfS c (tPar3 i j l ta) (mpar as [i, j, l]) := by
  intro pp pr fz σ H ρ D hp R hq
  refine h pp pr fz σ H ρ _ hp R (hq.bnd fun vs ss fz1 H1 ρ1 F1 R1 r1 P1 => ?_)
  split at P1
  · rename_i hl
    have r1 : SlsR c.K pr σ fz1 H1 ρ1 ss vs := r1
    have ln := r1.len
    have R2 := Rel.sets (is := [i, j, l]) R1 r1 (fun n hn => by rw [hp]; exact hi n hn)
    have l2 : vs.length = 3 := ln.trans hl
    obtain ⟨u, v, w, rfl⟩ : ∃ u v w, vs = [u, v, w] := by
      match vs, l2 with
      | [u, v, w], _ => exact ⟨u, v, w, rfl⟩
    exact ⟨u, v, w, rfl, P1 _ fz1 H1 Fr.refl R2⟩
  · exact P1.elim
/-- targets that are names, as a tuple's -/
def gNames : List Nat → TGs
  | [] => gNil
  | i :: is => gCons (gName i) (gNames is)
theorem gNames_run : ∀ {is : List Nat} {vs : List V} {σ : L2.St} {H : Hp} {Q : L2.St → Hp → Prop}, vs.length = is.length → Q (setsV σ is vs) H → gNames is vs σ H Q
  | [], [], σ, H, Q, _, q => ⟨rfl, q⟩
  | i :: is, v :: vs, σ, H, Q, hl, q => ⟨v, vs, rfl, gNames_run (by simpa using hl) q⟩
  | [], _ :: _, _, _, _, hl, _ => by simp at hl
  | _ :: _, [], _, _, _, hl, _ => by simp at hl
theorem rs_parN {is : List Nat} {n : Nat} (h : Rf c (RSls c.K) ta (pev as)) (hi : ∀ i ∈ is, i ∉ c.ps) (hn : is.length = n) (hz : lenOk n = true) : RfS c (tAsg (tTup ta) (gTup c.K n (gNames is))) (mpar as is) := by
  intro pp pr fz σ H ρ D hp R hq
  refine h pp pr fz σ H ρ _ hp R (hq.bnd fun vs ss fz1 H1 ρ1 F1 R1 r1 P1 => ?_)
  split at P1
  · rename_i hl
    have r1 : SlsR c.K pr σ fz1 H1 ρ1 ss vs := r1
    have ln := r1.len
    refine ⟨by rw [ln, hl, hn]; exact lenOk_iff.mp hz, fun p hpn => ?_⟩
    have A : Alc fz1 H1 fz1 (upd H1 p (.tup vs)) := Alc.own hpn
    have R2 := A.rel R1
    have r2 : SlsR c.K pr σ fz1 (upd H1 p (.tup vs)) ρ1 ss vs := (r1.alc (A.ext R1.fzH) A.keep (A.rel2 R1).2).1
    refine ⟨p, vs, rfl, SqT.of upd_same, by rw [ln, hl, hn], gNames_run (by rw [ln, hl]) ?_⟩
    exact P1 _ fz1 _ (A.fr R1) (Rel.sets R2 r2 fun i hi' => by rw [hp]; exact hi i hi')
  · exact P1.elim
end

/-! ### names of built-ins -/
theorem bt_len : bootBuiltins "len" = some (.builtin "len") := by decide +kernel
theorem bt_abs : bootBuiltins "abs" = some (.builtin "abs") := by decide +kernel
theorem bt_max : bootBuiltins "max" = some (.builtin "max") := by decide +kernel
theorem bt_min : bootBuiltins "min" = some (.builtin "min") := by decide +kernel
theorem bt_sum : bootBuiltins "sum" = some (.builtin "sum") := by decide +kernel
theorem bt_any : bootBuiltins "any" = some (.builtin "any") := by decide +kernel
theorem bt_all : bootBuiltins "all" = some (.builtin "all") := by decide +kernel
theorem bt_sorted : bootBuiltins "sorted" = some (.builtin "sorted") := by decide +kernel
theorem bt_repr : bootBuiltins "repr" = some (.builtin "repr") := by decide +kernel
theorem bt_isinstance : bootBuiltins "isinstance" = some (.builtin "isinstance") := by decide +kernel
theorem bt_int : bootBuiltins "int" = some (.type "int") := by decide +kernel
theorem bt_str : bootBuiltins "str" = some (.type "str") := by decide +kernel
theorem bt_list : bootBuiltins "list" = some (.type "list") := by decide +kernel
theorem bt_tuple : bootBuiltins "tuple" = some (.type "tuple") := by decide +kernel
theorem bt_dict : bootBuiltins "dict" = some (.type "dict") := by decide +kernel
theorem bt_set : bootBuiltins "set" = some (.type "set") := by decide +kernel
/-- a slot that no caller has lent -/
theorem nps {K : PySem.W.Frag} {RX : RXT} {ks : List PKd} {E : XK} {i : Nat} (h : decide (i ∈ ownIx 0 ks) = false) : i ∉ (cwOf K RX ks E).ps := of_decide_eq_false h
theorem nps0 {K : PySem.W.Frag} {RX : RXT} {ks : List PKd} {E : XK} {i : Nat} (h : decide (i ∈ ownIx 0 ks) = false) : i ∉ (cwOf K RX ks E).calm0.ps := of_decide_eq_false h
theorem npsL {K : PySem.W.Frag} {RX : RXT} {ks : List PKd} {E : XK} {is : List Nat} (h : is.all (fun i => !decide (i ∈ ownIx 0 ks)) = true) : ∀ i ∈ is, i ∉ (cwOf K RX ks E).ps := fun i hi => by
  have := List.all_eq_true.mp h i hi
  show i ∉ ownIx 0 ks
  simpa using this
end PL

end
section
/-! PLall: a temporary object handed on, in-place operators, is of bools, the end of a law. -/
namespace PL
open PySem PySem.Spec L2
open PyProof.Rows hiding St

theorem hu65 {k : Nat} {A : Around} (r : Room k A) : A.units + 65 < cLine := by have := r.un; omega
theorem npsL0 {K : PySem.W.Frag} {RX : RXT} {ks : List PKd} {E : XK} {is : List Nat} (h : is.all (fun i => !decide (i ∈ ownIx 0 ks)) = true) : ∀ i ∈ is, i ∉ (cwOf K RX ks E).calm0.ps := npsL (E := E) (K := K) (RX := RX) h
def addI? : PyData → PyData → Option PyData
  | .int i, .int j => some (.int (i + j))
  | _, _ => none
def mulI? : PyData → PyData → Option PyData
  | .int i, .int j => if mulOk i j = true then some (.int (i * j)) else none
  | _, _ => none
theorem of_addI {K : PySem.W.Frag} : OpF K (ipI fun i j => i + j) addI? := by
  intro fz H v w x y z hv hw e Q q
  unfold addI? at e
  split at e
  · cases e; rw [hv.int, hw.int]; exact ⟨_, _, rfl, rfl, Alc.same (.int _) q⟩
  · cases e
theorem of_subI {K : PySem.W.Frag} : OpF K (ipI fun i j => i - j) sub? := by
  intro fz H v w x y z hv hw e Q q
  unfold sub? at e
  split at e
  · cases e; rw [hv.int, hw.int]; exact ⟨_, _, rfl, rfl, Alc.same (.int _) q⟩
  · cases e
def rMulI : R2 := rI (fun i j => mulOk i j = true) fun i j => .int (i * j)
theorem ip_mulI {X : Cx} : PIp X .Mult rMulI := opI (f := inplaceOp .Mult) fun _ _ _ _ _ _ _ hc q => imul_int q (mulOk_ok hc)
theorem of_mulI {K : PySem.W.Frag} : OpF K rMulI mulI? := by
  intro fz H v w x y z hv hw e Q q
  unfold mulI? at e
  split at e
  · split at e
    · rename_i h
      cases e; rw [hv.int, hw.int]; exact ⟨_, _, rfl, rfl, h, Alc.same (.int _) q⟩
    · cases e
  · cases e
def isB? : PyData → PyData → Option PyData
  | .bool a, .bool b => some (.bool (decide (a = b)))
  | _, _ => none
def isNB? : PyData → PyData → Option PyData
  | .bool a, .bool b => some (.bool (!decide (a = b)))
  | _, _ => none
theorem of_isB {K : PySem.W.Frag} : OpF K rIsB isB? := by
  intro fz H v w x y z hv hw e Q q
  unfold isB? at e
  split at e
  · cases e; rw [hv.bl, hw.bl]; exact ⟨_, _, rfl, rfl, Alc.same (.bl _) q⟩
  · cases e
theorem of_isNB {K : PySem.W.Frag} : OpF K rNotB isNB? := by
  intro fz H v w x y z hv hw e Q q
  unfold isNB? at e
  split at e
  · cases e; rw [hv.bl, hw.bl]; exact ⟨_, _, rfl, rfl, Alc.same (.bl _) q⟩
  · cases e

/-! ### a call whose first argument is a new object, given away -/
def mcallT (f : List PyData → FOut) (m : M PyData) (as : List CArg) : M Rt := bnd m fun x ρ => match evA as ρ with
  | .ok xs ρ1 => if (lendOk as ρ1 && scrOk as ρ1) = true then (match f (x :: fillA ρ1 as xs) with
      | .ok r outs => .ok r (wbA as outs.tail ρ1)
      | .exc e outs => .exc e (wbA as outs.tail ρ1)
      | .bad => .bad) else .bad
  | .exc e r => .exc e r
  | .bad => .bad
section
variable {c : Cw}
theorem rf_callTG {as : List CArg} {f : List PyData → FOut} {te : TE} {m : M PyData} {ta : TA} {ks : List PKd} (hks : .o :: as.map CArg.kd = ks) (hm : Rf c (RG c.K) te m) (ha : Rf c (RArgs c.K as) ta (evA as)) :
    Rf c (RRt c.K) (tCallSD (spF c.K c.RX ks f) [] (fun σ => WE c.W σ) (tCons te ta)) (mcallT f m as) := by
  subst hks
  intro pp pr fz0 σ H0 ρ0 Q hp R0 hq0
  refine hm pp pr fz0 σ H0 ρ0 _ hp R0 (hq0.bnd fun v0 x0 fz H ρ F0 R r0 hq => ?_)
  obtain ⟨a0, G0, rfl, oc0, n0⟩ := r0
  refine ha pp (fun b => pr b ∨ b ∈ G0) fz σ H ρ _ hp (R.wideF fun b hb => ⟨oc0.some b hb, (n0 b hb).2.2⟩) ?_
  cases e : evA as ρ with
  | bad => rw [e] at hq; exact hq.elim
  | exc x r => rw [e] at hq; exact fun cls dx fz' H' F' R' q => hq cls dx fz' H' (F'.narrow fun a z => .inl z) (R'.narrow fun a z => .inl z) q
  | ok xs ρ1 =>
    rw [e] at hq
    intro vs fz1 H1 F1w R1w r1
    have F1 : Fr pr fz H fz1 H1 := F1w.narrow fun a z => .inl z
    have R1 : Rel c.K pp pr fz1 σ H1 ρ1 := R1w.narrow fun a z => .inl z
    have oc1 : OwnR c.K fz1 H1 a0 x0 G0 := oc0.ext F1.ext fun b hb => F1w.keepP b (.inr hb)
    have fr1 : ∀ b ∈ G0, Free c.K fz1 H1 σ ρ1 b := fun b hb => R1w.free_pr (.inr hb)
    have r1 : ArgsV c.K σ fz1 H1 as vs xs := r1
    have hq := PostG.rest F1 hq
    simp only at hq
    split at hq
    · rename_i hok
      simp only [lendOk, Bool.and_eq_true, decide_eq_true_eq, List.all_eq_true] at hok
      obtain ⟨⟨hn, hl⟩, hs⟩ := hok
      show spF c.K c.RX (.o :: as.map CArg.kd) f ((V.ref a0 :: vs) ++ []) H1 Q (WE c.W σ)
      rw [List.append_nil]
      have n1 : ∀ b ∈ G0, ¬ fz1 b ∧ ¬ prC c.K pr fz1 H1 σ ρ1 as b := fun b hb => ⟨fun z => (n0 b hb).1 (F1w.new b (.inr hb) z), by
        rintro (z | ⟨i, F, g, hbF, _⟩)
        · exact (n0 b hb).2.1 z
        · exact fr1 b hb i F g hbF⟩
      refine ⟨prC c.K pr fz1 H1 σ ρ1 as, fz1, x0 :: fillA ρ1 as xs, ⟨⟨a0, G0, rfl, oc1, n1⟩, argsR_of R1 _ r1 hl R1.prC_no hs⟩, ⟨fun a F e r b hb z => ?_, argSep_of R1 r1 hn hl⟩, R1.fzH, R1.prC_some, ?_⟩
      · cases e
        rw [r.det oc1] at hb
        obtain ⟨i, hi, F2, g, hb2⟩ := inA_of R1 r1 hl z
        exact fr1 b hb i F2 g hb2
      · have tl : ∀ {pr2 fz2 : Addr → Prop} {H2 : Hp} {outs : List PyData}, OutsR c.K pr2 fz2 H2 (.o :: as.map CArg.kd) (.ref a0 :: vs) outs → OutsR c.K pr2 fz2 H2 (as.map CArg.kd) vs outs.tail ∧ ∀ b, InO c.K fz2 H2 (as.map CArg.kd) vs outs.tail b → InO c.K fz2 H2 (.o :: as.map CArg.kd) (.ref a0 :: vs) outs b := fun {pr2 fz2 H2 outs} ho => by
          cases outs with
          | nil => exact ho.elim
          | cons o outs => exact ⟨ho.2, fun b z => .inr z⟩
        cases ef : f (x0 :: fillA ρ1 as xs) with
        | bad => rw [ef] at hq; exact hq.elim
        | ok r outs =>
          rw [ef] at hq
          intro v fz2 H2 F2 hf2 ho hr
          obtain ⟨F3, R3, free⟩ := R1.back2 r1 hn hl F2 hf2 (tl ho).1
          refine hq v fz2 H2 F3 R3 ?_
          cases r with
          | v d => exact hr
          | o d =>
            obtain ⟨a, F, rfl, oc, n⟩ := hr
            exact ⟨a, F, rfl, oc, fun b hb => ⟨(n b hb).1, fun z => (n b hb).2.1 (.inl z), free b (n b hb).2.1 fun z => (n b hb).2.2 ((tl ho).2 b z)⟩⟩
        | exc x outs =>
          rw [ef] at hq
          intro cls dx fz2 H2 F2 hf2 ho hr
          obtain ⟨F3, R3, _⟩ := R1.back2 r1 hn hl F2 hf2 (tl ho).1
          exact hq cls dx fz2 H2 F3 R3 hr
    · exact hq.elim
theorem rf_og {te : TE} {m : M PyData} (h : Rf c (RO c.K) te m) : Rf c (RG c.K) te m := fun pp pr fz σ H ρ Q hp R hq => h pp pr fz σ H ρ Q hp R (by
  cases e : m ρ with
  | ok d r => rw [e] at hq; exact fun v fz' H' F R' q => hq v fz' H' F R' q.g
  | exc x r => rw [e] at hq; exact hq
  | bad => rw [e] at hq; exact hq)
theorem rf_callT {as : List CArg} {f : List PyData → FOut} {te : TE} {m : M PyData} {ta : TA} {ks : List PKd} (hks : .o :: as.map CArg.kd = ks) (hm : Rf c (RO c.K) te m) (ha : Rf c (RArgs c.K as) ta (evA as)) :
    Rf c (RRt c.K) (tCallSD (spF c.K c.RX ks f) [] (fun σ => WE c.W σ) (tCons te ta)) (mcallT f m as) := rf_callTG hks (rf_og hm) ha
end
/-- from the pure law to the promise at the top -/
theorem law_end {K : PySem.W.Frag} {RX : RXT} {f : List PyData → FOut} {ns : List Int} {H : Hp} {a : Addr} (h : f [.list (ns.map PyData.int)] = .ok (.v (.bool true)) []) (hS : SqL K H a (ns.map V.int)) :
    spF K RX [.s] f [.ref a] H (fun v _ => v = .bl true) fun _ _ _ => False := by
  refine ⟨fun _ => False, fun b => H b ≠ none, [.list (ns.map PyData.int)], ⟨⟨a, ns, rfl, ?_, rfl⟩, trivial⟩, trivial, fun _ z => z, fun _ z => z.elim, ?_⟩
  · rcases hS with (q | ⟨o, q⟩) | q
    · exact .inl ⟨(show H a ≠ none by rw [q]; simp), .inl q⟩
    · exact .inl ⟨(show H a ≠ none by rw [q]; simp), .inr ⟨o, q⟩⟩
    · exact .inr q
  · rw [h]
    intro v fz' H' _ _ _ hr
    cases hr
    rfl
end PL

end
section
/-! PLb: an own object is lent as a value while an expression is reckoned (the answer bears no list). -/
namespace PL
open PySem PySem.Spec L2
open PyProof.Rows hiding St

mutual
def noList : PyData → Bool
  | .list _ => false
  | .dict _ => false
  | .tuple ds => noListA ds
  | _ => true
def noListA : List PyData → Bool
  | [] => true
  | d :: ds => noList d && noListA ds
end
def noListK : List (PyData × PyData) → Bool
  | [] => true
  | d :: ds => noList d.2 && noListK ds
mutual
def flatC : PyData → Bool
  | .list ds => noListA ds
  | .dict ds => noListK ds
  | .tuple (.bool _ :: _ :: ds) => flatF ds
  | .tuple (.tuple _ :: ds) => flatF ds
  | _ => false
/-- the fields of an object -/
def flatF : List PyData → Bool
  | .tuple [d] :: r => noList d && flatF r
  | .list [d] :: r => flatC d && flatF r
  | [] => true
  | _ => false
end
section
variable {K : PySem.W.Frag} {fz : Addr → Prop} {H : Hp} {a : Addr}
/-- what holds a list or a dict -/
def Big (H : Hp) (a : Addr) : Prop := (∃ xs, H a = some (.lst xs)) ∨ ∃ xs, H a = some (.dK xs)
theorem Big.notTup (h : Big H a) {xs : List V} (r : Rd H a (.tup xs)) : False := by
  unfold Rd at r
  rcases h with ⟨ys, h⟩ | ⟨ys, h⟩ <;> (rw [h] at r; rcases r with r | ⟨o, r⟩ <;> cases r)
mutual
theorem Rep.less (hb : Big H a) : ∀ {v : V} {d : PyData}, Rep K fz H v d → noList d = true → Rep K (fun b => fz b ∧ b ≠ a) H v d
  | _, _, .non, _ => .non
  | _, _, .bl b, _ => .bl b
  | _, _, .int i, _ => .int i
  | _, _, .str x, _ => .str x
  | _, _, .lst _ _ _, n => by simp [noList] at n
  | _, _, .tup h r, n => .tup (h.imp (fun z => ⟨⟨z.1, fun e => hb.notTup (e ▸ z.2)⟩, z.2⟩) id) (RepA.less hb r (by simpa [noList] using n))
  | _, _, .dic _ _ _, n => by simp [noList] at n
theorem RepA.less (hb : Big H a) : ∀ {v : List V} {d : List PyData}, RepA K fz H v d → noListA d = true → RepA K (fun b => fz b ∧ b ≠ a) H v d
  | _, _, .nil, _ => .nil
  | _, _, .cons h r, n => by
    simp only [noListA, Bool.and_eq_true] at n
    exact .cons (Rep.less hb h n.1) (RepA.less hb r n.2)
end
theorem RepK.less (hb : Big H a) : ∀ {v : List (Key × V)} {d : List (PyData × PyData)}, RepK K fz H v d → noListK d = true → RepK K (fun b => fz b ∧ b ≠ a) H v d
  | _, _, .nil, _ => .nil
  | _, _, .cons h r, n => by
    simp only [noListK, Bool.and_eq_true] at n
    exact .cons (Rep.less hb h n.1) (RepK.less hb r n.2)
theorem FldV.less (hb : Big H a) : ∀ {fs : List (Str × V)} {d : List PyData}, FldV K fz H fs d → flatF d = true → FldV K (fun b => fz b ∧ b ≠ a) H fs d
  | _, _, .nil, _ => .nil
  | _, _, .val r t, n => by
    simp only [flatF, Bool.and_eq_true] at n
    exact .val (r.less hb n.1) (FldV.less hb t n.2)
mutual
theorem OwnR.less (hb : Big H a) : ∀ {b : Addr} {d : PyData} {F : List Addr}, OwnR K fz H b d F → flatC d = true → OwnR K (fun b => fz b ∧ b ≠ a) H b d F
  | _, _, _, .lst e r, n => .lst e (r.less hb n)
  | _, _, _, .dic e r, n => .dic e (r.less hb n)
  | _, _, _, .ins q c e f nd, n => .ins q c e (FldR.less hb f (by subst q; simpa only [flatC, tagD] using n)) nd
  | _, _, _, .exc q c za e zd ed f, n => .exc q c ⟨za, fun q => by rw [← q] at hb; rcases hb with ⟨_, h⟩ | ⟨_, h⟩ <;> (rw [e] at h; cases h)⟩ e ⟨zd, fun q => by rw [← q] at hb; rcases hb with ⟨_, h⟩ | ⟨_, h⟩ <;> (rw [ed] at h; cases h)⟩ ed (f.less hb (by simpa only [flatC] using n))
  | _, _, _, .exc0 q c za e, n => .exc0 q c ⟨za, fun q => by rw [← q] at hb; rcases hb with ⟨_, h⟩ | ⟨_, h⟩ <;> (rw [e] at h; cases h)⟩ e
theorem FldR.less (hb : Big H a) : ∀ {fs : List (Str × V)} {d : List PyData} {F : List Addr}, FldR K fz H fs d F → flatF d = true → FldR K (fun b => fz b ∧ b ≠ a) H fs d F
  | _, _, _, .nil, _ => .nil
  | _, _, _, .val r t, n => by
    simp only [flatF, Bool.and_eq_true] at n
    exact .val (r.less hb n.1) (FldR.less hb t n.2)
  | _, _, _, .own r t, n => by
    simp only [flatF, Bool.and_eq_true] at n
    exact .own (OwnR.less hb r n.1) (FldR.less hb t n.2)
end
theorem OwnC.less (hb : Big H a) {b : Addr} {d : PyData} (h : OwnC K fz H b d) (n : flatC d = true) : OwnC K (fun b => fz b ∧ b ≠ a) H b d := by
  cases d with
  | list ds => obtain ⟨vs, e, r⟩ := h; exact ⟨vs, e, r.less hb n⟩
  | dict ds => obtain ⟨vs, e, r⟩ := h; exact ⟨vs, e, r.less hb n⟩
  | _ => exact h.elim
theorem OwnC.big {d : PyData} (h : OwnC K fz H a d) : Big H a := by
  cases d with
  | list ds => obtain ⟨vs, e, r⟩ := h; exact .inl ⟨vs, e⟩
  | dict ds => obtain ⟨vs, e, r⟩ := h; exact .inr ⟨vs, e⟩
  | _ => exact h.elim
end
def flatS : Sl → Bool
  | .emp => true
  | .val d => noList d
  | .own d => flatC d
  | .scr _ => false
def isOS : Sl → Bool
  | .own _ => true
  | _ => false
def slotOk (s s2 : Sl) : Prop := (s2 = s ∧ isOS s2 = false) ∨ flatS s2 = true
def borA : Env → Env → Prop
  | s :: r, s2 :: r2 => slotOk s s2 ∧ borA r r2
  | [], [] => True
  | _, _ => False
theorem borA_at : ∀ {ρ ρ2 : Env}, borA ρ ρ2 → ρ.length = ρ2.length ∧ ∀ (j : Nat) (s2 : Sl), ρ2[j]? = some s2 → ∃ s, ρ[j]? = some s ∧ slotOk s s2
  | [], [], _ => ⟨rfl, fun j s e => by simp at e⟩
  | s :: r, s2 :: r2, h => by
    obtain ⟨h1, h2⟩ := borA_at h.2
    refine ⟨by simp [h1], fun j s' e => ?_⟩
    cases j with
    | zero => simp at e; subst e; exact ⟨s, rfl, h.1⟩
    | succ j => exact h2 j s' (by simpa using e)
  | [], _ :: _, h => h.elim
  | _ :: _, [], h => h.elim
open Classical in
noncomputable def mbor {α : Type} (ok : α → Bool) (i : Nat) (m : M α) : M α := fun ρ => match ρ[i]? with
  | some (.own d) => if leafD d = true then (match m (ρ.set i (.val d)) with
    | .ok v ρ2 => if ok v = true ∧ borA ρ (ρ2.set i .emp) then .ok v (ρ2.set i (.own d)) else .bad
    | _ => .bad) else .bad
  | _ => .bad
abbrev Cw.unp (c : Cw) (i : Nat) : Cw := { c with ps := c.ps.filter (· ≠ i) }
theorem Reg.less {K : PySem.W.Frag} {fz : Addr → Prop} {H : Hp} {σ : L2.St} {ρ : Env} {a : Addr} (hb : Big H a) {i : Nat} {F : List Addr} {x : PyData} (e : ρ[i]? = some (.own x)) (fl : flatC x = true) (g : Reg K fz H σ ρ i F) : Reg K (fun b => fz b ∧ b ≠ a) H σ ρ i F := by
  obtain ⟨b, y, e', s, r⟩ := g
  rw [e] at e'
  cases e'
  exact ⟨b, x, e, s, r.less hb fl⟩
theorem rf_borG {α β : Type} {c : Cw} {R : RT α β} {t : L2.St → Hp → (β → Hp → Prop) → Prop} {m : M α} {ok : α → Bool} {i : Nat}
    (hR : ∀ (pr fz : Addr → Prop) (σ : L2.St) (H : Hp) (ρ : Env) (b : β) (v : α) (a : Addr) (d : PyData), Big H a → fz a → σ[i]? = some (some (V.ref a)) → ok v = true → (∀ b, b ≠ a → Free c.K fz H σ ρ b → Free c.K (fun x => fz x ∧ x ≠ a) H σ (ρ.set i (.own d)) b) → R pr σ fz H ρ b v → R pr σ (fun x => fz x ∧ x ≠ a) H (ρ.set i (.own d)) b v)
    (h : Rf (c.unp i) R t m) : Rf c R t (mbor ok i m) := by
  intro pp pr fz σ H ρ Q hp R0 hq
  unfold mbor at hq
  split at hq
  · rename_i d hr
    split at hq
    · rename_i lf
      obtain ⟨a, hs, nf, np, rc⟩ := R0.own_ne hr lf
      have hl : i < ρ.length := (List.getElem?_eq_some_iff.mp hr).1
      have R1 : Rel c.K (pp.filter fun p => p.1 ≠ i) pr fz σ H ρ := ⟨R0.len, R0.at_, R0.sep, R0.fzH, R0.prH, fun p hp => R0.pin p (List.mem_filter.mp hp).1⟩
      have hi : i ∉ (pp.filter fun p => p.1 ≠ i).map (·.1) := by
        simp only [List.mem_map, List.mem_filter, decide_eq_true_eq, not_exists, not_and]
        rintro p ⟨_, n⟩ e
        exact n e
      obtain ⟨a', hs', F1, R2, _⟩ := R1.frz hr lf hi
      rw [hs] at hs'
      cases hs'
      refine h (pp.filter fun p => p.1 ≠ i) pr (fun b => fz b ∨ b = a) σ H (ρ.set i (.val d)) Q ?_ R2 ?_
      · show _ = c.ps.filter (· ≠ i)
        rw [← hp, List.filter_map]
        rfl
      · cases em : m (ρ.set i (.val d)) with
        | bad => rw [em] at hq; exact hq.elim
        | exc e r => rw [em] at hq; exact hq.elim
        | ok v ρ2 =>
          rw [em] at hq
          simp only at hq
          split at hq
          · rename_i hc
            obtain ⟨hv, hb⟩ := hc
            intro b fz' H' F' R' r'
            have fa : fz' a := F'.mono a (.inr rfl)
            have ka : H' a = H a := F'.keep a (.inr rfl)
            have big : Big H' a := by
              have := rc.big
              unfold Big at *
              rw [ka]
              exact this
            have E : Ext fz H (fun x => fz' x ∧ x ≠ a) H' := ⟨fun x z => ⟨F'.mono x (.inl z), fun e => nf (e ▸ z)⟩, fun x z => F'.keep x (.inl z)⟩
            obtain ⟨bl, bat⟩ := borA_at hb
            have hl2 : i < ρ2.length := by rw [List.length_set] at bl; omega
            -- an own slot but i
            have flat : ∀ j x, j ≠ i → ρ2[j]? = some (.own x) → flatC x = true := fun j x n e => by
              obtain ⟨s0, e0, ok0⟩ := bat j (.own x) (by rw [List.getElem?_set_ne (Ne.symm n)]; exact e)
              rcases ok0 with ⟨_, no⟩ | fl
              · cases no
              · exact fl
            have backR : ∀ j F, j ≠ i → Reg c.K (fun x => fz' x ∧ x ≠ a) H' σ (ρ2.set i (Sl.own d)) j F → Reg c.K fz' H' σ ρ2 j F := fun j F n g => by
              obtain ⟨b', x, e, s, r⟩ := g
              rw [List.getElem?_set_ne (Ne.symm n)] at e
              obtain ⟨b2, F2, s2, r2, _⟩ := R'.own_at e
              rw [s] at s2
              cases s2
              rw [r.det r2]
              exact ⟨b', x, e, s, r2⟩
            have oc2 : OwnC c.K (fun x => fz' x ∧ x ≠ a) H' a d := rc.ext E ka
            have here : ∀ F, Reg c.K (fun x => fz' x ∧ x ≠ a) H' σ (ρ2.set i (Sl.own d)) i F → F = [a] := fun F g => by
              obtain ⟨b', x, e, s, r⟩ := g
              rw [List.getElem?_set_self hl2] at e
              rw [hs] at s
              cases e; cases s
              exact r.det oc2.reg
            have freeR : ∀ b, b ≠ a → Free c.K fz' H' σ ρ2 b → Free c.K (fun x => fz' x ∧ x ≠ a) H' σ (ρ2.set i (Sl.own d)) b := fun b nb hf j F g hbF => by
              by_cases hj : j = i
              · subst hj
                rw [here F g] at hbF
                exact nb (List.mem_singleton.mp hbF)
              · exact hf j F (backR j F hj g) hbF
            refine hq b (fun x => fz' x ∧ x ≠ a) H' ⟨E.mono, E.keep, F'.keepP, fun x z w => ?_⟩ ⟨?_, fun j s e => ?_, fun j k F G y g1 g2 m1 m2 => ?_, fun x z => R'.fzH x z.1, R'.prH, fun p hpp => ?_⟩ ?_
            · rcases F'.new x z w.1 with q | q
              · exact q
              · exact absurd q w.2
            · rw [List.length_set]; exact R'.len
            · by_cases hj : j = i
              · subst hj
                rw [List.getElem?_set_self hl2] at e
                cases e
                exact ⟨a, [a], join_some.mpr hs, oc2.reg, fun b hb => by rw [List.mem_singleton.mp hb]; exact ⟨fun z => z.2 rfl, np⟩⟩
              · rw [List.getElem?_set_ne (Ne.symm hj)] at e
                have q := R'.at_ j s e
                obtain ⟨s0, e0, ok0⟩ := bat j s (by rw [List.getElem?_set_ne (Ne.symm hj)]; exact e)
                rcases ok0 with ⟨rfl, no⟩ | fl
                · have q0 := R0.at_ j s e0
                  cases s with
                  | emp => trivial
                  | val d' => obtain ⟨w, x1, x2⟩ := q0; exact ⟨w, x1, x2.ext E⟩
                  | scr ns => obtain ⟨w, x1, x2⟩ := q0; exact ⟨w, x1, x2.ext E⟩
                  | own d' => cases no
                · cases s with
                  | emp => trivial
                  | val d' => obtain ⟨w, x1, x2⟩ := q; exact ⟨w, x1, x2.less big fl⟩
                  | scr ns => cases fl
                  | own d' => obtain ⟨w, G, x1, x2, x3⟩ := q; exact ⟨w, G, x1, x2.less big fl, fun b hb => ⟨fun z => (x3 b hb).1 z.1, (x3 b hb).2⟩⟩
            · have own : ∀ (j : Nat) (F : List Addr), j ≠ i → Reg c.K (fun x => fz' x ∧ x ≠ a) H' σ (ρ2.set i (Sl.own d)) j F → a ∉ F := fun j F n g hbF => (R'.reg_ok (backR j F n g) a hbF).1 fa
              by_cases hj : j = i
              · by_cases hk : k = i
                · rw [hj, hk]
                · subst hj
                  rw [here F g1] at m1
                  rw [List.mem_singleton.mp m1] at m2
                  exact absurd m2 (own k G hk g2)
              · by_cases hk : k = i
                · subst hk
                  rw [here G g2] at m2
                  rw [List.mem_singleton.mp m2] at m1
                  exact absurd m1 (own j F hj g1)
                · exact R'.sep j k F G y (backR j F hj g1) (backR k G hk g2) m1 m2
            · by_cases hj : p.1 = i
              · obtain ⟨x, e, s⟩ := R0.pin p hpp
                exact ⟨d, by rw [hj, List.getElem?_set_self hl2], s⟩
              · obtain ⟨x, e, s⟩ := R'.pin p (List.mem_filter.mpr ⟨hpp, by simpa using hj⟩)
                exact ⟨x, by rw [List.getElem?_set_ne (Ne.symm hj)]; exact e, s⟩
            · exact hR pr fz' σ H' ρ2 b v a d big fa hs hv freeR r'
          · exact hq.elim
    · exact hq.elim
  · exact hq.elim
section
variable {c : Cw} {i : Nat}
theorem rf_borV {t : TE} {m : M PyData} (h : Rf (c.unp i) (RV c.K) t m) : Rf c (RV c.K) t (mbor noList i m) :=
  rf_borG (R := RV c.K) (fun pr fz σ H ρ b v a d big fa hs hv _ r => Rep.less big r hv) h
theorem rf_borO {t : TE} {m : M PyData} (h : Rf (c.unp i) (RO c.K) t m) : Rf c (RO c.K) t (mbor flatC i m) :=
  rf_borG (R := RO c.K) (fun pr fz σ H ρ b v a d big fa hs hv fr r => by
    obtain ⟨x, rfl, nf, np, ns, oc⟩ := r
    exact ⟨x, rfl, fun z => nf z.1, np, fr x (fun e => nf (e ▸ fa)) ns, oc.less big hv⟩) h
theorem rf_borB {t : TT} {m : M Bool} (h : Rf (c.unp i) RB t m) : Rf c RB t (mbor (fun _ => true) i m) :=
  rf_borG (R := RB) (fun pr fz σ H ρ b v a d big fa hs hv _ r => r) h
end
theorem npsX {c : Cw} {i : Nat} (l : List Nat) (e : c.ps = l) (h : decide (i ∈ l) = false) : i ∉ c.ps := by rw [e]; exact of_decide_eq_false h
theorem npsXL {c : Cw} {is : List Nat} (l : List Nat) (e : c.ps = l) (h : is.all (fun i => !decide (i ∈ l)) = true) : ∀ i ∈ is, i ∉ c.ps := fun i hi => by
  have := List.all_eq_true.mp h i hi
  rw [e]
  exact of_decide_eq_false (by simpa using this)
end PL

end
section
/-! PLM: weakest preconditions for the pure functions. -/
namespace PL
open PySem PySem.Spec L2

structure PS where
  nx : Env → Prop
  rt : Rt → Env → Prop
  bk : Env → Prop
  ct : Env → Prop
  ex : PExc → Env → Prop
abbrev XP := PExc → Env → Prop
def nox : XP := fun _ _ => False
def Tr {α : Type} (m : M α) (ρ : Env) (Q : α → Env → Prop) (X : XP) : Prop := match m ρ with
  | .ok a r => Q a r
  | .exc e r => X e r
  | .bad => False
def TrO {α : Type} (o : Out α) (Q : α → Env → Prop) (X : XP) : Prop := match o with
  | .ok a r => Q a r
  | .exc e r => X e r
  | .bad => False
def TsO (o : SOut) (P : PS) : Prop := match o with
  | .nx r => P.nx r
  | .rt v r => P.rt v r
  | .bk r => P.bk r
  | .ct r => P.ct r
  | .exc e r => P.ex e r
  | .bad => False
def Ts (m : SM) (ρ : Env) (P : PS) : Prop := TsO (m ρ) P
def TrF (o : FOut) (Q : Rt → List PyData → Prop) (X : PExc → List PyData → Prop) : Prop := match o with
  | .ok r o => Q r o
  | .exc e o => X e o
  | .bad => False
def noxF : PExc → List PyData → Prop := fun _ _ => False

section
variable {α β : Type} {ρ : Env} {X : XP} {P : PS}
theorem tr_bnd {m : M α} {f : α → M β} {Q : β → Env → Prop} : Tr (bnd m f) ρ Q X = Tr m ρ (fun a r => Tr (f a) r Q X) X := by
  unfold Tr bnd; cases m ρ <;> rfl
theorem tr_lft {o : Option α} {Q : α → Env → Prop} : Tr (lft o) ρ Q X = ∃ a, o = some a ∧ Q a ρ := by
  unfold Tr lft; cases o <;> simp
theorem tr_ok {a : α} {Q : α → Env → Prop} : Tr (fun ρ => .ok a ρ) ρ Q X = Q a ρ := rfl
theorem tr_con {d : PyData} {Q : PyData → Env → Prop} : Tr (mcon d) ρ Q X = Q d ρ := rfl
def at? (ρ : Env) (i : Nat) : Sl := ρ[i]?.getD .emp
theorem at_0 {s : Sl} {r : Env} : at? (s :: r) 0 = s := rfl
theorem at_1 {s : Sl} {r : Env} {i : Nat} : at? (s :: r) (i + 1) = at? r i := rfl
def getV (s : Sl) : Option PyData := match s with
  | .val d => some d
  | .own d => if leafD d = true then some d else none
  | _ => none
theorem getV_v {d : PyData} : getV (.val d) = some d := rfl
theorem getV_o {ds : List PyData} : getV (.own (.list ds)) = some (.list ds) := rfl
theorem getV_od {ds : List (PyData × PyData)} : getV (.own (.dict ds)) = some (.dict ds) := rfl
theorem leaf_l {ds : List PyData} : leafD (.list ds) = true := rfl
theorem leaf_d {ds : List (PyData × PyData)} : leafD (.dict ds) = true := rfl
theorem peek_at {i : Nat} {ρ : Env} : peek i ρ = getV (at? ρ i) := by
  unfold peek getV at?
  cases ρ[i]? with
  | none => rfl
  | some s => cases s <;> rfl
def fzS (s : Sl) : Sl := match s with
  | .own d => .val d
  | s => s
theorem fzS_v {d : PyData} : fzS (.val d) = .val d := rfl
theorem fzS_o {d : PyData} : fzS (.own d) = .val d := rfl
theorem tr_var {i : Nat} {d : PyData} {Q : PyData → Env → Prop} (h : at? ρ i = .val d) : Tr (mvar i) ρ Q X = Q d ρ := by
  unfold Tr mvar
  unfold at? at h
  cases e : ρ[i]? with
  | none => rw [e] at h; cases h
  | some s => rw [e] at h; cases h; rfl
theorem tr_varO {i : Nat} {d : PyData} {Q : PyData → Env → Prop} (h : at? ρ i = .own d) : Tr (mvar i) ρ Q X = (leafD d = true ∧ Q d (ρ.set i (.val d))) := by
  unfold Tr mvar
  unfold at? at h
  cases e : ρ[i]? with
  | none => rw [e] at h; cases h
  | some s => rw [e] at h; cases h; by_cases l : leafD d = true <;> simp [l]
theorem tr_pk {i : Nat} {o : Out α} {k : PyData → Out α} {Q : α → Env → Prop} (h0 : peek i ρ = none → o = .bad) (h1 : ∀ x, peek i ρ = some x → o = k x) : TrO o Q X = ∃ x, getV (at? ρ i) = some x ∧ TrO (k x) Q X := by
  rw [peek_at] at h0
  simp only [peek_at] at h1
  cases e : getV (at? ρ i) with
  | none => rw [h0 e]; simp [TrO]
  | some x => rw [h1 x e]; simp
theorem tro_lft {o : Option α} {r : Env} {Q : α → Env → Prop} : TrO (lft o r) Q X = ∃ a, o = some a ∧ Q a r := by
  unfold TrO lft; cases o <;> simp
theorem tro {m : M α} {Q : α → Env → Prop} : Tr m ρ Q X = TrO (m ρ) Q X := rfl
theorem tr_op2 {f : PyData → PyData → Option PyData} {a b : M PyData} {Q : PyData → Env → Prop} :
    Tr (op2 f a b) ρ Q X = Tr a ρ (fun x r => Tr b r (fun y r' => ∃ z, f x y = some z ∧ Q z r') X) X := by
  unfold op2; simp only [tr_bnd, tr_lft]
theorem tr_op2l {f : PyData → PyData → Option PyData} {i : Nat} {b : M PyData} {Q : PyData → Env → Prop} {d : PyData} (h : getV (at? ρ i) = some d) :
    Tr (op2l f i b) ρ Q X = Tr b ρ (fun y r' => ∃ x, getV (at? r' i) = some x ∧ ∃ z, f x y = some z ∧ Q z r') X := by
  have e : op2l f i b ρ = bnd b (fun y ρ' => match peek i ρ' with
    | none => .bad
    | some x => lft (f x y) ρ') ρ := by
    rw [← peek_at] at h
    unfold op2l
    rw [h] <;> rfl
  rw [tro, e, ← tro, tr_bnd]
  congr 1; funext y r
  rw [tro, tr_pk (i := i) (k := fun x => lft (f x y) r) (fun e => by rw [e]) (fun x e => by rw [e])]
  simp only [tro_lft]
theorem tr_op2r {f : PyData → PyData → Option PyData} {a : M PyData} {j : Nat} {Q : PyData → Env → Prop} :
    Tr (op2r f a j) ρ Q X = Tr a ρ (fun x r' => ∃ y, getV (at? r' j) = some y ∧ ∃ z, f x y = some z ∧ Q z r') X := by
  unfold op2r
  rw [tr_bnd]
  congr 1; funext x r
  rw [tro, tr_pk (i := j) (k := fun y => lft (f x y) r) (fun e => by rw [e]) (fun x e => by rw [e])]
  simp only [tro_lft]
theorem tr_op2b {f : PyData → PyData → Option PyData} {i j : Nat} {Q : PyData → Env → Prop} :
    Tr (op2b f i j) ρ Q X = ∃ x, getV (at? ρ i) = some x ∧ ∃ y, getV (at? ρ j) = some y ∧ ∃ z, f x y = some z ∧ Q z ρ := by
  rw [tro, tr_pk (i := i) (k := fun x => match peek j ρ with
    | some y => lft (f x y) ρ
    | none => .bad) (fun e => by unfold op2b; rw [e]) (fun x e => by unfold op2b; rw [e]; cases peek j ρ <;> rfl)]
  congr 1; funext x
  rw [tr_pk (i := j) (k := fun y => lft (f x y) ρ) (fun e => by rw [e]) (fun x e => by rw [e])]
  simp only [tro_lft]
theorem tr_asB {m : M PyData} {Q : Bool → Env → Prop} : Tr (asB m) ρ Q X = Tr m ρ (fun d r => ∃ b, asB? d = some b ∧ Q b r) X := by
  unfold asB; simp only [tr_bnd, tr_lft]
theorem tr_trB {m : M PyData} {Q : Bool → Env → Prop} : Tr (trB m) ρ Q X = Tr m ρ (fun d r => ∃ b, truth? d = some b ∧ Q b r) X := by
  unfold trB; simp only [tr_bnd, tr_lft]
theorem tr_trBp {i : Nat} {Q : Bool → Env → Prop} : Tr (trBp i) ρ Q X = ∃ d, getV (at? ρ i) = some d ∧ ∃ b, truth? d = some b ∧ Q b ρ := by
  rw [tro, tr_pk (i := i) (k := fun x => lft (truth? x) ρ) (fun e => by unfold trBp; rw [e]) (fun x e => by unfold trBp; rw [e])]
  simp only [tro_lft]
theorem tr_ite {c : Prop} [Decidable c] {a b : M α} {Q : α → Env → Prop} : Tr (if c then a else b) ρ Q X = if c then Tr a ρ Q X else Tr b ρ Q X := by split <;> rfl
theorem tr_and {a b : M Bool} {Q : Bool → Env → Prop} : Tr (mand a b) ρ Q X = Tr a ρ (fun k r => if k = true then Tr b r Q X else Q false r) X := by
  unfold mand; simp only [tr_bnd, tr_ite, tr_ok]
theorem tr_or {a b : M Bool} {Q : Bool → Env → Prop} : Tr (mor a b) ρ Q X = Tr a ρ (fun k r => if k = true then Q true r else Tr b r Q X) X := by
  unfold mor; simp only [tr_bnd, tr_ite, tr_ok]
theorem tr_not {a : M Bool} {Q : Bool → Env → Prop} : Tr (mnot a) ρ Q X = Tr a ρ (fun k r => Q (!k) r) X := by
  unfold mnot; simp only [tr_bnd]; rfl
theorem tr_if {t : M Bool} {a b : M α} {Q : α → Env → Prop} : Tr (mif t a b) ρ Q X = Tr t ρ (fun k r => if k = true then Tr a r Q X else Tr b r Q X) X := by
  unfold mif; simp only [tr_bnd, tr_ite]
theorem tr_andV {a b : M PyData} {Q : PyData → Env → Prop} : Tr (mandV a b) ρ Q X = Tr a ρ (fun d r => ∃ k, asB? d = some k ∧ if k = true then Tr b r Q X else Q (.bool false) r) X := by
  unfold mandV; simp only [tr_bnd, tr_ite, tr_ok, tr_asB]
theorem tr_orV {a b : M PyData} {Q : PyData → Env → Prop} : Tr (morV a b) ρ Q X = Tr a ρ (fun d r => ∃ k, asB? d = some k ∧ if k = true then Q (.bool true) r else Tr b r Q X) X := by
  unfold morV; simp only [tr_bnd, tr_ite, tr_ok, tr_asB]
theorem tr_notV {a : M PyData} {Q : PyData → Env → Prop} : Tr (mnotV a) ρ Q X = Tr a ρ (fun d r => ∃ k, asB? d = some k ∧ Q (.bool (!k)) r) X := by
  unfold mnotV; simp only [tr_bnd, tr_asB]; rfl
theorem tr_neg {m : M PyData} {Q : PyData → Env → Prop} : Tr (mneg m) ρ Q X = Tr m ρ (fun d r => ∃ z, neg? d = some z ∧ Q z r) X := by
  unfold mneg; simp only [tr_bnd, tr_lft]
theorem tr_chain {f g : PyData → PyData → Option PyData} {a b d : M PyData} {Q : PyData → Env → Prop} :
    Tr (mchain f g a b d) ρ Q X = Tr a ρ (fun x r => Tr b r (fun y r => ∃ z, f x y = some z ∧ ∃ k, asB? z = some k ∧ if k = true then Tr d r (fun w r => ∃ z, g y w = some z ∧ Q z r) X else Q (.bool false) r) X) X := by
  unfold mchain; simp only [tr_bnd, tr_lft, tr_ite, tr_ok]
theorem tr_nil {Q : List PyData → Env → Prop} : Tr anil ρ Q X = Q [] ρ := rfl
theorem tr_cons {a : M PyData} {l : M (List PyData)} {Q : List PyData → Env → Prop} : Tr (acons a l) ρ Q X = Tr a ρ (fun x r => Tr l r (fun xs r => Q (x :: xs) r) X) X := by
  unfold acons; simp only [tr_bnd]; rfl
theorem tr_tup {a : M (List PyData)} {Q : PyData → Env → Prop} : Tr (mtup a) ρ Q X = Tr a ρ (fun ds r => lenOk ds.length = true ∧ Q (.tuple ds) r) X := by
  unfold mtup; rw [tr_bnd]; congr 1; funext ds r; unfold Tr; dsimp only; cases lenOk ds.length <;> simp
theorem tr_lst {a : M (List PyData)} {Q : PyData → Env → Prop} : Tr (mlst a) ρ Q X = Tr a ρ (fun ds r => lenOk ds.length = true ∧ Q (.list ds) r) X := by
  unfold mlst; rw [tr_bnd]; congr 1; funext ds r; unfold Tr; dsimp only; cases lenOk ds.length <;> simp
theorem tr_pn {Q : Option Int → Env → Prop} : Tr mpn ρ Q X = Q none ρ := rfl
theorem tr_ps {m : M PyData} {Q : Option Int → Env → Prop} : Tr (mps m) ρ Q X = Tr m ρ (fun d r => ∃ i, asI? d = some i ∧ Q (some i) r) X := by
  unfold mps; simp only [tr_bnd, tr_lft]
  congr 1; funext d r
  cases asI? d <;> simp
theorem tr_sl {m : M PyData} {lo hi : M (Option Int)} {Q : PyData → Env → Prop} : Tr (msl m lo hi) ρ Q X = Tr m ρ (fun x r => Tr lo r (fun l r => Tr hi r (fun u r => ∃ z, slice? x l u = some z ∧ Q z r) X) X) X := by
  unfold msl; simp only [tr_bnd, tr_lft]
theorem tr_slp {i : Nat} {lo hi : M (Option Int)} {Q : PyData → Env → Prop} {d : PyData} (h : getV (at? ρ i) = some d) :
    Tr (mslp i lo hi) ρ Q X = Tr lo ρ (fun l r => Tr hi r (fun u r => ∃ x, getV (at? r i) = some x ∧ ∃ z, slice? x l u = some z ∧ Q z r) X) X := by
  have e : mslp i lo hi ρ = bnd lo (fun l => bnd hi fun u ρ' => match peek i ρ' with
    | some x => lft (slice? x l u) ρ'
    | none => .bad) ρ := by
    unfold mslp
    rw [← peek_at] at h
    rw [h] <;> rfl
  rw [tro, e, ← tro, tr_bnd]
  congr 1; funext l r
  rw [tr_bnd]
  congr 1; funext u r
  rw [tro, tr_pk (i := i) (k := fun x => lft (slice? x l u) r) (fun e => by rw [e]) (fun x e => by rw [e])]
  simp only [tro_lft]
theorem tr_c1 {f : PyData → Option PyData} {m : M PyData} {Q : PyData → Env → Prop} : Tr (mc1 f m) ρ Q X = Tr m ρ (fun x r => ∃ z, f x = some z ∧ Q z r) X := by
  unfold mc1; simp only [tr_bnd, tr_lft]
theorem tr_c1p {f : PyData → Option PyData} {i : Nat} {Q : PyData → Env → Prop} : Tr (mc1p f i) ρ Q X = ∃ x, getV (at? ρ i) = some x ∧ ∃ z, f x = some z ∧ Q z ρ := by
  rw [tro, tr_pk (i := i) (k := fun x => lft (f x) ρ) (fun e => by unfold mc1p; rw [e]) (fun x e => by unfold mc1p; rw [e])]
  simp only [tro_lft]
theorem tr_seqI {m : M PyData} {Q : List PyData → Env → Prop} : Tr (mseqI m) ρ Q X = Tr m ρ (fun d r => ∃ z, seq? d = some z ∧ Q z r) X := by
  unfold mseqI; simp only [tr_bnd, tr_lft]
theorem tr_rng1 {m : M PyData} {Q : List PyData → Env → Prop} : Tr (mrng1 m) ρ Q X = Tr m ρ (fun d r => ∃ z, rng1? d = some z ∧ Q z r) X := by
  unfold mrng1; simp only [tr_bnd, tr_lft]
theorem tr_rng2 {a b : M PyData} {Q : List PyData → Env → Prop} : Tr (mrng2 a b) ρ Q X = Tr a ρ (fun x r => Tr b r (fun y r => ∃ z, rng2? x y = some z ∧ Q z r) X) X := by
  unfold mrng2; simp only [tr_bnd, tr_lft]
theorem tr_rng3 {a b d : M PyData} {Q : List PyData → Env → Prop} : Tr (mrng3 a b d) ρ Q X = Tr a ρ (fun x r => Tr b r (fun y r => Tr d r (fun w r => ∃ z, rng3? x y w = some z ∧ Q z r) X) X) X := by
  unfold mrng3; simp only [tr_bnd, tr_lft]
theorem tr_zip {a b : M PyData} {Q : List PyData → Env → Prop} : Tr (mzip a b) ρ Q X = Tr a ρ (fun x r => Tr b r (fun y r => ∃ z, zip? x y = some z ∧ Q z r) X) X := by
  unfold mzip; simp only [tr_bnd, tr_lft]
theorem tr_enum {a : M PyData} {Q : List PyData → Env → Prop} : Tr (menum a) ρ Q X = Tr a ρ (fun x r => ∃ z, enum? x = some z ∧ Q z r) X := by
  unfold menum; simp only [tr_bnd, tr_lft]
theorem tr_lenS {i : Nat} {ns : List Int} {Q : PyData → Env → Prop} (h : at? ρ i = .scr ns) : Tr (mlenS i) ρ Q X = Q (.int ns.length) ρ := by
  unfold Tr mlenS scrNs
  unfold at? at h
  cases e : ρ[i]? with
  | none => rw [e] at h; cases h
  | some s => rw [e] at h; cases h; rfl
theorem tr_ixS {i : Nat} {m : M PyData} {ns : List Int} {Q : PyData → Env → Prop} (h : at? ρ i = .scr ns) :
    Tr (mixS i m) ρ Q X = Tr m ρ (fun k r => ∃ j, asI? k = some j ∧ ∃ n, atI ns j = some n ∧ Q (.int n) r) X := by
  have e : Tr (mixS i m) ρ Q X = Tr (bnd m fun k => lft ((asI? k).bind fun j => (atI ns j).map PyData.int)) ρ Q X := by
    unfold Tr mixS scrNs
    unfold at? at h
    cases e : ρ[i]? with
    | none => rw [e] at h; cases h
    | some s => rw [e] at h; cases h; rfl
  rw [e, tr_bnd]
  congr 1; funext k r
  rw [tr_lft]
  cases asI? k with
  | none => simp
  | some j => cases ea : atI ns j <;> simp [ea]
def rtd : Rt → Option PyData
  | .v d => some d
  | .o d => if leafD d = true then some d else none
def rto : Rt → Option PyData
  | .o d => if leafD d = true then some d else none
  | .v _ => none
def rtg : Rt → Option PyData
  | .o d => some d
  | .v _ => none
theorem rtd_v {d : PyData} : rtd (.v d) = some d := rfl
theorem rtd_o {ds : List PyData} : rtd (.o (.list ds)) = some (.list ds) := rfl
theorem rtd_od {ds : List (PyData × PyData)} : rtd (.o (.dict ds)) = some (.dict ds) := rfl
theorem rto_o {ds : List PyData} : rto (.o (.list ds)) = some (.list ds) := rfl
theorem rto_od {ds : List (PyData × PyData)} : rto (.o (.dict ds)) = some (.dict ds) := rfl
theorem rtg_o {d : PyData} : rtg (.o d) = some d := rfl
theorem tr_rtV {m : M Rt} {Q : PyData → Env → Prop} : Tr (rtV m) ρ Q X = Tr m ρ (fun r ρ => ∃ d, rtd r = some d ∧ Q d ρ) X := by
  unfold rtV; rw [tr_bnd]; congr 1; funext r ρ
  cases r with
  | v d => simp [Tr, rtd]
  | o d => unfold Tr rtd; by_cases l : leafD d = true <;> simp [l]
theorem tr_rtO {m : M Rt} {Q : PyData → Env → Prop} : Tr (rtO m) ρ Q X = Tr m ρ (fun r ρ => ∃ d, rto r = some d ∧ Q d ρ) X := by
  unfold rtO; rw [tr_bnd]; congr 1; funext r ρ
  cases r with
  | v d => simp [Tr, rto]
  | o d => unfold Tr rto; by_cases l : leafD d = true <;> simp [l]
theorem tr_rtG {m : M Rt} {Q : PyData → Env → Prop} : Tr (rtG m) ρ Q X = Tr m ρ (fun r ρ => ∃ d, rtg r = some d ∧ Q d ρ) X := by
  unfold rtG; rw [tr_bnd]; congr 1; funext r ρ; cases r <;> simp [Tr, rtg]
theorem tr_mono {m : M α} {Q Q' : α → Env → Prop} (h : Tr m ρ Q X) (k : ∀ a r, Q a r → Q' a r) : Tr m ρ Q' X := by
  unfold Tr at *
  cases e : m ρ with
  | ok a r => rw [e] at h; exact k _ _ h
  | exc x r => rw [e] at h; exact h
  | bad => rw [e] at h; exact h

/-! calls -/
theorem tr_aNil {Q : List PyData → Env → Prop} : Tr (evA []) ρ Q X = Q [] ρ := rfl
theorem tr_aV {m : M PyData} {as : List CArg} {Q : List PyData → Env → Prop} : Tr (evA (.v m :: as)) ρ Q X = Tr m ρ (fun x r => Tr (evA as) r (fun xs r => Q (x :: xs) r) X) X := by
  simp only [evA, tr_bnd]; rfl
theorem tr_aL {i : Nat} {as : List CArg} {Q : List PyData → Env → Prop} {d : PyData} (h : at? ρ i = .own d) : Tr (evA (.lend i :: as)) ρ Q X = Tr (evA as) ρ (fun xs r => Q (.none :: xs) r) X := by
  have e : isOwn i ρ = true := by
    unfold isOwn
    unfold at? at h
    cases e : ρ[i]? with
    | none => rw [e] at h; cases h
    | some s => rw [e] at h; cases h; rfl
  have e2 : Tr (evA (.lend i :: as)) ρ Q X = Tr (bnd (evA as) (fun xs ρ => .ok (.none :: xs) ρ)) ρ Q X := by
    unfold Tr
    simp only [evA, e, if_true]
  rw [e2, tr_bnd]; rfl
theorem tr_aS {i : Nat} {as : List CArg} {Q : List PyData → Env → Prop} {ns : List Int} (h : at? ρ i = .scr ns) : Tr (evA (.scr i :: as)) ρ Q X = Tr (evA as) ρ (fun xs r => Q (.none :: xs) r) X := by
  have e : isScr i ρ = true := by
    unfold isScr
    unfold at? at h
    cases e : ρ[i]? with
    | none => rw [e] at h; cases h
    | some s => rw [e] at h; cases h; rfl
  have e2 : Tr (evA (.scr i :: as)) ρ Q X = Tr (bnd (evA as) (fun xs ρ => .ok (.none :: xs) ρ)) ρ Q X := by
    unfold Tr
    simp only [evA, e, if_true]
  rw [e2, tr_bnd]; rfl
theorem tr_call {f : List PyData → FOut} {as : List CArg} {Q : Rt → Env → Prop} :
    Tr (mcall f as) ρ Q X = Tr (evA as) ρ (fun xs r => lendOk as r = true ∧ scrOk as r = true ∧ TrF (f (fillA r as xs)) (fun rt outs => Q rt (wbA as outs r)) (fun e outs => X e (wbA as outs r))) X := by
  unfold Tr mcall
  cases evA as ρ with
  | ok xs r =>
    dsimp only
    by_cases h : (lendOk as r && scrOk as r) = true
    · rw [if_pos h]
      simp only [Bool.and_eq_true] at h
      unfold TrF
      cases f (fillA r as xs) <;> simp [h.1, h.2]
    · rw [if_neg h]
      simp only [Bool.and_eq_true, not_and] at h
      simp only [eq_iff_iff, false_iff]
      exact fun z => h z.1 z.2.1
  | exc e r => rfl
  | bad => rfl
theorem tr_callT {f : List PyData → FOut} {m : M PyData} {as : List CArg} {Q : Rt → Env → Prop} :
    Tr (mcallT f m as) ρ Q X = Tr m ρ (fun x r0 => Tr (evA as) r0 (fun xs r => lendOk as r = true ∧ scrOk as r = true ∧ TrF (f (x :: fillA r as xs)) (fun rt outs => Q rt (wbA as outs.tail r)) (fun e outs => X e (wbA as outs.tail r))) X) X := by
  unfold mcallT
  rw [tr_bnd]
  congr 1; funext x r0
  unfold Tr
  dsimp only
  cases evA as r0 with
  | ok xs r =>
    dsimp only
    by_cases h : (lendOk as r && scrOk as r) = true
    · rw [if_pos h]
      simp only [Bool.and_eq_true] at h
      unfold TrF
      cases f (x :: fillA r as xs) <;> simp [h.1, h.2]
    · rw [if_neg h]
      simp only [Bool.and_eq_true, not_and] at h
      simp only [eq_iff_iff, false_iff]
      exact fun z => h z.1 z.2.1
  | exc e r => rfl
  | bad => rfl
theorem outAt_at {i : Nat} : outAt i ρ = match at? ρ i with
    | .own x => x
    | _ => .none := by
  unfold outAt at?
  cases ρ[i]? with
  | none => rfl
  | some s => cases s <;> rfl
theorem scrAt_at {i : Nat} : scrAt i ρ = match at? ρ i with
    | .scr ns => .list (ns.map PyData.int)
    | _ => .none := by
  unfold scrAt at?
  cases ρ[i]? with
  | none => rfl
  | some s => cases s <;> rfl
theorem isOwn_at {i : Nat} : isOwn i ρ = match at? ρ i with
    | .own _ => true
    | _ => false := by
  unfold isOwn at?
  cases ρ[i]? with
  | none => rfl
  | some s => cases s <;> rfl
theorem isScr_at {i : Nat} : isScr i ρ = match at? ρ i with
    | .scr _ => true
    | _ => false := by
  unfold isScr at?
  cases ρ[i]? with
  | none => rfl
  | some s => cases s <;> rfl

/-! statements -/
theorem ts_sbnd {m : M α} {f : α → SM} : Ts (sbnd m f) ρ P = Tr m ρ (fun a r => Ts (f a) r P) P.ex := by
  unfold Ts Tr sbnd; cases m ρ <;> rfl
theorem ts_nx {r : Env} : Ts (fun _ => .nx r) ρ P = P.nx r := rfl
theorem ts_next : Ts mnext ρ P = P.nx ρ := rfl
theorem ts_break : Ts mbreak ρ P = P.bk ρ := rfl
theorem ts_cont : Ts mcont ρ P = P.ct ρ := rfl
theorem ts_seq {a b : SM} : Ts (mseq a b) ρ P = Ts a ρ { P with nx := fun r => Ts b r P } := by
  unfold Ts mseq; cases a ρ <;> rfl
theorem ts_ret {e : M PyData} : Ts (mret e) ρ P = Tr e ρ (fun d r => P.rt (.v d) r) P.ex := by
  unfold mret; rw [ts_sbnd]; rfl
theorem ts_retO {e : M PyData} : Ts (mretO e) ρ P = Tr e ρ (fun d r => P.rt (.o d) r) P.ex := by
  unfold mretO; rw [ts_sbnd]; rfl
theorem ts_retN : Ts mretN ρ P = P.rt (.v .none) ρ := rfl
theorem tr_take {i : Nat} {d : PyData} {Q : PyData → Env → Prop} (h : at? ρ i = .own d) : Tr (mtake i) ρ Q X = (leafD d = true ∧ Q d (ρ.set i .emp)) := by
  unfold Tr mtake
  unfold at? at h
  cases e : ρ[i]? with
  | none => rw [e] at h; cases h
  | some s => rw [e] at h; cases h; by_cases l : leafD d = true <;> simp [l]
theorem ts_expr {e : M PyData} : Ts (mexpr e) ρ P = Tr e ρ (fun _ r => P.nx r) P.ex := by
  unfold mexpr; rw [ts_sbnd]; rfl
theorem tso_slft {o : Option α} {f : α → SOut} : TsO (slft o f) P = ∃ a, o = some a ∧ TsO (f a) P := by
  unfold slft; cases o <;> simp [TsO]
theorem tso_ite {c : Prop} [Decidable c] {r : Env} : TsO (if c then .nx r else .bad) P = (c ∧ P.nx r) := by
  split <;> simp_all [TsO]
theorem ts_assign {e : M PyData} {a : Asg} : Ts (massign e a) ρ P = Tr e ρ (fun d r => ∃ r', a d r = some r' ∧ P.nx r') P.ex := by
  unfold massign; rw [ts_sbnd]; congr 1; funext d r
  exact tso_slft
theorem as_name {i : Nat} {d : PyData} {r : Env} : aname i d r = some (r.set i (.val d)) := rfl
theorem as_nil {r : Env} : agnil [] r = some r := rfl
theorem as_cons {a : Asg} {k : List PyData → Env → Option Env} {d : PyData} {ds : List PyData} {r : Env} : agcons a k (d :: ds) r = (a d r).bind fun r' => k ds r' := rfl
theorem as_tup {n : Nat} {a : List PyData → Env → Option Env} {ds : List PyData} {r : Env} : atup n a (.tuple ds) r = if ds.length = n then a ds r else none := rfl
theorem ts_own {e : M PyData} {i : Nat} : Ts (mown e i) ρ P = Tr e ρ (fun d r => P.nx (r.set i (.own d))) P.ex := by
  unfold mown; rw [ts_sbnd]; rfl
theorem ts_aug {f : PyData → PyData → Option PyData} {i : Nat} {e : M PyData} {x : PyData} (h : at? ρ i = .val x) : Ts (maug f i e) ρ P = Tr e ρ (fun y r => ∃ z, f x y = some z ∧ P.nx (r.set i (.val z))) P.ex := by
  have q : Ts (maug f i e) ρ P = Ts (sbnd e (fun y r => slft (f x y) fun z => .nx (r.set i (.val z)))) ρ P := by
    unfold Ts maug
    unfold at? at h
    cases e : ρ[i]? with
    | none => rw [e] at h; cases h
    | some s => rw [e] at h; cases h; rfl
  rw [q, ts_sbnd]; congr 1; funext d r
  exact tso_slft
theorem ts_ite {c : Prop} [Decidable c] {a b : SM} : Ts (if c then a else b) ρ P = if c then Ts a ρ P else Ts b ρ P := by split <;> rfl
theorem ts_if {k : M Bool} {a b : SM} : Ts (mifS k a b) ρ P = Tr k ρ (fun x r => if x = true then Ts a r P else Ts b r P) P.ex := by
  unfold mifS; rw [ts_sbnd]; simp only [ts_ite]
theorem ts_for {items : M (List PyData)} {asg : Asg} {body : SM} : Ts (mfor items asg body) ρ P = Tr items ρ (fun ds r => Ts (forL asg body ds) r P) P.ex := by
  unfold mfor; rw [ts_sbnd]
def getL (s : Sl) : Option (List PyData) := match s with
  | .own (.list ds) => some ds
  | _ => none
theorem ownL_at {i : Nat} : ownL i ρ = getL (at? ρ i) := by
  unfold ownL at? getL
  cases ρ[i]? with
  | none => rfl
  | some s => cases s with
    | own d => cases d <;> rfl
    | _ => rfl
theorem getL_o {ds : List PyData} : getL (.own (.list ds)) = some ds := rfl
theorem ts_append {i : Nat} {e : M PyData} {ds0 : List PyData} (h : at? ρ i = .own (.list ds0)) : Ts (mappend i e) ρ P = Tr e ρ (fun d r => ∃ ds, getL (at? r i) = some ds ∧ lenOk (ds.length + 1) = true ∧ P.nx (r.set i (.own (.list (ds ++ [d]))))) P.ex := by
  have q : Ts (mappend i e) ρ P = Ts (sbnd e (fun d r => slft (ownL i r) fun ds => if lenOk (ds.length + 1) = true then .nx (r.set i (.own (.list (ds ++ [d])))) else .bad)) ρ P := by
    unfold Ts mappend
    rw [ownL_at, h]
    rfl
  rw [q, ts_sbnd]; congr 1; funext d r
  refine Eq.trans tso_slft ?_
  simp only [ownL_at, tso_ite]
theorem ts_store {i : Nat} {k e : M PyData} : Ts (mstore i k e) ρ P = Tr e ρ (fun d r1 => ∃ ds0, getL (at? r1 i) = some ds0 ∧ Tr k r1 (fun j r => ∃ ds, getL (at? r i) = some ds ∧ ∃ n, (asI? j).bind (ixN ds.length) = some n ∧ P.nx (r.set i (.own (.list (ds.set n d))))) P.ex) P.ex := by
  unfold mstore; rw [ts_sbnd]; congr 1; funext d r
  refine Eq.trans tso_slft ?_
  simp only [ownL_at]
  congr 1; funext ds0
  congr 1
  refine Eq.trans (b := Ts (sbnd k (fun j r => slft (ownL i r) fun ds => slft ((asI? j).bind (ixN ds.length)) fun n => .nx (r.set i (.own (.list (ds.set n d)))))) r P) ?_ ?_
  · simp only [ownL_at]; rfl
  rw [ts_sbnd]
  congr 1; funext j r
  refine Eq.trans tso_slft ?_
  simp only [ownL_at, tso_slft]
  rfl
theorem tr_pop {i : Nat} {ds : List PyData} {d : PyData} {Q : PyData → Env → Prop} (h : at? ρ i = .own (.list ds)) : Tr (mpop i) ρ Q X = ∃ d, ds[ds.length - 1]? = some d ∧ Q d (ρ.set i (.own (.list ds.dropLast))) := by
  unfold Tr mpop
  rw [ownL_at, h]
  dsimp only [getL]
  cases ds[ds.length - 1]? <;> simp
theorem ts_mono {m : SM} {P' : PS} (h : Ts m ρ P) (k1 : ∀ r, P.nx r → P'.nx r) (k2 : ∀ v r, P.rt v r → P'.rt v r) (k3 : ∀ r, P.bk r → P'.bk r) (k4 : ∀ r, P.ct r → P'.ct r) (k5 : ∀ e r, P.ex e r → P'.ex e r) : Ts m ρ P' := by
  unfold Ts TsO at *
  cases e : m ρ with
  | nx r => rw [e] at h; exact k1 _ h
  | rt v r => rw [e] at h; exact k2 _ _ h
  | bk r => rw [e] at h; exact k3 _ h
  | ct r => rw [e] at h; exact k4 _ h
  | exc x r => rw [e] at h; exact k5 _ _ h
  | bad => rw [e] at h; exact h
/-- for: an invariant over what is walked -/
theorem ts_forL {asg : Asg} {body : SM} (I : Nat → Env → Prop) {ds0 : List PyData} (h0 : I 0 ρ)
    (hs : ∀ (i : Nat) (d : PyData) (r : Env), ds0[i]? = some d → I i r → ∃ r1, asg d r = some r1 ∧ Ts body r1 { P with nx := I (i + 1), ct := I (i + 1), bk := P.nx })
    (he : ∀ r, I ds0.length r → P.nx r) : Ts (forL asg body ds0) ρ P := by
  have go : ∀ (ds : List PyData) (n : Nat) (ρ : Env), n + ds.length = ds0.length → ds0.drop n = ds → I n ρ → Ts (forL asg body ds) ρ P := by
    intro ds
    induction ds with
    | nil =>
      intro n ρ hn e h
      obtain rfl : n = ds0.length := by simpa using hn
      exact he ρ h
    | cons d ds ih =>
      intro n ρ hn e h
      have hd : ds0[n]? = some d := by
        have := List.getElem?_drop (xs := ds0) (i := n) (j := 0)
        rw [e] at this
        simpa using this.symm
      have e2 : ds0.drop (n + 1) = ds := by
        rw [← List.drop_drop, e]; rfl
      have hn2 : n + 1 + ds.length = ds0.length := by
        simp only [List.length_cons] at hn; omega
      obtain ⟨r1, er, hb⟩ := hs n d ρ hd h
      unfold Ts forL
      rw [er]
      dsimp only
      unfold Ts at hb
      cases eb : body r1 with
      | nx r => rw [eb] at hb; exact ih (n + 1) r hn2 e2 hb
      | ct r => rw [eb] at hb; exact ih (n + 1) r hn2 e2 hb
      | bk r => rw [eb] at hb; exact hb
      | rt v r => rw [eb] at hb; exact hb
      | exc x r => rw [eb] at hb; exact hb
      | bad => rw [eb] at hb; exact hb
  exact go ds0 0 ρ (by simp) rfl h0
theorem rangeL_len {lo : Int} {n : Nat} : (rangeL lo n).length = n := by simp [rangeL]
theorem rangeL_at {lo : Int} {n i : Nat} {d : PyData} (h : (rangeL lo n)[i]? = some d) : i < n ∧ d = .int (lo + i) := by
  unfold rangeL at h
  rw [List.getElem?_map] at h
  by_cases z : i < n
  · rw [List.getElem?_range z] at h
    cases h
    exact ⟨z, rfl⟩
  · rw [List.getElem?_eq_none (by simp; omega)] at h
    cases h
/-- for i in range -/
theorem ts_range {asg : Asg} {body : SM} {lo : Int} {n : Nat} (I : Nat → Env → Prop) (h0 : I 0 ρ)
    (hs : ∀ (i : Nat) (r : Env), i < n → I i r → ∃ r1, asg (.int (lo + i)) r = some r1 ∧ Ts body r1 { P with nx := I (i + 1), ct := I (i + 1), bk := P.nx })
    (he : ∀ r, I n r → P.nx r) : Ts (forL asg body (rangeL lo n)) ρ P :=
  ts_forL I h0 (fun i d r e h => by obtain ⟨z, rfl⟩ := rangeL_at e; exact hs i r z h) (by rw [rangeL_len]; exact he)
theorem tr_lc {items : M (List PyData)} {asg : Asg} {test : M Bool} {elt : M PyData} {vs : List Nat} {Q : PyData → Env → Prop} :
    Tr (mlc items asg test elt vs) ρ Q X = Tr items ρ (fun ds r => match compL asg test elt vs ds (wipeE r vs) [] with
      | .ok d r' => Q d (unw r r' vs)
      | _ => False) X := by
  unfold mlc
  rw [tr_bnd]
  congr 1; funext ds r
  unfold Tr
  dsimp only
  cases compL asg test elt vs ds (wipeE r vs) [] <;> rfl
/-- a comprehension whose parts are pure -/
theorem compL_pure {asg : Asg} {test : M Bool} {elt : M PyData} {vs : List Nat} {r0 : Env} {g : PyData → Bool} {f : PyData → PyData} : ∀ (ds acc : List PyData),
    (∀ d ∈ ds, ∃ r1, asg d r0 = some r1 ∧ ∃ r2, test r1 = .ok (g d) r2 ∧ (g d = true → ∃ r3, elt r2 = .ok (f d) r3 ∧ wipeE r3 vs = r0) ∧ (g d = false → wipeE r2 vs = r0)) →
    lenOk (acc.length + ds.length) = true → compL asg test elt vs ds r0 acc = .ok (.list (acc ++ (ds.filter g).map f)) r0
  | [], acc, _, _ => by simp [compL]
  | d :: ds, acc, h, hl => by
    obtain ⟨r1, e1, r2, e2, h3, h4⟩ := h d (by simp)
    have hr := fun d' z => h d' (List.mem_cons_of_mem d z)
    unfold compL
    rw [e1]; dsimp only; rw [e2]; dsimp only
    have lo : ∀ {a b : Nat}, lenOk b = true → a ≤ b → lenOk a = true := fun h1 h2 => by
      unfold lenOk at *; simp only [decide_eq_true_eq] at *; omega
    cases hg : g d with
    | true =>
      obtain ⟨r3, e3, w3⟩ := h3 hg
      rw [if_pos rfl, e3]; dsimp only
      rw [if_pos (lo hl (by simp)), w3, compL_pure ds (acc ++ [f d]) hr (lo hl (by simp; omega))]
      simp [hg]
    | false =>
      rw [if_neg (by simp), h4 hg, compL_pure ds acc hr (lo hl (by simp))]
      simp [hg]
/-- a def's body -/
theorem trF_body {n : Nat} {ks : List PKd} {m : SM} {xs : List PyData} {Q : Rt → List PyData → Prop} {Y : PExc → List PyData → Prop} :
    TrF (bodyF n ks m xs) Q Y = Ts m (entry n ks xs) ⟨fun ρ => Q (.v .none) ((ownIx 0 ks).map fun i => outAt i ρ), fun r ρ => Q r ((ownIx 0 ks).map fun i => outAt i ρ), fun _ => False, fun _ => False, fun e ρ => Y e ((ownIx 0 ks).map fun i => outAt i ρ)⟩ := by
  unfold bodyF Ts
  cases m (entry n ks xs) <;> rfl
theorem trF_ok {r : Rt} {o : List PyData} {Q : Rt → List PyData → Prop} {Y : PExc → List PyData → Prop} : TrF (.ok r o) Q Y = Q r o := rfl
theorem trF_exc {e : PExc} {o : List PyData} {Q : Rt → List PyData → Prop} {Y : PExc → List PyData → Prop} : TrF (.exc e o) Q Y = Y e o := rfl
theorem trF_eq {o : FOut} {r : Rt} {outs : List PyData} (h : TrF o (fun r' o' => r' = r ∧ o' = outs) noxF) : o = .ok r outs := by
  unfold TrF at h
  cases o with
  | ok a b => dsimp only at h; rw [h.1, h.2]
  | exc a b => exact h.elim
  | bad => exact h.elim
/-- an answer and what it is like -/
theorem trF_ex {o : FOut} {Q : Rt → List PyData → Prop} (h : TrF o Q noxF) : ∃ r outs, o = .ok r outs ∧ Q r outs := by
  unfold TrF at h
  cases o with
  | ok a b => exact ⟨a, b, rfl, h⟩
  | exc a b => exact h.elim
  | bad => exact h.elim
end

/-! without side conditions -/
section
variable {α β : Type} {ρ : Env} {X : XP} {P : PS}
def varK (s : Sl) (i : Nat) (ρ : Env) (Q : PyData → Env → Prop) : Prop := match s with
  | .val d => Q d ρ
  | .own d => leafD d = true ∧ Q d (ρ.set i (.val d))
  | _ => False
theorem varK_v {d : PyData} {i : Nat} {Q : PyData → Env → Prop} : varK (.val d) i ρ Q = Q d ρ := rfl
theorem varK_o {d : PyData} {i : Nat} {Q : PyData → Env → Prop} : varK (.own d) i ρ Q = (leafD d = true ∧ Q d (ρ.set i (.val d))) := rfl
theorem tu_var {i : Nat} {Q : PyData → Env → Prop} : Tr (mvar i) ρ Q X = varK (at? ρ i) i ρ Q := by
  unfold Tr mvar at?
  cases e : ρ[i]? with
  | none => rfl
  | some s =>
    cases s with
    | own d => by_cases l : leafD d = true <;> simp [l, varK]
    | _ => rfl
theorem tu_op2l {f : PyData → PyData → Option PyData} {i : Nat} {b : M PyData} {Q : PyData → Env → Prop} :
    Tr (op2l f i b) ρ Q X = ∃ d, getV (at? ρ i) = some d ∧ Tr b ρ (fun y r' => ∃ x, getV (at? r' i) = some x ∧ ∃ z, f x y = some z ∧ Q z r') X := by
  cases e : getV (at? ρ i) with
  | none =>
    rw [← peek_at] at e
    unfold Tr op2l
    rw [e]
    simp
  | some d => rw [tr_op2l e]; simp
theorem tu_slp {i : Nat} {lo hi : M (Option Int)} {Q : PyData → Env → Prop} :
    Tr (mslp i lo hi) ρ Q X = ∃ d, getV (at? ρ i) = some d ∧ Tr lo ρ (fun l r => Tr hi r (fun u r => ∃ x, getV (at? r i) = some x ∧ ∃ z, slice? x l u = some z ∧ Q z r) X) X := by
  cases e : getV (at? ρ i) with
  | none =>
    rw [← peek_at] at e
    unfold Tr mslp
    rw [e]
    simp
  | some d => rw [tr_slp e]; simp
def getO (s : Sl) : Option PyData := match s with
  | .own d => some d
  | _ => none
def getS (s : Sl) : Option (List Int) := match s with
  | .scr d => some d
  | _ => none
def getX (s : Sl) : Option PyData := match s with
  | .val d => some d
  | _ => none
theorem getO_o {d : PyData} : getO (.own d) = some d := rfl
theorem getS_s {d : List Int} : getS (.scr d) = some d := rfl
theorem getX_v {d : PyData} : getX (.val d) = some d := rfl
theorem tu_aL {i : Nat} {as : List CArg} {Q : List PyData → Env → Prop} : Tr (evA (.lend i :: as)) ρ Q X = ∃ d, getO (at? ρ i) = some d ∧ Tr (evA as) ρ (fun xs r => Q (.none :: xs) r) X := by
  cases e : at? ρ i with
  | own d => rw [tr_aL e]; simp [getO]
  | _ =>
    have q : isOwn i ρ = false := by rw [isOwn_at, e]
    unfold Tr
    simp [evA, q, getO]
theorem tu_aS {i : Nat} {as : List CArg} {Q : List PyData → Env → Prop} : Tr (evA (.scr i :: as)) ρ Q X = ∃ d, getS (at? ρ i) = some d ∧ Tr (evA as) ρ (fun xs r => Q (.none :: xs) r) X := by
  cases e : at? ρ i with
  | scr d => rw [tr_aS e]; simp [getS]
  | _ =>
    have q : isScr i ρ = false := by rw [isScr_at, e]
    unfold Tr
    simp [evA, q, getS]
theorem tu_take {i : Nat} {Q : PyData → Env → Prop} : Tr (mtake i) ρ Q X = ∃ d, getO (at? ρ i) = some d ∧ leafD d = true ∧ Q d (ρ.set i .emp) := by
  unfold Tr mtake at? getO
  cases e : ρ[i]? with
  | none => simp
  | some s =>
    cases s with
    | own d => by_cases l : leafD d = true <;> simp [l]
    | _ => simp
theorem tu_takeG {i : Nat} {Q : PyData → Env → Prop} : Tr (mtakeG i) ρ Q X = ∃ d, getO (at? ρ i) = some d ∧ Q d (ρ.set i .emp) := by
  unfold Tr mtakeG at? getO
  cases e : ρ[i]? with
  | none => simp
  | some s => cases s <;> simp
theorem tu_aug {f : PyData → PyData → Option PyData} {i : Nat} {e : M PyData} : Ts (maug f i e) ρ P = ∃ x, getX (at? ρ i) = some x ∧ Tr e ρ (fun y r => ∃ z, f x y = some z ∧ P.nx (r.set i (.val z))) P.ex := by
  cases e : at? ρ i with
  | val d => rw [ts_aug e]; simp [getX]
  | _ =>
    unfold Ts maug
    unfold at? at e
    cases q : ρ[i]? with
    | none => simp_all [TsO, getX]
    | some s => rw [q] at e; cases e <;> simp_all [TsO, getX]
theorem tu_append {i : Nat} {e : M PyData} : Ts (mappend i e) ρ P = ∃ ds0, getL (at? ρ i) = some ds0 ∧ Tr e ρ (fun d r => ∃ ds, getL (at? r i) = some ds ∧ lenOk (ds.length + 1) = true ∧ P.nx (r.set i (.own (.list (ds ++ [d]))))) P.ex := by
  cases q : getL (at? ρ i) with
  | none =>
    unfold Ts mappend
    rw [ownL_at, q]
    simp [slft, TsO]
  | some ds =>
    have : at? ρ i = .own (.list ds) := by
      unfold getL at q
      split at q
      · rename_i e; cases q; exact e
      · cases q
    rw [ts_append this]; simp
theorem tu_pop {i : Nat} {Q : PyData → Env → Prop} : Tr (mpop i) ρ Q X = ∃ ds, getL (at? ρ i) = some ds ∧ ∃ d, ds[ds.length - 1]? = some d ∧ Q d (ρ.set i (.own (.list ds.dropLast))) := by
  unfold Tr mpop
  rw [ownL_at]
  cases getL (at? ρ i) with
  | none => simp
  | some ds => dsimp only; cases q : ds[ds.length - 1]? <;> simp [q]
theorem tu_lenS {i : Nat} {Q : PyData → Env → Prop} : Tr (mlenS i) ρ Q X = ∃ ns, getS (at? ρ i) = some ns ∧ Q (.int ns.length) ρ := by
  unfold Tr mlenS scrNs at? getS
  cases e : ρ[i]? with
  | none => simp
  | some s => cases s <;> simp
theorem tu_ixS {i : Nat} {m : M PyData} {Q : PyData → Env → Prop} :
    Tr (mixS i m) ρ Q X = ∃ ns, getS (at? ρ i) = some ns ∧ Tr m ρ (fun k r => ∃ j, asI? k = some j ∧ ∃ n, atI ns j = some n ∧ Q (.int n) r) X := by
  cases e : at? ρ i with
  | scr d => rw [tr_ixS e]; simp [getS]
  | _ =>
    unfold Tr mixS scrNs
    unfold at? at e
    cases q : ρ[i]? with
    | none => simp_all [getS]
    | some s => rw [q] at e; cases e <;> simp_all [getS]
def outS (s : Sl) : PyData := match s with
  | .own x => x
  | _ => .none
def scrS (s : Sl) : PyData := match s with
  | .scr ns => .list (ns.map PyData.int)
  | _ => .none
def isO (s : Sl) : Bool := match s with
  | .own _ => true
  | _ => false
def isS (s : Sl) : Bool := match s with
  | .scr _ => true
  | _ => false
theorem outA {i : Nat} : outAt i ρ = outS (at? ρ i) := outAt_at
theorem scrA {i : Nat} : scrAt i ρ = scrS (at? ρ i) := scrAt_at
theorem isOA {i : Nat} : isOwn i ρ = isO (at? ρ i) := isOwn_at
theorem isSA {i : Nat} : isScr i ρ = isS (at? ρ i) := isScr_at
theorem outS_o {d : PyData} : outS (.own d) = d := rfl
theorem scrS_s {ns : List Int} : scrS (.scr ns) = .list (ns.map PyData.int) := rfl
theorem isO_o {d : PyData} : isO (.own d) = true := rfl
theorem isS_s {ns : List Int} : isS (.scr ns) = true := rfl
theorem lok_nil {as : List CArg} (h : lendIx as = []) : lendOk as ρ = true := by unfold lendOk; rw [h]; rfl
theorem lok_one {as : List CArg} {i : Nat} (h : lendIx as = [i]) : lendOk as ρ = isO (at? ρ i) := by unfold lendOk; rw [h, ← isOA]; simp
theorem lok_two {as : List CArg} {i j : Nat} (h : lendIx as = [i, j]) (n : i ≠ j) : lendOk as ρ = (isO (at? ρ i) && isO (at? ρ j)) := by unfold lendOk; rw [h, ← isOA, ← isOA]; simp [n]
theorem lok_n : lendOk [] ρ = true := rfl
theorem lok_gen {as : List CArg} : lendOk as ρ = (decide (lendIx as).Nodup && (lendIx as).all fun i => isO (at? ρ i)) := by unfold lendOk; simp only [isOA]
theorem lix_nil : lendIx [] = [] := rfl
theorem lix_v {m : M PyData} {as : List CArg} : lendIx (.v m :: as) = lendIx as := rfl
theorem lix_l {i : Nat} {as : List CArg} : lendIx (.lend i :: as) = i :: lendIx as := rfl
theorem lix_s {i : Nat} {as : List CArg} : lendIx (.scr i :: as) = lendIx as := rfl
theorem sok_nil : scrOk [] ρ = true := rfl
theorem sok_v {m : M PyData} {as : List CArg} : scrOk (.v m :: as) ρ = scrOk as ρ := rfl
theorem sok_l {i : Nat} {as : List CArg} : scrOk (.lend i :: as) ρ = scrOk as ρ := rfl
theorem sok_s {i : Nat} {as : List CArg} : scrOk (.scr i :: as) ρ = (isS (at? ρ i) && scrOk as ρ) := by rw [← isSA]; rfl
theorem tr_bor {ok : α → Bool} {i : Nat} {m : M α} {Q : α → Env → Prop} :
    Tr (mbor ok i m) ρ Q X = ∃ d, getO (at? ρ i) = some d ∧ leafD d = true ∧ Tr m (ρ.set i (.val d)) (fun v r => ok v = true ∧ borA ρ (r.set i .emp) ∧ Q v (r.set i (.own d))) (fun _ _ => False) := by
  unfold Tr mbor at? getO
  cases e : ρ[i]? with
  | none => simp
  | some s =>
    cases s with
    | own d =>
      simp only [Option.getD_some, Option.some.injEq, exists_eq_left']
      by_cases l : leafD d = true
      · simp only [l, if_true, true_and]
        cases m (ρ.set i (.val d)) with
        | ok v r =>
          simp only
          split
          · rename_i e2
            split at e2
            · rename_i h; cases e2; simp [h]
            · cases e2
          · rename_i e2
            split at e2 <;> cases e2
          · rename_i e2
            split at e2
            · cases e2
            · rename_i h
              apply propext
              constructor
              · exact fun z => z.elim
              · exact fun z => h ⟨z.1, z.2.1⟩
        | exc x r => rfl
        | bad => rfl
      · simp [l]
    | _ => simp
theorem ts_par {as : List PArg} {is : List Nat} : Ts (mpar as is) ρ P = Tr (pev as) ρ (fun ss r => ss.length = is.length ∧ P.nx (setsE r is ss)) P.ex := by
  unfold mpar
  rw [ts_sbnd]
  congr 1; funext ss r
  exact tso_ite
theorem pev_n {Q : List Sl → Env → Prop} : Tr (pev []) ρ Q X = Q [] ρ := rfl
theorem pev_v {m : M PyData} {as : List PArg} {Q : List Sl → Env → Prop} : Tr (pev (.v m :: as)) ρ Q X = Tr m ρ (fun d r => Tr (pev as) r (fun ss r => Q (.val d :: ss) r) X) X := by
  simp only [pev, tr_bnd]; rfl
theorem pev_o {m : M PyData} {as : List PArg} {Q : List Sl → Env → Prop} : Tr (pev (.o m :: as)) ρ Q X = Tr m ρ (fun d r => Tr (pev as) r (fun ss r => Q (.own d :: ss) r) X) X := by
  simp only [pev, tr_bnd]; rfl
theorem sets_n {ss : List Sl} : setsE ρ [] ss = ρ := by cases ss <;> rfl
theorem sets_c {i : Nat} {is : List Nat} {s : Sl} {ss : List Sl} : setsE ρ (i :: is) (s :: ss) = setsE (ρ.set i s) is ss := rfl
theorem isOS_v {d : PyData} : isOS (.val d) = false := rfl
theorem isOS_e : isOS .emp = false := rfl
theorem nl_i {k : Int} : noList (.int k) = true := rfl
theorem nl_b {k : Bool} : noList (.bool k) = true := rfl
theorem nl_n : noList .none = true := rfl
theorem nl_s {k : Str} : noList (.str k) = true := rfl
theorem nl_t {ds : List PyData} : noList (.tuple ds) = noListA ds := rfl
/-- a comprehension with an invariant -/
theorem tr_lcI {items : M (List PyData)} {asg : Asg} {test : M Bool} {elt : M PyData} {vs : List Nat} {Q : PyData → Env → Prop}
    (h : Tr items ρ (fun ds r => ∃ I : Nat → List PyData → Env → Prop, I 0 [] (wipeE r vs) ∧
      (∀ (i : Nat) (d : PyData) (acc : List PyData) (r' : Env), ds[i]? = some d → I i acc r' → ∃ r1, asg d r' = some r1 ∧
        Tr test r1 (fun b r2 => if b = true then Tr elt r2 (fun y r3 => lenOk (acc.length + 1) = true ∧ I (i + 1) (acc ++ [y]) (wipeE r3 vs)) nox else I (i + 1) acc (wipeE r2 vs)) nox) ∧
      ∀ acc r', I ds.length acc r' → Q (.list acc) (unw r r' vs)) X) : Tr (mlc items asg test elt vs) ρ Q X := by
  rw [tr_lc]
  refine tr_mono h fun ds r h => ?_
  obtain ⟨I, h0, hs, he⟩ := h
  have go : ∀ (l : List PyData) (n : Nat) (acc : List PyData) (r' : Env), n + l.length = ds.length → ds.drop n = l → I n acc r' → match compL asg test elt vs l r' acc with
      | .ok d r' => Q d (unw r r' vs)
      | _ => False := by
    intro l
    induction l with
    | nil =>
      intro n acc r' hn e hI
      obtain rfl : n = ds.length := by simpa using hn
      exact he acc r' hI
    | cons d l ih =>
      intro n acc r' hn e hI
      have hd : ds[n]? = some d := by
        have := List.getElem?_drop (xs := ds) (i := n) (j := 0)
        rw [e] at this
        simpa using this.symm
      have e2 : ds.drop (n + 1) = l := by rw [← List.drop_drop, e]; rfl
      have hn2 : n + 1 + l.length = ds.length := by simp only [List.length_cons] at hn; omega
      obtain ⟨r1, er, ht⟩ := hs n d acc r' hd hI
      unfold compL
      rw [er]
      dsimp only
      unfold Tr at ht
      cases et : test r1 with
      | ok b r2 =>
        rw [et] at ht
        dsimp only at ht ⊢
        cases b with
        | true =>
          rw [if_pos rfl] at ht ⊢
          cases ee : elt r2 with
          | ok y r3 =>
            rw [ee] at ht
            dsimp only at ht ⊢
            rw [if_pos ht.1]
            exact ih (n + 1) _ _ hn2 e2 ht.2
          | exc x r3 => rw [ee] at ht; exact ht.elim
          | bad => rw [ee] at ht; exact ht.elim
        | false =>
          rw [if_neg (by simp)] at ht ⊢
          exact ih (n + 1) _ _ hn2 e2 ht
      | exc x r2 => rw [et] at ht; exact ht.elim
      | bad => rw [et] at ht; exact ht.elim
  exact go ds 0 [] _ (by simp) rfl h0
/-- a comprehension whose parts change nothing -/
theorem tr_lcP {items : M (List PyData)} {asg : Asg} {test : M Bool} {elt : M PyData} {vs : List Nat} {Q : PyData → Env → Prop} (g : PyData → Bool) (f : PyData → PyData)
    (h : Tr items ρ (fun ds r => (∀ d ∈ ds, ∃ r1, asg d (wipeE r vs) = some r1 ∧ Tr test r1 (fun b r2 => b = g d ∧ if b = true then Tr elt r2 (fun y r3 => y = f d ∧ wipeE r3 vs = wipeE r vs) nox else wipeE r2 vs = wipeE r vs) nox) ∧
      lenOk ds.length = true ∧ Q (.list ((ds.filter g).map f)) (unw r (wipeE r vs) vs)) X) : Tr (mlc items asg test elt vs) ρ Q X := by
  rw [tr_lc]
  refine tr_mono h fun ds r h => ?_
  obtain ⟨h1, h2, h3⟩ := h
  rw [compL_pure (g := g) (f := f) ds [] (fun d hd => ?_) (by simpa using h2)]
  · simpa using h3
  · obtain ⟨r1, e1, ht⟩ := h1 d hd
    refine ⟨r1, e1, ?_⟩
    unfold Tr at ht
    cases et : test r1 with
    | ok b r2 =>
      rw [et] at ht
      obtain ⟨hb, ht⟩ := ht
      subst hb
      refine ⟨r2, rfl, fun hg => ?_, fun hg => ?_⟩
      · rw [if_pos hg] at ht
        cases ee : elt r2 with
        | ok y r3 => rw [ee] at ht; exact ⟨r3, by rw [ht.1], ht.2⟩
        | exc x r3 => rw [ee] at ht; exact ht.elim
        | bad => rw [ee] at ht; exact ht.elim
      · rw [if_neg (by rw [hg]; simp)] at ht
        exact ht
    | exc x r2 => rw [et] at ht; exact ht.elim
    | bad => rw [et] at ht; exact ht.elim
theorem tr_yes {Q : Bool → Env → Prop} : Tr myes ρ Q X = Q true ρ := rfl
theorem wipe_n {r : Env} : wipeE r [] = r := rfl
theorem wipe_c {r : Env} {v : Nat} {vs : List Nat} : wipeE r (v :: vs) = (wipeE r vs).set v .emp := rfl
theorem unw_n {r0 r : Env} : unw r0 r [] = r := rfl
def unw1 (o : Option Sl) (r : Env) (v : Nat) : Env := match o with
  | some (.val d) => r.set v (.val d)
  | _ => r
theorem unw_c {r0 r : Env} {v : Nat} {vs : List Nat} : unw r0 r (v :: vs) = unw1 r0[v]? (unw r0 r vs) v := by
  show (match r0[v]? with
    | some (.val d) => (unw r0 r vs).set v (.val d)
    | _ => unw r0 r vs) = _
  unfold unw1
  rcases r0[v]? with _ | s
  · rfl
  · cases s <;> rfl
theorem unw1_v {d : PyData} {r : Env} {v : Nat} : unw1 (some (.val d)) r v = r.set v (.val d) := rfl
theorem unw1_e {r : Env} {v : Nat} : unw1 (some .emp) r v = r := rfl
theorem unw1_n {r : Env} {v : Nat} : unw1 none r v = r := rfl
theorem getQ_0 {s : Sl} {r : Env} : (s :: r)[0]? = some s := rfl
theorem getQ_s {s : Sl} {r : Env} {n : Nat} : (s :: r)[n + 1]? = r[n]? := rfl
theorem bor_c {s s2 : Sl} {r r2 : Env} : borA (s :: r) (s2 :: r2) = (slotOk s s2 ∧ borA r r2) := rfl
theorem bor_n : borA [] [] = True := rfl
theorem sok_e {s : Sl} : slotOk s .emp = True := by unfold slotOk; simp [flatS]
theorem sok_vv {d : PyData} : slotOk (.val d) (.val d) = True := by unfold slotOk; simp [isOS]
theorem sok_nv {s : Sl} {d : PyData} (h : noList d = true) : slotOk s (.val d) = True := by unfold slotOk; simp [flatS, h]
theorem sok_int {s : Sl} {d : Int} : slotOk s (.val (.int d)) = True := sok_nv rfl
theorem sok_ss {d : List Int} : slotOk (.scr d) (.scr d) = True := by unfold slotOk; simp [isOS]
theorem sok_o {s : Sl} {d : PyData} : slotOk s (.own d) = (flatC d = true) := by unfold slotOk; simp [flatS, isOS]
theorem sok_x {s : Sl} (h : isOS s = false) : slotOk s s := .inl ⟨rfl, h⟩
theorem flat_l {ds : List PyData} : flatC (.list ds) = noListA ds := rfl
theorem nl_ints : ∀ ns : List Int, noListA (ns.map PyData.int) = true
  | [] => rfl
  | n :: ns => by simp [noListA, noList, nl_ints ns]
end
end PL

end
section
/-! PLO: the pure operators at constructors. -/
namespace PL
open PySem PySem.Spec L2

section
variable {i j k : Int} {a b : Bool} {x y : Str} {xs ys : List PyData} {d : PyData}
def fdOk (j : Int) : Bool := decide (0 < j) && decide (j.natAbs.log2 < 9000)
theorem log2_lt {n k : Nat} (hk : 0 < k) (h : n < 2 ^ k) : n.log2 < k := by
  by_cases z : n = 0
  · subst z; simpa using hk
  · exact (Nat.log2_lt z).mpr h
theorem fdOk_of (h : 0 < j) (h2 : j.natAbs < 2 ^ 9000) : fdOk j = true := by
  unfold fdOk
  simp only [Bool.and_eq_true, decide_eq_true_eq]
  exact ⟨h, log2_lt (by decide) h2⟩
theorem p64 : (2 : Nat) ^ 64 ≤ 2 ^ 9000 := Nat.pow_le_pow_right (by decide) (by decide)
theorem fdOk_s (h : 0 < j) (h2 : j.natAbs < 2 ^ 64) : fdOk j = true := fdOk_of h (Nat.lt_of_lt_of_le h2 p64)
theorem mulOk_l (h : i.natAbs < 2 ^ 64) : mulOk i j = true := by
  unfold mulOk; simp [h]
theorem mulOk_r (h : j.natAbs < 2 ^ 64) : mulOk i j = true := by
  unfold mulOk; simp [h]
theorem mulOk_if {c : Prop} [Decidable c] : mulOk i (if c then 1 else 0) = true := by
  split <;> exact mulOk_r (by decide)
theorem mulOk_log {n m : Nat} (h : i.natAbs < 2 ^ n) (h2 : j.natAbs < 2 ^ m) (hn : 0 < n) (hm : 0 < m) (hs : n + m ≤ 1000000) : mulOk i j = true := by
  unfold mulOk
  have h3 := log2_lt hn h
  have h4 := log2_lt hm h2
  have h5 : i.natAbs.log2 + j.natAbs.log2 < 1000000 := by omega
  simp only [h5, decide_true, Bool.or_true]
theorem add_ii : add? (.int i) (.int j) = some (.int (i + j)) := rfl
theorem sub_ii : sub? (.int i) (.int j) = some (.int (i - j)) := rfl
theorem mul_ii : mul? (.int i) (.int j) = if mulOk i j = true then some (.int (i * j)) else none := rfl
theorem mul_ti : mul? (.tuple xs) (.int i) = if (!xs.isEmpty && decide (1 ≤ i) && decide (i ≤ 1000) && decide (xs.length ≤ 1000)) = true then some (.tuple (List.replicate i.toNat xs).flatten) else none := rfl
theorem mul_li : mul? (.list xs) (.int i) = if repOk xs.length i = true then some (.list (List.replicate i.toNat xs).flatten) else none := rfl
theorem fdiv_ii : fdiv? (.int i) (.int j) = if fdOk j = true then some (.int (i / j)) else none := rfl
theorem mod_ii : mod? (.int i) (.int j) = if 0 < j then some (.int (i % j)) else none := by unfold mod?; simp
theorem pow_ii : pow? (.int i) (.int j) = if powOk i j = true then some (.int (i ^ j.toNat)) else none := rfl
theorem neg_i : neg? (.int i) = some (.int (-i)) := rfl
theorem cmp_ii {p : Int → Int → Bool} : cmpI? p (.int i) (.int j) = some (.bool (p i j)) := rfl
theorem addI_ii : addI? (.int i) (.int j) = some (.int (i + j)) := rfl
theorem mulI_ii : mulI? (.int i) (.int j) = if mulOk i j = true then some (.int (i * j)) else none := rfl
theorem shp_i : SeqAt.shaped (.int i) = true := rfl
theorem shp_b : SeqAt.shaped (.bool a) = true := rfl
theorem eq_ii : eq? (.int i) (.int j) = some (.bool (decide (i = j))) := by
  unfold eq? cmpOk; rw [shp_i, shp_i, if_pos (by simp)]; simp only [PyData.eqv]; congr 2
theorem ne_ii : ne? (.int i) (.int j) = some (.bool (!decide (i = j))) := by
  unfold ne? cmpOk; rw [shp_i, shp_i, if_pos (by simp)]; simp only [PyData.eqv]; congr 3
theorem eq_ss : eq? (.str x) (.str y) = some (.bool (decide (x = y))) := by
  unfold eq? cmpOk; rw [if_pos (by simp [strD])]; simp only [PyData.eqv]
  congr 2
theorem ne_ss : ne? (.str x) (.str y) = some (.bool (!decide (x = y))) := by
  unfold ne? cmpOk; rw [if_pos (by simp [strD])]; simp only [PyData.eqv]
  congr 3
theorem asB_b : asB? (.bool a) = some a := rfl
theorem truth_b : truth? (.bool a) = some a := rfl
theorem truth_i : truth? (.int i) = some (i != 0) := rfl
theorem truth_l : truth? (.list xs) = some (!xs.isEmpty) := rfl
theorem truth_t : truth? (.tuple xs) = some (!xs.isEmpty) := rfl
theorem truth_n : truth? .none = some false := rfl
theorem asI_i : asI? (.int i) = some i := rfl
theorem item_l : item? (.list xs) (.int i) = atI xs i := rfl
theorem item_t : item? (.tuple xs) (.int i) = atI xs i := rfl
theorem len_l : len? (.list xs) = some (.int xs.length) := rfl
theorem len_t : len? (.tuple xs) = some (.int xs.length) := rfl
theorem abs_i : abs? (.int i) = some (.int (if i < 0 then -i else i)) := rfl
theorem int_i : int? (.int i) = some (.int i) := rfl
theorem int_b : int? (.bool a) = some (.int (if a = true then 1 else 0)) := rfl
theorem tuple_l : tuple? (.list xs) = some (.tuple xs) := rfl
theorem tuple_t : tuple? (.tuple xs) = some (.tuple xs) := rfl
theorem list_l : list? (.list xs) = some (.list xs) := rfl
theorem list_t : list? (.tuple xs) = some (.list xs) := rfl
theorem max2_ii : max2? (.int i) (.int j) = some (.int (if j > i then j else i)) := rfl
theorem min2_ii : min2? (.int i) (.int j) = some (.int (if j < i then j else i)) := rfl
theorem seq_l : seq? (.list xs) = some xs := rfl
theorem seq_t : seq? (.tuple xs) = some xs := rfl
theorem slice_l {lo hi : Option Int} : slice? (.list xs) lo hi = some (.list (cut xs lo hi)) := rfl
theorem slice_t {lo hi : Option Int} : slice? (.tuple xs) lo hi = some (.tuple (cut xs lo hi)) := rfl
theorem rng1_i : rng1? (.int i) = if rOk i = true then some (rangeL 0 i.toNat) else none := rfl
theorem rng2_i : rng2? (.int i) (.int j) = if (rOk i && rOk j) = true then some (rangeL i (j - i).toNat) else none := rfl
theorem zip_l : zip? (.list xs) (.list ys) = some (zipP xs ys) := rfl
theorem zip_t : zip? (.tuple xs) (.tuple ys) = some (zipP xs ys) := rfl
theorem zip_tl : zip? (.tuple xs) (.list ys) = some (zipP xs ys) := rfl
theorem zip_lt : zip? (.list xs) (.tuple ys) = some (zipP xs ys) := rfl
theorem enum_l : enum? (.list xs) = some (enumP xs) := rfl
theorem add_tt : add? (.tuple xs) (.tuple ys) = if lenOk (xs.length + ys.length) = true then some (.tuple (xs ++ ys)) else none := rfl
theorem add_ll : add? (.list xs) (.list ys) = if lenOk (xs.length + ys.length) = true then some (.list (xs ++ ys)) else none := rfl
theorem add_ss : add? (.str x) (.str y) = if lenOk (x.length + y.length) = true then some (.str (x ++ y)) else none := rfl
theorem repr_i : repr? (.int i) = if i.natAbs.log2 < 12900 then some (.str (toString i)) else none := rfl
theorem sum_l : sum? (.list xs) = (ints? xs).map fun ns => .int ns.sum := rfl
theorem max_l {ns : List Int} (h : ns ≠ []) : max? (.list (ns.map PyData.int)) = some (.int (maxL ns)) := by
  unfold max?
  dsimp only
  rw [ints_map]
  show (if ns.isEmpty = true then none else some (PyData.int (maxL ns))) = _
  rw [if_neg (by simpa using h)]
theorem min_l {ns : List Int} (h : ns ≠ []) : min? (.list (ns.map PyData.int)) = some (.int (minL ns)) := by
  unfold min?
  dsimp only
  rw [ints_map]
  show (if ns.isEmpty = true then none else some (PyData.int (minL ns))) = _
  rw [if_neg (by simpa using h)]
theorem sum_m {ns : List Int} : sum? (.list (ns.map PyData.int)) = some (.int ns.sum) := by
  unfold sum?
  dsimp only
  rw [ints_map]
  rfl
theorem tvs_b : ∀ ns : List Bool, tvs? (ns.map PyData.bool) = some ns
  | [] => rfl
  | n :: ns => by rw [List.map_cons]; show (some n).bind (fun b => (tvs? (ns.map PyData.bool)).map (b :: ·)) = _; rw [tvs_b ns]; rfl
theorem tvs_i : ∀ ns : List Int, tvs? (ns.map PyData.int) = some (ns.map (· != 0))
  | [] => rfl
  | n :: ns => by rw [List.map_cons]; show (some (n != 0)).bind (fun b => (tvs? (ns.map PyData.int)).map (b :: ·)) = _; rw [tvs_i ns]; rfl
theorem any_m {ns : List Bool} : any? (.list (ns.map PyData.bool)) = some (.bool (ns.any id)) := by
  show (tvs? (ns.map PyData.bool)).map _ = _
  rw [tvs_b]; rfl
theorem all_m {ns : List Bool} : all? (.list (ns.map PyData.bool)) = some (.bool (ns.all id)) := by
  show (tvs? (ns.map PyData.bool)).map _ = _
  rw [tvs_b]; rfl
theorem any_i {ns : List Int} : any? (.list (ns.map PyData.int)) = some (.bool ((ns.map (· != 0)).any id)) := by
  show (tvs? (ns.map PyData.int)).map _ = _
  rw [tvs_i]; rfl
theorem sort_l {ns : List Int} {ds : List PyData} (h : ds = ns.map PyData.int) : ((some ds).bind fun ds => match ints? ds with
    | some ns => some (PyData.list ((isort ns).map PyData.int))
    | none => (pairs? ds).map fun ps => .list ((psort ps).map prI)) = some (.list ((isort ns).map PyData.int)) := by
  subst h
  rw [Option.bind_some, ints_map]
theorem sort_m {ns : List Int} : sortI? (.list (ns.map PyData.int)) = some (.list ((isort ns).map PyData.int)) := sort_l rfl
theorem sort_t {ns : List Int} : sortI? (.tuple (ns.map PyData.int)) = some (.list ((isort ns).map PyData.int)) := sort_l rfl
theorem pairs_map : ∀ ps : List (Int × Int), pairs? (ps.map prI) = some ps
  | [] => rfl
  | p :: ps => by
    show (some (p.1, p.2)).bind (fun q => (pairs? (ps.map prI)).map fun ps => q :: ps) = _
    rw [pairs_map ps]; rfl
theorem sort_pl {ps : List (Int × Int)} {ds : List PyData} (h : ds = ps.map prI) : ((some ds).bind fun ds => match ints? ds with
    | some ns => some (PyData.list ((isort ns).map PyData.int))
    | none => (pairs? ds).map fun ps => .list ((psort ps).map prI)) = some (.list ((psort ps).map prI)) := by
  subst h
  rw [Option.bind_some, pairs_map]
  cases ps with
  | nil => simp [ints?, isort, psort]
  | cons p ps => rfl
theorem sort_pm {ps : List (Int × Int)} : sortI? (.list (ps.map prI)) = some (.list ((psort ps).map prI)) := sort_pl rfl
theorem sort_pt {ps : List (Int × Int)} : sortI? (.tuple (ps.map prI)) = some (.list ((psort ps).map prI)) := sort_pl rfl
theorem isort_id {ns : List Int} (h : ns.Pairwise (· ≤ ·)) : isort ns = ns := sorted_unique (isort_perm ns) (isort_sorted ns) h
theorem lay_ints : ∀ ns : List Int, PyData.canLayAll0 (ns.map PyData.int) = true
  | [] => rfl
  | n :: ns => by simp [PyData.canLayAll0, PyData.canLay0, lay_ints ns]
theorem dep_ints : ∀ ns : List Int, PyData.depthAll (ns.map PyData.int) = 0
  | [] => rfl
  | n :: ns => by simp [PyData.depthAll, PyData.depth, dep_ints ns]
theorem shp_lst {ns : List Int} : SeqAt.shaped (.list (ns.map PyData.int)) = true := by
  show (PyData.canLayAll0 (ns.map PyData.int) && decide (PyData.depthAll (ns.map PyData.int) + 1 ≤ 64)) = true
  rw [lay_ints, dep_ints]; rfl
theorem shp_tup {ns : List Int} : SeqAt.shaped (.tuple (ns.map PyData.int)) = true := by
  show (PyData.canLayAll0 (ns.map PyData.int) && decide (PyData.depthAll (ns.map PyData.int) + 1 ≤ 64)) = true
  rw [lay_ints, dep_ints]; rfl
theorem eqv_ints : ∀ xs ys : List Int, PyData.eqvAll (xs.map PyData.int) (ys.map PyData.int) = decide (xs = ys)
  | [], [] => rfl
  | [], y :: ys => rfl
  | x :: xs, [] => rfl
  | x :: xs, y :: ys => by
    simp only [List.map_cons, PyData.eqvAll, PyData.eqv, eqv_ints xs ys, List.cons.injEq]
    by_cases h : x = y
    · subst h; simp
    · simp [h]
theorem ne_lst {xs ys : List Int} : ne? (.list (xs.map PyData.int)) (.list (ys.map PyData.int)) = some (.bool (!decide (xs = ys))) := by
  unfold ne? cmpOk
  rw [shp_lst, shp_lst, if_pos (by simp)]
  simp only [PyData.eqv, eqv_ints]
theorem ne_tup {xs ys : List Int} : ne? (.tuple (xs.map PyData.int)) (.tuple (ys.map PyData.int)) = some (.bool (!decide (xs = ys))) := by
  unfold ne? cmpOk
  rw [shp_tup, shp_tup, if_pos (by simp)]
  simp only [PyData.eqv, eqv_ints]
theorem eq_tup {xs ys : List Int} : eq? (.tuple (xs.map PyData.int)) (.tuple (ys.map PyData.int)) = some (.bool (decide (xs = ys))) := by
  unfold eq? cmpOk
  rw [shp_tup, shp_tup, if_pos (by simp)]
  simp only [PyData.eqv, eqv_ints]
theorem eq_lst {xs ys : List Int} : eq? (.list (xs.map PyData.int)) (.list (ys.map PyData.int)) = some (.bool (decide (xs = ys))) := by
  unfold eq? cmpOk
  rw [shp_lst, shp_lst, if_pos (by simp)]
  simp only [PyData.eqv, eqv_ints]
theorem maxL_ge : ∀ {l : List Int} {x : Int}, x ∈ l → x ≤ maxL l
  | [a], x, h => by simp at h; subst h; exact Int.le_refl _
  | a :: b :: r, x, h => by
    rcases List.mem_cons.mp h with h | h
    · subst h; exact Int.le_max_left _ _
    · exact Int.le_trans (maxL_ge h) (Int.le_max_right _ _)
theorem maxL_le : ∀ {l : List Int} {c : Int}, l ≠ [] → (∀ x ∈ l, x ≤ c) → maxL l ≤ c
  | [a], c, _, h => h a (by simp)
  | a :: b :: r, c, _, h => Int.max_le.mpr ⟨h a (by simp), maxL_le (by simp) fun x z => h x (List.mem_cons_of_mem _ z)⟩
theorem atI_0 {α : Type} {a : α} {r : List α} : atI (a :: r) 0 = some a := atI_nat (j := 0) rfl
theorem atI_1 {α : Type} {a b : α} {r : List α} : atI (a :: b :: r) 1 = some b := atI_nat (j := 1) rfl
theorem atI_2 {α : Type} {a b c : α} {r : List α} : atI (a :: b :: c :: r) 2 = some c := atI_nat (j := 2) rfl
theorem ixN_0 {n : Nat} : ixN (n + 1) 0 = some 0 := by
  unfold ixN; rw [if_pos (by decide), if_pos (by omega)]; rfl
theorem ixN_1 {n : Nat} : ixN (n + 1 + 1) 1 = some 1 := by
  unfold ixN; rw [if_pos (by decide), if_pos (by omega)]; rfl
theorem ixN_2 {n : Nat} : ixN (n + 1 + 1 + 1) 2 = some 2 := by
  unfold ixN; rw [if_pos (by decide), if_pos (by omega)]; rfl
theorem ite_some {α : Type} {c : Prop} [Decidable c] {u v : α} : ((if c then some u else none) = some v) = (c ∧ u = v) := by
  split <;> simp_all
theorem map_some {α β : Type} {o : Option α} {f : α → β} {Q : β → Prop} : (∃ z, o.map f = some z ∧ Q z) = ∃ a, o = some a ∧ Q (f a) := by
  cases o <;> simp
theorem lenOk_of {n : Nat} (h : n ≤ 16777216) : lenOk n = true := by unfold lenOk; simpa using h
theorem rOk_of (h : -(2 ^ 62) < i) (h2 : i < 2 ^ 62) : rOk i = true := by
  unfold rOk
  exact decide_eq_true (log2_lt (by decide) (by omega))
theorem outs_o {ks : List PKd} {ρ : Env} : (ownIx 0 (.o :: ks)).map (fun i => outAt i ρ) = outAt 0 ρ :: (ownIx 1 ks).map (fun i => outAt i ρ) := rfl
theorem bind_some {α β : Type} {a : α} {f : α → Option β} : (some a).bind f = f a := rfl
theorem ex_and {α : Type} {p : Prop} {a : α} {Q : α → Prop} : (∃ z, (p ∧ a = z) ∧ Q z) = (p ∧ Q a) := by
  apply propext; constructor
  · rintro ⟨z, ⟨hp, rfl⟩, q⟩; exact ⟨hp, q⟩
  · rintro ⟨hp, q⟩; exact ⟨a, ⟨hp, rfl⟩, q⟩
theorem ex_eq {α : Type} {a : α} {Q : α → Prop} : (∃ z, a = z ∧ Q z) = Q a := by
  apply propext; constructor
  · rintro ⟨z, rfl, q⟩; exact q
  · exact fun q => ⟨a, rfl, q⟩
end
end PL

end
section
/-! PLP: the laws' source of numbers: a pot of digits and a turn. -/
namespace PL
open PySem PySem.Spec L2 PySem.NumText

theorem foldl_app_list {α : Type} (a : Array α) : ∀ (n : Nat) (z : Array α), ((List.replicate n a).foldl (· ++ ·) z).toList = z.toList ++ (List.replicate n a.toList).flatten
  | 0, z => by simp
  | n + 1, z => by
    rw [List.replicate_succ, List.foldl_cons, foldl_app_list a n, List.replicate_succ, List.flatten_cons, Array.toList_append, List.append_assoc]
theorem flat_one {α : Type} (a : α) : ∀ n : Nat, (List.replicate n [a]).flatten = List.replicate n a
  | 0 => rfl
  | n + 1 => by rw [List.replicate_succ, List.flatten_cons, flat_one a n]; rfl
theorem zeros (n : Nat) (h : 1 < n) : (strRep "0" (n : Int)).cps.toList = List.replicate n 48 := by
  unfold strRep
  rw [if_neg (by omega), if_neg]
  · show ((List.replicate (n : Int).toNat (#[48] : Array Nat)).foldl (· ++ ·) #[]).toList = _
    rw [foldl_app_list, Int.toNat_natCast]
    simp [flat_one]
  · have h1 : ((n : Int) == 1) = false := by simp; omega
    have h2 : (("0" : Str).length == 0) = false := by decide
    rw [h1, h2]; simp
theorem foldl_zeros : ∀ (n : Nat) (z : Nat), (List.replicate n 48).foldl (fun acc c => acc * 10 + (c - 48)) z = z * 10 ^ n
  | 0, z => by simp
  | n + 1, z => by
    rw [List.replicate_succ, List.foldl_cons, foldl_zeros n]
    simp [Nat.pow_succ, Nat.mul_assoc, Nat.mul_comm]
theorem ten_text (n : Nat) (h : 1 < n) (h2 : n < 4000) : (("1" : Str) ++ strRep "0" (n : Int)).cps.toList = 49 :: List.replicate n 48 := by
  rw [Str.cps_append, Array.toList_append, zeros n h]; rfl
theorem ten_len (n : Nat) (h : 1 < n) (h2 : n < 4000) : (("1" : Str) ++ strRep "0" (n : Int)).length = n + 1 := by
  have := congrArg List.length (ten_text n h h2)
  rw [Array.length_toList, List.length_cons, List.length_replicate] at this
  exact this
theorem zeros_len (n : Nat) (h : 1 < n) : (strRep "0" (n : Int)).length = n := by
  have := congrArg List.length (zeros n h)
  rw [Array.length_toList, List.length_replicate] at this
  exact this
theorem ten_int (n : Nat) (h : 1 < n) (h2 : n < 4000) : intText? (("1" : Str) ++ strRep "0" (n : Int)) = some ((10 ^ n : Nat) : Int) := by
  have e := ten_text n h h2
  rw [intText_digits (by
    rw [e]; intro c hc
    rcases List.mem_cons.mp hc with rfl | hc
    · decide
    · obtain ⟨_, rfl⟩ := List.mem_replicate.mp hc; decide) (by rw [e]; simp) (by rw [ten_len n h h2]; omega)]
  rw [e]
  unfold digitsVal
  rw [List.foldl_cons, foldl_zeros]
  simp
theorem int_s {x : Str} {n : Int} (h : lenOk x.length = true) (h2 : intText? x = some n) : int? (.str x) = some (.int n) := by
  show (if lenOk x.length = true then (intText? x).map PyData.int else none) = _
  rw [if_pos h, h2]; rfl
def G900 : Int := ((10 ^ 900 : Nat) : Int)
theorem int_ten : int? (.str (("1" : Str) ++ strRep "0" 900)) = some (.int G900) :=
  int_s (lenOk_of (by have := ten_len 900 (by decide) (by decide); exact this ▸ (by decide))) (ten_int 900 (by decide) (by decide))
theorem mul_ss {x : Str} {k : Int} : mul? (.str x) (.int k) = if repOk x.length k = true then some (.str (strRep x k)) else none := rfl
theorem rep900 : repOk ("0" : Str).length 900 = true := by decide +kernel
theorem len1900 : lenOk (("1" : Str).length + (strRep "0" 900).length) = true := by
  have := zeros_len 900 (by decide)
  have e : (strRep "0" 900).length = 900 := this
  rw [e]; decide +kernel
theorem z900 : mul? (.str "0") (.int 900) = some (.str (strRep "0" 900)) := by rw [mul_ss, if_pos rep900]
theorem o900 : add? (.str "1") (.str (strRep "0" 900)) = some (.str (("1" : Str) ++ strRep "0" 900)) := by rw [add_ss, if_pos len1900]
theorem scr_ints {ns : List Int} : (ints? (ns.map PyData.int)).getD [] = ns := by rw [ints_map]; rfl
theorem pow18 : powOk 10 18 = true := by decide +kernel
theorem G900_pos : 0 < G900 := by
  unfold G900
  exact Int.natCast_pos.mpr (Nat.pow_pos (by decide))
/-- the pot -/
def Pot (p : PyData) : Prop := ∃ g s : Int, p = .list [.int g, .int s] ∧ 0 ≤ g ∧ g < G900 ∧ 0 ≤ s ∧ s < 2305843009213693951
theorem pot_mk {a n k : Int} {c : Prop} [Decidable c] : Pot (.list [.int (a % G900 * (if c then 1 else 0)), .int (n * 48271 % 2305843009213693951)]) := by
  have h := G900_pos
  have h1 := Int.emod_nonneg a (Int.ne_of_gt h)
  have h2 := Int.emod_lt_of_pos a h
  refine ⟨_, _, rfl, ?_, ?_, Int.emod_nonneg _ (by decide), Int.emod_lt_of_pos _ (by decide)⟩
  · split <;> omega
  · split <;> omega
end PL

end
section
/-! PLR: texts of values are short enough. -/
namespace PL
open PySem PySem.Spec L2

mutual
def cost : PyData → Nat
  | .int _ => 2000
  | .str x => (reprText x).length
  | .list xs => costA xs
  | .tuple xs => costA xs
  | _ => 5
def costA : List PyData → Nat
  | [] => 3
  | x :: xs => cost x + 2 + costA xs
end
theorem shownAll_len (xs : List PyData) : (PyData.shownAll xs).length = xs.length := by
  induction xs with
  | nil => rfl
  | cons x xs ih => simp [PyData.shownAll, ih]
mutual
theorem shown_le : ∀ d : PyData, d.showable = true → d.hasDict = false → d.shown.length ≤ cost d
  | .none, _, _ => by decide
  | .bool b, _, _ => by cases b <;> decide
  | .int i, h, _ => by
    have h2 : i.natAbs.log2 < 1920 := by simpa [PyData.showable] using h
    have e := int_text_length_le (k := 1920) (by decide) h2
    show (Str.ofString (toString i)).length ≤ 2000
    rw [ofString_length]
    omega
  | .str x, _, _ => Nat.le_refl _
  | .list xs, h, h2 => by
    have := shownA_le xs (by simpa [PyData.showable] using h) (by simpa [PyData.hasDict] using h2)
    exact Nat.le_trans (listText_len_le _) (by rw [shownAll_len]; exact this)
  | .tuple xs, h, h2 => by
    have := shownA_le xs (by simpa [PyData.showable] using h) (by simpa [PyData.hasDict] using h2)
    exact Nat.le_trans (tupleText_len_le _) (by rw [shownAll_len]; exact this)
  | .dict xs, _, h => by simp [PyData.hasDict] at h
theorem shownA_le : ∀ ds : List PyData, PyData.showableAll ds = true → PyData.hasDictAll ds = false → ((PyData.shownAll ds).map (·.length)).sum + 2 * ds.length + 3 ≤ costA ds
  | [], _, _ => by decide
  | d :: ds, h, h2 => by
    simp only [PyData.showableAll, Bool.and_eq_true] at h
    simp only [PyData.hasDictAll, Bool.or_eq_false_iff] at h2
    have a := shown_le d h.1 h2.1
    have b := shownA_le ds h.2 h2.2
    simp only [PyData.shownAll, List.map_cons, List.sum_cons, List.length_cons, costA]
    omega
end
theorem reprOk_of {d : PyData} (h1 : d.showable = true) (h2 : d.hasDict = false) (h3 : d.depth ≤ 60) (h4 : cost d ≤ 16777216) : reprOk d = true := by
  unfold reprOk
  have := shown_le d h1 h2
  simp only [h1, h2, Bool.and_eq_true, Bool.not_false, decide_eq_true_eq, and_true, true_and]
  exact ⟨h3, lenOk_of (by omega)⟩
theorem ints_show : ∀ ns : List Int, (∀ n ∈ ns, n.natAbs < 2 ^ 1000) → PyData.showableAll (ns.map PyData.int) = true
  | [], _ => rfl
  | n :: ns, h => by
    simp only [List.map_cons, PyData.showableAll, Bool.and_eq_true]
    refine ⟨?_, ints_show ns fun m hm => h m (List.mem_cons_of_mem _ hm)⟩
    show decide (n.natAbs.log2 < 1920) = true
    have := log2_lt (k := 1000) (by decide) (h n (by simp))
    exact decide_eq_true (by omega)
theorem ints_dict : ∀ ns : List Int, PyData.hasDictAll (ns.map PyData.int) = false
  | [] => rfl
  | n :: ns => by simp [PyData.hasDictAll, PyData.hasDict, ints_dict ns]
theorem ints_depth : ∀ ns : List Int, PyData.depthAll (ns.map PyData.int) = 0
  | [] => rfl
  | n :: ns => by simp [PyData.depthAll, PyData.depth, ints_depth ns]
theorem ints_cost : ∀ ns : List Int, costA (ns.map PyData.int) = 2002 * ns.length + 3
  | [] => rfl
  | n :: ns => by simp only [List.map_cons, costA, cost, ints_cost ns, List.length_cons]; omega
theorem repr_tup {ns : List Int} (h : ∀ n ∈ ns, n.natAbs < 2 ^ 1000) (hl : ns.length ≤ 8000) : repr? (.tuple (ns.map PyData.int)) = some (.str (PyData.shown (.tuple (ns.map PyData.int)))) := by
  show (if reprOk (.tuple (ns.map PyData.int)) = true then some (PyData.str (PyData.shown (.tuple (ns.map PyData.int)))) else none) = _
  rw [if_pos]
  refine reprOk_of (ints_show ns h) (ints_dict ns) ?_ ?_
  · show PyData.depthAll (ns.map PyData.int) + 1 ≤ 60
    rw [ints_depth]; decide
  · show costA (ns.map PyData.int) ≤ 16777216
    rw [ints_cost]; omega
theorem repr_lst {ns : List Int} (h : ∀ n ∈ ns, n.natAbs < 2 ^ 1000) (hl : ns.length ≤ 8000) : repr? (.list (ns.map PyData.int)) = some (.str (PyData.shown (.list (ns.map PyData.int)))) := by
  show (if reprOk (.list (ns.map PyData.int)) = true then some (PyData.str (PyData.shown (.list (ns.map PyData.int)))) else none) = _
  rw [if_pos]
  refine reprOk_of (ints_show ns h) (ints_dict ns) ?_ ?_
  · show PyData.depthAll (ns.map PyData.int) + 1 ≤ 60
    rw [ints_depth]; decide
  · show costA (ns.map PyData.int) ≤ 16777216
    rw [ints_cost]; omega
end PL

end
section
/-! PLW: while, with a measure. -/
namespace PL
open PySem PySem.Spec L2
theorem ts_while {k : M Bool} {body : SM} {P : PS} (I : Nat → Env → Prop) {n : Nat} {ρ : Env} (h0 : I n ρ)
    (hs : ∀ (n : Nat) (r : Env), I n r → Tr k r (fun b r' => if b = true then Ts body r' { P with nx := fun r2 => ∃ n', n' < n ∧ I n' r2, ct := fun r2 => ∃ n', n' < n ∧ I n' r2, bk := P.nx } else P.nx r') P.ex) :
    Ts (mwhile k body) ρ P := by
  have go : ∀ (n : Nat) (ρ : Env), I n ρ → ∃ j, whileN k body j ρ ≠ .bad ∧ TsO (whileN k body j ρ) P := by
    intro n
    induction n using Nat.strongRecOn with
    | _ n ih =>
      intro ρ hI
      have h := hs n ρ hI
      unfold Tr at h
      cases ek : k ρ with
      | ok b r' =>
        rw [ek] at h
        dsimp only at h
        cases b with
        | false =>
          rw [if_neg (by simp)] at h
          refine ⟨1, ?_⟩
          unfold whileN
          rw [ek]
          exact ⟨by simp, h⟩
        | true =>
          rw [if_pos rfl] at h
          unfold Ts at h
          cases eb : body r' with
          | nx r2 =>
            rw [eb] at h
            obtain ⟨n', hn, hI'⟩ := h
            obtain ⟨j, h1, h2⟩ := ih n' hn r2 hI'
            refine ⟨j + 1, ?_⟩
            unfold whileN
            rw [ek]
            simp only [if_true, eb]
            exact ⟨h1, h2⟩
          | ct r2 =>
            rw [eb] at h
            obtain ⟨n', hn, hI'⟩ := h
            obtain ⟨j, h1, h2⟩ := ih n' hn r2 hI'
            refine ⟨j + 1, ?_⟩
            unfold whileN
            rw [ek]
            simp only [if_true, eb]
            exact ⟨h1, h2⟩
          | bk r2 =>
            rw [eb] at h
            refine ⟨1, ?_⟩
            unfold whileN
            rw [ek]
            simp only [if_true, eb]
            exact ⟨by simp, h⟩
          | rt v r2 =>
            rw [eb] at h
            refine ⟨1, ?_⟩
            unfold whileN
            rw [ek]
            simp only [if_true, eb]
            exact ⟨by simp, h⟩
          | exc x r2 =>
            rw [eb] at h
            refine ⟨1, ?_⟩
            unfold whileN
            rw [ek]
            simp only [if_true, eb]
            exact ⟨by simp, h⟩
          | bad => rw [eb] at h; exact h.elim
      | exc x r' =>
        rw [ek] at h
        refine ⟨1, ?_⟩
        unfold whileN
        rw [ek]
        exact ⟨by simp, h⟩
      | bad => rw [ek] at h; exact h.elim
  obtain ⟨j, h1, h2⟩ := go n ρ h0
  unfold Ts
  rw [mwhile_eq j h1]
  exact h2
end PL

end
section
/-! PLX: comprehensions and loops over typed items. -/
namespace PL
open PySem PySem.Spec L2
section
variable {α : Type} {ρ : Env} {X : XP} {P : PS}
theorem compL_pureM {asg : Asg} {test : M Bool} {elt : M PyData} {vs : List Nat} {r0 : Env} {D : α → PyData} {g : α → Bool} {f : α → PyData} : ∀ (ds : List α) (acc : List PyData),
    (∀ d ∈ ds, ∃ r1, asg (D d) r0 = some r1 ∧ ∃ r2, test r1 = .ok (g d) r2 ∧ (g d = true → ∃ r3, elt r2 = .ok (f d) r3 ∧ wipeE r3 vs = r0) ∧ (g d = false → wipeE r2 vs = r0)) →
    lenOk (acc.length + ds.length) = true → compL asg test elt vs (ds.map D) r0 acc = .ok (.list (acc ++ (ds.filter g).map f)) r0
  | [], acc, _, _ => by simp [compL]
  | d :: ds, acc, h, hl => by
    obtain ⟨r1, e1, r2, e2, h3, h4⟩ := h d (by simp)
    have hr := fun d' z => h d' (List.mem_cons_of_mem d z)
    rw [List.map_cons]
    unfold compL
    rw [e1]; dsimp only; rw [e2]; dsimp only
    have lo : ∀ {a b : Nat}, lenOk b = true → a ≤ b → lenOk a = true := fun h1 h2 => by
      unfold lenOk at *; simp only [decide_eq_true_eq] at *; omega
    cases hg : g d with
    | true =>
      obtain ⟨r3, e3, w3⟩ := h3 hg
      rw [if_pos rfl, e3]; dsimp only
      rw [if_pos (lo hl (by simp)), w3, compL_pureM ds (acc ++ [f d]) hr (lo hl (by simp; omega))]
      simp [hg]
    | false =>
      rw [if_neg (by simp), h4 hg, compL_pureM ds acc hr (lo hl (by simp))]
      simp [hg]
/-- a comprehension whose parts are pure, over typed items -/
theorem tr_lcM {items : M (List PyData)} {asg : Asg} {test : M Bool} {elt : M PyData} {vs : List Nat} {Q : PyData → Env → Prop} (D : α → PyData) (xs : List α) (g : α → Bool) (f : α → PyData)
    (h : Tr items ρ (fun ds r => ds = xs.map D ∧ (∀ d ∈ xs, ∃ r1, asg (D d) (wipeE r vs) = some r1 ∧ Tr test r1 (fun b r2 => b = g d ∧ if b = true then Tr elt r2 (fun y r3 => y = f d ∧ wipeE r3 vs = wipeE r vs) nox else wipeE r2 vs = wipeE r vs) nox) ∧
      lenOk xs.length = true ∧ Q (.list ((xs.filter g).map f)) (unw r (wipeE r vs) vs)) X) : Tr (mlc items asg test elt vs) ρ Q X := by
  rw [tr_lc]
  refine tr_mono h fun ds r h => ?_
  obtain ⟨rfl, h1, h2, h3⟩ := h
  rw [compL_pureM (g := g) (f := f) xs [] (fun d hd => ?_) (by simpa using h2)]
  · simpa using h3
  · obtain ⟨r1, e1, ht⟩ := h1 d hd
    refine ⟨r1, e1, ?_⟩
    unfold Tr at ht
    cases et : test r1 with
    | ok b r2 =>
      rw [et] at ht
      obtain ⟨hb, ht⟩ := ht
      subst hb
      refine ⟨r2, rfl, fun hg => ?_, fun hg => ?_⟩
      · rw [if_pos hg] at ht
        cases ee : elt r2 with
        | ok y r3 => rw [ee] at ht; exact ⟨r3, by rw [ht.1], ht.2⟩
        | exc x r3 => rw [ee] at ht; exact ht.elim
        | bad => rw [ee] at ht; exact ht.elim
      · rw [if_neg (by rw [hg]; simp)] at ht
        exact ht
    | exc x r2 => rw [et] at ht; exact ht.elim
    | bad => rw [et] at ht; exact ht.elim
/-- .. no test -/
theorem tr_lcA {items : M (List PyData)} {asg : Asg} {elt : M PyData} {vs : List Nat} {Q : PyData → Env → Prop} (D : α → PyData) (xs : List α) (f : α → PyData)
    (h : Tr items ρ (fun ds r => ds = xs.map D ∧ (∀ d ∈ xs, ∃ r1, asg (D d) (wipeE r vs) = some r1 ∧ Tr elt r1 (fun y r3 => y = f d ∧ wipeE r3 vs = wipeE r vs) nox) ∧
      lenOk xs.length = true ∧ Q (.list (xs.map f)) (unw r (wipeE r vs) vs)) X) : Tr (mlc items asg myes elt vs) ρ Q X := by
  refine tr_lcM D xs (fun _ => true) f (tr_mono h fun ds r h => ?_)
  obtain ⟨rfl, h1, h2, h3⟩ := h
  refine ⟨rfl, fun d hd => ?_, h2, by rwa [List.filter_eq_self.mpr (fun _ _ => rfl)]⟩
  obtain ⟨r1, e1, ht⟩ := h1 d hd
  refine ⟨r1, e1, ?_⟩
  rw [tr_yes, if_pos rfl]
  exact ⟨rfl, ht⟩
/-- for over typed items -/
theorem ts_forM {asg : Asg} {body : SM} {ds : List PyData} (D : α → PyData) (xs : List α) (hd : ds = xs.map D) (I : Nat → Env → Prop) (h0 : I 0 ρ)
    (hs : ∀ (i : Nat) (x : α) (r : Env), xs[i]? = some x → I i r → ∃ r1, asg (D x) r = some r1 ∧ Ts body r1 { P with nx := I (i + 1), ct := I (i + 1), bk := P.nx })
    (he : ∀ r, I xs.length r → P.nx r) : Ts (forL asg body ds) ρ P := by
  subst hd
  refine ts_forL I h0 (fun i d r hi h => ?_) (by rw [List.length_map]; exact he)
  rw [List.getElem?_map] at hi
  obtain ⟨x, hx, rfl⟩ := Option.map_eq_some_iff.mp hi
  exact hs i x r hx h
/-- the names of a block within a block -/
def relab (scope sc : Scope) : Scope := { scope with names := scope.names.map fun (n, k) => if (k == .free && sc.kind == .function && sc.names.lookup n == some .cell) then (n, .cell) else (n, k) }
theorem envC_scope {scope : Scope} {cl : List (Str × Addr)} {C : Addr} {env : PySem.Env} : (compEnvC scope cl C env).scope = relab scope env.scope := rfl
theorem cx_scope {CX : CXT} {P : Program} {w : World} {K : PySem.W.Frag} {mg : Str → Option Value} {base : Heap} {N : List Str} {qual : Str} {scope : Scope} {f : Addr} {cd : Value} {A : Around} {outer : List PySem.Env} {s : Shared} {H : Hp} {E : XK} :
    (cxOf CX P w K mg base N qual scope f cd A outer s H E).env.scope = scope := rfl
theorem rangeL_map {lo : Int} {n : Nat} : rangeL lo n = (List.range n).map fun i : Nat => PyData.int (lo + i) := rfl
end
end PL

end
section
/-! PLk: calls with keywords and defaults (values alone). -/
namespace PL
open PySem PySem.Spec L2
open PyProof.Rows hiding St

def pick {α : Type} (π : List Nat) (l : List α) : List α := π.filterMap fun i => l[i]?
theorem pick_n {α : Type} {l : List α} : pick [] l = [] := rfl
theorem pick_vals {vs : List V} {us : List Value} (r : Vals vs us) : ∀ π : List Nat, Vals (pick π vs) (pick π us)
  | [] => .nil
  | i :: π => by
    have ih := pick_vals r π
    unfold pick at *
    rw [List.filterMap_cons, List.filterMap_cons]
    by_cases h : i < vs.length
    · have h2 : i < us.length := by rw [← r.length]; exact h
      obtain ⟨u, hu, ru⟩ := r.get (List.getElem?_eq_getElem h)
      rw [List.getElem?_eq_getElem h, hu]
      exact .cons ru ih
    · have hl := r.length
      have e1 : vs[i]? = none := List.getElem?_eq_none (by omega)
      have e2 : us[i]? = none := List.getElem?_eq_none (by omega)
      rw [e1, e2]
      exact ih
theorem pick_rep {K : PySem.W.Frag} {fz : Addr → Prop} {H : Hp} {vs : List V} {xs : List PyData} (r : RepA K fz H vs xs) : ∀ π : List Nat, RepA K fz H (pick π vs) (pick π xs)
  | [] => .nil
  | i :: π => by
    have ih := pick_rep r π
    unfold pick at *
    rw [List.filterMap_cons, List.filterMap_cons]
    by_cases h : i < xs.length
    · obtain ⟨u, hu, ru⟩ := r.get (List.getElem?_eq_getElem h)
      rw [List.getElem?_eq_getElem h, hu]
      exact .cons ru ih
    · have hl := r.length
      have e1 : vs[i]? = none := List.getElem?_eq_none (by omega)
      have e2 : xs[i]? = none := List.getElem?_eq_none (by omega)
      rw [e1, e2]
      exact ih
/-- how a call binds: n positional values, keywords ks, defaults dvs, put into the parameters' order by π -/
structure BindX (K : PySem.W.Frag) (fd : FuncData) (ps : List Str) (n : Nat) (ks : List Str) (π : List Nat) (dvs : List V) : Prop where
  ex : ∃ ds : List Value, Vals dvs ds ∧ ∀ (s : Shared) (us ws : List Value), K.In s.heap → us.length = n → ws.length = ks.length → BindsTo s fd ⟨us, ks.zip ws⟩ (ps.zip (pick π (us ++ ws ++ ds)))
/-- a def whose defaults are dvs -/
structure FunX (K : PySem.W.Frag) (x qual : Str) (st : Stmt) (f : Addr) (fd : FuncData) (dvs : List V) : Prop where
  ex : ∃ (oc : Value) (od : Option Addr) (dV kV doc pm : Value) (an : Option Addr) (cdv ct : Value) (osl : Array (Option Value)),
    fd = PySem.W.fnOf x qual (defArgs st) (defBody st) (defScope st) dV kV doc pm an cdv ct ∧ K.lookup f = some ⟨oc, od, .func fd, osl⟩ ∧ PySem.W.codeIn K cdv qual = true ∧ DflV K dV dvs
  kp : PySem.W.keepIn K (.ref f) = true
section
variable {K : PySem.W.Frag} {x qual : Str} {st : Stmt} {f : Addr} {fd : FuncData} {ps : List Str} {dvs : List V}
theorem bindX_of {n : Nat} {ks : List Str} {π : List Nat} (h : ∀ us ws : List Value, us.length = n → ws.length = ks.length → bindArgs fd ⟨us, ks.zip ws⟩ = pure (ps.zip (pick π (us ++ ws)))) : BindX K fd ps n ks π [] :=
  ⟨[], .nil, fun s us ws _ h1 h2 => by rw [List.append_nil]; exact .of_eq (h us ws h1 h2)⟩
theorem FunX.bindX (F : FunX K x qual st f fd dvs) (hd : dvs ≠ []) {n : Nat} {ks : List Str} {π : List Nat} (h : ∀ (T : Addr) (kV doc pm : Value) (an : Option Addr) (cdv ct : Value) (us ws its : List Value), us.length = n → ws.length = ks.length → its.length = dvs.length →
      ∃ k, bindArgs (PySem.W.fnOf x qual (defArgs st) (defBody st) (defScope st) (.ref T) kV doc pm an cdv ct) ⟨us, ks.zip ws⟩ = seqItems? (.ref T) >>= k ∧ k (some its.toArray) = pure (ps.zip (pick π (us ++ ws ++ its)))) : BindX K fd ps n ks π dvs := by
  obtain ⟨oc, od, dV, kV, doc, pm, an, cdv, ct, osl, rfl, lk, hcd, hD⟩ := F.ex
  rcases hD with ⟨e, _⟩ | ⟨_, T, o, its, m, rfl, lT, oT, rT⟩
  · exact absurd e hd
  · refine ⟨its, rT, fun s us ws X l1 l2 => ?_⟩
    obtain ⟨k, e1, e2⟩ := h T kV doc pm an cdv ct us ws its l1 l2 rT.length.symm
    refine BindsTo.of_looks fun M => ?_
    rw [e1]
    exact looks_items X lT oT (.of_pure e2)
/-- all are given -/
theorem FunX.bindA (F : FunX K x qual st f fd dvs) {n : Nat} {ks : List Str} {π : List Nat} (h : ∀ (dV kV doc pm : Value) (an : Option Addr) (cdv ct : Value) (us ws : List Value), us.length = n → ws.length = ks.length →
      bindArgs (PySem.W.fnOf x qual (defArgs st) (defBody st) (defScope st) dV kV doc pm an cdv ct) ⟨us, ks.zip ws⟩ = pure (ps.zip (pick π (us ++ ws)))) : BindX K fd ps n ks π [] := by
  obtain ⟨oc, od, dV, kV, doc, pm, an, cdv, ct, osl, rfl, lk, hcd, hD⟩ := F.ex
  exact bindX_of (h dV kV doc pm an cdv ct)
theorem funX_mk {oc : Value} {od an : Option Addr} {osl slT : Array (Option Value)} {dcT : Value} {ddT : Option Addr} {T : Addr} {nT : Nat} {its : Array Value} {kV doc pm cdv ct : Value} (l : K.lookup f = some ⟨oc, od, .func (PySem.W.fnOf x qual (defArgs st) (defBody st) (defScope st) (.ref T) kV doc pm an cdv ct), osl⟩)
    (c : PySem.W.codeIn K cdv qual = true) (k : PySem.W.keepIn K (.ref f) = true) (lT : K.lookup T = some ⟨dcT, ddT, .seq its nT, slT⟩) (hd : dvs ≠ []) (hv : Vals dvs its.toList) :
    FunX K x qual st f (PySem.W.fnOf x qual (defArgs st) (defBody st) (defScope st) (.ref T) kV doc pm an cdv ct) dvs :=
  ⟨⟨oc, od, _, kV, doc, pm, an, cdv, ct, osl, rfl, l, c, .inr ⟨hd, T, _, its.toList, nT, rfl, lT, by simp, hv⟩⟩, k⟩
end
section
variable {P : Program} {w : World} {K : PySem.W.Frag} {mg : Str → Option Value} {base : Heap}
/-- from the body's walk; the def's own data as they stand -/
theorem fnG_raw {qual : Str} {st : Stmt} {f : Addr} {fd : FuncData} {N ps : List Str} {k : Nat} {sp : Sp} {x : Str} {oc : Value} {od an : Option Addr} {osl : Array (Option Value)} {dV kV doc pm cdv ct : Value}
    (efd : fd = PySem.W.fnOf x qual (defArgs st) (defBody st) (defScope st) dV kV doc pm an cdv ct) (lk : K.lookup f = some ⟨oc, od, .func fd, osl⟩) (hcd : PySem.W.codeIn K cdv qual = true)
    (S : FnScope N ps (defScope st)) (size : ∀ vs H Q E, sp vs H Q E → vs.length = ps.length)
    (walk : ∀ (cdv : Value) (A : Around) (stk : List PySem.Env) (s : Shared) (H : Hp) (vs : List V) (Q : VK) (E : XK), Room k (A.deeper (envOfC qual (defScope st) s.heap.objs.size f cdv)) → (A.deeper (envOfC qual (defScope st) s.heap.objs.size f cdv)).guards = some [] → sp vs H Q E →
      ∃ t, PSs (cxOf (L2.CX P w) P w K mg base N qual (defScope st) f cdv A stk s H E) (defBody st) t ∧ t { nx := fun _ H' => Q .non H', rt := Q } (L2.start N vs) H) : FnG P w K mg base (k + 1) f fd ps sp := by
  subst efd
  refine ⟨size, fun A stk s H args us vs Q E hr hg e0 hb r hsp => ?_⟩
  have kept : ∀ (b : Addr) (o : Obj), base.get? b = some o → s.heap.get? b = some o := fun b o q => (e0.bs b o q).1
  have inK := e0.mod.kin.keeps kept
  have noL := e0.mod.nolimit.keeps kept
  have pars : ∀ y ∈ ps.zip us, (defScope st).names.lookup y.1 = some .local ∨ ((defScope st).names.lookup y.1 = some .cell ∧ ((cellsFrom (s.heap.objs.size + 1) (defScope st).names []).lookup y.1).isSome = true) := by
    rintro ⟨n, v⟩ hy
    rcases S.par n (List.of_mem_zip hy).1 with q | q
    · exact Or.inl q
    · exact Or.inr ⟨q, PySem.W.cellsFrom_some _ _ _ (Or.inl q)⟩
  refine codeAny_call_function hr.depth (inK _ _ lk) rfl S.co S.gen rfl (PySem.W.codeRec_of inK hcd) (hb _ _ _ _ (wpAny_newFunctionEnv_cells S.kind pars ?_))
  rintro env rfl s1 x
  refine ⟨noL.keeps x.toInCall.keep, codeAny_func ?_⟩
  obtain ⟨t, ht, hq⟩ := walk cdv A stk s H vs Q E (hr.deeper _) hg hsp
  have I0 := inv_start (CX := L2.CX P w) (E := E) (f := f) (cd := cdv) (qual := qual) S hr.hd e0 (size _ _ _ _ hsp) r x
  refine wpAny_mono (ht.run [] s1 (L2.start N vs) H _ I0 hq) (fun fl s' hs => ?_) fun e s' hs => hs
  have leave : ∀ (σ' : L2.St) (H' : Hp) (v : V) (u : Value), Inv (cxOf (L2.CX P w) P w K mg base N qual (defScope st) f cdv A stk s H E) [] σ' H' s' → RelV v u → Q v H' → CE stk P w H s Q u s' :=
    fun _ H' v _ J rv q => ⟨v, H', J.os, J.bare, J.base, J.hok, rv, q⟩
  cases fl with
  | ret u => obtain ⟨v, σ', H', J, rv, q⟩ := hs; exact leave σ' H' v u J rv q
  | next => obtain ⟨σ', H', J, q⟩ := hs; exact leave σ' H' .non .none J rfl q
  | brk => obtain ⟨_, _, _, q⟩ := hs; exact q.elim
  | cont => obtain ⟨_, _, _, q⟩ := hs; exact q.elim
/-- a def with defaults that is a pure function -/
theorem fn_pureX {RX : RXT} {ks : List PKd} {m : SM} {x qual : Str} {st : Stmt} {f : Addr} {fd : FuncData} {dvs : List V} {N ps : List Str} {k : Nat} (F : FunX K x qual st f fd dvs) (S : FnScope N ps (defScope st)) (hk : ks.length = ps.length) (hN : ks.length ≤ N.length)
    (hbody : ∀ (cdv : Value) (A : Around) (outer : List PySem.Env) (s : Shared) (H : Hp) (E : XK), Room k (A.deeper (envOfC qual (defScope st) s.heap.objs.size f cdv)) → (A.deeper (envOfC qual (defScope st) s.heap.objs.size f cdv)).guards = some [] →
      ∃ t, PSs (cxOf (L2.CX P w) P w K mg base N qual (defScope st) f cdv A outer s H E) (defBody st) t ∧ RfS (cwOf K RX ks E) t m) : FnG P w K mg base (k + 1) f fd ps (spF K RX ks (bodyF N.length ks m)) := by
  obtain ⟨oc, od, dV, kV, doc, pm, an, cdv, ct, osl, e, lk, hcd, _⟩ := F.ex
  exact fnG_raw e lk hcd S (fun vs H Q E h => by obtain ⟨pr, fz, xs, ha, _⟩ := h; rw [ha.len, hk]) (pure_walk hk hN hbody)
end
section
variable {X : Cx} {k n : Nat} {f : Addr} {fd : FuncData} {ps ks : List Str} {sp : Sp} {dvs : List V} {π : List Nat} {W : WX} {x : Str} {p pos : Pos} {e : Expr} {es : List Expr} {kws : List Keyword} {t tk : TA}
def tCallX (n m : Nat) (sp : Sp) (π : List Nat) (dvs : List V) (E : L2.St → XK) (t tk : TA) : TE := fun σ H Q => t σ H fun vs H1 => tk σ H1 fun zs H2 => vs.length = n ∧ zs.length = m ∧ sp (pick π (vs ++ zs ++ dvs)) H2 Q (E σ)
theorem fnG_callX {pins : List (Addr × Obj)} {σ : L2.St} {H : Hp} {s : Shared} {Q : VK} {us ws : List Value} {vs zs : List V} (F : FnG X.prog X.w X.K X.mg X.base k f fd ps sp) (hr : Room k X.A) (hg : X.A.guards = some []) (hb : BindX X.K fd ps n ks π dvs) (tk : Takes X W)
    (I : Inv X pins σ H s) (r : Vals vs us) (rz : Vals zs ws) (l1 : vs.length = n) (l2 : zs.length = ks.length) (h : sp (pick π (vs ++ zs ++ dvs)) H Q (WE W σ)) : wpAny (model X.prog X.w) X.A (call (.ref f) us (ks.zip ws)) (EP X pins σ Q) X.xe s := by
  obtain ⟨ds, hd, hb⟩ := hb.ex
  have both := pick_vals ((r.append rz).append hd) π
  refine wpAny_call (codeAny_mono (F.go X.A X.stack s H ⟨us, ks.zip ws⟩ _ _ Q (WE W σ) hr hg I.env0 (hb s us ws I.kIn (r.length.symm.trans l1) (rz.length.symm.trans l2)) both h) ?_)
  rintro (err | fl) s' q
  · exact passAt tk σ pins H s err s' I q
  · cases fl <;> first | exact I.after q | exact False.elim q
/-- f(e, ..), defaults fill up -/
theorem pe_callX (F : FnG X.prog X.w X.K X.mg X.base k f fd ps sp) (hr : Room k X.A) (hg : X.A.guards = some []) (gl : Gl X x) (hm : X.mg x = some (.ref f)) (hk : PySem.W.keepIn X.K (.ref f) = true) (hb : BindX X.K fd ps n [] π dvs) (tk : Takes X W)
    (ha : PA X (e :: es) t) (hdb : (x == ("__debug__" : Str)) = false := by decide) (he : starEach (e :: es) X.env = (false, eval e X.env) :: starEach es X.env := by rfl) (hpl : (backTo pos (starEach es X.env)).any (·.1) = false := by rfl) :
    PE X (.Call (.Name x p) (e :: es) [] pos) (tCallX n 0 sp π dvs (fun σ => WE W σ) t tNil) :=
  ⟨fun pins s σ H Q I h => wpAny_Call_Name_kw (ld_glob I gl hm (PySem.W.callWith_K (h₀ := X.base) I.ok.mod.kin hk
    (thn (ha.run pos pins s σ H _ I h) fun us s1 ⟨vs, H1, I1, r, q⟩ => ⟨I1.kIn, fnG_callX F hr hg hb tk I1 r .nil q.1 q.2.1 q.2.2⟩) he hpl) hdb)⟩
/-- f(e, .., k = v, ..) -/
theorem pe_callXK (F : FnG X.prog X.w X.K X.mg X.base k f fd ps sp) (hr : Room k X.A) (hg : X.A.guards = some []) (gl : Gl X x) (hm : X.mg x = some (.ref f)) (hk : PySem.W.keepIn X.K (.ref f) = true) (hb : BindX X.K fd ps n ks π dvs) (tk0 : Takes X W)
    (ha : PA X (e :: es) t) (hkw : PK X kws tk) (hall : (backToKw pos (keywordEach kws X.env)).all (·.1.isSome) = true := by rfl) (hks : (backToKw pos (keywordEach kws X.env)).filterMap (·.1) = ks := by rfl)
    (hdb : (x == ("__debug__" : Str)) = false := by decide) (he : starEach (e :: es) X.env = (false, eval e X.env) :: starEach es X.env := by rfl)
    (hpl : ((backTo pos (starEach (e :: es) X.env)).any (·.1) || (backToKw pos (keywordEach kws X.env)).any (·.1.isNone)) = false := by rfl) :
    PE X (.Call (.Name x p) (e :: es) kws pos) (tCallX n ks.length sp π dvs (fun σ => WE W σ) t tk) := by
  refine ⟨fun pins s σ H Q I h => ?_⟩
  refine wpAny_Call_Name_kw (ld_glob I gl hm ?_ hdb)
  refine PySem.W.callWith_KW (h₀ := X.base) I.ok.mod.kin hk hall (thn (ha.run pos pins s σ H _ I h) fun us s1 ⟨vs, H1, I1, r, q⟩ => ?_) hpl he
  refine thn (hkw.run pos pins s1 σ H1 _ I1 q) fun ws s2 ⟨zs, H2, I2, rz, q2⟩ => ⟨I2.kIn, ?_⟩
  rw [hks]
  exact fnG_callX F hr hg hb tk0 I2 r rz q2.1 q2.2.1 q2.2.2
/-- f(k = v, ..) -/
theorem pe_callX0 (F : FnG X.prog X.w X.K X.mg X.base k f fd ps sp) (hr : Room k X.A) (hg : X.A.guards = some []) (gl : Gl X x) (hm : X.mg x = some (.ref f)) (hk : PySem.W.keepIn X.K (.ref f) = true) (hb : BindX X.K fd ps 0 ks π dvs) (tk0 : Takes X W)
    (hkw : PK X kws tk) (hall : (backToKw pos (keywordEach kws X.env)).all (·.1.isSome) = true := by rfl) (hks : (backToKw pos (keywordEach kws X.env)).filterMap (·.1) = ks := by rfl)
    (hdb : (x == ("__debug__" : Str)) = false := by decide)
    (hpl : ((backTo pos (starEach [] X.env)).any (·.1) || (backToKw pos (keywordEach kws X.env)).any (·.1.isNone)) = false := by rfl) :
    PE X (.Call (.Name x p) [] kws pos) (tCallX 0 ks.length sp π dvs (fun σ => WE W σ) tNil tk) := by
  refine ⟨fun pins s σ H Q I h => ?_⟩
  refine wpAny_Call_Name_kw (ld_glob I gl hm ?_ hdb)
  refine PySem.W.callWith_KW0 (h₀ := X.base) I.ok.mod.kin hk hall (thn (hkw.run pos pins s σ H _ I h) fun ws s2 ⟨zs, H2, I2, rz, q2⟩ => ⟨I2.kIn, ?_⟩) hpl
  rw [hks]
  exact fnG_callX F (us := []) hr hg hb tk0 I2 .nil rz q2.1 q2.2.1 q2.2.2
end
/-! ### as pure functions -/
def evV : List (M PyData) → M (List PyData)
  | [] => fun ρ => .ok [] ρ
  | m :: as => bnd m fun x => bnd (evV as) fun xs ρ => .ok (x :: xs) ρ
def mcallX (n m N : Nat) (f : List PyData → FOut) (as bs : List (M PyData)) (π : List Nat) (ds : List PyData) : M Rt := bnd (evV as) fun xs => bnd (evV bs) fun ys ρ =>
  if (decide (xs.length = n) && decide (ys.length = m) && decide ((pick π (xs ++ ys ++ ds)).length = N)) = true then (match f (pick π (xs ++ ys ++ ds)) with
  | .ok r _ => .ok r ρ
  | .exc e _ => .exc e ρ
  | .bad => .bad) else .bad
section
variable {c : Cw} {pp : List (Nat × Addr)} {pr fz : Addr → Prop} {σ : L2.St} {H : Hp} {ρ : Env}
theorem rf_vnil : Rf c (RVs c.K) tNil (evV []) := fun pp pr fz σ H ρ Q hp R hq => ok_post hq R (show RepA c.K fz H [] [] from .nil)
theorem rf_vcons {te : TE} {tr : TA} {m : M PyData} {as : List (M PyData)} (ha : Rf c (RV c.K) te m) (hr : Rf c (RVs c.K) tr (evV as)) : Rf c (RVs c.K) (tCons te tr) (evV (m :: as)) := by
  intro pp pr fz σ H ρ Q hp R hq
  refine ha pp pr fz σ H ρ _ hp R (PostG.bnd (f := fun x => bnd (evV as) fun xs ρ => .ok (x :: xs) ρ) hq fun v x fz1 H1 ρ1 F1 R1 r1 P1 => ?_)
  refine hr pp pr fz1 σ H1 ρ1 _ hp R1 (P1.bnd fun w y fz2 H2 ρ2 F2 R2 r2 P2 => ?_)
  exact ok_post P2 R2 (show RepA c.K fz2 H2 (v :: w) (x :: y) from .cons (Rep.ext F2.ext r1) r2)
theorem argsV_all {K : PySem.W.Frag} {pr fz : Addr → Prop} {H : Hp} : ∀ {ks : List PKd} {vs : List V} {xs : List PyData}, (∀ k ∈ ks, k = .v) → ks.length = xs.length → RepA K fz H vs xs → ArgsR K pr fz H ks vs xs ∧ ArgSep K fz H ks vs xs
  | [], _, _, _, _, .nil => ⟨trivial, trivial⟩
  | k :: ks, v :: vs, x :: xs, h, l, .cons r t => by
    obtain rfl := h k List.mem_cons_self
    obtain ⟨a, b⟩ := argsV_all (pr := pr) (fun j hj => h j (List.mem_cons_of_mem _ hj)) (by simpa using l) t
    exact ⟨⟨r, a⟩, b⟩
  | _ :: _, _, _, _, l, .nil => by simp at l
theorem rf_callX {as bs : List (M PyData)} {n m N : Nat} {f : List PyData → FOut} {π : List Nat} {dvs : List V} {ds : List PyData} {ta tb : TA} {ks : List PKd} (hks : ∀ k ∈ ks, k = .v)
    (hl : ks.length = N) (hd : ∀ fz H, RepA c.K fz H dvs ds) (ha : Rf c (RVs c.K) ta (evV as)) (hb : Rf c (RVs c.K) tb (evV bs)) :
    Rf c (RRt c.K) (tCallX n m (spF c.K c.RX ks f) π dvs (fun σ => WE c.W σ) ta tb) (mcallX n m N f as bs π ds) := by
  intro pp pr fz σ H ρ Q hp R hq
  refine ha pp pr fz σ H ρ _ hp R (PostG.bnd hq fun vs xs fz1 H1 ρ1 F1 R1 r1 P1 => ?_)
  refine hb pp pr fz1 σ H1 ρ1 _ hp R1 (P1.bnd fun zs ys fz2 H2 ρ2 F2 R2 r2 P2 => ?_)
  have r1 : RepA c.K fz2 H2 vs xs := RepA.ext F2.ext r1
  have r2 : RepA c.K fz2 H2 zs ys := r2
  split at P2
  · rename_i hc
    simp only [Bool.and_eq_true, decide_eq_true_eq] at hc
    obtain ⟨⟨h1, h2⟩, h3⟩ := hc
    have rr := pick_rep ((r1.append r2).append (hd fz2 H2)) π
    refine ⟨by rw [r1.length, h1], by rw [r2.length, h2], ?_⟩
    generalize pick π (xs ++ ys ++ ds) = us at *
    obtain ⟨a1, a2⟩ := argsV_all (pr := prC c.K pr fz2 H2 σ ρ2 []) hks (by rw [hl, h3]) rr
    have hA : ArgsV c.K σ fz2 H2 [] [] [] := trivial
    refine ⟨prC c.K pr fz2 H2 σ ρ2 [], fz2, us, a1, a2, R2.fzH, R2.prC_some, ?_⟩
    · cases ef : f us with
      | bad => rw [ef] at P2; exact P2.elim
      | ok r outs =>
        rw [ef] at P2
        intro v fz3 H3 F3 hf3 ho hr
        obtain ⟨F4, R4, free⟩ := R2.back2 (outs := []) hA (by exact .nil) (fun i hi => by cases hi) F3 hf3 trivial
        refine P2 v fz3 H3 F4 R4 ?_
        cases r with
        | v d => exact hr
        | o d =>
          obtain ⟨a, F, rfl, oc, n⟩ := hr
          exact ⟨a, F, rfl, oc, fun b hb => ⟨(n b hb).1, fun z => (n b hb).2.1 (.inl z), free b (n b hb).2.1 (by simp [InO])⟩⟩
      | exc x outs =>
        rw [ef] at P2
        intro cls dx fz3 H3 F3 hf3 ho hr
        obtain ⟨F4, R4, _⟩ := R2.back2 (outs := []) hA (by exact .nil) (fun i hi => by cases hi) F3 hf3 trivial
        exact P2 cls dx fz3 H3 F4 R4 hr
  · exact P2.elim
end
/-! ### weakest preconditions -/
section
variable {ρ : Env} {X : XP}
theorem pick_c {α : Type} {i : Nat} {π : List Nat} {l : List α} : pick (i :: π) l = (l[i]?).toList ++ pick π l := by
  unfold pick
  rw [List.filterMap_cons]
  cases l[i]? <;> rfl
theorem tr_vnil {Q : List PyData → Env → Prop} : Tr (evV []) ρ Q X = Q [] ρ := rfl
theorem tr_vcons {m : M PyData} {as : List (M PyData)} {Q : List PyData → Env → Prop} : Tr (evV (m :: as)) ρ Q X = Tr m ρ (fun x r => Tr (evV as) r (fun xs r => Q (x :: xs) r) X) X := by
  simp only [evV, tr_bnd]; rfl
theorem tr_callX {n m N : Nat} {f : List PyData → FOut} {as bs : List (M PyData)} {π : List Nat} {ds : List PyData} {Q : Rt → Env → Prop} :
    Tr (mcallX n m N f as bs π ds) ρ Q X = Tr (evV as) ρ (fun xs r => Tr (evV bs) r (fun ys r => (xs.length = n ∧ ys.length = m ∧ (pick π (xs ++ ys ++ ds)).length = N) ∧ TrF (f (pick π (xs ++ ys ++ ds))) (fun rt _ => Q rt r) (fun e _ => X e r)) X) X := by
  unfold mcallX
  simp only [tr_bnd]
  congr 1; funext xs r
  congr 1; funext ys r
  unfold Tr
  dsimp only
  by_cases h : xs.length = n ∧ ys.length = m ∧ (pick π (xs ++ ys ++ ds)).length = N
  · rw [if_pos (by simp only [Bool.and_eq_true, decide_eq_true_eq]; exact ⟨⟨h.1, h.2.1⟩, h.2.2⟩)]
    unfold TrF
    cases f (pick π (xs ++ ys ++ ds)) <;> simp only [h, true_and, and_self]
  · rw [if_neg (by simp only [Bool.and_eq_true, decide_eq_true_eq]; exact fun z => h ⟨z.1.1, z.1.2, z.2⟩)]
    simp only [eq_iff_iff, false_iff]
    exact fun z => h z.1
end
end PL

end
section
/-! PLv: isinstance, x[::-1], written dicts as values, statements that are never reached. -/
namespace PL
open PySem PySem.Spec L2
open PyProof.Rows hiding St

/-! ### isinstance -/
def tyName : PyData → String
  | .none => "NoneType" | .bool _ => "bool" | .int _ => "int" | .str _ => "str" | .list _ => "list" | .tuple _ => "tuple" | .dict _ => "dict"
def isiB (t T : String) : Bool := t == T || (t == "bool" && T == "int")
def isi? (T : String) (d : PyData) : Option PyData := some (.bool (isiB (tyName d) T))
theorem kitB_all : ∀ t ∈ ["NoneType", "bool", "int", "str", "list", "tuple", "dict"], ∀ T ∈ ["int", "bool", "str", "list", "tuple", "dict"], kitB t T = some (isiB t T) := by decide +kernel
theorem tyName_mem (d : PyData) : tyName d ∈ ["NoneType", "bool", "int", "str", "list", "tuple", "dict"] := by cases d <;> simp [tyName]
section
variable {K : PySem.W.Frag} {fz : Addr → Prop} {H : Hp}
theorem tyX_of {v : V} {x : PyData} (h : RepP K fz H v x) : TyX K H v (.type (tyName x)) := by
  cases x with
  | none => rw [h.non]; exact .base .non
  | bool b => rw [h.bl]; exact .base (.bl b)
  | int i => rw [h.int]; exact .base (.int i)
  | str i => rw [h.str]; exact .base (.str i)
  | list ds => obtain ⟨a, vs, rfl, e, _⟩ := h.lst; exact .base (.lst e)
  | tuple ds =>
    obtain ⟨a, vs, rfl, e, _⟩ := h.tup
    rcases e with (e | ⟨o, e⟩) | ⟨o, its, n, e, c, _⟩
    · exact .base (.tup e)
    · exact .fTuple e
    · exact .kTuple e c
  | dict ds =>
    rcases h with h | ⟨a, rfl, _, z⟩
    · cases h with
      | dic h e r => exact .base (.dK e)
    · obtain ⟨kvs, e, _⟩ := z
      exact .base (.dK e)
end
section
variable {c : Cw} {pp : List (Nat × Addr)} {pr fz : Addr → Prop} {σ : L2.St} {H : Hp} {ρ : Env} {te : TE} {m : M PyData}
theorem isi_rule {T : String} (hT : T ∈ ["int", "bool", "str", "list", "tuple", "dict"]) {v : V} {x : PyData} {Q : VK} (h : RepP c.K fz H v x) (q : Q (.bl (isiB (tyName x) T)) H) : rIsi c.K [v, .ty T] H Q :=
  ⟨v, .ty T, _, _, _, rfl, .ty T, tyX_of h, kit_ty (kitB_all _ (tyName_mem x) T hT), q⟩
theorem rf_isi {T : String} (hT : T ∈ ["int", "bool", "str", "list", "tuple", "dict"]) (h : Rf c (RV c.K) te m) : Rf c (RV c.K) (tCB (rIsi c.K) (tCons te (tCons (tC (.ty T)) tNil))) (mc1 (isi? T) m) := by
  intro pp pr fz σ H ρ Q hp R hq
  refine h pp pr fz σ H ρ _ hp R (hq.bnd fun v x fz1 H1 ρ1 F1 R1 r1 P1 => ?_)
  exact isi_rule hT (.inl r1) (P1 _ fz1 H1 Fr.refl R1 (Rep.bl _))
theorem rf_isip {T : String} {i : Nat} (hT : T ∈ ["int", "bool", "str", "list", "tuple", "dict"]) : Rf c (RV c.K) (tCB (rIsi c.K) (tCons (tVar i) (tCons (tC (.ty T)) tNil))) (mc1p (isi? T) i) := by
  intro pp pr fz σ H ρ Q hp R hq
  unfold mc1p at hq
  cases e : peek i ρ with
  | none => rw [e] at hq; exact hq.elim
  | some x =>
    simp only [e] at hq
    obtain ⟨v, hv, rv⟩ := R.peek e
    exact ⟨v, hv, isi_rule hT rv (hq _ fz H Fr.refl R (Rep.bl _))⟩
/-! ### never -/
def mnever : SM := fun _ => .bad
theorem rs_never : RfS c tNever mnever := fun _ _ _ _ _ _ _ _ _ hq => hq.elim
/-! ### dicts written as values -/
def mdict0 : M PyData := fun ρ => .ok (.dict []) ρ
theorem rf_dict0 : Rf c (RO c.K) tDNewK mdict0 := fun pp pr fz σ H ρ Q hp R hq p hn => ro_new (z := .dict []) R hn (fun a n => upd_ne n) ⟨[], upd_same, .nil⟩ hq
def mdict1 (k : Str) (m : M PyData) : M PyData := bnd m fun d ρ => .ok (.dict [(.str k, d)]) ρ
theorem rf_dict1 {k : Str} (h : Rf c (RV c.K) te m) : Rf c (RO c.K) (tDisp [(tC (.str k), te)]) (mdict1 k m) := by
  intro pp pr fz σ H ρ Q hp R hq D hD
  have nD : ¬ fz D := fun z => R.fzH D z hD
  have npD : ¬ pr D := fun z => R.prH D z hD
  have ns := R.free_new hD
  have Ro := R.other2 (o := .dK []) nD ns
  have R1 : Rel c.K pp (fun a => pr a ∨ a = D) fz σ (upd H D (.dK [])) ρ := Ro.1.wide (by rw [upd_same]; simp) fun i F g => ns i F (Ro.2 i F g)
  have F0 : Fr pr fz H fz (upd H D (.dK [])) := ⟨fun _ z => z, fun a z => upd_ne fun q => nD (q ▸ z), fun a z => upd_ne fun q => npD (q ▸ z), fun _ _ z => z⟩
  refine h pp (fun a => pr a ∨ a = D) fz σ (upd H D (.dK [])) ρ _ hp R1 ?_
  unfold mdict1 PL.bnd at hq
  cases e : m ρ with
  | bad => rw [e] at hq; exact hq.elim
  | exc x r =>
    rw [e] at hq
    intro cls dx fz' H' F R2 rx
    have F2 := F.narrow (pr := pr) fun a z => .inl z
    exact hq cls dx fz' H' (F0.trans F2) (R2.narrow fun a z => .inl z) rx
  | ok d r =>
    rw [e] at hq
    intro v fz' H' F R2 rv
    have F2 := F.narrow (pr := pr) fun a z => .inl z
    have R3 : Rel c.K pp pr fz' σ H' r := R2.narrow fun a z => .inl z
    have e1 : H' D = some (.dK []) := (F.keepP D (.inr rfl)).trans upd_same
    have nf : ¬ fz' D := fun z => nD (F.new D (.inr rfl) z)
    have nown : Free c.K fz' H' σ r D := R2.free_pr (.inr rfl)
    have Rx := R3.other2 (o := .dK [(.inr k, v)]) nf nown
    refine ⟨e1, [(.inr k, v)], rfl, by simp, ?_⟩
    have F3 : Fr pr fz' H' fz' (upd H' D (.dK [(.inr k, v)])) := ⟨fun _ z => z, fun a z => upd_ne fun q => nf (q ▸ z), fun a z => upd_ne fun q => npD (q ▸ z), fun _ _ z => z⟩
    refine hq (.ref D) fz' _ ((F0.trans F2).trans F3) Rx.1 ⟨D, rfl, nf, npD, fun i F g => nown i F (Rx.2 i F g), [(.inr k, v)], upd_same, ?_⟩
    exact .cons (Rep.ext ⟨fun _ z => z, fun a z => upd_ne fun q => nf (by rw [← q]; exact z)⟩ rv) .nil
end

/-! ### x[::-1] -/
def rev? : PyData → Option PyData
  | .list ds => some (.list ds.reverse)
  | .tuple ds => some (.tuple ds.reverse)
  | _ => none
section
variable {prog : Program} {w : World} {A : Around} {E : Value → Shared → Prop} {s : Shared}
theorem sliceApplied_rev {sl : Addr} {vs : Value} {n : Nat} {Q : Int × Int × Nat → Shared → Prop} (hs : s.heap.IsSliceOf sl .none .none vs) (ps : IsPart vs (some (-1)))
    (h : Q ((n : Int) - 1, -1, n) s) : wpAny (model prog w) A (Builtin.Slice.sliceApplied (.ref sl) (pure (n : Int))) Q E s := by
  obtain ⟨os, hos, hcs, hds⟩ := id hs
  unfold Builtin.Slice.sliceApplied Builtin.Slice.sliceFields
  refine wpAny_bind (wpAny_bind (wpAny_field hos hds (x := .none) rfl (wpAny_bind (wpAny_field hos hds (x := .none) rfl (wpAny_bind (wpAny_field hos hds (x := vs) rfl (wpAny_pure ?_)))))))
  refine wpAny_bind (HT.slicePart_ ps ?_)
  show wpAny _ _ (if ((-1 : Int) == 0) = true then _ else _) _ _ s
  rw [if_neg (by decide)]
  refine wpAny_bind (slicePart_none (wpAny_bind (slicePart_none (wpAny_bind (wpAny_pure ?_)))))
  have e : Builtin.Slice.slicePlaces ((n : Int) - 1) (-1) (-1) = n := by
    unfold Builtin.Slice.slicePlaces
    rw [if_neg (by decide)]
    split
    · rw [show (-(-1) : Int) = 1 by decide, Int.ediv_one]; omega
    · omega
  show wpAny _ _ (pure ((n : Int) - 1, (-1 : Int), Builtin.Slice.slicePlaces ((n : Int) - 1) (-1) (-1))) _ _ s
  rw [e]
  exact wpAny_pure h
theorem fm_congr {α β : Type} {f g : α → Option β} : ∀ {l : List α}, (∀ x ∈ l, f x = g x) → l.filterMap f = l.filterMap g
  | [], _ => rfl
  | x :: l, h => by
    rw [List.filterMap_cons, List.filterMap_cons, h x List.mem_cons_self, fm_congr fun y hy => h y (List.mem_cons_of_mem _ hy)]
theorem pick_rev (xs : Array Value) : ((List.range xs.size).filterMap fun (m : Nat) => xs[(((xs.size : Int) - 1) + (m : Int) * (-1)).toNat]?).toArray = xs.toList.reverse.toArray := by
  have h := PySem.W.krv_all xs
  have e : ((List.range xs.size).filterMap fun (m : Nat) => xs[(((xs.size : Int) - 1) + (m : Int) * (-1)).toNat]?) = ((List.range xs.size).map fun k => xs.size - 1 - k).filterMap (xs[·]?) := by
    rw [List.filterMap_map]
    apply fm_congr
    intro m hm
    have hm : m < xs.size := by simpa using hm
    show xs[_]? = xs[xs.size - 1 - m]?
    congr 1
    omega
  rw [e, PySem.W.krv_range, List.filterMap_reverse, h]
theorem getItem_tuple_rev {t sl : Addr} {items : Array Value} {vs : Value} {Q : Value → Shared → Prop} (ht : IsTup s.heap t items) (hs : s.heap.IsSliceOf sl .none .none vs) (ps : IsPart vs (some (-1)))
    (h : Q (.ref s.heap.objs.size) { s with heap := s.heap.push { cls := .type "tuple", data := .seq items.toList.reverse.toArray } })
    (hsz : items.size ≤ sizeLine) : wpAny (model prog w) A (getItem (.ref t) (.ref sl)) Q E s := by
  have htake : sizeOk (.seq items.toList.reverse.toArray) := by
    show items.toList.reverse.toArray.size ≤ sizeLine
    rw [List.size_toArray, List.length_reverse, Array.length_toList]
    exact hsz
  obtain ⟨os, hos, hcs, hds⟩ := id hs
  have hTs : s.TypeIs (.ref sl) "slice" := ⟨os, hos, hcs⟩
  unfold getItem
  try with_reducible refine wpAny_holding ?_
  first | refine wpAny_bind (wpAny_pure ?_) | skip
  refine wpAny_bind (wpAny_sequenceKey ht.typeIs (by decide) ?_)
  refine wpAny_bind (wpAny_callSpecial?_slot (name := Str.ofString "__getitem__") ht.typeIs PyProof.Rows.slot_tuple_getitem
    (wpAny_call_entry PyProof.Rows.slot_tuple_getitem ht.typeIs entry_tuple_getitem ?_ (args_tuple_getitem _ _)))
  show wpAny _ _ (Builtin.Tuple.tupleItemsOf (.ref t) >>= _) _ _ s
  refine wpAny_bind (tupleItemsOf_ ht ?_)
  refine wpAny_bind (wpAny_typeOf hTs ?_)
  rw [if_pos (by decide)]
  refine wpAny_bind (sliceApplied_rev hs ps ?_)
  have hno : ¬ ((((items.size : Int) - 1) == 0 && (-1 : Int) == 1 && items.size == items.size) = true) := by
    intro q
    rw [Bool.and_eq_true, Bool.and_eq_true] at q
    exact absurd q.1.2 (by decide)
  show wpAny _ _ (if (((items.size : Int) - 1) == 0 && (-1 : Int) == 1 && items.size == items.size) = true then _ else _) _ _ s
  rw [if_neg hno, pick_rev]
  first
    | exact wpAny_bind (m := Builtin.Tuple.tupleExact _) (wpAny_newObj_type (wpAny_pure ⟨_, rfl, wpAny_pure h⟩) htake)
    | exact wpAny_bind (m := Builtin.Tuple.tupleExact _) (wpAny_newObj_type (wpAny_bind (wpAny_pure (wpAny_pure ⟨_, rfl, wpAny_pure h⟩))) htake)
    | exact wpAny_bind (wpAny_bind (m := Builtin.Tuple.tupleExact _) (wpAny_newObj_type (wpAny_pure (wpAny_pure ⟨_, rfl, wpAny_pure h⟩)) htake))
    | exact wpAny_bind (wpAny_bind (m := Builtin.Tuple.tupleExact _) (wpAny_newObj_type (wpAny_pure ⟨_, rfl, wpAny_pure h⟩) htake))
end
def tRevU (K : PySem.W.Frag) (te : TE) : TE := fun σ H Q => te σ H fun x H1 => (∃ a xs, x = .ref a ∧ SqL K H1 a xs ∧ ∀ p, H1 p = none → Q (.ref p) (upd H1 p (.lst xs.reverse))) ∨ ∃ a xs, x = .ref a ∧ SqT K H1 a xs ∧ ∀ p, H1 p = none → Q (.ref p) (upd H1 p (.tup xs.reverse))
theorem pe_revU {X : Cx} {e : Expr} {te : TE} {k : Nat} {p1 p2 p3 pos : Pos} (he : PE X e te) : PE X (.Subscript e (.Slice none none (some (.UnaryOp .USub (.Constant (.int 1) k p1) p2)) p3) pos) (tRevU X.K te) := by
  refine ⟨fun pins s σ H Q I h => ?_⟩
  refine Subscript_ (thn (he.run pins s σ H _ I h) fun v s1 ⟨x, H1, I1, r1, q1⟩ => ?_)
  obtain ⟨a, xs, u, ex, hx, q⟩ : ∃ (a : Addr) (xs : List V) (u : Bool), x = .ref a ∧ SqU X.K u H1 a xs ∧ ∀ p, H1 p = none → Q (.ref p) (upd H1 p (if u then .tup xs.reverse else .lst xs.reverse)) := by
    rcases q1 with ⟨a, xs, ex, hx, q⟩ | ⟨a, xs, ex, hx, q⟩
    · exact ⟨a, xs, false, ex, hx, q⟩
    · exact ⟨a, xs, true, ex, hx, q⟩
  subst ex
  cases r1
  have hst : PO X (some (.UnaryOp .USub (.Constant (.int 1) k p1) p2)) (tPart (tUn (rU fun i => .int (-i)) (tC (.int 1)))) := po_some (pe_un un_neg pe_int)
  refine wpAny_Slice (thn (po_none.run pins s1 σ H1 (fun o H2 => o = none ∧ H2 = H1) I1 ⟨rfl, rfl⟩) fun vl s2 ⟨l, H2, I2, pl, el, e2⟩ => ?_)
  subst el e2
  refine thn (po_none.run pins s2 σ H2 (fun o H3 => o = none ∧ H3 = H2) I2 ⟨rfl, rfl⟩) fun vu s3 ⟨u', H3, I3, pu, eu, e3⟩ => ?_
  subst eu e3
  refine thn (hst.run pins s3 σ H3 (fun o H4 => o = some (-1) ∧ H4 = H3) I3 ⟨1, rfl, -1, rfl, rfl, rfl⟩) fun vs s4 ⟨o, H4, I4, ps, eo, e4⟩ => ?_
  subst eo e4
  have I5 : Inv X pins σ H4 { s4 with heap := s4.heap.push { cls := .type "slice", data := .fields #[vl, vu, vs] } } := I4.kept (t' := s4.toks) fun b ob q => Heap.get?_push_of_some _ q
  show wpAny (model X.prog X.w) X.A (subscriptTail e (.Slice none none (some (.UnaryOp .USub (.Constant (.int 1) k p1) p2)) p3) (.ref a) (.ref s4.heap.objs.size)) (EP X pins σ Q) X.xe { s4 with heap := s4.heap.push { cls := .type "slice", data := .fields #[vl, vu, vs] } }
  cases u with
  | false =>
    obtain ⟨its, r, ht, hz⟩ := I5.list hx
    have hlen := r.length
    refine tail_any (ops := [.ref a, .ref s4.heap.objs.size]) ht.isList.typeIs (PySem.slot_list_getitem.lookup) ?_ (by with_unfolding_all rfl)
    refine wpAny_getItem_list_slice ht.isList (Heap.IsSliceOf.new _ vl vu vs) pl pu ps (by decide) ?_ (by rw [List.size_toArray]; omega)
    rw [PySem.W.krv_pick]
    refine ⟨.ref _, _, I5.laid (t' := s4.toks) (o := .lst xs.reverse) (fun b ob q => Heap.get?_push_of_some _ q) (Nat.le_refl _) ?_, rfl, q _ (I5.hok.fresh (Nat.le_refl _))⟩
    exact ⟨by rw [List.length_reverse]; exact hz, _, 0, r.reverse, Heap.get?_push_size _ rfl⟩
  | true =>
    obtain ⟨its, r, ht, hz⟩ := I5.tuple hx
    have hlen := r.length
    cases pl
    cases pu
    refine tail_any (ops := [.ref a, .ref s4.heap.objs.size]) ht.typeIs (PyProof.Rows.slot_tuple_getitem.lookup) ?_ (by with_unfolding_all rfl)
    refine getItem_tuple_rev ht (Heap.IsSliceOf.new _ .none .none vs) ps ?_ (by rw [List.size_toArray]; omega)
    refine ⟨.ref _, _, I5.laid (t' := s4.toks) (o := .tup xs.reverse) (fun b ob q => Heap.get?_push_of_some _ q) (Nat.le_refl _) ?_, rfl, q _ (I5.hok.fresh (Nat.le_refl _))⟩
    exact ⟨by rw [List.length_reverse]; exact hz, _, r.reverse, IsTup.new _ _⟩
section
variable {c : Cw} {te : TE} {m : M PyData}
theorem rf_rev (h : Rf c (RV c.K) te m) : Rf c (RV c.K) (tRevU c.K te) (mc1 rev? m) := by
  intro pp pr fz σ H ρ Q hp R hq
  refine h pp pr fz σ H ρ _ hp R (hq.bnd fun v x fz1 H1 ρ1 F1 R1 r1 P1 => ?_)
  obtain ⟨z, e, P1⟩ := lftB_post P1
  cases x <;> first | (cases e; done) | skip
  · rename_i ds
    cases e
    obtain ⟨a, vs, rfl, sa, ra⟩ := RepP.lst (.inl r1)
    refine .inl ⟨a, vs, rfl, SqL.of sa, fun p hn => ?_⟩
    have A : Alc fz1 H1 (fun b => fz1 b ∨ b = p) (upd H1 p (.lst vs.reverse)) := Alc.one hn
    exact alc_post P1 R1 A (.lst (.inr rfl) upd_same (RepA.ext (A.ext R1.fzH) ra.reverse))
  · rename_i ds
    cases e
    obtain ⟨a, vs, rfl, sa, ra, _⟩ := RepP.tup (.inl r1)
    refine .inr ⟨a, vs, rfl, sa, fun p hn => ?_⟩
    have A : Alc fz1 H1 (fun b => fz1 b ∨ b = p) (upd H1 p (.tup vs.reverse)) := Alc.one hn
    exact alc_post P1 R1 A (.tup (.inl ⟨.inr rfl, .inl upd_same⟩) (RepA.ext (A.ext R1.fzH) ra.reverse))
end
section
variable {ρ : Env} {X : XP} {P : PS}
theorem tr_dict0 {Q : PyData → Env → Prop} : Tr mdict0 ρ Q X = Q (.dict []) ρ := rfl
theorem tr_dict1 {k : Str} {m : M PyData} {Q : PyData → Env → Prop} : Tr (mdict1 k m) ρ Q X = Tr m ρ (fun d r => Q (.dict [(.str k, d)]) r) X := by
  unfold mdict1; rw [tr_bnd]; rfl
theorem ts_never : Ts mnever ρ P = False := rfl
theorem isi_tt {xs : List PyData} : isi? "tuple" (.tuple xs) = some (.bool true) := rfl
theorem isi_ii {i : Int} : isi? "int" (.int i) = some (.bool true) := rfl
theorem isi_bi {i : Int} : isi? "bool" (.int i) = some (.bool false) := rfl
theorem rev_t {xs : List PyData} : rev? (.tuple xs) = some (.tuple xs.reverse) := rfl
theorem rev_l {xs : List PyData} : rev? (.list xs) = some (.list xs.reverse) := rfl
end
end PL

end
section
/-! PLd: dicts whose keys are ints and texts. -/
namespace PL
open PySem PySem.Spec L2
open PyProof.Rows hiding St

def keyOf? : PyData → Option Key
  | .int i => some (.inl i)
  | .str x => some (.inr x)
  | _ => none
def kEq : PyData → PyData → Bool
  | .int i, .int j => decide (i = j)
  | .str x, .str y => decide (x = y)
  | _, _ => false
def dGet (ds : List (PyData × PyData)) (k : PyData) : Option PyData := (ds.find? fun p => kEq p.1 k).map (·.2)
def dPut (ds : List (PyData × PyData)) (k v : PyData) : List (PyData × PyData) := if (ds.any fun p => kEq p.1 k) = true then ds.map (fun p => if kEq p.1 k = true then (p.1, v) else p) else ds ++ [(k, v)]
def dMerge (ds more : List (PyData × PyData)) : List (PyData × PyData) := more.foldl (fun acc p => dPut acc p.1 p.2) ds
theorem keyOf_some {x : PyData} {k : Key} (h : keyOf? x = some k) : x = keyD k := by
  cases x <;> first | (cases h; done) | skip
  · cases h; rfl
  · cases h; rfl
theorem kEq_key (a b : Key) : kEq (keyD a) (keyD b) = decide (a = b) := by
  cases a <;> cases b <;> simp [keyD, kEq]
section
variable {K : PySem.W.Frag} {fz : Addr → Prop} {H : Hp}
theorem RepK.length : ∀ {kvs : List (Key × V)} {ds : List (PyData × PyData)}, RepK K fz H kvs ds → kvs.length = ds.length
  | _, _, .nil => rfl
  | _, _, .cons _ r => by simp [RepK.length r]
theorem repK_get (k : Key) : ∀ {kvs : List (Key × V)} {ds : List (PyData × PyData)}, RepK K fz H kvs ds → (valV kvs k = none ∧ dGet ds (keyD k) = none) ∨ ∃ v d, valV kvs k = some v ∧ dGet ds (keyD k) = some d ∧ Rep K fz H v d
  | _, _, .nil => .inl ⟨rfl, rfl⟩
  | _, _, .cons (k := k') (v := v) (d := d) (ds := ds) h r => by
    by_cases e : k' = k
    · refine .inr ⟨v, d, valV_pos e, ?_, h⟩
      unfold dGet
      rw [List.find?_cons, show kEq (keyD k', d).1 (keyD k) = true by show kEq (keyD k') (keyD k) = true; rw [kEq_key, decide_eq_true e]]
      rfl
    · have q : dGet ((keyD k', d) :: ds) (keyD k) = dGet ds (keyD k) := by
        unfold dGet
        rw [List.find?_cons, show kEq (keyD k', d).1 (keyD k) = false by show kEq (keyD k') (keyD k) = false; rw [kEq_key, decide_eq_false e]]
      rw [valV_neg e, q]
      exact repK_get k r
theorem repK_any (k : Key) : ∀ {kvs : List (Key × V)} {ds : List (PyData × PyData)}, RepK K fz H kvs ds → (kvs.any fun kv => decide (kv.1 = k)) = ds.any fun p => kEq p.1 (keyD k)
  | _, _, .nil => rfl
  | _, _, .cons (k := k') h r => by
    rw [List.any_cons, List.any_cons, repK_any k r]
    show (decide (k' = k) || _) = (kEq (keyD k') (keyD k) || _)
    rw [kEq_key]
theorem repK_snoc {k : Key} {v : V} {d : PyData} (h : Rep K fz H v d) : ∀ {kvs : List (Key × V)} {ds : List (PyData × PyData)}, RepK K fz H kvs ds → RepK K fz H (kvs ++ [(k, v)]) (ds ++ [(keyD k, d)])
  | _, _, .nil => .cons h .nil
  | _, _, .cons g r => .cons g (repK_snoc h r)
theorem repK_map {k : Key} {v : V} {d : PyData} (h : Rep K fz H v d) : ∀ {kvs : List (Key × V)} {ds : List (PyData × PyData)}, RepK K fz H kvs ds → RepK K fz H (kvs.map fun kv => if kv.1 = k then (kv.1, v) else kv) (ds.map fun p => if kEq p.1 (keyD k) = true then (p.1, d) else p)
  | _, _, .nil => .nil
  | _, _, .cons (k := k') g r => by
    rw [List.map_cons, List.map_cons]
    by_cases e : k' = k
    · rw [if_pos e, if_pos (by show kEq (keyD k') (keyD k) = true; rw [kEq_key, decide_eq_true e])]
      exact .cons h (repK_map h r)
    · rw [if_neg e, if_neg (by show ¬ kEq (keyD k') (keyD k) = true; rw [kEq_key, decide_eq_false e]; simp)]
      exact .cons g (repK_map h r)
theorem repK_put {k : Key} {v : V} {d : PyData} (h : Rep K fz H v d) {kvs : List (Key × V)} {ds : List (PyData × PyData)} (r : RepK K fz H kvs ds) : RepK K fz H (putK kvs k v) (dPut ds (keyD k) d) := by
  unfold putK dPut
  rw [repK_any k r]
  split
  · exact repK_map h r
  · exact repK_snoc h r
theorem repK_merge : ∀ {more : List (Key × V)} {ms : List (PyData × PyData)}, RepK K fz H more ms → ∀ {kvs : List (Key × V)} {ds : List (PyData × PyData)}, RepK K fz H kvs ds → RepK K fz H (mergeK kvs more) (dMerge ds ms)
  | _, _, .nil, _, _, r => r
  | _, _, .cons h t, _, _, r => repK_merge t (repK_put h r)
theorem RepP.dic {v : V} {ds : List (PyData × PyData)} (h : RepP K fz H v (.dict ds)) : ∃ a kvs, v = .ref a ∧ H a = some (.dK kvs) ∧ RepK K fz H kvs ds := by
  rcases h with h | ⟨a, rfl, _, z⟩
  · cases h with
    | dic h e r => exact ⟨_, _, rfl, e, r⟩
  · obtain ⟨kvs, e, r⟩ := z
    exact ⟨a, kvs, rfl, e, r⟩
theorem RepP.key {v : V} {x : PyData} {k : Key} (h : RepP K fz H v x) (e : keyOf? x = some k) : v = kV k := by
  cases x <;> first | (cases e; done) | skip
  · cases e; exact h.int
  · cases e; exact h.str
end
/-! ### in, not in, d[k] -/
def din? (x y : PyData) : Option PyData := match y with
  | .dict ds => (keyOf? x).map fun _ => .bool (dGet ds x).isSome
  | _ => none
def dnin? (x y : PyData) : Option PyData := match y with
  | .dict ds => (keyOf? x).map fun _ => .bool (!(dGet ds x).isSome)
  | _ => none
def dget? (y x : PyData) : Option PyData := match y with
  | .dict ds => (keyOf? x).bind fun _ => dGet ds x
  | _ => none
def rDIn (neg : Bool) : R2 := fun x y H Q => ∃ a o, y = .ref a ∧ DGet H a x o ∧ Q (.bl (if neg then !o.isSome else o.isSome)) H
def rDGet : R2 := fun x y H Q => ∃ a v, x = .ref a ∧ DGet H a y (some v) ∧ Q v H
section
variable {X : Cx}
theorem or_din (hu : X.A.units + 65 < cLine) : OpR X (compareOp .In) (rDIn false) := by
  intro pins s σ H x y v u Q I rx ry h
  obtain ⟨a, o, rfl, g, q⟩ := h
  cases ry
  exact d_in (by omega) I g rx fun s' I' => ⟨.bl o.isSome, H, I', rfl, q⟩
theorem or_dnin (hu : X.A.units + 65 < cLine) : OpR X (compareOp .NotIn) (rDIn true) := by
  intro pins s σ H x y v u Q I rx ry h
  obtain ⟨a, o, rfl, g, q⟩ := h
  cases ry
  exact d_notIn (by omega) I g rx fun s' I' => ⟨.bl (!o.isSome), H, I', rfl, q⟩
end
section
variable {K : PySem.W.Frag}
theorem din_core {fz : Addr → Prop} {H : Hp} {v w : V} {x : PyData} {ds : List (PyData × PyData)} {k : Key} (hv : RepP K fz H v x) (hw : RepP K fz H w (.dict ds)) (e : keyOf? x = some k) :
    ∃ a o, w = .ref a ∧ DGet H a v o ∧ o.isSome = (dGet ds x).isSome ∧ ∀ d, dGet ds x = some d → ∃ u, o = some u ∧ Rep K fz H u d := by
  obtain ⟨a, kvs, rfl, ea, r⟩ := hw.dic
  rw [hv.key e, keyOf_some e]
  refine ⟨a, valV kvs k, rfl, DGet.k ea, ?_⟩
  rcases repK_get k r with ⟨h1, h2⟩ | ⟨u, d, h1, h2, h3⟩
  · rw [h1, h2]; exact ⟨rfl, fun d z => nomatch z⟩
  · rw [h1, h2]; exact ⟨rfl, fun d z => by cases z; exact ⟨u, rfl, h3⟩⟩
theorem of_din : OpF K (rDIn false) din? := by
  intro fz H v w x y z hv hw e Q q
  cases y <;> first | (cases e; done) | skip
  rename_i ds
  simp only [din?] at e
  cases ek : keyOf? x with
  | none => rw [ek] at e; cases e
  | some k =>
    rw [ek] at e
    cases e
    obtain ⟨a, o, e1, g, e2, _⟩ := din_core hv hw ek
    refine ⟨a, o, e1, g, ?_⟩
    rw [if_neg (by simp), e2]
    exact Alc.same (.bl _) q
theorem of_dnin : OpF K (rDIn true) dnin? := by
  intro fz H v w x y z hv hw e Q q
  cases y <;> first | (cases e; done) | skip
  rename_i ds
  simp only [dnin?] at e
  cases ek : keyOf? x with
  | none => rw [ek] at e; cases e
  | some k =>
    rw [ek] at e
    cases e
    obtain ⟨a, o, e1, g, e2, _⟩ := din_core hv hw ek
    refine ⟨a, o, e1, g, ?_⟩
    rw [if_pos rfl, e2]
    exact Alc.same (.bl _) q
theorem of_dget : OpF K rDGet dget? := by
  intro fz H v w y x z hv hw e Q q
  cases y <;> first | (cases e; done) | skip
  rename_i ds
  simp only [dget?] at e
  cases ek : keyOf? x with
  | none => rw [ek] at e; cases e
  | some k =>
    rw [ek] at e
    simp only [Option.bind_some] at e
    obtain ⟨a, o, e1, g, _, e3⟩ := din_core hw hv ek
    obtain ⟨u, rfl, r⟩ := e3 z e
    exact ⟨a, u, e1, g, Alc.same r q⟩
end
/-! ### dict(pairs) -/
def entry? : PyData → Option (PyData × PyData)
  | .tuple [k, v] => (keyOf? k).map fun _ => (k, v)
  | _ => none
def entries? : List PyData → Option (List (PyData × PyData))
  | [] => some []
  | d :: ds => (entry? d).bind fun p => (entries? ds).map fun ps => p :: ps
def dictP? : PyData → Option PyData
  | .list ds => (entries? ds).map fun ps => .dict (dMerge [] ps)
  | _ => none
def rDictP (K : PySem.W.Frag) : RL := fun xs H Q => ∃ (a : Addr) (ps : List Addr) (kvs : List (Key × V)), xs = [.ref a] ∧ SqL K H a (ps.map V.ref) ∧ Paired (fun p kv => SqT K H p [kV kv.1, kv.2]) ps kvs ∧
    ∀ p, H p = none → Q (.ref p) (upd H p (.dK (mergeK [] kvs)))
section
variable {K : PySem.W.Frag} {fz : Addr → Prop} {H : Hp}
theorem entries_rep : ∀ {vs : List V} {ds : List PyData} {es : List (PyData × PyData)}, RepA K fz H vs ds → entries? ds = some es → ∃ (ps : List Addr) (kvs : List (Key × V)), vs = ps.map V.ref ∧ Paired (fun p kv => SqT K H p [kV kv.1, kv.2]) ps kvs ∧ RepK K fz H kvs es
  | _, [], es, .nil, e => by cases e; exact ⟨[], [], rfl, .nil, .nil⟩
  | _, d :: ds, es, .cons (v := v) (vs := vs) r t, e => by
    unfold entries? at e
    cases e1 : entry? d with
    | none => rw [e1] at e; cases e
    | some p =>
      rw [e1] at e
      simp only [Option.bind_some] at e
      cases e2 : entries? ds with
      | none => rw [e2] at e; cases e
      | some qs =>
        rw [e2] at e
        cases e
        obtain ⟨ps, kvs, h1, h2, h3⟩ := entries_rep t e2
        unfold entry? at e1
        split at e1
        · rename_i k w
          cases ek : keyOf? k with
          | none => rw [ek] at e1; cases e1
          | some kk =>
            rw [ek] at e1
            cases e1
            cases r with
            | @tup a xs _ h r =>
              cases r with
              | cons r1 r =>
                cases r with
                | cons r2 r =>
                  cases r
                  have ev := RepP.key (.inl r1) ek
                  subst ev
                  refine ⟨a :: ps, (kk, _) :: kvs, by rw [h1]; rfl, .cons h.sq h2, ?_⟩
                  rw [keyOf_some ek]
                  exact .cons r2 h3
        · cases e1
end
section
variable {K : PySem.W.Frag}
theorem co_dictP : CO K (rDictP K) dictP? := by
  intro fz H v x z hv e hf Q q
  cases x <;> first | (cases e; done) | skip
  rename_i ds
  simp only [dictP?] at e
  cases e1 : entries? ds with
  | none => rw [e1] at e; cases e
  | some es =>
    rw [e1] at e
    cases e
    obtain ⟨a, vs, rfl, sa, ra⟩ := hv.lst
    obtain ⟨ps, kvs, h1, h2, h3⟩ := entries_rep ra e1
    subst h1
    refine ⟨a, ps, kvs, rfl, SqL.of sa, h2, fun p hn => ?_⟩
    have E : Ext fz H fz (upd H p (.dK (mergeK [] kvs))) := ⟨fun _ z => z, fun b z => upd_ne fun e => hf b z (e ▸ hn)⟩
    exact q p _ hn (fun b n => upd_ne n) ⟨_, upd_same, RepK.ext E (repK_merge h3 .nil)⟩
end
/-! ### d[k] = v, d.update(e) -/
def ownD (i : Nat) (ρ : Env) : Option (List (PyData × PyData)) := match ρ[i]? with
  | some (.own (.dict ds)) => some ds
  | _ => none
theorem ownD_eq {i : Nat} {ρ : Env} {ds : List (PyData × PyData)} (h : ownD i ρ = some ds) : ρ[i]? = some (.own (.dict ds)) := by
  unfold ownD at h
  split at h
  · rename_i e; cases h; exact e
  · cases h
def mdput (i : Nat) (mk mv : M PyData) : SM := sbnd mv fun v r1 => slft (ownD i r1) fun _ => sbnd mk (fun k r => slft (ownD i r) fun ds => slft (keyOf? k) fun _ => if lenOk (ds.length + 1) = true then .nx (r.set i (.own (.dict (dPut ds k v)))) else .bad) r1
def updK (i : Nat) (d : PyData) (r : Env) : SOut := slft (ownD i r) fun ds => match d with
  | .dict es => if lenOk (ds.length + es.length) = true then .nx (r.set i (.own (.dict (dMerge ds es)))) else .bad
  | _ => .bad
def mupdate (i : Nat) (m : M PyData) : SM := fun ρ => slft (ownD i ρ) fun _ => sbnd m (updK i) ρ
def rUpdate : V → List V → Hp → VK → Prop := fun x xs H Q => ∃ a b kvs more, x = .ref a ∧ xs = [.ref b] ∧ a ≠ b ∧ H a = some (.dK kvs) ∧ H b = some (.dK more) ∧ kvs.length + more.length ≤ sizeLine ∧ Q .non (upd H a (.dK (mergeK kvs more)))
theorem mt_update {X : Cx} : MtR X "dict.update" rUpdate := by
  intro pins s σ H x xs v us Q I rx rxs h
  obtain ⟨a, b, kvs, more, rfl, rfl, hne, ea, eb, hz, q⟩ := h
  cases rx
  cases rxs with
  | cons r1 r2 =>
    cases r1
    cases r2
    obtain ⟨z1, hd1, vs1, rel1, dd1⟩ := dk_of I.hok ea
    obtain ⟨z2, hd2, vs2, rel2, dd2⟩ := dk_of I.hok eb
    refine call_meetsIn PySem.F.slot_dict_update dd1.typeIs PySem.F.entry_dict_update (PySem.F.args_dict_update_2 _ _) (meets_dict_update (mixKind X.prog X.w) a b hne hd2)
      ⟨vs1, vs2, dd1, dd2, by rw [← rel1.length, ← rel2.length]; exact hz, fun h' hmm _ hs => ?_⟩
    have he : ∃ q, h'.get? a = some q := let ⟨q, _, _, hq, _⟩ := hmm; ⟨q, hq⟩
    have hl : (mergeK kvs more).length ≤ sizeLine := Nat.le_trans (length_mergeK more kvs) hz
    exact ⟨.non, upd H a (.dK (mergeK kvs more)), d_write I (t' := s.toks) (by rw [ea]; exact True.intro) hs he (dk_new hl hd1 (KV.merge rel2 rel1) hmm), rfl, q⟩
section
variable {c : Cw} {te : TE} {m : M PyData}
theorem rs_dput {i : Nat} {tk : TE} {mk : M PyData} (h : Rf c (RV c.K) te m) (hk : Rf c (RV c.K) tk mk) : RfS c (sDPut (tVar i) tk te) (mdput i mk m) := by
  intro pp pr fz σ H ρ D hp R hq
  refine h pp pr fz σ H ρ _ hp R (hq.bnd fun v x fz1 H1 ρ1 F1 R1 r1 P1 => ?_)
  cases e : ownD i ρ1 with
  | none => simp only [e, slft] at P1; exact P1.elim
  | some ds0 =>
    simp only [e, slft] at P1
    obtain ⟨a, hs, nf, np, vs0, hH0, _⟩ := R1.own_ne (ownD_eq e) rfl
    refine ⟨_, hs, ?_⟩
    refine hk pp pr fz1 σ H1 ρ1 _ hp R1 (PostS.bnd (f := fun k r => slft (ownD i r) fun ds => slft (keyOf? k) fun _ => if lenOk (ds.length + 1) = true then .nx (r.set i (.own (.dict (dPut ds k x)))) else .bad) P1 fun w j fz2 H2 ρ2 F2 R2 r2 P2 => ?_)
    cases e1 : ownD i ρ2 with
    | none => simp only [e1, slft] at P2; exact P2.elim
    | some ds =>
      simp only [e1, slft] at P2
      cases ek : keyOf? j with
      | none => simp only [ek] at P2; exact P2.elim
      | some k =>
        simp only [ek] at P2
        split at P2
        · rename_i hl
          have er := ownD_eq e1
          obtain ⟨a', hs', nf', np', kvs, hH, ra⟩ := R2.own_ne er rfl
          obtain rfl : a' = a := by rw [hs] at hs'; cases hs'; rfl
          have ew := RepP.key (.inl r2) ek
          subst ew
          have hlen := lenOk_iff.mp hl
          refine ⟨a', upd H2 a' (.dK (putK kvs k v)), rfl, DPut.k hH (by rw [RepK.length ra]; omega), ?_⟩
          have E : Ext fz2 H2 fz2 (upd H2 a' (.dK (putK kvs k v))) := ⟨fun _ z => z, fun b z => upd_ne fun q => nf' (by rw [← q]; exact z)⟩
          have nw : OwnC c.K fz2 (upd H2 a' (.dK (putK kvs k v))) a' (.dict (dPut ds j x)) := ⟨_, upd_same, by
            rw [keyOf_some ek]
            exact RepK.ext E (repK_put (Rep.ext F2.ext r1) ra)⟩
          obtain ⟨F3, R3⟩ := R2.wr (d' := .dict (dPut ds j x)) er hs rfl nw
          exact P2 σ fz2 _ F3 R3
        · exact P2.elim
theorem rs_update {i : Nat} (h : Rf c (RV c.K) te m) : RfS c (tDrop (tBM c.K "dict" rUpdate (tVar i) (tCons te tNil))) (mupdate i m) := by
  intro pp pr fz σ H ρ D hp R hq
  unfold mupdate at hq
  cases e : ownD i ρ with
  | none => simp only [e, slft] at hq; exact hq.elim
  | some ds0 =>
    simp only [e, slft] at hq
    obtain ⟨a, hs, nf, np, vs0, hH0, _⟩ := R.own_ne (ownD_eq e) rfl
    refine ⟨_, hs, .inr (.inr (.inl ⟨rfl, .inl ⟨vs0, hH0⟩⟩)), ?_⟩
    refine h pp pr fz σ H ρ _ hp R (PostS.bnd (f := updK i) hq fun v x fz1 H1 ρ1 F1 R1 r1 P1 => ?_)
    unfold updK at P1
    have r1 : Rep c.K fz1 H1 v x := r1
    cases e1 : ownD i ρ1 with
    | none => simp only [e1, slft] at P1; exact P1.elim
    | some ds =>
      simp only [e1, slft] at P1
      cases x <;> first | exact P1.elim | skip
      rename_i es _
      dsimp only at P1
      split at P1
      · rename_i hl
        have er := ownD_eq e1
        obtain ⟨a', hs', nf', np', kvs, hH, ra⟩ := R1.own_ne er rfl
        obtain rfl : a' = a := by rw [hs] at hs'; cases hs'; rfl
        cases r1 with
        | @dic b more _ hb eb rb =>
          have hne : a' ≠ b := fun z => nf' (z ▸ hb)
          refine ⟨a', b, kvs, more, rfl, rfl, hne, hH, eb, ?_, ?_⟩
          · have := lenOk_iff.mp hl
            rw [RepK.length ra, RepK.length rb]; exact this
          · have E : Ext fz1 H1 fz1 (upd H1 a' (.dK (mergeK kvs more))) := ⟨fun _ z => z, fun b z => upd_ne fun q => nf' (by rw [← q]; exact z)⟩
            obtain ⟨F2, R2⟩ := R1.wr (d' := .dict (dMerge ds es)) er hs rfl ⟨_, upd_same, RepK.ext E (repK_merge rb ra)⟩
            exact P1 σ fz1 _ F2 R2
      · exact P1.elim
end
end PL

end
section
/-! PLe: what dicts of numbers hold. -/
namespace PL
open PySem PySem.Spec L2
section
variable {ρ : Env} {X : XP} {P : PS}
def getDc (s : Sl) : Option (List (PyData × PyData)) := match s with
  | .own (.dict ds) => some ds
  | _ => none
theorem getDc_o {ds : List (PyData × PyData)} : getDc (.own (.dict ds)) = some ds := rfl
theorem ownD_at {i : Nat} : ownD i ρ = getDc (at? ρ i) := by
  unfold ownD at? getDc
  cases ρ[i]? with
  | none => rfl
  | some s => cases s with
    | own d => cases d <;> rfl
    | _ => rfl
def asD? : PyData → Option (List (PyData × PyData))
  | .dict es => some es
  | _ => none
theorem asD_d {es : List (PyData × PyData)} : asD? (.dict es) = some es := rfl
theorem ts_dput {i : Nat} {mk mv : M PyData} : Ts (mdput i mk mv) ρ P = Tr mv ρ (fun v r1 => ∃ ds0, getDc (at? r1 i) = some ds0 ∧ Tr mk r1 (fun k r => ∃ ds, getDc (at? r i) = some ds ∧ ∃ kk, keyOf? k = some kk ∧ lenOk (ds.length + 1) = true ∧ P.nx (r.set i (.own (.dict (dPut ds k v))))) P.ex) P.ex := by
  unfold mdput; rw [ts_sbnd]; congr 1; funext v r1
  refine Eq.trans tso_slft ?_
  simp only [ownD_at]
  congr 1; funext ds0
  congr 1
  refine Eq.trans (b := Ts (sbnd mk (fun k r => slft (ownD i r) fun ds => slft (keyOf? k) fun _ => if lenOk (ds.length + 1) = true then .nx (r.set i (.own (.dict (dPut ds k v)))) else .bad)) r1 P) ?_ ?_
  · simp only [ownD_at]; rfl
  rw [ts_sbnd]
  congr 1; funext k r
  refine Eq.trans tso_slft ?_
  simp only [ownD_at, tso_slft, tso_ite]
theorem ts_update {i : Nat} {m : M PyData} : Ts (mupdate i m) ρ P = ∃ ds0, getDc (at? ρ i) = some ds0 ∧ Tr m ρ (fun d r => ∃ ds, getDc (at? r i) = some ds ∧ ∃ es, asD? d = some es ∧ lenOk (ds.length + es.length) = true ∧ P.nx (r.set i (.own (.dict (dMerge ds es))))) P.ex := by
  unfold mupdate
  cases e : ownD i ρ with
  | none =>
    rw [ownD_at] at e
    show TsO (slft (ownD i ρ) fun x => sbnd m (updK i) ρ) P = _
    rw [ownD_at, e]
    simp [slft, TsO]
  | some ds0 =>
    have e' := e
    rw [ownD_at] at e'
    have q : Ts (fun ρ => slft (ownD i ρ) fun _ => sbnd m (updK i) ρ) ρ P = Ts (sbnd m (updK i)) ρ P := by
      show TsO (slft (ownD i ρ) fun x => sbnd m (updK i) ρ) P = _
      rw [e]
      rfl
    rw [q, ts_sbnd, e']
    simp only [Option.some.injEq, exists_eq_left']
    congr 1; funext d r
    show TsO (updK i d r) P = _
    unfold updK
    refine Eq.trans tso_slft ?_
    simp only [ownD_at]
    congr 1; funext ds
    congr 1
    cases d <;> simp only [asD?, Option.some.injEq, exists_eq_left', tso_ite] <;> simp [TsO]
end
theorem din_i {ds : List (PyData × PyData)} {i : Int} : din? (.int i) (.dict ds) = some (.bool (dGet ds (.int i)).isSome) := rfl
theorem dnin_i {ds : List (PyData × PyData)} {i : Int} : dnin? (.int i) (.dict ds) = some (.bool (!(dGet ds (.int i)).isSome)) := rfl
theorem dget_i {ds : List (PyData × PyData)} {i : Int} : dget? (.dict ds) (.int i) = dGet ds (.int i) := rfl
theorem key_i {i : Int} : keyOf? (.int i) = some (.inl i) := rfl
/-! ### the functions that dicts are -/
theorem kEq_i {i j : Int} : kEq (.int i) (.int j) = decide (i = j) := rfl
theorem dGet_nil {k : PyData} : dGet [] k = none := rfl
theorem dGet_cons {p : PyData × PyData} {ds : List (PyData × PyData)} {k : PyData} : dGet (p :: ds) k = if kEq p.1 k = true then some p.2 else dGet ds k := by
  unfold dGet
  rw [List.find?_cons]
  split <;> simp_all
theorem dGet_any {k : PyData} : ∀ {ds : List (PyData × PyData)}, (ds.any fun p => kEq p.1 k) = (dGet ds k).isSome
  | [] => rfl
  | p :: ds => by
    rw [List.any_cons, dGet_cons, dGet_any]
    cases kEq p.1 k <;> simp
theorem dGet_snoc {k v : PyData} {w : PyData} : ∀ {ds : List (PyData × PyData)}, dGet ds k = none → kEq k w = true ∨ kEq k w = false → dGet (ds ++ [(k, v)]) w = match dGet ds w with
    | some x => some x
    | none => if kEq k w = true then some v else none
  | [], _, _ => by rw [List.nil_append, dGet_cons]; rfl
  | p :: ds, h, g => by
    rw [List.cons_append, dGet_cons, dGet_cons]
    have h2 : dGet ds k = none := by
      rw [dGet_cons] at h
      split at h
      · cases h
      · exact h
    split
    · rfl
    · exact dGet_snoc h2 g
theorem kEq_tr {a b c : PyData} (h1 : kEq a b = true) : kEq a c = kEq b c := by
  cases a <;> cases b <;> first | (cases h1; done) | skip
  · simp only [kEq, decide_eq_true_eq] at h1; rw [h1]
  · simp only [kEq, decide_eq_true_eq] at h1; rw [h1]
/-- what d[k] = v does, for ints -/
theorem dGet_put {k w : Int} {v : PyData} : ∀ {ds : List (PyData × PyData)}, dGet (dPut ds (.int k) v) (.int w) = if w = k then some v else dGet ds (.int w) := by
  intro ds
  unfold dPut
  split
  · rename_i h
    have go : ∀ {ds : List (PyData × PyData)}, dGet (ds.map fun p => if kEq p.1 (.int k) = true then (p.1, v) else p) (.int w) = if w = k then (if (dGet ds (.int k)).isSome = true then some v else none) else dGet ds (.int w) := by
      intro ds
      induction ds with
      | nil => simp [dGet_nil]
      | cons p ds ih =>
        rw [List.map_cons, dGet_cons, dGet_cons, dGet_cons, ih]
        by_cases e : kEq p.1 (.int k) = true
        · rw [if_pos e]
          have e2 := kEq_tr (c := .int w) e
          rw [kEq_i] at e2
          by_cases hw : w = k
          · subst hw; simp [e]
          · simp only [e2, hw, e, if_true, if_false, decide_eq_true_eq]
            simp [Ne.symm hw]
        · rw [if_neg e]
          by_cases hw : w = k
          · subst hw; simp [e]
          · simp [hw]
    rw [go]
    rw [dGet_any] at h
    simp [h]
  · rename_i h
    have hn : dGet ds (.int k) = none := by
      rw [dGet_any] at h
      simpa using h
    rw [dGet_snoc hn (by cases kEq (.int k) (.int w) <;> simp)]
    rw [kEq_i]
    by_cases hw : w = k
    · subst hw; simp [hn]
    · have : ¬ k = w := fun z => hw z.symm
      simp only [hw, this, decide_false, if_false]
      cases dGet ds (.int w) <;> simp
theorem dPut_len {ds : List (PyData × PyData)} {k v : PyData} : (dPut ds k v).length ≤ ds.length + 1 := by
  unfold dPut; split <;> simp
theorem dMerge_len : ∀ {ms ds : List (PyData × PyData)}, (dMerge ds ms).length ≤ ds.length + ms.length
  | [], ds => by simp [dMerge]
  | p :: ms, ds => by
    have h1 := dMerge_len (ms := ms) (ds := dPut ds p.1 p.2)
    have h2 := dPut_len (ds := ds) (k := p.1) (v := p.2)
    show (dMerge (dPut ds p.1 p.2) ms).length ≤ _
    simp only [List.length_cons]
    omega
/-- the entries of [(w, x) for w in range] -/
def rngE (lo : Int) (n : Nat) (x : PyData) : List (PyData × PyData) := (List.range n).map fun i : Nat => (.int (lo + i), x)
theorem rngE_succ {lo : Int} {n : Nat} {x : PyData} : rngE lo (n + 1) x = rngE lo n x ++ [(.int (lo + n), x)] := by
  unfold rngE; rw [List.range_succ, List.map_append]; rfl
theorem dMerge_app {ds ms ms' : List (PyData × PyData)} : dMerge ds (ms ++ ms') = dMerge (dMerge ds ms) ms' := by
  unfold dMerge; rw [List.foldl_append]
theorem merge_rng {lo : Int} {x : PyData} {w : Int} : ∀ {n : Nat} {ds : List (PyData × PyData)}, dGet (dMerge ds (rngE lo n x)) (.int w) = if lo ≤ w ∧ w < lo + n then some x else dGet ds (.int w)
  | 0, ds => by
    have : ¬ (lo ≤ w ∧ w < lo + (0 : Nat)) := by omega
    rw [if_neg this]; rfl
  | n + 1, ds => by
    rw [rngE_succ, dMerge_app]
    show dGet (dPut (dMerge ds (rngE lo n x)) (.int (lo + n)) x) (.int w) = _
    rw [dGet_put, merge_rng]
    by_cases h : w = lo + n
    · subst h; rw [if_pos rfl, if_pos (by omega)]
    · rw [if_neg h]
      by_cases h2 : lo ≤ w ∧ w < lo + n
      · rw [if_pos h2, if_pos (by omega)]
      · rw [if_neg h2, if_neg (by omega)]
theorem dGet_rng {lo : Int} {x : PyData} {w : Int} : ∀ {n : Nat}, dGet (rngE lo n x) (.int w) = if lo ≤ w ∧ w < lo + n then some x else none
  | 0 => by
    have : ¬ (lo ≤ w ∧ w < lo + (0 : Nat)) := by omega
    rw [if_neg this]; rfl
  | n + 1 => by
    have h0 : dGet (rngE lo n x) (.int (lo + n)) = none := by rw [dGet_rng, if_neg (by omega)]
    rw [rngE_succ, dGet_snoc h0 (by cases kEq (.int (lo + n)) (.int w) <;> simp), dGet_rng, kEq_i]
    by_cases h2 : lo ≤ w ∧ w < lo + n
    · have h3 : lo ≤ w ∧ w < lo + (n + 1 : Nat) := by omega
      rw [if_pos h2, if_pos h3]
    · rw [if_neg h2]
      by_cases h : lo + n = w
      · have h3 : lo ≤ w ∧ w < lo + (n + 1 : Nat) := by omega
        rw [if_pos h3]; simp [h]
      · have h3 : ¬ (lo ≤ w ∧ w < lo + (n + 1 : Nat)) := by omega
        rw [if_neg h3]; simp [h]
theorem merge_nil_rng {lo : Int} {x : PyData} : ∀ {n : Nat}, dMerge [] (rngE lo n x) = rngE lo n x
  | 0 => rfl
  | n + 1 => by
    rw [rngE_succ, dMerge_app, merge_nil_rng]
    show dPut (rngE lo n x) (.int (lo + n)) x = _
    unfold dPut
    have h3 : ¬ (lo ≤ lo + (n : Int) ∧ lo + (n : Int) < lo + n) := by omega
    rw [dGet_any, dGet_rng, if_neg h3]
    simp
theorem entries_rng {lo : Int} {n : Nat} {x : PyData} : entries? ((List.range n).map fun i : Nat => PyData.tuple [.int (lo + i), x]) = some (rngE lo n x) := by
  unfold rngE
  generalize List.range n = l
  induction l with
  | nil => rfl
  | cons i l ih =>
    rw [List.map_cons]
    show (some (PyData.int (lo + i), x)).bind (fun p => (entries? (l.map _)).map fun ps => p :: ps) = _
    rw [ih]; rfl
theorem dictP_rng {lo : Int} {n : Nat} {x : PyData} : dictP? (.list ((List.range n).map fun i : Nat => PyData.tuple [.int (lo + i), x])) = some (.dict (rngE lo n x)) := by
  show (entries? _).map _ = _
  rw [entries_rng, Option.map_some, merge_nil_rng]
theorem rngE_len {lo : Int} {n : Nat} {x : PyData} : (rngE lo n x).length = n := by simp [rngE]
end PL

end
section
/-! PLsu: sum of a list or a tuple of ints. -/
namespace PL
open PySem PySem.Spec L2
open PyProof.Rows hiding St
def rSumA (K : PySem.W.Frag) : List V → Hp → VK → Prop := fun vs H Q => ∃ (u : Bool) (a : Addr) (ns : List Int), vs = [V.ref a] ∧ SqU K u H a (ns.map V.int) ∧ Q (.int ns.sum) H
section
variable {X : Cx}
theorem cr_sumA (hc : X.calm = true) : CallR X (.builtin "sum") (rSumA X.K) := by
  intro pins s σ H vs us Q I r h
  obtain ⟨u, a, ns, rfl, hs, q⟩ := h
  cases u with
  | false => exact cr_sum hc pins s σ H _ us Q I r ⟨a, ns, rfl, hs, q⟩
  | true =>
    obtain ⟨its, rv, hl, _⟩ := I.tuple hs
    rw [Vals.ref1 r]
    have hi := rv.ints
    have hl : s.heap.IsTuple a its.toArray := hl
    obtain ⟨xs, e⟩ := hi.allInts.items
    have hn : numsOf (intItems xs).toList = ns := by rw [← e]; exact hi.numsOf
    rw [nums_intItems] at hn
    rw [e] at hl
    refine PySem.W.ktm_sumG (I.ok.hd hc) hl fun h' tk t' hk => ?_
    rw [preSum_eq, List.take_of_length_le (by simp), hn]
    exact ⟨.int _, H, I.kept hk, ⟨_, rfl⟩, q⟩
end
def sumA? : PyData → Option PyData
  | .list ds => (ints? ds).map fun ns => .int ns.sum
  | .tuple ds => (ints? ds).map fun ns => .int ns.sum
  | _ => none
section
variable {K : PySem.W.Frag}
theorem c1_sumA : C1 K (rSumA K) sumA? := by
  intro fz H v x z hv e Q q
  cases x <;> first | (cases e; done) | skip
  · rename_i ds
    simp only [sumA?] at e
    cases e1 : ints? ds with
    | none => rw [e1] at e; cases e
    | some ns =>
      rw [e1] at e
      cases e
      obtain ⟨a, vs, rfl, sa, ra⟩ := hv.lst
      rw [ints_rep ra e1] at sa
      exact ⟨false, a, ns, rfl, SqL.of sa, Alc.same (.int _) q⟩
  · rename_i ds
    simp only [sumA?] at e
    cases e1 : ints? ds with
    | none => rw [e1] at e; cases e
    | some ns =>
      rw [e1] at e
      cases e
      obtain ⟨a, vs, rfl, sa, ra, _⟩ := hv.tup
      rw [ints_rep ra e1] at sa
      exact ⟨true, a, ns, rfl, sa, Alc.same (.int _) q⟩
end
theorem sumA_l {ns : List Int} : sumA? (.list (ns.map PyData.int)) = some (.int ns.sum) := by
  unfold sumA?
  dsimp only
  rw [ints_map]
  rfl
theorem sumA_t {ns : List Int} : sumA? (.tuple (ns.map PyData.int)) = some (.int ns.sum) := by
  unfold sumA?
  dsimp only
  rw [ints_map]
  rfl
end PL

end
section
/-! PLq: objects of own classes: their fields, methods, how they are made. -/
namespace PL
open PySem PySem.Spec L2
open PyProof.Rows hiding St

/-! ### the rules over FnG -/
theorem guards_make {A : Around} {C : Addr} {us : List Value} (hg : A.guards = some []) : (A.under (.builtin "type.__call__" ⟨.ref C :: us, []⟩)).guards = some [] := by
  unfold Around.under
  simp only [hg]
  rfl
/-- o.m(e, ..) -/
def tMethW (C : Addr) (m : Str) (sp : Sp) (E : L2.St → XK) (ta : TE) (t : TA) : TE := fun σ H Q => ta σ H fun x H1 => ∃ a dx fs, x = .ref a ∧ H1 a = some (.ins C dx fs) ∧ fs.lookup m = none ∧ t σ H1 fun vs H2 => sp ((x :: vs) ++ []) H2 Q (E σ)
/-- C(e, ..) -/
def tMakeW (C : Addr) (sp : Sp) (E : L2.St → XK) (t : TA) : TE := fun σ H Q => t σ H fun vs H1 => ∀ x dx, H1 x = none → H1 dx = none → dx ≠ x → sp ((.ref x :: vs) ++ []) (upd (upd H1 dx (.own x)) x (.ins C dx [])) (fun v H2 => v = .non ∧ Q (.ref x) H2) (E σ)
section
variable {X : Cx} {k : Nat} {f C : Addr} {fd : FuncData} {ps : List Str} {sp : Sp} {W : WX} {x m : Str} {p pos apos : Pos} {e o : Expr} {es : List Expr} {ta : TE} {t : TA}
theorem pe_methG {pl : Sem Bool} (he : PE X o ta) (c : Cls X.K C) (hm : Meth X.K C m f) (F : FnG X.prog X.w X.K X.mg X.base k f fd ps sp) (hr : Room k X.A) (hg : X.A.guards = some []) (hb : Binds X.K fd ps []) (tk : Takes X W) (ha : PA X (e :: es) t)
    (hst : starEach (e :: es) X.env = (false, eval e X.env) :: starEach es X.env := by rfl) (hpl : (backTo pos (starEach es X.env)).any (·.1) = false := by rfl)
    (ht : eval (.Call (.Attribute o m apos) (e :: es) [] pos) X.env = (do
      let ov ← eval o X.env
      standAt apos.atName
      let (f, first) ← holding [ov] (getMethod ov m pl)
      callWith pos f first (backTo pos (starEach (e :: es) X.env)) (backToKw pos (keywordEach [] X.env))) := by rfl) :
    PE X (.Call (.Attribute o m apos) (e :: es) [] pos) (tMethW C m sp (fun σ => WE W σ) ta t) := by
  refine ⟨fun pins s σ H Q I h => ?_⟩
  refine PySem.W.methodCall_KW (pl := pl) (thn (he.run pins s σ H _ I h) fun u s1 ⟨x, H1, I1, rx, a, dx, fs, ex, ea, l, q⟩ => ?_) ht
  subst ex
  obtain rfl : u = Value.ref a := rx
  refine getmeth_ok I1 ea c hm l ?_
  refine PySem.W.callWith_K (first := [.ref a]) (h₀ := X.base) I1.ok.mod.kin hm.kp (thn (ha.run pos pins s1 σ H1 _ I1 q) fun us s2 ⟨vs, H2, I2, r, q2⟩ => ⟨I2.kIn, ?_⟩) hst hpl
  exact F.call (us := .ref a :: us) (vs := .ref a :: vs) (dvs := []) (ds := []) hr hg hb .nil tk I2 (.cons rfl r) q2
theorem pe_methG0 {pl : Sem Bool} (he : PE X o ta) (c : Cls X.K C) (hm : Meth X.K C m f) (F : FnG X.prog X.w X.K X.mg X.base k f fd ps sp) (hr : Room k X.A) (hg : X.A.guards = some []) (hb : Binds X.K fd ps []) (tk : Takes X W)
    (ht : eval (.Call (.Attribute o m apos) [] [] pos) X.env = (do
      let ov ← eval o X.env
      standAt apos.atName
      let (f, first) ← holding [ov] (getMethod ov m pl)
      callWith pos f first (backTo pos (starEach [] X.env)) (backToKw pos (keywordEach [] X.env))) := by rfl) :
    PE X (.Call (.Attribute o m apos) [] [] pos) (tMethW C m sp (fun σ => WE W σ) ta tNil) := by
  refine ⟨fun pins s σ H Q I h => ?_⟩
  refine PySem.W.methodCall_KW (pl := pl) (thn (he.run pins s σ H _ I h) fun u s1 ⟨x, H1, I1, rx, a, dx, fs, ex, ea, l, q⟩ => ?_) ht
  subst ex
  obtain rfl : u = Value.ref a := rx
  refine getmeth_ok I1 ea c hm l ?_
  exact PySem.W.callWith_K0 (first := [.ref a]) I1.kIn hm.kp (F.call (us := [.ref a]) (vs := [.ref a]) (dvs := []) (ds := []) hr hg hb .nil tk I1 (.cons rfl .nil) q)
theorem run_makeG {pins : List (Addr × Obj)} {σ : L2.St} {H : Hp} {s : Shared} {Q : VK} {us : List Value} {vs : List V} (M : Mk X.K C f) (F : FnG X.prog X.w X.K X.mg X.base k f fd ps sp) (hr : Room (k + 1) X.A) (hg : X.A.guards = some []) (hb : Binds X.K fd ps [])
    (tk : Takes X W) (I : Inv X pins σ H s) (r : Vals vs us)
    (h : ∀ x dx, H x = none → H dx = none → dx ≠ x → sp ((.ref x :: vs) ++ []) (upd (upd H dx (.own x)) x (.ins C dx [])) (fun v H2 => v = .non ∧ Q (.ref x) H2) (WE W σ)) :
    wpAny (model X.prog X.w) X.A (call (.ref C) us) (EP X pins σ Q) X.xe s := by
  have hq := h (s.heap.objs.size + 1) s.heap.objs.size (I.hok.fresh (Nat.le_succ _)) (I.hok.fresh (Nat.le_refl _)) (Nat.ne_of_lt (Nat.lt_succ_self _))
  have I2 := Inv.made (C := C) I
  have r2 : Vals ((V.ref (s.heap.objs.size + 1) :: vs) ++ []) ((Value.ref (s.heap.objs.size + 1) :: us) ++ []) := Vals.append (.cons rfl r) .nil
  have hl : ((Value.ref (s.heap.objs.size + 1) :: us) ++ []).length = ps.length := by
    have e := r2.length
    rw [F.size _ _ _ _ hq] at e
    exact e.symm
  refine wpAny_call (make_map (f := f) I.kIn M.makes M.init (beq_iff_eq.mp M.fn) (codeAny_mono (F.go _ X.stack _ _ ⟨Value.ref (s.heap.objs.size + 1) :: us, []⟩ ((Value.ref (s.heap.objs.size + 1) :: us) ++ []) _ _ (WE W σ) (hr.make C us [])
    (guards_make hg) (I2.env0.make C us []) (hb _ (Value.ref (s.heap.objs.size + 1) :: us) I2.kIn hl) r2 hq) fun r s' hq' => ?_))
  cases r with
  | error e => exact passAt tk σ pins _ _ e s' I2 hq'
  | ok fl =>
    cases fl with
    | ret u =>
      obtain ⟨v, H', I3, rv, ev, q3⟩ := I2.after hq'
      subst ev
      exact ⟨rv, ⟨V.ref (s.heap.objs.size + 1), H', I3, rfl, q3⟩⟩
    | next => exact False.elim hq'
    | brk => exact False.elim hq'
    | cont => exact False.elim hq'
theorem pe_makeG (M : Mk X.K C f) (F : FnG X.prog X.w X.K X.mg X.base k f fd ps sp) (hr : Room (k + 1) X.A) (hg : X.A.guards = some []) (gl : Gl X x) (hm : X.mg x = some (.ref C)) (hb : Binds X.K fd ps []) (tk : Takes X W)
    (ha : PA X (e :: es) t) (hdb : (x == ("__debug__" : Str)) = false := by decide) (he : starEach (e :: es) X.env = (false, eval e X.env) :: starEach es X.env := by rfl) (hpl : (backTo pos (starEach es X.env)).any (·.1) = false := by rfl) :
    PE X (.Call (.Name x p) (e :: es) [] pos) (tMakeW C sp (fun σ => WE W σ) t) := by
  refine ⟨fun pins s σ H Q I h => ?_⟩
  refine wpAny_Call_Name_kw (ld_glob I gl hm ?_ hdb)
  refine PySem.W.callWith_K (h₀ := X.base) I.ok.mod.kin M.kp (thn (ha.run pos pins s σ H _ I h) fun us s1 ⟨vs, H1, I1, r, q⟩ => ⟨I1.kIn, ?_⟩) he hpl
  exact run_makeG M F hr hg hb tk I1 r q
theorem pe_makeG0 (M : Mk X.K C f) (F : FnG X.prog X.w X.K X.mg X.base k f fd ps sp) (hr : Room (k + 1) X.A) (hg : X.A.guards = some []) (gl : Gl X x) (hm : X.mg x = some (.ref C)) (hb : Binds X.K fd ps []) (tk : Takes X W)
    (hdb : (x == ("__debug__" : Str)) = false := by decide) : PE X (.Call (.Name x p) [] [] pos) (tMakeW C sp (fun σ => WE W σ) tNil) := by
  refine ⟨fun pins s σ H Q I h => ?_⟩
  refine wpAny_Call_Name_kw (ld_glob I gl hm ?_ hdb)
  exact PySem.W.callWith_K0 I.kIn M.kp (run_makeG (us := []) M F hr hg hb tk I .nil h)
end

/-! ### what is known of an object -/
structure ClsF (K : PySem.W.Frag) (n : Str) (C : Addr) : Prop where
  at_ : clsAt K n = some C
  cl : Cls K C
/-- f is the name number j of ns -/
def fAt (ns : List Str) (j : Nat) (f : Str) : Bool := decide (ns[j]? = some f) && !decide (f ∈ ns.take j)
section
variable {K : PySem.W.Frag} {fz fz' : Addr → Prop} {H H' : Hp} {a : Addr}
theorem OwnR.ins_inv {t : PyData} {ds : List PyData} {n : Str} {ns : List Str} {F : List Addr} (h : OwnR K fz H a (.tuple (t :: ds)) F) (ht : t = tagD n ns) :
    ∃ C dx fs F', clsAt K n = Option.some C ∧ H a = Option.some (.ins C dx fs) ∧ FldR K fz H fs ds F' ∧ F = a :: F' ∧ (a :: F').Nodup ∧ fs.map (·.1) = ns := by
  cases h with
  | ins q c e f nd =>
    rw [ht] at q
    simp only [tagD, PyData.tuple.injEq, List.cons.injEq, PyData.str.injEq] at q
    obtain ⟨q1, q2⟩ := q
    subst q1
    exact ⟨_, _, _, _, c, e, f, rfl, nd, ((List.map_inj_right (fun x y h => PyData.str.inj h)).mp q2).symm⟩
  | exc => cases ht
  | exc0 => cases ht
theorem OwnR.nodup {d : PyData} {F : List Addr} (h : OwnR K fz H a d F) : F.Nodup := by
  cases h with
  | lst => simp
  | dic => simp
  | ins _ _ _ _ n => exact n
  | exc => exact List.nodup_nil
  | exc0 => exact List.nodup_nil
theorem FldR.len : ∀ {fs : List (Str × V)} {ds : List PyData} {F : List Addr}, FldR K fz H fs ds F → fs.length = ds.length
  | _, _, _, .nil => rfl
  | _, _, _, .val _ t => by simp [FldR.len t]
  | _, _, _, .own _ t => by simp [FldR.len t]
theorem FldR.getV : ∀ {fs : List (Str × V)} {ds : List PyData} {F : List Addr} {j : Nat} {d : PyData}, FldR K fz H fs ds F → ds[j]? = Option.some (.tuple [d]) → ∃ n v, fs[j]? = Option.some (n, v) ∧ Rep K fz H v d
  | _, _, _, _, _, .nil, e => by simp at e
  | _, _, _, 0, _, .val r t, e => by simp at e; subst e; exact ⟨_, _, rfl, r⟩
  | _, _, _, j + 1, _, .val r t, e => by simpa using FldR.getV t (by simpa using e)
  | _, _, _, 0, _, .own r t, e => by simp at e
  | _, _, _, j + 1, _, .own r t, e => by simpa using FldR.getV t (by simpa using e)
theorem FldR.getO : ∀ {fs : List (Str × V)} {ds : List PyData} {F : List Addr} {j : Nat} {d : PyData}, FldR K fz H fs ds F → ds[j]? = Option.some (.list [d]) → ∃ n b G, fs[j]? = Option.some (n, .ref b) ∧ OwnR K fz H b d G ∧ ∀ x ∈ G, x ∈ F
  | _, _, _, _, _, .nil, e => by simp at e
  | _, _, _, 0, _, .val r t, e => by simp at e
  | _, _, _, j + 1, _, .val r t, e => by simpa using FldR.getO t (by simpa using e)
  | _, _, _, 0, _, .own r t, e => by simp at e; subst e; exact ⟨_, _, _, rfl, r, fun x h => List.mem_append_left _ h⟩
  | _, _, _, j + 1, _, .own r t, e => by
    obtain ⟨n, b, G, h1, h2, h3⟩ := FldR.getO t (by simpa using e)
    exact ⟨n, b, G, by simpa using h1, h2, fun x h => List.mem_append_right _ (h3 x h)⟩
/-- a part is put at place j: the part's region, and what was there but this place's part -/
theorem FldR.put : ∀ {fs : List (Str × V)} {ds : List PyData} {F : List Addr} {j : Nat} {n : Str} {v : V} {x : PyData} {G : List Addr}, FldR K fz H fs ds F → F.Nodup → j < fs.length → FldR K fz H [(n, v)] [x] G → G.Nodup → (∀ b ∈ G, b ∉ F) →
    ∃ F', FldR K fz H (fs.set j (n, v)) (ds.set j x) F' ∧ F'.Nodup ∧ ∀ b ∈ F', b ∈ F ∨ b ∈ G
  | _, _, _, _, _, _, _, _, .nil, _, l, _, _, _ => by simp at l
  | _, _, F, 0, n, v, x, G, .val r t, nd, l, p, ng, dj => by
    cases p with
    | val r' t' => cases t'; exact ⟨_, .val r' t, nd, fun b h => .inl h⟩
    | own r' t' =>
      cases t'
      rw [List.append_nil] at ng dj
      exact ⟨_, .own r' t, List.nodup_append.mpr ⟨ng, nd, fun b hb c hc e => dj b hb (e ▸ hc)⟩, fun b h => (List.mem_append.mp h).elim (fun z => .inr (List.mem_append_left _ z)) .inl⟩
  | _, _, _, j + 1, n, v, x, G, .val r t, nd, l, p, ng, dj => by
    obtain ⟨F', h1, h2, h3⟩ := FldR.put t nd (Nat.lt_of_succ_lt_succ l) p ng dj
    exact ⟨F', .val r h1, h2, h3⟩
  | _, _, _, 0, n, v, x, G, .own (G := G0) (F := F0) r t, nd, l, p, ng, dj => by
    have nd' := List.nodup_append.mp nd
    cases p with
    | val r' t' => cases t'; exact ⟨_, .val r' t, nd'.2.1, fun b h => .inl (List.mem_append_right _ h)⟩
    | own r' t' =>
      cases t'
      rw [List.append_nil] at ng dj
      exact ⟨_, .own r' t, List.nodup_append.mpr ⟨ng, nd'.2.1, fun b hb c hc e => dj b hb (List.mem_append_right _ (e ▸ hc))⟩, fun b h => (List.mem_append.mp h).elim (fun z => .inr (List.mem_append_left _ z)) fun z => .inl (List.mem_append_right _ z)⟩
  | _, _, _, j + 1, n, v, x, G, .own (G := G0) (F := F0) r t, nd, l, p, ng, dj => by
    have nd' := List.nodup_append.mp nd
    obtain ⟨F', h1, h2, h3⟩ := FldR.put t nd'.2.1 (Nat.lt_of_succ_lt_succ l) p ng (fun b hb z => dj b hb (List.mem_append_right _ z))
    refine ⟨_, .own r h1, List.nodup_append.mpr ⟨nd'.1, h2, fun b hb c hc e => ?_⟩, fun b h => (List.mem_append.mp h).elim (fun z => .inl (List.mem_append_left _ z)) fun z => (h3 b z).imp (fun y => List.mem_append_right _ y) id⟩
    rcases h3 c hc with z | z
    · exact nd'.2.2 b hb c z e
    · exact dj c z (List.mem_append_left _ (e ▸ hb))
/-- a part more -/
theorem FldR.add : ∀ {fs : List (Str × V)} {ds : List PyData} {F : List Addr} {n : Str} {v : V} {x : PyData} {G : List Addr}, FldR K fz H fs ds F → F.Nodup → FldR K fz H [(n, v)] [x] G → G.Nodup → (∀ b ∈ G, b ∉ F) →
    ∃ F', FldR K fz H (fs ++ [(n, v)]) (ds ++ [x]) F' ∧ F'.Nodup ∧ ∀ b ∈ F', b ∈ F ∨ b ∈ G
  | _, _, _, n, v, x, G, .nil, nd, p, ng, dj => ⟨G, p, ng, fun b h => .inr h⟩
  | _, _, _, n, v, x, G, .val r t, nd, p, ng, dj => by
    obtain ⟨F', h1, h2, h3⟩ := FldR.add t nd p ng dj
    exact ⟨F', .val r h1, h2, h3⟩
  | _, _, _, n, v, x, G, .own (G := G0) (F := F0) r t, nd, p, ng, dj => by
    have nd' := List.nodup_append.mp nd
    obtain ⟨F', h1, h2, h3⟩ := FldR.add t nd'.2.1 p ng (fun b hb z => dj b hb (List.mem_append_right _ z))
    refine ⟨_, .own r h1, List.nodup_append.mpr ⟨nd'.1, h2, fun b hb c hc e => ?_⟩, fun b h => (List.mem_append.mp h).elim (fun z => .inl (List.mem_append_left _ z)) fun z => (h3 b z).imp (fun y => List.mem_append_right _ y) id⟩
    rcases h3 c hc with z | z
    · exact nd'.2.2 b hb c z e
    · exact dj c z (List.mem_append_left _ (e ▸ hb))
/-- the own part at place j changes within itself and by new parts -/
theorem FldR.chg : ∀ {fs : List (Str × V)} {ds : List PyData} {F G G' : List Addr} {j : Nat} {n : Str} {b : Addr} {d d' : PyData}, FldR K fz H fs ds F → F.Nodup → ds[j]? = Option.some (.list [d]) → fs[j]? = Option.some (n, .ref b) → OwnR K fz H b d G → Ext fz H fz' H' → (∀ x ∈ F, x ∉ G → H' x = H x) →
    OwnR K fz' H' b d' G' → (∀ x ∈ G', x ∈ G ∨ x ∉ F) → ∃ F', FldR K fz' H' fs (ds.set j (.list [d'])) F' ∧ F'.Nodup ∧ (∀ x ∈ F', x ∈ F ∨ x ∈ G') ∧ ∀ x ∈ G', x ∈ F'
  | _, _, _, _, _, _, _, _, _, _, .nil, _, e, _, _, _, _, _, _ => by simp at e
  | _, _, _, _, _, 0, _, _, _, _, .val r t, _, e, _, _, _, _, _, _ => by simp at e
  | _, _, _, G, G', j + 1, n, b, d, d', .val r t, nd, e, ef, ro, E, k, r', sub => by
    obtain ⟨F', h1, h2, h3, h4⟩ := FldR.chg t nd (by simpa using e) (by simpa using ef) ro E k r' sub
    exact ⟨F', .val (r.ext E) h1, h2, h3, h4⟩
  | _, _, _, G, G', 0, n, b, d, d', .own (G := G0) (F := F0) r t, nd, e, ef, ro, E, k, r', sub => by
    have nd' := List.nodup_append.mp nd
    simp only [List.getElem?_cons_zero, Option.some.injEq, PyData.list.injEq, List.cons.injEq, and_true, Prod.mk.injEq, V.ref.injEq] at e ef
    subst e
    obtain ⟨rfl, rfl⟩ := ef
    obtain rfl := r.det ro
    refine ⟨_, .own r' (FldR.ext E t fun x hx => k x (List.mem_append_right _ hx) fun z => nd'.2.2 x z x hx rfl), List.nodup_append.mpr ⟨r'.nodup, nd'.2.1, fun x hx c hc q => ?_⟩, fun x h => (List.mem_append.mp h).elim .inr fun z => .inl (List.mem_append_right _ z), fun x hx => List.mem_append_left _ hx⟩
    rcases sub x hx with z | z
    · exact nd'.2.2 x z c hc q
    · exact z (List.mem_append_right _ (q ▸ hc))
  | _, _, _, G, G', j + 1, n, b, d, d', .own (G := G0) (F := F0) r t, nd, e, ef, ro, E, k, r', sub => by
    have nd' := List.nodup_append.mp nd
    have e2 := e
    simp only [List.getElem?_cons_succ] at e ef
    obtain ⟨n2, b2, G2, q1, q2, q3⟩ := FldR.getO t e
    rw [ef] at q1
    cases q1
    obtain rfl := q2.det ro
    have no : ∀ x ∈ G0, x ∉ G2 := fun x hx z => nd'.2.2 x hx x (q3 x z) rfl
    obtain ⟨F', h1, h2, h3, h4⟩ := FldR.chg t nd'.2.1 e ef ro E (fun x hx => k x (List.mem_append_right _ hx)) r' (fun x hx => (sub x hx).imp id fun z y => z (List.mem_append_right _ y))
    refine ⟨_, .own (OwnR.ext E r fun x hx => k x (List.mem_append_left _ hx) (no x hx)) h1, List.nodup_append.mpr ⟨nd'.1, h2, fun x hx c hc q => ?_⟩, fun x h => (List.mem_append.mp h).elim (fun z => .inl (List.mem_append_left _ z)) fun z => (h3 x z).imp (fun y => List.mem_append_right _ y) id, fun x hx => List.mem_append_right _ (h4 x hx)⟩
    rcases h3 c hc with z | z
    · exact nd'.2.2 x hx c z q
    · rcases sub c z with y | y
      · exact no x hx (q ▸ y)
      · exact y (List.mem_append_left _ (q ▸ hx))
end
theorem fAt_lookup {fs : List (Str × V)} {j : Nat} {f n : Str} {v : V} {ns : List Str} (hn : fs.map (·.1) = ns) (hf : fAt ns j f = true) (e : fs[j]? = some (n, v)) : n = f ∧ fs.lookup f = some v ∧ ∀ y, putF f y fs = fs.set j (f, y) := by
  subst hn
  simp only [fAt, Bool.and_eq_true, decide_eq_true_eq, Bool.not_eq_true', decide_eq_false_iff_not] at hf
  obtain ⟨h1, h2⟩ := hf
  rw [List.getElem?_map, e] at h1
  simp only [Option.map_some, Option.some.injEq] at h1
  subst h1
  refine ⟨rfl, ?_⟩
  induction fs generalizing j with
  | nil => simp at e
  | cons x fs ih =>
    cases j with
    | zero =>
      simp only [List.getElem?_cons_zero, Option.some.injEq] at e
      subst e
      refine ⟨by simp [List.lookup], fun y => ?_⟩
      show (if n = n then (n, y) :: fs else _) = _
      rw [if_pos rfl]; rfl
    | succ j =>
      simp only [List.getElem?_cons_succ] at e
      simp only [List.map_cons, List.take_succ_cons, List.mem_cons, not_or] at h2
      obtain ⟨i1, i2⟩ := ih e h2.2
      refine ⟨?_, fun y => ?_⟩
      · rw [List.lookup, i1]
        have : (n == x.1) = false := by simpa using h2.1
        rw [this]
      · obtain ⟨k, w⟩ := x
        show (if k = n then _ else (k, w) :: putF n y fs) = _
        rw [if_neg (fun z => h2.1 z.symm), i2]; rfl
theorem no_lookup {fs : List (Str × V)} {f : Str} {ns : List Str} (hn : fs.map (·.1) = ns) (hf : decide (f ∈ ns) = false) : fs.lookup f = none ∧ ∀ y, putF f y fs = fs ++ [(f, y)] := by
  subst hn
  simp only [decide_eq_false_iff_not] at hf
  induction fs with
  | nil => exact ⟨rfl, fun y => rfl⟩
  | cons x fs ih =>
    simp only [List.map_cons, List.mem_cons, not_or] at hf
    obtain ⟨i1, i2⟩ := ih hf.2
    refine ⟨?_, fun y => ?_⟩
    · rw [List.lookup, i1]
      have : (f == x.1) = false := by simpa using hf.1
      rw [this]
    · obtain ⟨k, w⟩ := x
      show (if k = f then _ else (k, w) :: putF f y fs) = _
      rw [if_neg (fun z => hf.1 z.symm), i2]; rfl

/-! ### the object in a slot -/
open Classical in
noncomputable def insAt (t : PyData) (i : Nat) (ρ : Env) : Option (List PyData) := match ρ[i]? with
  | some (.own (.tuple (t' :: ds))) => if t' = t then some ds else none
  | _ => none
theorem insAt_eq {t : PyData} {i : Nat} {ρ : Env} {ds : List PyData} (h : insAt t i ρ = some ds) : ρ[i]? = some (.own (.tuple (t :: ds))) := by
  unfold insAt at h
  split at h
  · rename_i e
    split at h
    · rename_i e2; cases h; rw [e, e2]
    · cases h
  · cases h
section
variable {c : Cw} {pp : List (Nat × Addr)} {pr fz : Addr → Prop} {σ : L2.St} {H : Hp} {ρ : Env} {t t' : PyData} {n : Str} {ns : List Str} {C : Addr} {i j : Nat} {f : Str}
theorem Rel.insAt (R : Rel c.K pp pr fz σ H ρ) {ds : List PyData} (e : PL.insAt t i ρ = some ds) (ht : t = tagD n ns) (cf : ClsF c.K n C) :
    ∃ a dx fs F, σ[i]? = some (some (V.ref a)) ∧ H a = some (.ins C dx fs) ∧ FldR c.K fz H fs ds F ∧ (a :: F).Nodup ∧ fs.map (·.1) = ns ∧ OwnR c.K fz H a (.tuple (t :: ds)) (a :: F) ∧ (∀ b ∈ a :: F, ¬ fz b ∧ ¬ pr b ∧ H b ≠ none) := by
  obtain ⟨a, F, hs, r, nf⟩ := R.own_at (insAt_eq e)
  obtain ⟨C', dx, fs, F', h1, h2, h3, rfl, h5, h6⟩ := r.ins_inv ht
  rw [cf.at_] at h1
  cases h1
  exact ⟨a, dx, fs, F', hs, h2, h3, h5, h6, r, fun b hb => ⟨(nf b hb).1, (nf b hb).2, r.some b hb⟩⟩
/-- a field that is a value -/
noncomputable def fldQ (t : PyData) (i j : Nat) (ρ : Env) : Option PyData := match insAt t i ρ with
  | some ds => (match ds[j]? with
    | some (.tuple [d]) => some d
    | _ => none)
  | none => none
/-- a field that is a list or dict of its own -/
noncomputable def ownF (t : PyData) (i j : Nat) (ρ : Env) : Option PyData := match insAt t i ρ with
  | some ds => (match ds[j]? with
    | some (.list [d]) => if leafD d = true then some d else none
    | _ => none)
  | none => none
theorem fldQ_eq {d : PyData} (h : fldQ t i j ρ = some d) : ∃ ds, insAt t i ρ = some ds ∧ ds[j]? = some (.tuple [d]) := by
  unfold fldQ at h
  split at h
  · rename_i ds e
    split at h
    · rename_i e2; cases h; exact ⟨ds, e, e2⟩
    · cases h
  · cases h
theorem ownF_eq {d : PyData} (h : ownF t i j ρ = some d) : ∃ ds, insAt t i ρ = some ds ∧ ds[j]? = some (.list [d]) ∧ leafD d = true := by
  unfold ownF at h
  split at h
  · rename_i ds e
    split at h
    · rename_i e2
      split at h
      · rename_i l; cases h; exact ⟨ds, e, e2, l⟩
      · cases h
    · cases h
  · cases h
theorem Rel.fldV (R : Rel c.K pp pr fz σ H ρ) {d : PyData} (e : fldQ t i j ρ = some d) (ht : t = tagD n ns) (cf : ClsF c.K n C) (na : NoAttr c.K C f) (hf : fAt ns j f = true) :
    ∃ v, Rep c.K fz H v d ∧ ∀ Q : VK, Q v H → tFld c.K (tVar i) f σ H Q := by
  obtain ⟨ds, e1, e2⟩ := fldQ_eq e
  obtain ⟨a, dx, fs, F, hs, hH, fr, nd, en, r, nf⟩ := R.insAt e1 ht cf
  obtain ⟨m, v, q1, q2⟩ := fr.getV e2
  exact ⟨v, q2, fun Q hq => ⟨_, hs, a, C, dx, fs, v, rfl, hH, cf.cl, na, (fAt_lookup en hf q1).2.1, hq⟩⟩
theorem Rel.fldO (R : Rel c.K pp pr fz σ H ρ) {d : PyData} (e : ownF t i j ρ = some d) (ht : t = tagD n ns) (cf : ClsF c.K n C) (na : NoAttr c.K C f) (hf : fAt ns j f = true) :
    ∃ b, OwnC c.K fz H b d ∧ ¬ fz b ∧ H b ≠ none ∧ ∀ Q : VK, Q (.ref b) H → tFld c.K (tVar i) f σ H Q := by
  obtain ⟨ds, e1, e2, l⟩ := ownF_eq e
  obtain ⟨a, dx, fs, F, hs, hH, fr, nd, en, r, nf⟩ := R.insAt e1 ht cf
  obtain ⟨m, b, G, q1, q2, q3⟩ := fr.getO e2
  obtain ⟨oc, rfl⟩ := q2.leaf l
  have nb := nf b (List.mem_cons_of_mem _ (q3 b List.mem_cons_self))
  exact ⟨b, oc, nb.1, nb.2.2, fun Q hq => ⟨_, hs, a, C, dx, fs, _, rfl, hH, cf.cl, na, (fAt_lookup en hf q1).2.1, hq⟩⟩

/-! ### readings that change nothing -/
theorem Alc.trans {fz1 fz2 : Addr → Prop} {H1 H2 : Hp} (A : Alc fz H fz1 H1) (B : Alc fz1 H1 fz2 H2) : Alc fz H fz2 H2 := by
  refine ⟨fun a h => ?_, fun a h => B.mono a (A.mono a h), fun a h => ?_, fun a h => ?_⟩
  · rw [← A.keep a h]
    exact B.keep a (by rw [A.keep a h]; exact h)
  · rcases B.new a h with z | z
    · exact A.new a z
    · exact .inr (Classical.byContradiction fun q => q (by rw [← A.keep a q]; exact z))
  · rcases B.some a h with z | z
    · rcases A.some a z with y | y
      · exact .inl y
      · exact .inr (by rw [B.keep a y]; exact y)
    · exact .inr z
abbrev QM := Env → Option PyData
def RfQ (c : Cw) (t : TE) (q : QM) : Prop :=
  ∀ (pp : List (Nat × Addr)) (pr fz : Addr → Prop) (σ : L2.St) (H : Hp) (ρ : Env) (d : PyData) (Q : VK), Rel c.K pp pr fz σ H ρ → q ρ = some d → (∀ v fz' H', Alc fz H fz' H' → Rep c.K fz' H' v d → Q v H') → t σ H Q
def qcon (d : PyData) : QM := fun _ => some d
def qvar (i : Nat) : QM := fun ρ => match ρ[i]? with
  | some (.val d) => some d
  | _ => none
def qop (f : PyData → PyData → Option PyData) (a b : QM) : QM := fun ρ => match a ρ, b ρ with
  | some x, some y => f x y
  | _, _ => none
def qnil : QM := fun _ => some (.list [])
theorem rfq_con {v : V} {d : PyData} (h : ∀ fz H, Rep c.K fz H v d) : RfQ c (tC v) (qcon d) := fun pp pr fz σ H ρ x Q R e hq => by
  cases e
  exact hq v fz H .refl (h fz H)
theorem rfq_var : RfQ c (tVar i) (qvar i) := fun pp pr fz σ H ρ x Q R e hq => by
  unfold qvar at e
  split at e
  · rename_i d er
    cases e
    obtain ⟨v, h, r⟩ := R.at_ i _ er
    exact ⟨v, join_some.mp h, hq v fz H .refl r⟩
  · cases e
theorem rfq_fld (ht : t = tagD n ns) (cf : ClsF c.K n C) (na : NoAttr c.K C f) (hf : fAt ns j f = true) : RfQ c (tFld c.K (tVar i) f) (fldQ t i j) := fun pp pr fz σ H ρ x Q R e hq => by
  obtain ⟨v, r, k⟩ := R.fldV e ht cf na hf
  exact k Q (hq v fz H .refl r)
theorem rfq_op {r : R2} {g : PyData → PyData → Option PyData} {ta tb : TE} {a b : QM} (ho : OpF c.K r g) (ha : RfQ c ta a) (hb : RfQ c tb b) : RfQ c (tOp r ta tb) (qop g a b) := fun pp pr fz σ H ρ x Q R e hq => by
  unfold qop at e
  split at e
  · rename_i y z e1 e2
    refine ha pp pr fz σ H ρ y _ R e1 fun v fz1 H1 A1 r1 => ?_
    have R1 := A1.rel R
    refine hb pp pr fz1 σ H1 ρ z _ R1 e2 fun w fz2 H2 A2 r2 => ?_
    have R2 := A2.rel R1
    refine ho fz2 H2 v w y z x (.inl (r1.ext (A2.ext R1.fzH))) (.inl r2) e _ fun u fz3 H3 A3 r3 => ?_
    exact hq u fz3 H3 ((A1.trans A2).trans A3) (r3 R2.fzH)
  · cases e
theorem rfq_nil : RfQ c (tLst tNil) qnil := fun pp pr fz σ H ρ x Q R e hq => by
  cases e
  exact ⟨Nat.zero_le _, fun p hp => hq (.ref p) _ _ (.one hp) (.lst (.inr rfl) upd_same .nil)⟩
def mq (q : QM) : M PyData := fun ρ => lft (q ρ) ρ
theorem rf_q {te : TE} {q : QM} (h : RfQ c te q) : Rf c (RV c.K) te (mq q) := by
  intro pp pr fz σ H ρ Q hp R hq
  unfold mq at hq
  cases e : q ρ with
  | none => rw [e] at hq; exact hq.elim
  | some d =>
    rw [e] at hq
    exact h pp pr fz σ H ρ d Q R e fun v fz' H' A r => hq v fz' H' (A.fr R) (A.rel R) r
noncomputable def mfld (t : PyData) (i j : Nat) : M PyData := mq (fldQ t i j)
theorem rf_fld (ht : t = tagD n ns) (cf : ClsF c.K n C) (na : NoAttr c.K C f) (hf : fAt ns j f = true) : Rf c (RV c.K) (tFld c.K (tVar i) f) (mfld t i j) := rf_q (rfq_fld ht cf na hf)

/-! ### fields that are lists or dicts, looked at -/
noncomputable def opF (g : PyData → PyData → Option PyData) (t : PyData) (i j : Nat) (q : QM) : M PyData := fun ρ => match ownF t i j ρ, q ρ with
  | some x, some y => lft (g x y) ρ
  | _, _ => .bad
theorem rf_opF {r : R2} {g : PyData → PyData → Option PyData} {tb : TE} {q : QM} (ht : t = tagD n ns) (cf : ClsF c.K n C) (na : NoAttr c.K C f) (hf : fAt ns j f = true) (ho : OpF c.K r g) (hb : RfQ c tb q) :
    Rf c (RV c.K) (tOp r (tFld c.K (tVar i) f) tb) (opF g t i j q) := by
  intro pp pr fz σ H ρ Q hp R hq
  unfold opF at hq
  cases e1 : ownF t i j ρ with
  | none => simp only [e1] at hq; exact hq.elim
  | some x =>
    cases e2 : q ρ with
    | none => simp only [e1, e2] at hq; exact hq.elim
    | some y =>
      simp only [e1, e2] at hq
      obtain ⟨b, oc, nf, hb0, k⟩ := R.fldO e1 ht cf na hf
      refine k _ ?_
      refine hb pp pr fz σ H ρ y _ R e2 fun w fz1 H1 A r1 => ?_
      have R1 := A.rel R
      have oc1 : OwnC c.K fz1 H1 b x := oc.ext (A.ext R.fzH) (A.keep b hb0)
      have nf1 : ¬ fz1 b := fun z => (A.new b z).elim nf hb0
      exact lft_post (t := r (.ref b) w H1) R1 (PostG.rest (A.fr R) hq) fun z e k => ho fz1 H1 _ w x y z (.inr ⟨b, rfl, nf1, oc1⟩) (.inl r1) e Q k
noncomputable def opFr (g : PyData → PyData → Option PyData) (ma : M PyData) (t : PyData) (i j : Nat) : M PyData := bnd ma fun x ρ => match ownF t i j ρ with
  | some y => lft (g x y) ρ
  | none => .bad
theorem rf_opFr {r : R2} {g : PyData → PyData → Option PyData} {ta : TE} {ma : M PyData} (ht : t = tagD n ns) (cf : ClsF c.K n C) (na : NoAttr c.K C f) (hf : fAt ns j f = true) (ho : OpF c.K r g) (ha : Rf c (RV c.K) ta ma) :
    Rf c (RV c.K) (tOp r ta (tFld c.K (tVar i) f)) (opFr g ma t i j) := by
  intro pp pr fz σ H ρ Q hp R hq
  refine ha pp pr fz σ H ρ _ hp R (hq.bnd fun v x fz1 H1 ρ1 F1 R1 r1 P1 => ?_)
  cases e1 : ownF t i j ρ1 with
  | none => simp only [e1] at P1; exact P1.elim
  | some y =>
    simp only [e1] at P1
    obtain ⟨b, oc, nf, hb0, k⟩ := R1.fldO e1 ht cf na hf
    refine k _ ?_
    exact lft_post (t := r v (.ref b) H1) R1 P1 fun z e k => ho fz1 H1 v _ x y z (.inl r1) (.inr ⟨b, rfl, nf, oc⟩) e Q k
noncomputable def c1F (g : PyData → Option PyData) (t : PyData) (i j : Nat) : M PyData := fun ρ => match ownF t i j ρ with
  | some x => lft (g x) ρ
  | none => .bad
theorem rf_c1F {r : RL} {g : PyData → Option PyData} (ht : t = tagD n ns) (cf : ClsF c.K n C) (na : NoAttr c.K C f) (hf : fAt ns j f = true) (ho : C1 c.K r g) : Rf c (RV c.K) (tCB r (tCons (tFld c.K (tVar i) f) tNil)) (c1F g t i j) := by
  intro pp pr fz σ H ρ Q hp R hq
  unfold c1F at hq
  cases e : ownF t i j ρ with
  | none => rw [e] at hq; exact hq.elim
  | some x =>
    simp only [e] at hq
    obtain ⟨b, oc, nf, hb0, k⟩ := R.fldO e ht cf na hf
    obtain ⟨z, e1, P1⟩ := lftB_post hq
    exact k _ (ho fz H _ x z (.inr ⟨b, rfl, nf, oc⟩) e1 Q fun u fz' H' A r => alc_post P1 R A (r R.fzH))
theorem rf_coF {r : RL} {g : PyData → Option PyData} (ht : t = tagD n ns) (cf : ClsF c.K n C) (na : NoAttr c.K C f) (hf : fAt ns j f = true) (ho : CO c.K r g) : Rf c (RO c.K) (tCB r (tCons (tFld c.K (tVar i) f) tNil)) (c1F g t i j) := by
  intro pp pr fz σ H ρ Q hp R hq
  unfold c1F at hq
  cases e : ownF t i j ρ with
  | none => rw [e] at hq; exact hq.elim
  | some x =>
    simp only [e] at hq
    obtain ⟨b, oc, nf, hb0, k⟩ := R.fldO e ht cf na hf
    obtain ⟨z, e1, P1⟩ := lftB_post hq
    exact k _ (ho fz H _ x z (.inr ⟨b, rfl, nf, oc⟩) e1 R.fzH Q fun p H' hp hk oc => ro_new R hp hk oc P1)
end
end PL

end
section
/-! PLr: objects of own classes: fields stored, methods called, objects made. -/
namespace PL
open PySem PySem.Spec L2
open PyProof.Rows hiding St

section
variable {c : Cw} {pp : List (Nat × Addr)} {pr fz : Addr → Prop} {σ : L2.St} {H : Hp} {ρ : Env} {t t' : PyData} {n : Str} {ns : List Str} {C : Addr} {i j : Nat} {f : Str}
theorem Rel.putObj {a dx : Addr} {ds ds' : List PyData} {fs' : List (Str × V)} {F F' : List Addr} (R : Rel c.K pp pr fz σ H ρ) (hi : ρ[i]? = some (.own (.tuple (t :: ds)))) (hs : σ[i]? = some (some (V.ref a))) (r : OwnR c.K fz H a (.tuple (t :: ds)) (a :: F)) (nd : (a :: F).Nodup)
    (cf : clsAt c.K n = some C) (fr : FldR c.K fz H fs' ds' F') (nd' : F'.Nodup) (sub : ∀ b ∈ F', b ∈ F ∨ (¬ fz b ∧ ¬ pr b ∧ Free c.K fz H σ ρ b)) (ht' : t' = tagD n (fs'.map (·.1))) :
    Fr pr fz H fz (upd H a (.ins C dx fs')) ∧ Rel c.K pp pr fz σ (upd H a (.ins C dx fs')) (ρ.set i (.own (.tuple (t' :: ds')))) := by
  have g0 : Reg c.K fz H σ ρ i (a :: F) := ⟨a, _, hi, hs, r⟩
  have na : ∀ b ∈ F', b ≠ a := fun b hb e => by
    rcases sub b hb with z | z
    · exact (List.nodup_cons.mp nd).1 (e ▸ z)
    · exact z.2.2 i _ g0 (e ▸ List.mem_cons_self)
  have nf := (R.reg_ok g0 a List.mem_cons_self).1
  have E : Ext fz H fz (upd H a (.ins C dx fs')) := ⟨fun _ z => z, fun b z => upd_ne fun q => nf (q ▸ z)⟩
  refine R.wrG2 hi hs r (fun b _ hb => upd_ne fun q => hb (q ▸ List.mem_cons_self)) (.ins ht' cf upd_same (FldR.ext E fr fun b hb => upd_ne (na b hb)) (List.nodup_cons.mpr ⟨fun z => na a z rfl, nd'⟩)) fun b hb => ?_
  rcases List.mem_cons.mp hb with rfl | hb
  · exact .inl List.mem_cons_self
  · exact (sub b hb).imp (List.mem_cons_of_mem _) id

/-! ### o.f = e -/
noncomputable def msetF (t : PyData) (i j : Nat) (m : M PyData) : SM := sbnd m fun d ρ => match insAt t i ρ with
  | some ds => if j < ds.length then .nx (ρ.set i (.own (.tuple (t :: ds.set j (.tuple [d]))))) else .bad
  | none => .bad
noncomputable def msetFO (t : PyData) (i j : Nat) (m : M PyData) : SM := sbnd m fun d ρ => match insAt t i ρ with
  | some ds => if j < ds.length then .nx (ρ.set i (.own (.tuple (t :: ds.set j (.list [d]))))) else .bad
  | none => .bad
noncomputable def maddF (t t' : PyData) (i : Nat) (m : M PyData) : SM := sbnd m fun d ρ => match insAt t i ρ with
  | some ds => .nx (ρ.set i (.own (.tuple (t' :: (ds ++ [.tuple [d]])))))
  | none => .bad
noncomputable def maddFO (t t' : PyData) (i : Nat) (m : M PyData) : SM := sbnd m fun d ρ => match insAt t i ρ with
  | some ds => .nx (ρ.set i (.own (.tuple (t' :: (ds ++ [.list [d]])))))
  | none => .bad
theorem names_len {fs : List (Str × V)} (hn : fs.map (·.1) = ns) (hl : ns.length < 1000) : fs.length < 1000 := by
  subst hn; simpa using hl
theorem names_set {fs : List (Str × V)} {v : V} (hn : fs.map (·.1) = ns) (hf : fAt ns j f = true) : (fs.set j (f, v)).map (·.1) = ns := by
  subst hn
  simp only [fAt, Bool.and_eq_true, decide_eq_true_eq] at hf
  rw [List.map_set]
  apply List.ext_getElem?
  intro k
  by_cases e : k = j
  · subst e
    have hl := (List.getElem?_eq_some_iff.mp hf.1).1
    rw [List.getElem?_set_self hl, hf.1]
  · rw [List.getElem?_set_ne (Ne.symm e)]
theorem fAt_at {fs : List (Str × V)} (hn : fs.map (·.1) = ns) (hf : fAt ns j f = true) : ∃ v, fs[j]? = some (f, v) := by
  subst hn
  simp only [fAt, Bool.and_eq_true, decide_eq_true_eq] at hf
  have h := hf.1
  rw [List.getElem?_map] at h
  cases e : fs[j]? with
  | none => rw [e] at h; cases h
  | some x => obtain ⟨k, v⟩ := x; rw [e] at h; cases h; exact ⟨v, rfl⟩
variable {tv : TE} {m : M PyData}
theorem rs_setF (ht : t = tagD n ns) (cf : ClsF c.K n C) (na : NoAttr c.K C f) (hf : fAt ns j f = true) (hl : ns.length < 1000) (h : Rf c (RV c.K) tv m) : RfS c (sFld c.K (tVar i) tv f) (msetF t i j m) := by
  intro pp pr fz σ H ρ D hp R hq
  refine h pp pr fz σ H ρ _ hp R (hq.bnd fun v x fz1 H1 ρ1 F1 R1 r1 P1 => ?_)
  cases e : insAt t i ρ1 with
  | none => simp only [e] at P1; exact P1.elim
  | some ds =>
    simp only [e] at P1
    split at P1
    · obtain ⟨a, dx, fs, F, hs, hH, fr, nd, en, r, nf⟩ := R1.insAt e ht cf
      obtain ⟨v0, e0⟩ := fAt_at en hf
      have lk := (fAt_lookup en hf e0).2.2 v
      obtain ⟨F', h1, h2, h3⟩ := fr.put (n := f) (v := v) (List.nodup_cons.mp nd).2 (List.getElem?_eq_some_iff.mp e0).1 (.val r1 .nil) List.nodup_nil (fun b hb => by cases hb)
      obtain ⟨F2, R2⟩ := R1.putObj (insAt_eq e) hs r nd cf.at_ h1 h2 (fun b hb => (h3 b hb).imp id fun z => by cases z) (ht.trans (by rw [names_set en hf]))
      refine ⟨_, hs, a, C, dx, fs, rfl, hH, cf.cl, na, names_len en hl, ?_⟩
      rw [lk]
      exact P1 σ fz1 _ F2 R2
    · exact P1.elim
theorem rs_setFO (ht : t = tagD n ns) (cf : ClsF c.K n C) (na : NoAttr c.K C f) (hf : fAt ns j f = true) (hl : ns.length < 1000) (h : Rf c (RG c.K) tv m) : RfS c (sFld c.K (tVar i) tv f) (msetFO t i j m) := by
  intro pp pr fz σ H ρ D hp R hq
  refine h pp pr fz σ H ρ _ hp R (hq.bnd fun v x fz1 H1 ρ1 F1 R1 r1 P1 => ?_)
  cases e : insAt t i ρ1 with
  | none => simp only [e] at P1; exact P1.elim
  | some ds =>
    simp only [e] at P1
    split at P1
    · obtain ⟨a, dx, fs, F, hs, hH, fr, nd, en, r, nf⟩ := R1.insAt e ht cf
      obtain ⟨b0, G, rfl, ro, ng⟩ := r1
      obtain ⟨v0, e0⟩ := fAt_at en hf
      have lk := (fAt_lookup en hf e0).2.2 (.ref b0)
      have g0 : Reg c.K fz1 H1 σ ρ1 i (a :: F) := ⟨a, _, insAt_eq e, hs, r⟩
      obtain ⟨F', h1, h2, h3⟩ := fr.put (n := f) (v := .ref b0) (x := .list [x]) (G := G ++ []) (List.nodup_cons.mp nd).2 (List.getElem?_eq_some_iff.mp e0).1 (.own ro .nil) (by rw [List.append_nil]; exact ro.nodup) (fun b hb z => (ng b (by simpa using hb)).2.2 i _ g0 (List.mem_cons_of_mem _ z))
      obtain ⟨F2, R2⟩ := R1.putObj (insAt_eq e) hs r nd cf.at_ h1 h2 (fun b hb => (h3 b hb).imp id fun z => ng b (by simpa using z)) (ht.trans (by rw [names_set en hf]))
      refine ⟨_, hs, a, C, dx, fs, rfl, hH, cf.cl, na, names_len en hl, ?_⟩
      rw [lk]
      exact P1 σ fz1 _ F2 R2
    · exact P1.elim
theorem rs_addF (ht : t = tagD n ns) (ht' : t' = tagD n (ns ++ [f])) (cf : ClsF c.K n C) (na : NoAttr c.K C f) (hf : decide (f ∈ ns) = false) (hl : ns.length < 1000) (h : Rf c (RV c.K) tv m) : RfS c (sFld c.K (tVar i) tv f) (maddF t t' i m) := by
  intro pp pr fz σ H ρ D hp R hq
  refine h pp pr fz σ H ρ _ hp R (hq.bnd fun v x fz1 H1 ρ1 F1 R1 r1 P1 => ?_)
  cases e : insAt t i ρ1 with
  | none => simp only [e] at P1; exact P1.elim
  | some ds =>
    simp only [e] at P1
    obtain ⟨a, dx, fs, F, hs, hH, fr, nd, en, r, nf⟩ := R1.insAt e ht cf
    have lk := (no_lookup en hf).2 v
    obtain ⟨F', h1, h2, h3⟩ := fr.add (n := f) (v := v) (List.nodup_cons.mp nd).2 (.val r1 .nil) List.nodup_nil (fun b hb => by cases hb)
    obtain ⟨F2, R2⟩ := R1.putObj (insAt_eq e) hs r nd cf.at_ h1 h2 (fun b hb => (h3 b hb).imp id fun z => by cases z) (ht'.trans (by rw [List.map_append, en]; rfl))
    refine ⟨_, hs, a, C, dx, fs, rfl, hH, cf.cl, na, names_len en hl, ?_⟩
    rw [lk]
    exact P1 σ fz1 _ F2 R2
theorem rs_addFO (ht : t = tagD n ns) (ht' : t' = tagD n (ns ++ [f])) (cf : ClsF c.K n C) (na : NoAttr c.K C f) (hf : decide (f ∈ ns) = false) (hl : ns.length < 1000) (h : Rf c (RG c.K) tv m) : RfS c (sFld c.K (tVar i) tv f) (maddFO t t' i m) := by
  intro pp pr fz σ H ρ D hp R hq
  refine h pp pr fz σ H ρ _ hp R (hq.bnd fun v x fz1 H1 ρ1 F1 R1 r1 P1 => ?_)
  cases e : insAt t i ρ1 with
  | none => simp only [e] at P1; exact P1.elim
  | some ds =>
    simp only [e] at P1
    obtain ⟨a, dx, fs, F, hs, hH, fr, nd, en, r, nf⟩ := R1.insAt e ht cf
    obtain ⟨b0, G, rfl, ro, ng⟩ := r1
    have lk := (no_lookup en hf).2 (.ref b0)
    have g0 : Reg c.K fz1 H1 σ ρ1 i (a :: F) := ⟨a, _, insAt_eq e, hs, r⟩
    obtain ⟨F', h1, h2, h3⟩ := fr.add (n := f) (v := .ref b0) (x := .list [x]) (G := G ++ []) (List.nodup_cons.mp nd).2 (.own ro .nil) (by rw [List.append_nil]; exact ro.nodup) (fun b hb z => (ng b (by simpa using hb)).2.2 i _ g0 (List.mem_cons_of_mem _ z))
    obtain ⟨F2, R2⟩ := R1.putObj (insAt_eq e) hs r nd cf.at_ h1 h2 (fun b hb => (h3 b hb).imp id fun z => ng b (by simpa using z)) (ht'.trans (by rw [List.map_append, en]; rfl))
    refine ⟨_, hs, a, C, dx, fs, rfl, hH, cf.cl, na, names_len en hl, ?_⟩
    rw [lk]
    exact P1 σ fz1 _ F2 R2
/-- o.f op= e -/
noncomputable def maugF (g : PyData → PyData → Option PyData) (t : PyData) (i j : Nat) (m : M PyData) : SM := fun ρ => match fldQ t i j ρ with
  | some x => sbnd m (fun y r => match insAt t i r with
    | some ds => slft (g x y) fun z => .nx (r.set i (.own (.tuple (t :: ds.set j (.tuple [z])))))
    | none => .bad) ρ
  | none => .bad
theorem of_rAdd {K : PySem.W.Frag} : OpF K L2.rAdd addI? := by
  intro fz H v w x y z hv hw e Q q
  unfold addI? at e
  split at e
  · cases e; rw [hv.int, hw.int]; exact ⟨_, _, rfl, rfl, Alc.same (.int _) q⟩
  · cases e
theorem of_rSub {K : PySem.W.Frag} : OpF K L2.rSub sub? := by
  intro fz H v w x y z hv hw e Q q
  unfold sub? at e
  split at e
  · cases e; rw [hv.int, hw.int]; exact ⟨_, _, rfl, rfl, Alc.same (.int _) q⟩
  · cases e
theorem rs_augF {r : R2} {g : PyData → PyData → Option PyData} (ht : t = tagD n ns) (cf : ClsF c.K n C) (na : NoAttr c.K C f) (hf : fAt ns j f = true) (hl : ns.length < 1000) (ho : OpF c.K r g) (h : Rf c (RV c.K) tv m) : RfS c (sFldAug c.K (tVar i) tv r f) (maugF g t i j m) := by
  intro pp pr fz σ H ρ D hp R hq
  unfold maugF at hq
  cases e0 : fldQ t i j ρ with
  | none => simp only [e0] at hq; exact hq.elim
  | some x =>
    simp only [e0] at hq
    obtain ⟨ds0, e1, e2⟩ := fldQ_eq e0
    obtain ⟨a, dx, fs, F, hs, hH, fr, nd, en, ro, nf⟩ := R.insAt e1 ht cf
    obtain ⟨m0, v, q1, q2⟩ := fr.getV e2
    refine ⟨_, hs, a, C, dx, fs, v, rfl, hH, cf.cl, na, (fAt_lookup en hf q1).2.1, ?_⟩
    refine h pp pr fz σ H ρ _ hp R (PostS.bnd (f := fun y r => match insAt t i r with
      | some ds => slft (g x y) fun z => .nx (r.set i (.own (.tuple (t :: ds.set j (.tuple [z])))))
      | none => .bad) hq fun w y fz1 H1 ρ1 F1 R1 r1 P1 => ?_)
    cases e3 : insAt t i ρ1 with
    | none => simp only [e3] at P1; exact P1.elim
    | some ds =>
      simp only [e3] at P1
      cases ez : g x y with
      | none => simp only [ez, slft] at P1; exact P1.elim
      | some z =>
        simp only [ez, slft] at P1
        refine ho fz1 H1 v w x y z (.inl (q2.ext F1.ext)) (.inl r1) ez _ fun u fz2 H2 A r2 => ?_
        have R2 := A.rel R1
        obtain ⟨a', dx', fs', F', hs', hH', fr', nd', en', ro', nf'⟩ := R2.insAt e3 ht cf
        rw [hs] at hs'
        cases hs'
        obtain ⟨v0, e0⟩ := fAt_at en' hf
        have lk := (fAt_lookup en' hf e0).2.2 u
        obtain ⟨F'', h1, h2, h3⟩ := fr'.put (n := f) (v := u) (List.nodup_cons.mp nd').2 (List.getElem?_eq_some_iff.mp e0).1 (.val (r2 R1.fzH) .nil) List.nodup_nil (fun b hb => by cases hb)
        obtain ⟨F3, R3⟩ := R2.putObj (insAt_eq e3) hs ro' nd' cf.at_ h1 h2 (fun b hb => (h3 b hb).imp id fun z => by cases z) (ht.trans (by rw [names_set en' hf]))
        refine ⟨dx', fs', hH', names_len en' hl, ?_⟩
        rw [lk]
        exact P1 σ fz2 _ ((A.fr R1).trans F3) R3

/-! ### fields that are lists or dicts, changed -/
theorem Rel.chgF {d d' : PyData} {ds : List PyData} (R : Rel c.K pp pr fz σ H ρ) (e : PL.insAt t i ρ = some ds) (ej : ds[j]? = some (.list [d])) (l : leafD d = true) (ht : t = tagD n ns) (cf : ClsF c.K n C) (na : NoAttr c.K C f) (hf : fAt ns j f = true) :
    ∃ b, OwnC c.K fz H b d ∧ ¬ fz b ∧ H b ≠ none ∧ (∀ Q : VK, Q (.ref b) H → tFld c.K (tVar i) f σ H Q) ∧ ∀ o, OwnC c.K fz (upd H b o) b d' → Fr pr fz H fz (upd H b o) ∧ Rel c.K pp pr fz σ (upd H b o) (ρ.set i (.own (.tuple (t :: ds.set j (.list [d']))))) := by
  obtain ⟨a, dx, fs, F, hs, hH, fr, nd, en, r, nf⟩ := R.insAt e ht cf
  obtain ⟨m, b, G, q1, q2, q3⟩ := fr.getO ej
  obtain ⟨oc, rfl⟩ := q2.leaf l
  have hbF := q3 b List.mem_cons_self
  have nb := nf b (List.mem_cons_of_mem _ hbF)
  have nd' := List.nodup_cons.mp nd
  refine ⟨b, oc, nb.1, nb.2.2, fun Q hq => ⟨_, hs, a, C, dx, fs, _, rfl, hH, cf.cl, na, (fAt_lookup en hf q1).2.1, hq⟩, fun o oc' => ?_⟩
  have E : Ext fz H fz (upd H b o) := ⟨fun _ z => z, fun x z => upd_ne fun q => nb.1 (q ▸ z)⟩
  obtain ⟨F', h1, h2, h3, h4⟩ := fr.chg nd'.2 ej q1 q2 E (fun x hx hn => upd_ne fun q => hn (by rw [q]; exact List.mem_cons_self)) oc'.reg (fun x hx => .inl hx)
  have sub : ∀ x ∈ F', x ∈ F := fun x hx => (h3 x hx).elim id fun z => by rw [List.mem_singleton.mp z]; exact hbF
  have hab : a ≠ b := fun q => nd'.1 (q ▸ hbF)
  refine R.wrG2 (insAt_eq e) hs r (fun x _ hx => upd_ne fun q => hx (List.mem_cons_of_mem _ (q ▸ hbF))) (.ins (ht.trans (by rw [en])) cf.at_ ((upd_ne hab).trans hH) h1 (List.nodup_cons.mpr ⟨fun z => nd'.1 (sub a z), h2⟩)) fun x hx => .inl ?_
  rcases List.mem_cons.mp hx with rfl | hx
  · exact List.mem_cons_self
  · exact List.mem_cons_of_mem _ (sub x hx)
noncomputable def ownFL (t : PyData) (i j : Nat) (ρ : Env) : Option (List PyData × List PyData) := match insAt t i ρ with
  | some ds => (match ds[j]? with
    | some (.list [.list xs]) => some (ds, xs)
    | _ => none)
  | none => none
theorem ownFL_eq {ds xs : List PyData} (h : ownFL t i j ρ = some (ds, xs)) : insAt t i ρ = some ds ∧ ds[j]? = some (.list [.list xs]) := by
  unfold ownFL at h
  split at h
  · rename_i ds0 e
    split at h
    · rename_i xs0 e2; cases h; exact ⟨e, e2⟩
    · cases h
  · cases h
noncomputable def mappF (t : PyData) (i j : Nat) (q : QM) : SM := fun ρ => match ownFL t i j ρ, q ρ with
  | some (ds, xs), some x => if lenOk (xs.length + 1) = true then .nx (ρ.set i (.own (.tuple (t :: ds.set j (.list [.list (xs ++ [x])]))))) else .bad
  | _, _ => .bad
theorem insAt_alc {fz1 : Addr → Prop} {H1 : Hp} (A : Alc fz H fz1 H1) : True := trivial
theorem rs_appF {te : TE} {q : QM} (ht : t = tagD n ns) (cf : ClsF c.K n C) (na : NoAttr c.K C f) (hf : fAt ns j f = true) (h : RfQ c te q) : RfS c (tDrop (tBM c.K "list" rAppend (tFld c.K (tVar i) f) (tCons te tNil))) (mappF t i j q) := by
  intro pp pr fz σ H ρ D hp R hq
  unfold mappF at hq
  cases e : ownFL t i j ρ with
  | none => simp only [e] at hq; exact hq.elim
  | some dx =>
    obtain ⟨ds, xs⟩ := dx
    cases e2 : q ρ with
    | none => simp only [e, e2] at hq; exact hq.elim
    | some x =>
      simp only [e, e2] at hq
      split at hq
      · rename_i hl
        obtain ⟨e1, ej⟩ := ownFL_eq e
        obtain ⟨b, oc, nf, hb0, k, _⟩ := R.chgF (d' := .list xs) e1 ej rfl ht cf na hf
        unfold tDrop tBM
        refine k _ ?_
        obtain ⟨vs, hH, ra⟩ := oc
        refine ⟨.inl ⟨rfl, vs, SqL.of hH⟩, ?_⟩
        refine h pp pr fz σ H ρ x _ R e2 fun v fz1 H1 A r1 => ?_
        have R1 := A.rel R
        obtain ⟨b', oc', nf', hb0', k', up⟩ := R1.chgF (d' := .list (xs ++ [x])) e1 ej rfl ht cf na hf
        have eb : b' = b := by
          have h1 := k' (fun v _ => v = .ref b') rfl
          have h0 := k (fun v _ => v = .ref b) rfl
          obtain ⟨u, hu, a, C', dx, fs, w, rfl, hHa, _, _, lk, rfl⟩ := h0
          obtain ⟨u', hu', a', C'', dx', fs', w', rfl, hHa', _, _, lk', rfl⟩ := h1
          rw [hu] at hu'
          cases hu'
          have : H1 a = H a := A.keep a (by rw [hHa]; simp)
          rw [this, hHa] at hHa'
          cases hHa'
          rw [lk] at lk'
          cases lk'
          rfl
        subst eb
        obtain ⟨vs', hH', ra'⟩ := oc'
        have ee : vs' = vs := by rw [A.keep b' hb0, hH] at hH'; cases hH'; rfl
        subst ee
        refine ⟨b', vs', v, rfl, rfl, hH', ?_, ?_⟩
        · have := lenOk_iff.mp hl
          rw [ra'.length]; omega
        · have E : Ext fz1 H1 fz1 (upd H1 b' (.lst (vs' ++ [v]))) := ⟨fun _ z => z, fun y z => upd_ne fun q => nf' (q ▸ z)⟩
          obtain ⟨F2, R2⟩ := up _ ⟨_, upd_same, RepA.ext E (ra'.append (.cons r1 .nil))⟩
          exact hq σ fz1 _ ((A.fr R).trans F2) R2
      · exact hq.elim
noncomputable def mpopF (t : PyData) (i j : Nat) : M PyData := fun ρ => match ownFL t i j ρ with
  | some (ds, xs) => (match xs[xs.length - 1]? with
    | some d => .ok d (ρ.set i (.own (.tuple (t :: ds.set j (.list [.list xs.dropLast])))))
    | none => .bad)
  | none => .bad
theorem rf_popF (ht : t = tagD n ns) (cf : ClsF c.K n C) (na : NoAttr c.K C f) (hf : fAt ns j f = true) : Rf c (RV c.K) (tBM0 c.K "list" rPop (tFld c.K (tVar i) f)) (mpopF t i j) := by
  intro pp pr fz σ H ρ Q hp R hq
  unfold mpopF at hq
  cases e : ownFL t i j ρ with
  | none => simp only [e] at hq; exact hq.elim
  | some dx =>
    obtain ⟨ds, xs⟩ := dx
    simp only [e] at hq
    cases e1 : xs[xs.length - 1]? with
    | none => simp only [e1] at hq; exact hq.elim
    | some d =>
      simp only [e1] at hq
      obtain ⟨e1', ej⟩ := ownFL_eq e
      obtain ⟨b, oc, nf, hb0, k, up⟩ := R.chgF (d' := .list xs.dropLast) e1' ej rfl ht cf na hf
      obtain ⟨vs, hH, ra⟩ := oc
      obtain ⟨y, hy, ry⟩ := ra.get e1
      have E : Ext fz H fz (upd H b (.lst vs.dropLast)) := ⟨fun _ z => z, fun y z => upd_ne fun q => nf (q ▸ z)⟩
      obtain ⟨F2, R2⟩ := up (.lst vs.dropLast) ⟨_, upd_same, RepA.ext E ra.dropLast⟩
      change tFld c.K (tVar i) f σ H _
      refine k _ ⟨.inl ⟨rfl, vs, SqL.of hH⟩, b, vs, y, rfl, rfl, hH, by rw [ra.length]; exact hy, ?_⟩
      exact hq y fz _ F2 R2 (ry.ext E)
theorem RepA.tl {K : PySem.W.Frag} {v : List V} {d : List PyData} (h : RepA K fz H v d) : RepA K fz H v.tail d.tail := by
  cases h with
  | nil => exact .nil
  | cons _ r => exact r
/-- xs.pop(0) -/
noncomputable def mpop0F (t : PyData) (i j : Nat) : M PyData := fun ρ => match ownFL t i j ρ with
  | some (ds, d :: xs) => .ok d (ρ.set i (.own (.tuple (t :: ds.set j (.list [.list xs])))))
  | _ => .bad
theorem rf_pop0F (ht : t = tagD n ns) (cf : ClsF c.K n C) (na : NoAttr c.K C f) (hf : fAt ns j f = true) : Rf c (RV c.K) (tBM c.K "list" rPopAt (tFld c.K (tVar i) f) (tCons (tC (.int 0)) tNil)) (mpop0F t i j) := by
  intro pp pr fz σ H ρ Q hp R hq
  unfold mpop0F at hq
  split at hq
  · rename_i ds d xs e
    obtain ⟨e1', ej⟩ := ownFL_eq e
    obtain ⟨b, oc, nf, hb0, k, up⟩ := R.chgF (d' := .list xs) e1' ej rfl ht cf na hf
    obtain ⟨vs, hH, ra⟩ := oc
    cases ra with
    | cons ry ra =>
      rename_i y vs
      have E : Ext fz H fz (upd H b (.lst vs)) := ⟨fun _ z => z, fun y z => upd_ne fun q => nf (q ▸ z)⟩
      obtain ⟨F2, R2⟩ := up (.lst vs) ⟨_, upd_same, RepA.ext E ra⟩
      change tFld c.K (tVar i) f σ H _
      refine k _ ⟨.inl ⟨rfl, _, SqL.of hH⟩, b, y :: vs, 0, 0, y, rfl, rfl, hH, by decide, by decide, ?_, rfl, hq y fz _ F2 R2 (ry.ext E)⟩
      simp [seqIndex?]
  · exact hq.elim

/-! ### methods -/
noncomputable def mmeth (t : PyData) (g : List PyData → FOut) (i : Nat) (as : List CArg) : M Rt := fun ρ => if (insAt t i ρ).isSome = true then mcall g (.lend i :: as) ρ else .bad
theorem rf_meth {m : Str} {g : List PyData → FOut} {as : List CArg} {ta : TA} {ks : List PKd} (ht : t = tagD n ns) (cf : ClsF c.K n C) (hm : decide (m ∈ ns) = false) (hks : .o :: as.map CArg.kd = ks) (ha : Rf c (RArgs c.K as) ta (evA as)) :
    Rf c (RRt c.K) (tMethW C m (spF c.K c.RX ks g) (fun σ => WE c.W σ) (tVar i) ta) (mmeth t g i as) := by
  intro pp pr fz σ H ρ Q hp R hq
  unfold mmeth at hq
  split at hq
  · rename_i h
    obtain ⟨ds, e⟩ := Option.isSome_iff_exists.mp h
    obtain ⟨a, dx, fs, F, hs, hH, fr, nd, en, r, nf⟩ := R.insAt e ht cf
    have q := rf_call (as := .lend i :: as) (f := g) (ks := ks) hks (rf_alend ha) pp pr fz σ H ρ Q hp R hq
    obtain ⟨v, hv, q⟩ := q
    rw [hs] at hv
    cases hv
    exact ⟨_, hs, a, dx, fs, rfl, hH, (no_lookup en hm).1, q⟩
  · exact hq.elim
open Classical in
/-- .. of a new object -/
noncomputable def tagM (t : PyData) (m : M PyData) : M PyData := bnd m fun x ρ => match x with
  | .tuple (t' :: ds) => if t' = t then .ok x ρ else .bad
  | _ => .bad
noncomputable def mmethT (t : PyData) (g : List PyData → FOut) (m : M PyData) (as : List CArg) : M Rt := mcallT g (tagM t m) as
theorem rf_methT {m : Str} {g : List PyData → FOut} {as : List CArg} {te : TE} {mm : M PyData} {ta : TA} {ks : List PKd} (ht : t = tagD n ns) (cf : ClsF c.K n C) (hm : decide (m ∈ ns) = false) (hks : .o :: as.map CArg.kd = ks) (h : Rf c (RG c.K) te mm) (ha : Rf c (RArgs c.K as) ta (evA as)) :
    Rf c (RRt c.K) (tMethW C m (spF c.K c.RX ks g) (fun σ => WE c.W σ) te ta) (mmethT t g mm as) := by
  have h2 : Rf c (RG c.K) (fun σ H Q => te σ H fun x H1 => ∃ a dx fs, x = .ref a ∧ H1 a = some (.ins C dx fs) ∧ fs.lookup m = none ∧ Q x H1) (tagM t mm) := by
    intro pp pr fz σ H ρ Q hp R hq
    refine h pp pr fz σ H ρ _ hp R (hq.bnd fun v x fz1 H1 ρ1 F1 R1 r1 P1 => ?_)
    split at P1
    · rename_i t' ds
      split at P1
      · rename_i e
        obtain ⟨a, F, rfl, oc, nf⟩ := id r1
        obtain ⟨C', dx, fs, F', h1, h2, h3, rfl, h5, h6⟩ := oc.ins_inv (e.trans ht)
        rw [cf.at_] at h1
        cases h1
        exact ⟨a, dx, fs, rfl, h2, (no_lookup h6 hm).1, ok_post P1 R1 r1⟩
      · exact P1.elim
    · exact P1.elim
  have q := rf_callTG (f := g) (ks := ks) hks h2 ha
  intro pp pr fz σ H ρ Q hp R hq
  exact q pp pr fz σ H ρ Q hp R hq
open Classical in
/-- an own field of a new object -/
noncomputable def mfldT (t : PyData) (j : Nat) (m : M PyData) : M PyData := bnd m fun x ρ => match x with
  | .tuple (t' :: ds) => if t' = t then (match ds[j]? with
    | some (.list [d]) => .ok d ρ
    | _ => .bad) else .bad
  | _ => .bad
theorem rf_fldT {te : TE} {mm : M PyData} (ht : t = tagD n ns) (cf : ClsF c.K n C) (na : NoAttr c.K C f) (hf : fAt ns j f = true) (h : Rf c (RG c.K) te mm) : Rf c (RG c.K) (tFld c.K te f) (mfldT t j mm) := by
  intro pp pr fz σ H ρ Q hp R hq
  refine h pp pr fz σ H ρ _ hp R (hq.bnd fun v x fz1 H1 ρ1 F1 R1 r1 P1 => ?_)
  split at P1
  · rename_i t' ds
    split at P1
    · rename_i e
      split at P1
      · rename_i d ed
        obtain ⟨a, F, rfl, oc, nf⟩ := id r1
        obtain ⟨C', dx, fs, F', h1, h2, h3, rfl, h5, h6⟩ := oc.ins_inv (e.trans ht)
        rw [cf.at_] at h1
        cases h1
        obtain ⟨m0, b, G, q1, q2, q3⟩ := h3.getO ed
        exact ⟨a, C, dx, fs, _, rfl, h2, cf.cl, na, (fAt_lookup h6 hf q1).2.1, ok_post P1 R1 (show RG c.K pr σ fz1 H1 ρ1 (.ref b) d from ⟨b, G, rfl, q2, fun x hx => nf x (List.mem_cons_of_mem _ (q3 x hx))⟩)⟩
      · exact P1.elim
    · exact P1.elim
  · exact P1.elim

/-! ### C(e, ..) -/
theorem ArgsV.ext {K : PySem.W.Frag} {fz' : Addr → Prop} {H' : Hp} (E : Ext fz H fz' H') : ∀ {as : List CArg} {vs : List V} {xs : List PyData}, ArgsV K σ fz H as vs xs → ArgsV K σ fz' H' as vs xs
  | [], [], [], _ => trivial
  | .v m :: as, v :: vs, x :: xs, h => ⟨Rep.ext E h.1, ArgsV.ext E h.2⟩
  | .scr m :: as, v :: vs, x :: xs, h => ⟨h.1, ArgsV.ext E h.2⟩
  | .lend i :: as, v :: vs, x :: xs, h => ⟨h.1, ArgsV.ext E h.2⟩
  | [], [], _ :: _, h => h.elim
  | [], _ :: _, _, h => h.elim
  | .v _ :: _, [], _, h => h.elim
  | .v _ :: _, _ :: _, [], h => h.elim
  | .lend _ :: _, [], _, h => h.elim
  | .lend _ :: _, _ :: _, [], h => h.elim
  | .scr _ :: _, [], _, h => h.elim
  | .scr _ :: _, _ :: _, [], h => h.elim
noncomputable def mmake (t : PyData) (g : List PyData → FOut) (as : List CArg) : M PyData := fun ρ => match evA as ρ with
  | .ok xs ρ1 => if (lendOk as ρ1 && scrOk as ρ1) = true then (match g (.tuple [t] :: fillA ρ1 as xs) with
      | .ok (.v .none) (o :: outs) => .ok o (wbA as outs ρ1)
      | .exc e (_ :: outs) => .exc e (wbA as outs ρ1)
      | _ => .bad) else .bad
  | .exc e r => .exc e r
  | .bad => .bad
theorem rf_make {g : List PyData → FOut} {as : List CArg} {ta : TA} {ks : List PKd} (ht : t = tagD n []) (cf : ClsF c.K n C) (hks : .o :: as.map CArg.kd = ks) (ha : Rf c (RArgs c.K as) ta (evA as)) :
    Rf c (RG c.K) (tMakeW C (spF c.K c.RX ks g) (fun σ => WE c.W σ) ta) (mmake t g as) := by
  subst hks
  intro pp pr fz0 σ H0 ρ0 Q hp R0 hq0
  refine ha pp pr fz0 σ H0 ρ0 _ hp R0 ?_
  unfold mmake at hq0
  cases e : evA as ρ0 with
  | bad => rw [e] at hq0; exact hq0.elim
  | exc x r => rw [e] at hq0; exact hq0
  | ok xs ρ1 =>
    rw [e] at hq0
    intro vs fz1 H1 F1 R1 r1 x dx hx hdx nex
    have r1 : ArgsV c.K σ fz1 H1 as vs xs := r1
    have hq := PostG.rest F1 hq0
    simp only at hq
    split at hq
    · rename_i hok
      simp only [lendOk, Bool.and_eq_true, decide_eq_true_eq, List.all_eq_true] at hok
      obtain ⟨⟨hn, hl⟩, hs⟩ := hok
      rw [List.append_nil]
      have A1 : Alc fz1 H1 fz1 (upd H1 dx (.own x)) := .own hdx
      have A2 : Alc fz1 (upd H1 dx (.own x)) fz1 (upd (upd H1 dx (.own x)) x (.ins C dx [])) := .own (by rw [upd_ne (Ne.symm nex)]; exact hx)
      have A := A1.trans A2
      obtain ⟨R2, back⟩ := A.rel2 R1
      have r2 := r1.ext (A.ext R1.fzH)
      have nreg : ∀ j F, Reg c.K fz1 (upd (upd H1 dx (.own x)) x (.ins C dx [])) σ ρ1 j F → x ∉ F := fun j F g hb => (R1.reg_ok (back j F g) x hb).2.2 hx
      have oc1 : OwnR c.K fz1 (upd (upd H1 dx (.own x)) x (.ins C dx [])) x (.tuple [t]) [x] := .ins (F := []) (fs := []) ht cf.at_ upd_same .nil (by simp)
      have npr : ¬ prC c.K pr fz1 (upd (upd H1 dx (.own x)) x (.ins C dx [])) σ ρ1 as x := by
        rintro (z | ⟨j, F, g, hb, _⟩)
        · exact R1.prH x z hx
        · exact nreg j F g hb
      have nfz : ¬ fz1 x := fun z => R1.fzH x z hx
      refine ⟨prC c.K pr fz1 _ σ ρ1 as, fz1, .tuple [t] :: fillA ρ1 as xs, ⟨⟨x, [x], rfl, oc1, fun b hb => by rw [List.mem_singleton.mp hb]; exact ⟨nfz, npr⟩⟩, argsR_of R2 _ r2 hl R2.prC_no hs⟩, ⟨fun a F e r b hb z => ?_, argSep_of R2 r2 hn hl⟩, R2.fzH, R2.prC_some, ?_⟩
      · cases e
        rw [r.det oc1] at hb
        rw [List.mem_singleton.mp hb] at z
        obtain ⟨j, hj, F2, g, hb2⟩ := inA_of R2 r2 hl z
        exact nreg j F2 g hb2
      · cases ef : g (.tuple [t] :: fillA ρ1 as xs) with
        | bad => rw [ef] at hq; exact hq.elim
        | ok r outs =>
          rw [ef] at hq
          intro v fz2 H2 F2 hf2 ho hr
          split at hq
          · rename_i o outs' eo
            cases eo
            obtain ⟨⟨a, F, ea, ro, nro⟩, ho'⟩ := ho
            cases ea
            obtain ⟨F3, R3, free⟩ := R2.back2 r2 hn hl F2 hf2 ho'
            have hv : v = .non := by cases (show Rep c.K fz2 H2 v .none from hr); rfl
            refine ⟨hv, hq (.ref x) fz2 H2 ((A.fr R1).trans F3) R3 ⟨x, F, rfl, ro, fun b hb => ⟨(nro b hb).1, fun z => (nro b hb).2.1 (.inl z), free b (nro b hb).2.1 (nro b hb).2.2⟩⟩⟩
          · rename_i eo; cases eo
          · exact hq.elim
        | exc y outs =>
          rw [ef] at hq
          intro cls d fz2 H2 F2 hf2 ho hr
          split at hq
          · rename_i eo; cases eo
          · rename_i e' o outs' eo
            cases eo
            obtain ⟨F3, R3, _⟩ := R2.back2 r2 hn hl F2 hf2 ho.2
            exact hq cls d fz2 H2 ((A.fr R1).trans F3) R3 hr
          · exact hq.elim
    · exact hq.elim
end
end PL

/-! ### weakest preconditions -/
namespace PL
open PySem PySem.Spec L2
section
variable {α : Type} {ρ : Env} {X : XP} {P : PS} {t t' : PyData} {i j : Nat} {Q : PyData → Env → Prop}
open Classical in
noncomputable def tagE (t : PyData) (x : PyData) : Option (List PyData) := match x with
  | .tuple (t' :: ds) => if t' = t then some ds else none
  | _ => none
theorem tagE_o {ds : List PyData} : tagE t (.tuple (t :: ds)) = some ds := by
  unfold tagE; simp
noncomputable def getI (t : PyData) (s : Sl) : Option (List PyData) := match s with
  | .own x => tagE t x
  | _ => none
theorem getI_o {ds : List PyData} : getI t (.own (.tuple (t :: ds))) = some ds := tagE_o
theorem insAt_at : insAt t i ρ = getI t (at? ρ i) := by
  unfold insAt getI at?
  cases ρ[i]? with
  | none => rfl
  | some s =>
    cases s with
    | own x =>
      cases x with
      | tuple ds => cases ds <;> rfl
      | _ => rfl
    | _ => rfl
def fV (j : Nat) (ds : List PyData) : Option PyData := match ds[j]? with
  | some (.tuple [d]) => some d
  | _ => none
theorem fV_0 {d : PyData} {ds : List PyData} : fV 0 (.tuple [d] :: ds) = some d := rfl
theorem fV_s {x : PyData} {ds : List PyData} {j : Nat} : fV (j + 1) (x :: ds) = fV j ds := rfl
/-- an own part -/
def fA (j : Nat) (ds : List PyData) : Option PyData := match ds[j]? with
  | some (.list [d]) => some d
  | _ => none
theorem fA_0 {d : PyData} {ds : List PyData} : fA 0 (.list [d] :: ds) = some d := rfl
theorem fA_s {x : PyData} {ds : List PyData} {j : Nat} : fA (j + 1) (x :: ds) = fA j ds := rfl
/-- .. that is a list or dict -/
def fO (j : Nat) (ds : List PyData) : Option PyData := match fA j ds with
  | some d => if leafD d = true then some d else none
  | none => none
theorem fO_0l {xs ds : List PyData} : fO 0 (.list [.list xs] :: ds) = some (.list xs) := rfl
theorem fO_0d {xs : List (PyData × PyData)} {ds : List PyData} : fO 0 (.list [.dict xs] :: ds) = some (.dict xs) := rfl
theorem fO_s {x : PyData} {ds : List PyData} {j : Nat} : fO (j + 1) (x :: ds) = fO j ds := rfl
def fL (j : Nat) (ds : List PyData) : Option (List PyData) := match fA j ds with
  | some (.list xs) => some xs
  | _ => none
theorem fL_0 {xs ds : List PyData} : fL 0 (.list [.list xs] :: ds) = some xs := rfl
theorem fL_s {x : PyData} {ds : List PyData} {j : Nat} : fL (j + 1) (x :: ds) = fL j ds := rfl
theorem fldQ_at : fldQ t i j ρ = (getI t (at? ρ i)).bind (fV j) := by
  unfold fldQ
  rw [insAt_at]
  cases getI t (at? ρ i) <;> rfl
theorem ownF_at : ownF t i j ρ = (getI t (at? ρ i)).bind (fO j) := by
  unfold ownF
  rw [insAt_at]
  cases getI t (at? ρ i) with
  | none => rfl
  | some ds =>
    show (match ds[j]? with
      | some (.list [d]) => if leafD d = true then some d else none
      | _ => none) = fO j ds
    unfold fO fA
    generalize ds[j]? = y
    cases y with
    | none => rfl
    | some x =>
      cases x with
      | list l =>
        cases l with
        | nil => rfl
        | cons d r => cases r <;> rfl
      | _ => rfl
theorem ownFL_at : ownFL t i j ρ = (getI t (at? ρ i)).bind fun ds => (fL j ds).map fun xs => (ds, xs) := by
  unfold ownFL
  rw [insAt_at]
  cases getI t (at? ρ i) with
  | none => rfl
  | some ds =>
    show (match ds[j]? with
      | some (.list [.list xs]) => some (ds, xs)
      | _ => none) = (fL j ds).map fun xs => (ds, xs)
    unfold fL fA
    generalize ds[j]? = y
    cases y with
    | none => rfl
    | some x =>
      cases x with
      | list l =>
        cases l with
        | nil => rfl
        | cons d r => cases r <;> cases d <;> rfl
      | _ => rfl
def gvS (s : Sl) : Option PyData := match s with
  | .val d => some d
  | _ => none
theorem gvS_v {d : PyData} : gvS (.val d) = some d := rfl
theorem qvar_at : qvar i ρ = gvS (at? ρ i) := by
  unfold qvar gvS at?
  cases ρ[i]? with
  | none => rfl
  | some s => cases s <;> rfl
theorem qcon_at {d : PyData} : qcon d ρ = some d := rfl
theorem qnil_at : qnil ρ = some (.list []) := rfl
theorem qop_at {f : PyData → PyData → Option PyData} {a b : QM} : qop f a b ρ = (a ρ).bind fun x => (b ρ).bind fun y => f x y := by
  unfold qop
  cases a ρ <;> cases b ρ <;> rfl
theorem tr_mq {q : QM} : Tr (mq q) ρ Q X = ∃ d, q ρ = some d ∧ Q d ρ := by
  rw [tro]; unfold mq; rw [tro_lft]
theorem tr_fld : Tr (mfld t i j) ρ Q X = ∃ ds, getI t (at? ρ i) = some ds ∧ ∃ d, fV j ds = some d ∧ Q d ρ := by
  unfold mfld
  rw [tr_mq, fldQ_at]
  cases getI t (at? ρ i) <;> simp
theorem tr_opF {g : PyData → PyData → Option PyData} {q : QM} : Tr (opF g t i j q) ρ Q X = ∃ ds, getI t (at? ρ i) = some ds ∧ ∃ x, fO j ds = some x ∧ ∃ y, q ρ = some y ∧ ∃ z, g x y = some z ∧ Q z ρ := by
  rw [tro]
  unfold opF
  rw [ownF_at]
  cases getI t (at? ρ i) with
  | none => simp [TrO]
  | some ds =>
    simp only [Option.bind_some, Option.some.injEq, exists_eq_left']
    cases fO j ds with
    | none => simp [TrO]
    | some x =>
      cases q ρ with
      | none => simp [TrO]
      | some y => simp [tro_lft]
theorem tr_opFr {g : PyData → PyData → Option PyData} {ma : M PyData} : Tr (opFr g ma t i j) ρ Q X = Tr ma ρ (fun x r => ∃ ds, getI t (at? r i) = some ds ∧ ∃ y, fO j ds = some y ∧ ∃ z, g x y = some z ∧ Q z r) X := by
  unfold opFr
  rw [tr_bnd]
  congr 1; funext x r
  rw [tro, ownF_at]
  cases getI t (at? r i) with
  | none => simp [TrO]
  | some ds =>
    simp only [Option.bind_some, Option.some.injEq, exists_eq_left']
    cases fO j ds with
    | none => simp [TrO]
    | some y => simp [tro_lft]
theorem tr_c1F {g : PyData → Option PyData} : Tr (c1F g t i j) ρ Q X = ∃ ds, getI t (at? ρ i) = some ds ∧ ∃ x, fO j ds = some x ∧ ∃ z, g x = some z ∧ Q z ρ := by
  rw [tro]
  unfold c1F
  rw [ownF_at]
  cases getI t (at? ρ i) with
  | none => simp [TrO]
  | some ds =>
    simp only [Option.bind_some, Option.some.injEq, exists_eq_left']
    cases fO j ds with
    | none => simp [TrO]
    | some x => simp [tro_lft]
theorem ts_sb {m : M α} {f : α → SM} : Ts (sbnd m f) ρ P = Tr m ρ (fun a r => Ts (f a) r P) P.ex := by
  unfold Ts Tr sbnd TsO
  cases m ρ <;> rfl
theorem ts_at {f : Env → SOut} : Ts f ρ P = TsO (f ρ) P := rfl
theorem ex_lt {ds : List PyData} : (∃ x, ds[j]? = some x) = (j < ds.length) := by
  refine propext ⟨fun ⟨x, h⟩ => (List.getElem?_eq_some_iff.mp h).1, fun h => ⟨_, List.getElem?_eq_getElem h⟩⟩
theorem ts_setF {m : M PyData} : Ts (msetF t i j m) ρ P = Tr m ρ (fun d r => ∃ ds, getI t (at? r i) = some ds ∧ (∃ x, ds[j]? = some x) ∧ P.nx (r.set i (.own (.tuple (t :: ds.set j (.tuple [d])))))) P.ex := by
  unfold msetF
  rw [ts_sb]
  congr 1; funext d r
  rw [ts_at, insAt_at]
  cases getI t (at? r i) with
  | none => simp [TsO]
  | some ds => simp only [ex_lt]; by_cases h : j < ds.length <;> simp [h, TsO]
theorem ts_setFO {m : M PyData} : Ts (msetFO t i j m) ρ P = Tr m ρ (fun d r => ∃ ds, getI t (at? r i) = some ds ∧ (∃ x, ds[j]? = some x) ∧ P.nx (r.set i (.own (.tuple (t :: ds.set j (.list [d])))))) P.ex := by
  unfold msetFO
  rw [ts_sb]
  congr 1; funext d r
  rw [ts_at, insAt_at]
  cases getI t (at? r i) with
  | none => simp [TsO]
  | some ds => simp only [ex_lt]; by_cases h : j < ds.length <;> simp [h, TsO]
theorem ts_addF {m : M PyData} : Ts (maddF t t' i m) ρ P = Tr m ρ (fun d r => ∃ ds, getI t (at? r i) = some ds ∧ P.nx (r.set i (.own (.tuple (t' :: (ds ++ [.tuple [d]])))))) P.ex := by
  unfold maddF
  rw [ts_sb]
  congr 1; funext d r
  rw [ts_at, insAt_at]
  cases getI t (at? r i) <;> simp [TsO]
theorem ts_addFO {m : M PyData} : Ts (maddFO t t' i m) ρ P = Tr m ρ (fun d r => ∃ ds, getI t (at? r i) = some ds ∧ P.nx (r.set i (.own (.tuple (t' :: (ds ++ [.list [d]])))))) P.ex := by
  unfold maddFO
  rw [ts_sb]
  congr 1; funext d r
  rw [ts_at, insAt_at]
  cases getI t (at? r i) <;> simp [TsO]
theorem ts_augF {g : PyData → PyData → Option PyData} {m : M PyData} : Ts (maugF g t i j m) ρ P = ∃ ds, getI t (at? ρ i) = some ds ∧ ∃ x, fV j ds = some x ∧ Tr m ρ (fun y r => ∃ ds', getI t (at? r i) = some ds' ∧ ∃ z, g x y = some z ∧ P.nx (r.set i (.own (.tuple (t :: ds'.set j (.tuple [z])))))) P.ex := by
  rw [ts_at]
  unfold maugF
  rw [fldQ_at]
  cases getI t (at? ρ i) with
  | none => simp [TsO]
  | some ds =>
    simp only [Option.bind_some, Option.some.injEq, exists_eq_left']
    cases fV j ds with
    | none => simp [TsO]
    | some x =>
      simp only [Option.some.injEq, exists_eq_left']
      rw [← ts_at (f := sbnd m _), ts_sb]
      congr 1; funext y r
      rw [ts_at, insAt_at]
      cases getI t (at? r i) with
      | none => simp [TsO]
      | some ds' =>
        simp only [Option.some.injEq, exists_eq_left']
        cases g x y <;> simp [slft, TsO]
theorem ts_appF {q : QM} : Ts (mappF t i j q) ρ P = ∃ ds, getI t (at? ρ i) = some ds ∧ ∃ xs, fL j ds = some xs ∧ ∃ x, q ρ = some x ∧ lenOk (xs.length + 1) = true ∧ P.nx (ρ.set i (.own (.tuple (t :: ds.set j (.list [.list (xs ++ [x])]))))) := by
  rw [ts_at]
  unfold mappF
  rw [ownFL_at]
  cases getI t (at? ρ i) with
  | none => simp [TsO]
  | some ds =>
    simp only [Option.bind_some, Option.some.injEq, exists_eq_left']
    cases fL j ds with
    | none => simp [TsO]
    | some xs =>
      cases q ρ with
      | none => simp [TsO]
      | some x => simp only [Option.map_some, Option.some.injEq, exists_eq_left']; by_cases h : lenOk (xs.length + 1) = true <;> simp [h, TsO]
theorem tr_popF : Tr (mpopF t i j) ρ Q X = ∃ ds, getI t (at? ρ i) = some ds ∧ ∃ xs, fL j ds = some xs ∧ ∃ d, xs[xs.length - 1]? = some d ∧ Q d (ρ.set i (.own (.tuple (t :: ds.set j (.list [.list xs.dropLast]))))) := by
  rw [tro]
  unfold mpopF
  rw [ownFL_at]
  cases getI t (at? ρ i) with
  | none => simp [TrO]
  | some ds =>
    simp only [Option.bind_some, Option.some.injEq, exists_eq_left']
    cases fL j ds with
    | none => simp [TrO]
    | some xs =>
      simp only [Option.map_some, Option.some.injEq, exists_eq_left']
      cases xs[xs.length - 1]? <;> simp [TrO]
theorem tr_pop0F : Tr (mpop0F t i j) ρ Q X = ∃ ds, getI t (at? ρ i) = some ds ∧ ∃ d xs, fL j ds = some (d :: xs) ∧ Q d (ρ.set i (.own (.tuple (t :: ds.set j (.list [.list xs]))))) := by
  rw [tro]
  unfold mpop0F
  rw [ownFL_at]
  cases getI t (at? ρ i) with
  | none => simp [TrO]
  | some ds =>
    simp only [Option.bind_some, Option.some.injEq, exists_eq_left']
    cases fL j ds with
    | none => simp [TrO]
    | some xs =>
      cases xs with
      | nil => simp [TrO]
      | cons d xs =>
        simp only [Option.map_some, Option.some.injEq, List.cons.injEq]
        exact propext ⟨fun h => ⟨d, xs, ⟨rfl, rfl⟩, h⟩, fun ⟨_, _, ⟨e1, e2⟩, h⟩ => by subst e1; subst e2; exact h⟩
theorem tr_meth {g : List PyData → FOut} {as : List CArg} {Q : Rt → Env → Prop} : Tr (mmeth t g i as) ρ Q X = ∃ ds, getI t (at? ρ i) = some ds ∧ Tr (mcall g (.lend i :: as)) ρ Q X := by
  rw [tro]
  unfold mmeth
  rw [insAt_at]
  cases getI t (at? ρ i) with
  | none => simp [TrO]
  | some ds => simp [← tro]
theorem tr_tagM {m : M PyData} : Tr (tagM t m) ρ Q X = Tr m ρ (fun x r => ∃ ds, tagE t x = some ds ∧ Q x r) X := by
  unfold tagM
  rw [tr_bnd]
  congr 1; funext x r
  rw [tro]
  unfold tagE
  cases x with
  | tuple ds =>
    cases ds with
    | nil => simp [TrO]
    | cons t' ds => by_cases h : t' = t <;> simp [h, TrO]
  | _ => simp [TrO]
theorem tr_methT {g : List PyData → FOut} {m : M PyData} {as : List CArg} {Q : Rt → Env → Prop} : Tr (mmethT t g m as) ρ Q X = Tr (mcallT g (tagM t m) as) ρ Q X := rfl
theorem tr_fldT {m : M PyData} : Tr (mfldT t j m) ρ Q X = Tr m ρ (fun x r => ∃ ds, tagE t x = some ds ∧ ∃ d, fA j ds = some d ∧ Q d r) X := by
  unfold mfldT
  rw [tr_bnd]
  congr 1; funext x r
  rw [tro]
  unfold tagE fA
  cases x with
  | tuple ds =>
    cases ds with
    | nil => simp [TrO]
    | cons t' ds =>
      by_cases h : t' = t
      · simp only [h, if_true, Option.some.injEq, exists_eq_left']
        generalize ds[j]? = y
        cases y with
        | none => simp [TrO]
        | some y =>
          cases y with
          | list l =>
            cases l with
            | nil => simp [TrO]
            | cons d r => cases r <;> simp [TrO]
          | _ => simp [TrO]
      · simp [h, TrO]
  | _ => simp [TrO]
theorem tr_make {g : List PyData → FOut} {as : List CArg} : Tr (mmake t g as) ρ Q X = Tr (evA as) ρ (fun xs r => lendOk as r = true ∧ scrOk as r = true ∧ TrF (g (.tuple [t] :: fillA r as xs)) (fun rt outs => ∃ o outs', outs = o :: outs' ∧ rt = .v .none ∧ Q o (wbA as outs' r)) (fun e outs => ∃ o outs', outs = o :: outs' ∧ X e (wbA as outs' r))) X := by
  unfold Tr mmake
  cases evA as ρ with
  | bad => rfl
  | exc e r => rfl
  | ok xs r =>
    simp only
    by_cases h1 : lendOk as r = true
    · by_cases h2 : scrOk as r = true
      · simp only [h1, h2, Bool.and_self, if_true, true_and]
        cases g (.tuple [t] :: fillA r as xs) with
        | bad => rfl
        | ok rt outs =>
          cases outs with
          | nil => cases rt with
            | o d => simp [TrF]
            | v d => cases d <;> simp [TrF]
          | cons o outs =>
            show _ = ∃ o_1 outs', o :: outs = o_1 :: outs' ∧ rt = .v .none ∧ Q o_1 (wbA as outs' r)
            refine Eq.trans ?_ (propext (⟨fun ⟨q, h⟩ => ⟨o, outs, rfl, q, h⟩, fun ⟨_, _, e, q, h⟩ => by cases e; exact ⟨q, h⟩⟩ : (rt = .v .none ∧ Q o (wbA as outs r)) ↔ _))
            cases rt with
            | o d => simp
            | v d => cases d <;> simp
        | exc e outs =>
          cases outs with
          | nil => simp [TrF]
          | cons o outs =>
            show X e (wbA as outs r) = ∃ o_1 outs', o :: outs = o_1 :: outs' ∧ X e (wbA as outs' r)
            exact propext ⟨fun h => ⟨o, outs, rfl, h⟩, fun ⟨_, _, q, h⟩ => by cases q; exact h⟩
      · simp [h1, h2]
    · simp [h1]
end
end PL
namespace PL
open PySem PySem.Spec L2
theorem clsAt_of {K : PySem.W.Frag} {n : Str} {C : Addr} (h : PySem.W.nsIn K mainGlobals n = some (some (.ref C))) : clsAt K n = some C := by
  unfold clsAt
  rw [h]
/-- an own object that is a list or dict -/
def mleaf (m : M PyData) : M PyData := bnd m fun d ρ => if leafD d = true then .ok d ρ else .bad
theorem rf_go {c : Cw} {te : TE} {m : M PyData} (h : Rf c (RG c.K) te m) : Rf c (RO c.K) te (mleaf m) := by
  intro pp pr fz σ H ρ Q hp R hq
  refine h pp pr fz σ H ρ _ hp R (hq.bnd fun v x fz1 H1 ρ1 F1 R1 r1 P1 => ?_)
  split at P1
  · rename_i l
    exact ok_post P1 R1 (RG.o (show RG c.K pr σ fz1 H1 ρ1 v x from r1) l)
  · exact P1.elim
theorem tr_leaf {m : M PyData} {ρ : Env} {Q : PyData → Env → Prop} {X : XP} : Tr (mleaf m) ρ Q X = Tr m ρ (fun d r => leafD d = true ∧ Q d r) X := by
  unfold mleaf
  rw [tr_bnd]
  congr 1; funext d r
  rw [tro]
  by_cases l : leafD d = true <;> simp [l, TrO]
end PL

end
section
/-! PLu: for-statements over a list that a slot holds alone, which the body leaves as it is. -/
namespace PL
open PySem PySem.Spec L2
open PyProof.Rows hiding St

abbrev Cw.pin (c : Cw) (i : Nat) : Cw := { c with ps := i :: c.ps }
open Classical in
noncomputable def forLO (i : Nat) (d : PyData) (asg : Asg) (body : SM) : List PyData → Env → SOut
  | [], ρ => if ρ[i]? = some (.own d) then .nx ρ else .bad
  | x :: r, ρ => if ρ[i]? = some (.own d) then (match asg x ρ with
    | none => .bad
    | some ρ1 => match body ρ1 with
      | .nx ρ2 => forLO i d asg body r ρ2
      | .ct ρ2 => forLO i d asg body r ρ2
      | .bk ρ2 => .nx ρ2
      | o => o) else .bad
noncomputable def mforO (k : List PyData → List PyData) (i : Nat) (asg : Asg) (body : SM) : SM := fun ρ => match ownL i ρ with
  | some ds => forLO i (.list ds) asg body (k ds) ρ
  | none => .bad
theorem itl_step {K : PySem.W.Frag} {fz : Addr → Prop} {H : Hp} {a : Addr} {vs : List V} {ds : List PyData} {k : Nat} (h : H a = some (.lst vs)) (r : RepA K fz H vs ds) (hf : ∀ a, fz a → H a ≠ none) :
    (∀ d, ds[k]? = some d → (Itl K a).go k H ∧ ∀ x H'', (Itl K a).yld k H x H'' → ∃ fz'', Alc fz H fz'' H'' ∧ Rep K fz'' H'' x d) ∧ (ds.length ≤ k → (Itl K a).stop k H) := by
  refine ⟨fun d hd => ?_, fun hl => ⟨vs, SqL.of h, by rw [r.length]; exact hl⟩⟩
  obtain ⟨y, hy, ry⟩ := r.get hd
  refine ⟨⟨vs, y, SqL.of h, hy⟩, fun x H'' hx => ?_⟩
  obtain ⟨rfl, hx⟩ := hx
  have := hx vs (SqL.of h)
  rw [hy] at this
  cases this
  exact ⟨fz, Alc.refl, ry⟩
theorem ite_step {K : PySem.W.Frag} {fz : Addr → Prop} {H : Hp} {a : Addr} {vs : List V} {ds : List PyData} {k : Nat} (h : H a = some (.lst vs)) (r : RepA K fz H vs ds) (hf : ∀ a, fz a → H a ≠ none) :
    (∀ d, (enumP ds)[k]? = some d → (Ite K a).go k H ∧ ∀ x H'', (Ite K a).yld k H x H'' → ∃ fz'', Alc fz H fz'' H'' ∧ Rep K fz'' H'' x d) ∧ ((enumP ds).length ≤ k → (Ite K a).stop k H) := by
  refine ⟨fun d hd => ?_, fun hl => ⟨vs, SqL.of h, ?_⟩⟩
  · unfold enumP at hd
    rw [List.getElem?_mapIdx] at hd
    cases e : ds[k]? with
    | none => rw [e] at hd; cases hd
    | some x =>
      rw [e] at hd
      cases hd
      obtain ⟨v, hv, rv⟩ := r.get e
      refine ⟨⟨vs, v, SqL.of h, hv⟩, fun u H'' hu => ?_⟩
      obtain ⟨T, x1, rfl, hT, rfl, f1⟩ := hu
      have q1 := f1 _ (SqL.of h)
      rw [hv] at q1
      cases q1
      exact pair_new hf hT (.int _) rv
  · unfold enumP at hl
    rw [List.length_mapIdx] at hl
    rw [r.length]; exact hl
section
variable {c : Cw} {pp : List (Nat × Addr)} {pr fz : Addr → Prop} {σ : L2.St} {H : Hp} {ρ : Env}
theorem Rel.unpin {p : Nat × Addr} {K : PySem.W.Frag} (R : Rel K (p :: pp) pr fz σ H ρ) : Rel K pp pr fz σ H ρ := ⟨R.len, R.at_, R.sep, R.fzH, R.prH, fun q hq => R.pin q (List.mem_cons_of_mem _ hq)⟩
theorem PostS.unpin {p : Nat × Addr} {i : Nat} {o : SOut} {D : Ends} (h : PostS c pp pr fz H o D) : PostS (c.pin i) (p :: pp) pr fz H o D := by
  cases o with
  | nx r => exact fun σ' fz' H' F' R' => h σ' fz' H' F' R'.unpin
  | bk r => exact fun σ' fz' H' F' R' => h σ' fz' H' F' R'.unpin
  | ct r => exact fun σ' fz' H' F' R' => h σ' fz' H' F' R'.unpin
  | rt a r => cases a <;> exact fun v σ' fz' H' F' R' => h v σ' fz' H' F' R'.unpin
  | exc e r => exact fun cls dx σ' fz' H' F' R' => h cls dx σ' fz' H' F' R'.unpin
  | bad => exact h
variable {t : TS} {ma : SM} {g : TG} {asg : Asg} {ts : List Nat} {i : Nat} {k : List PyData → List PyData} {wi : TI} {J : Addr → It}
theorem rs_forO (hw : ∀ σ H (R : It → Hp → Prop) (a : Addr) (vs : List V), σ[i]? = some (some (V.ref a)) → H a = some (.lst vs) → R (J a) H → wi σ H R)
    (hJ : ∀ {fz : Addr → Prop} {H : Hp} {a : Addr} {vs : List V} {ds : List PyData} {j : Nat}, H a = some (.lst vs) → RepA c.K fz H vs ds → (∀ a, fz a → H a ≠ none) → (∀ d, (k ds)[j]? = some d → (J a).go j H ∧ ∀ x H'', (J a).yld j H x H'' → ∃ fz'', Alc fz H fz'' H'' ∧ Rep c.K fz'' H'' x d) ∧ ((k ds).length ≤ j → (J a).stop j H))
    (hg : RfG (c.pin i) ts g asg) (hb : RfS (c.pin i) t ma) : RfS c (tFor wi g t) (mforO k i asg ma) := by
  intro pp pr fz σ H ρ D hp R hq
  unfold mforO at hq
  cases e : ownL i ρ with
  | none => rw [e] at hq; exact hq.elim
  | some ds0 =>
    rw [e] at hq
    obtain ⟨a, hs, nf, np, vs0, hH0, ra0⟩ := R.own_ne (ownL_eq e) rfl
    have Rp : Rel c.K ((i, a) :: pp) pr fz σ H ρ := ⟨R.len, R.at_, R.sep, R.fzH, R.prH, fun p hpp => by
      rcases List.mem_cons.mp hpp with rfl | hpp
      · exact ⟨_, ownL_eq e, hs⟩
      · exact R.pin p hpp⟩
    have hp' : ((i, a) :: pp).map (·.1) = (c.pin i).ps := by simp only [List.map_cons, hp]
    refine hw σ H _ a vs0 hs hH0 ?_
    let ds := k ds0
    let W : Nat → Nat → L2.St → Hp → Prop := fun j n σ2 H2 => n = ds.length - j ∧ j ≤ ds.length ∧ ∃ (fz2 : Addr → Prop) (ρ2 : Env), Fr pr fz H fz2 H2 ∧ Rel c.K ((i, a) :: pp) pr fz2 σ2 H2 ρ2 ∧ PostS c pp pr fz2 H2 (forLO i (.list ds0) asg ma (ds.drop j) ρ2) D
    refine ⟨W, ⟨_, rfl, Nat.zero_le _, fz, ρ, Fr.refl, Rp, by rw [List.drop_zero]; exact hq⟩, fun j n σ2 H2 hW => ?_⟩
    obtain ⟨rfl, hil, fz2, ρ2, F2, R2, P2⟩ := hW
    have own : ∀ {ρ2 : Env} {fz2 : Addr → Prop} {σ2 : L2.St} {H2 : Hp}, Rel c.K ((i, a) :: pp) pr fz2 σ2 H2 ρ2 → ρ2[i]? = some (.own (.list ds0)) → ∃ vs, H2 a = some (.lst vs) ∧ RepA c.K fz2 H2 vs ds0 := fun R2 h => by
      obtain ⟨a', hs', _, _, vs, hH, ra⟩ := R2.own_ne h rfl
      obtain ⟨x, _, s⟩ := R2.pin (i, a) List.mem_cons_self
      rw [hs'] at s
      cases s
      exact ⟨vs, hH, ra⟩
    by_cases hlt : j < ds.length
    · rw [List.drop_eq_getElem_cons hlt] at P2
      unfold forLO at P2
      split at P2
      · rename_i ho
        obtain ⟨vs, hH, ra⟩ := own R2 ho
        obtain ⟨go, yld⟩ := (hJ hH ra R2.fzH (j := j)).1 ds[j] (List.getElem?_eq_getElem hlt)
        refine .inr ⟨go, W (j + 1) (ds.length - (j + 1)), fun σ' H' h => ⟨_, by omega, h⟩, fun x H3 hx => ?_⟩
        obtain ⟨fz3, A3, r3⟩ := yld x H3 hx
        have R3 := A3.rel R2
        have F3 := A3.fr R2
        cases ea : asg ds[j] ρ2 with
        | none => rw [ea] at P2; exact P2.elim
        | some ρ3 =>
          simp only [ea] at P2
          refine hg ((i, a) :: pp) pr fz3 σ2 H3 ρ2 ρ3 x ds[j] _ hp' R3 r3 ea fun σ4 R4 l4 k4 => ?_
          refine hb ((i, a) :: pp) pr fz3 σ4 H3 ρ3 _ hp' R4 ?_
          have P2 := PostS.rest F3 P2
          cases eb : ma ρ3 with
          | nx ρ5 =>
            simp only [eb] at P2
            exact fun σ' fz' H' F' R' => ⟨rfl, hlt, fz', ρ5, F2.trans (F3.trans F'), R', PostS.rest F' P2⟩
          | ct ρ5 =>
            simp only [eb] at P2
            exact fun σ' fz' H' F' R' => ⟨rfl, hlt, fz', ρ5, F2.trans (F3.trans F'), R', PostS.rest F' P2⟩
          | bk ρ5 =>
            simp only [eb] at P2
            exact fun σ' fz' H' F' R' => P2 σ' fz' H' F' R'.unpin
          | rt b r => simp only [eb] at P2; cases b <;> exact fun v σ' fz' H' F' R' => P2 v σ' fz' H' F' R'.unpin
          | exc x r => simp only [eb] at P2; exact fun cls dx σ' fz' H' F' R' => P2 cls dx σ' fz' H' F' R'.unpin
          | bad => simp only [eb] at P2; exact P2.elim
      · exact P2.elim
    · have e : j = ds.length := by omega
      subst e
      rw [List.drop_length] at P2
      unfold forLO at P2
      split at P2
      · rename_i ho
        obtain ⟨vs, hH, ra⟩ := own R2 ho
        exact .inl ⟨(hJ hH ra R2.fzH).2 (Nat.le_refl _), P2 σ2 fz2 H2 Fr.refl R2.unpin⟩
      · exact P2.elim
theorem rs_forOL (hg : RfG (c.pin i) ts g asg) (hb : RfS (c.pin i) t ma) : RfS c (tFor (iSeq c.K (tVar i)) g t) (mforO id i asg ma) :=
  rs_forO (J := Itl c.K) (fun σ H R a vs hs hH h => .inl ⟨_, hs, a, rfl, ⟨vs, SqL.of hH⟩, h⟩) (fun hH ra hf => itl_step hH ra hf) hg hb
theorem rs_forOE (hg : RfG (c.pin i) ts g asg) (hb : RfS (c.pin i) t ma) : RfS c (tFor (iEnum c.K (tCons (tVar i) tNil)) g t) (mforO enumP i asg ma) :=
  rs_forO (J := Ite c.K) (fun σ H R a vs hs hH h => ⟨_, hs, a, vs, rfl, SqL.of hH, h⟩) (fun hH ra hf => ite_step hH ra hf) hg hb
end
/-! ### weakest preconditions -/
section
variable {ρ : Env} {P : PS} {i : Nat} {asg : Asg} {body : SM} {k : List PyData → List PyData}
def TsF (i : Nat) (ds : List PyData) (k : List PyData → List PyData) (asg : Asg) (body : SM) (ρ : Env) (P : PS) : Prop := TsO (forLO i (.list ds) asg body (k ds) ρ) P
theorem ts_forO : Ts (mforO k i asg body) ρ P = ∃ ds, getL (at? ρ i) = some ds ∧ TsO (forLO i (.list ds) asg body (k ds) ρ) P := by
  have e : ownL i ρ = getL (at? ρ i) := by
    unfold ownL getL at?
    cases ρ[i]? with
    | none => rfl
    | some s =>
      cases s with
      | own d => cases d <;> rfl
      | _ => rfl
  unfold Ts mforO
  rw [e]
  cases getL (at? ρ i) <;> simp [TsO]
theorem ts_forLO {d : PyData} {asg : Asg} {body : SM} {P : PS} (I : Nat → Env → Prop) : ∀ {xs : List PyData} {n : Nat} {ρ : Env}, I n ρ → (∀ j r, I j r → r[i]? = some (.own d)) →
    (∀ j x r, xs[j]? = some x → I (n + j) r → ∃ r1, asg x r = some r1 ∧ Ts body r1 { P with nx := I (n + j + 1), ct := I (n + j + 1), bk := fun r => P.nx r }) → (∀ r, I (n + xs.length) r → P.nx r) → TsO (forLO i d asg body xs ρ) P
  | [], n, ρ, h0, hi, hs, he => by
    unfold forLO
    rw [if_pos (hi _ _ h0)]
    exact he ρ h0
  | x :: xs, n, ρ, h0, hi, hs, he => by
    unfold forLO
    rw [if_pos (hi _ _ h0)]
    obtain ⟨r1, e1, h1⟩ := hs 0 x ρ rfl h0
    rw [e1]
    have go : ∀ r2, I (n + 1) r2 → TsO (forLO i d asg body xs r2) P := fun r2 h2 =>
      ts_forLO I (n := n + 1) h2 hi (fun j y r hj h => by
        have := hs (j + 1) y r (by simpa using hj) (by rw [show n + (j + 1) = n + 1 + j by omega]; exact h)
        rwa [show n + (j + 1) + 1 = n + 1 + j + 1 by omega] at this) (fun r h => he r (by rw [List.length_cons, show n + (xs.length + 1) = n + 1 + xs.length by omega]; exact h))
    unfold Ts at h1
    show TsO (match body r1 with
      | .nx ρ2 => forLO i d asg body xs ρ2
      | .ct ρ2 => forLO i d asg body xs ρ2
      | .bk ρ2 => .nx ρ2
      | o => o) P
    cases eb : body r1 with
    | nx r2 => rw [eb] at h1; exact go r2 h1
    | ct r2 => rw [eb] at h1; exact go r2 h1
    | bk r2 => rw [eb] at h1; exact h1
    | rt a r => rw [eb] at h1; exact h1
    | exc e r => rw [eb] at h1; exact h1
    | bad => rw [eb] at h1; exact h1.elim
end
end PL

end
section
/-! pure functions of the law k37, printed by gen.py -/
namespace Lk37
open PySem PL

def t_Mixes_0 : PyData := tagD "Mixes" []
theorem tE_Mixes_0 : t_Mixes_0 = tagD "Mixes" [] := rfl
def t_Mixes_1 : PyData := tagD "Mixes" ["most"]
theorem tE_Mixes_1 : t_Mixes_1 = tagD "Mixes" ["most"] := rfl
def t_Mixes_2 : PyData := tagD "Mixes" ["most", "last"]
theorem tE_Mixes_2 : t_Mixes_2 = tagD "Mixes" ["most", "last"] := rfl
/-- _law_pot(_law_script, _law_index); slots 0:l_script 1:l_index 2:l_cell 3:l_own -/
noncomputable def m_l_pot : SM :=
  (mseq (massign (mif (asB (op2l lt? 1 (mlenS 0))) (mixS 0 (mvar 1)) (op2 add? (op2r mul? (mcon (.int 23)) 1) (mcon (.int 4)))) (aname 2))
   (mseq (massign (op2 mul? (op2 mod? (mc1p abs? 2) (op2 pow? (op2 pow? (mcon (.int 10)) (mcon (.int 60))) (mcon (.int 5)))) (mc1 int? (op2 ge? (mc1p abs? 2) (op2 pow? (mcon (.int 10)) (mcon (.int 18)))))) (aname 3))
   (mretO (mlst (acons (mvar 3) (acons (op2 mod? (op2 mul? (op2 add? (op2 add? (op2l mod? 2 (mcon (.int 2305843009213693951))) (op2r mul? (op2r mul? (mcon (.int 7331)) 1) 1)) (mcon (.int 29))) (mcon (.int 36969))) (mcon (.int 2305843009213693951))) (acons (mcon (.int 0)) anil)))))))
noncomputable def f_l_pot : List PyData → FOut := bodyF 4 [.s, .v] m_l_pot

/-- Mixes.requests(self); slots 0:self 1:found 2:left -/
noncomputable def m_Mixes_requests : SM :=
  (mseq (mpar [.o (mlst anil), .v (op2 sub? (c1F len? t_Mixes_2 0 0) (mcon (.int 1)))] [1, 2])
   (mseq (mwhile (asB (op2l gt? 2 (mcon (.int 0)))) (mseq (mifS (asB (op2 gt? (opF item? t_Mixes_2 0 1 (qvar 2)) (mcon (.int 0)))) (mappend 1 (opF item? t_Mixes_2 0 1 (qvar 2))) mnext)
   (maug sub? 2 (op2 max2? (mcon (.int 1)) (opF item? t_Mixes_2 0 1 (qvar 2))))))
   (mret (mc1 tuple? (mc1p sortI? 1)))))
noncomputable def f_Mixes_requests : List PyData → FOut := bodyF 3 [.o] m_Mixes_requests

/-- cheapest_requests(chain); slots 0:chain 1:smaller -/
noncomputable def m_cheapest_requests : SM :=
  (mret (op2 add? (mlst (acons (mcon (.int 1)) anil)) (mlc (mseqI (mslp 0 mpn (mps (mneg (mcon (.int 1)))))) (aname 1) myes (op2l add? 1 (mcon (.int 1))) [1])))
noncomputable def f_cheapest_requests : List PyData → FOut := bodyF 2 [.v] m_cheapest_requests

/-- Mixes.__init__(self, chain, words); slots 0:self 1:chain 2:words 3:cheapest 4:total 5:best 6:request 7:size 8:least -/
noncomputable def m_MixesD_initD : SM :=
  (mseq (maddFO t_Mixes_0 t_Mixes_1 0 (mlst (acons (mcon (.int 0)) anil)))
   (mseq (maddFO t_Mixes_1 t_Mixes_2 0 (mlst (acons (mcon (.int 0)) anil)))
   (mseq (massign (rtV (mcall f_cheapest_requests [.v (mvar 1)])) (aname 3))
   (mfor (mrng2 (mcon (.int 1)) (op2l add? 2 (mcon (.int 1)))) (aname 4) (mseq (mpar [.v (opF item? t_Mixes_2 0 0 (qop sub? (qvar 4) (qcon (.int 1)))), .v (mcon (.int 0))] [5, 6])
   (mseq (mfor (mzip (mvar 1) (mvar 3)) (atup 2 (agcons (aname 7) (agcons (aname 8) agnil))) (mifS (mand (asB (op2b le? 8 4)) (asB (op2r gt? (op2r add? (opF item? t_Mixes_2 0 0 (qop sub? (qvar 4) (qvar 8))) 7) 5))) (mpar [.v (op2r add? (opF item? t_Mixes_2 0 0 (qop sub? (qvar 4) (qvar 8))) 7), .v (mvar 8)] [5, 6]) mnext))
   (mseq (mappF t_Mixes_2 0 0 (qvar 5))
   (mappF t_Mixes_2 0 1 (qvar 6)))))))))
noncomputable def f_MixesD_initD : List PyData → FOut := bodyF 9 [.o, .v, .v] m_MixesD_initD

/-- request_mix(chain, words); slots 0:chain 1:words -/
noncomputable def m_request_mix : SM :=
  (mret (rtV (mmethT t_Mixes_2 f_Mixes_requests (mmake t_Mixes_0 f_MixesD_initD [.v (mvar 0), .v (mvar 1)]) [])))
noncomputable def f_request_mix : List PyData → FOut := bodyF 2 [.v, .v] m_request_mix

/-- _law_draw(_law_pot_here, _law_count_here); slots 0:l_pot_here 1:l_count_here 2:l_digit 3:l_mixed -/
noncomputable def m_l_draw : SM :=
  (mseq (mifS (asB (op2 gt? (op2l item? 0 (mcon (.int 0))) (mcon (.int 0)))) (mseq (massign (op2r mod? (op2l item? 0 (mcon (.int 0))) 1) (aname 2))
   (mseq (mstore 0 (mcon (.int 0)) (op2r fdiv? (op2l item? 0 (mcon (.int 0))) 1))
   (mret (mvar 2)))) mnext)
   (mseq (mstore 0 (mcon (.int 2)) (op2 add? (op2l item? 0 (mcon (.int 2))) (mcon (.int 1))))
   (mseq (massign (op2 add? (op2 add? (op2 mul? (op2l item? 0 (mcon (.int 1))) (mcon (.int 1181783497276652981))) (op2 mul? (mcon (.int 97531)) (op2l item? 0 (mcon (.int 2))))) (mcon (.int 13))) (aname 3))
   (mseq (mstore 0 (mcon (.int 1)) (op2l mod? 3 (mcon (.int 2305843009213693951))))
   (mret (op2r mod? (op2 fdiv? (op2 mod? (op2 mul? (op2 fdiv? (op2l item? 0 (mcon (.int 1))) (mcon (.int 65537))) (op2 add? (op2 mod? (op2l item? 0 (mcon (.int 1))) (mcon (.int 65537))) (mcon (.int 3)))) (mcon (.int 2305843009213693921))) (mcon (.int 101))) 1))))))
noncomputable def f_l_draw : List PyData → FOut := bodyF 4 [.o, .v] m_l_draw

/-- _law_pick(_law_pot_here, _law_some); slots 0:l_pot_here 1:l_some -/
noncomputable def m_l_pick : SM :=
  (mret (op2l item? 1 (rtV (mcall f_l_draw [.lend 0, .v (mc1p len? 1)]))))
noncomputable def f_l_pick : List PyData → FOut := bodyF 2 [.o, .v] m_l_pick

/-- _law_chain(_law_pot_here, _law_most_here); slots 0:l_pot_here 1:l_most_here 2:l_sizes 3:l_turn 4:l_ratio -/
noncomputable def m_l_chain : SM :=
  (mseq (mown (mlst (acons (mcon (.int 1)) anil)) 2)
   (mseq (mfor (mrng1 (rtV (mcall f_l_draw [.lend 0, .v (mcon (.int 5))]))) (aname 3) (mseq (massign (rtV (mcall f_l_pick [.lend 0, .v (mlst (acons (mcon (.int 2)) (acons (mcon (.int 2)) (acons (mcon (.int 3)) (acons (mcon (.int 2)) (acons (mcon (.int 4)) (acons (mcon (.int 5)) (acons (mcon (.int 6)) anil))))))))])) (aname 4))
   (mifS (asB (op2r le? (op2r mul? (op2l item? 2 (mneg (mcon (.int 1)))) 4) 1)) (mappend 2 (op2r mul? (op2l item? 2 (mneg (mcon (.int 1)))) 4)) mnext)))
   (mret (mc1p tuple? 2))))
noncomputable def f_l_chain : List PyData → FOut := bodyF 5 [.o, .v] m_l_chain

/-- most_live(chain, words); slots 0:chain 1:words -/
noncomputable def m_most_live : SM :=
  (mret (op2r item? (mleaf (mfldT t_Mixes_2 0 (mmake t_Mixes_0 f_MixesD_initD [.v (mvar 0), .v (mvar 1)]))) 1))
noncomputable def f_most_live : List PyData → FOut := bodyF 2 [.v, .v] m_most_live

/-- _law_most(_law_sizes, _law_words); slots 0:l_sizes 1:l_words 2:l_found 3:l_steps 4:l_smaller 5:l_many 6:l_total 7:l_least -/
noncomputable def m_l_most : SM :=
  (mseq (mpar [.o (mlst (acons (mcon (.int 0)) anil)), .o (mlst (acons (mtup (acons (mcon (.int 1)) (acons (mcon (.int 1)) anil))) anil))] [2, 3])
   (mseq (mfor (mzip (mvar 0) (mslp 0 (mps (mcon (.int 1))) mpn)) (atup 2 (agcons (aname 4) (agcons (aname 5) agnil))) (mappend 3 (mtup (acons (op2l add? 4 (mcon (.int 1))) (acons (mvar 5) anil)))))
   (mseq (mfor (mrng2 (mcon (.int 1)) (op2l add? 1 (mcon (.int 1)))) (aname 6) (mappend 2 (mc1 max? (op2 add? (mlst (acons (op2l item? 2 (mneg (mcon (.int 1)))) anil)) (mbor flatC 3 (mlc (mseqI (mvar 3)) (atup 2 (agcons (aname 7) (agcons (aname 5) agnil))) (asB (op2b le? 7 6)) (op2r add? (op2l item? 2 (op2b sub? 6 7)) 5) [7, 5]))))))
   (mret (op2b item? 2 1)))))
noncomputable def f_l_most : List PyData → FOut := bodyF 8 [.v, .v] m_l_most

/-- chunk_count(words, size); slots 0:words 1:size -/
noncomputable def m_chunk_count : SM :=
  (mret (mneg (op2r fdiv? (mneg (mvar 0)) 1)))
noncomputable def f_chunk_count : List PyData → FOut := bodyF 2 [.v, .v] m_chunk_count

/-- least_live(chain, numbers, size); slots 0:chain 1:numbers 2:size 3:total 4:counted 5:smaller 6:number 7:count -/
noncomputable def m_least_live : SM :=
  (mseq (mpar [.v (mcon (.int 0)), .v (mcon (.int 0))] [3, 4])
   (mseq (mfor (mzip (mvar 0) (mvar 1)) (atup 2 (agcons (aname 5) (agcons (aname 6) agnil))) (mseq (massign (rtV (mcall f_chunk_count [.v (mvar 6), .v (mvar 2)])) (aname 7))
   (mseq (maug addI? 3 (op2r mul? (op2b sub? 7 4) 5))
   (massign (mvar 7) (aname 4)))))
   (mret (mvar 3))))
noncomputable def f_least_live : List PyData → FOut := bodyF 8 [.v, .v, .v] m_least_live

/-- numbers_from(chain, limit, first_reaches); slots 0:chain 1:limit 2:first_reaches 3:numbers 4:index 5:size 6:new_blocks 7:bound -/
noncomputable def m_numbers_from : SM :=
  (mseq (mown (mlst (acons (op2 max2? (mvar 1) (op2l item? 2 (mcon (.int 0)))) anil)) 3)
   (mseq (mfor (mrng2 (mcon (.int 1)) (mc1p len? 0)) (aname 4) (mseq (massign (op2b item? 0 4) (aname 5))
   (mseq (massign (op2r fdiv? (op2 max2? (mcon (.int 0)) (op2l sub? 1 (mbor noList 3 (rtV (mcall f_least_live [.v (mvar 0), .v (mvar 3), .v (mvar 5)]))))) 5) (aname 6))
   (mseq (massign (op2l mul? 5 (op2r add? (rtV (mcall f_chunk_count [.v (op2l item? 3 (mneg (mcon (.int 1)))), .v (mvar 5)])) 6)) (aname 7))
   (mappend 3 (op2 max2? (mvar 7) (op2b item? 2 4)))))))
   (mret (mc1p tuple? 3))))
noncomputable def f_numbers_from : List PyData → FOut := bodyF 8 [.v, .v, .v] m_numbers_from

/-- bounds(chain, limit); slots 0:chain 1:limit -/
noncomputable def m_bounds : SM :=
  (mret (rtV (mcall f_numbers_from [.v (mvar 0), .v (mvar 1), .v (op2 mul? (mtup (acons (mcon (.int 0)) anil)) (mc1p len? 0))])))
noncomputable def f_bounds : List PyData → FOut := bodyF 2 [.v, .v] m_bounds

/-- pages_needed(chain, limit); slots 0:chain 1:limit -/
noncomputable def m_pages_needed : SM :=
  (mret (op2 fdiv? (op2 item? (rtV (mcall f_bounds [.v (mvar 0), .v (mvar 1)])) (mneg (mcon (.int 1)))) (op2l item? 0 (mneg (mcon (.int 1))))))
noncomputable def f_pages_needed : List PyData → FOut := bodyF 2 [.v, .v] m_pages_needed

/-- enough_pages(chain, words); slots 0:chain 1:words -/
noncomputable def m_enough_pages : SM :=
  (mret (rtV (mcall f_pages_needed [.v (mvar 0), .v (rtV (mcall f_most_live [.v (mvar 0), .v (mvar 1)]))])))
noncomputable def f_enough_pages : List PyData → FOut := bodyF 2 [.v, .v] m_enough_pages

/-- _law_rounded(_law_sizes, _law_many); slots 0:l_sizes 1:l_many 2:l_one -/
noncomputable def m_l_rounded : SM :=
  (mret (op2 item? (mlc (mseqI (mvar 0)) (aname 2) (asB (op2b ge? 2 1)) (mvar 2) [2]) (mcon (.int 0))))
noncomputable def f_l_rounded : List PyData → FOut := bodyF 3 [.v, .v] m_l_rounded

/-- _law_count(_law_words, _law_many); slots 0:l_words 1:l_many -/
noncomputable def m_l_count : SM :=
  (mret (op2r fdiv? (op2 sub? (op2b add? 0 1) (mcon (.int 1))) 1))
noncomputable def f_l_count : List PyData → FOut := bodyF 2 [.v, .v] m_l_count

/-- _law_bounds(_law_sizes, _law_cap); slots 0:l_sizes 1:l_cap 2:l_numbers 3:l_many 4:l_low 5:l_at 6:l_number 7:l_ahead -/
noncomputable def m_l_bounds : SM :=
  (mseq (mown (mlst (acons (mvar 1) anil)) 2)
   (mseq (mfor (mseqI (mslp 0 (mps (mcon (.int 1))) mpn)) (aname 3) (mseq (massign (mcon (.int 0)) (aname 4))
   (mseq (mforO enumP 2 (atup 2 (agcons (aname 5) (agcons (aname 6) agnil))) (mseq (massign (mif (asB (op2l gt? 5 (mcon (.int 0)))) (rtV (mcall f_l_count [.v (op2l item? 2 (op2l sub? 5 (mcon (.int 1)))), .v (mvar 3)])) (mcon (.int 0))) (aname 7))
   (massign (op2l add? 4 (op2 mul? (op2b item? 0 5) (op2r sub? (rtV (mcall f_l_count [.v (mvar 6), .v (mvar 3)])) 7))) (aname 4))))
   (mappend 2 (op2l mul? 3 (op2 add? (rtV (mcall f_l_count [.v (op2l item? 2 (mneg (mcon (.int 1)))), .v (mvar 3)])) (op2r fdiv? (op2b sub? 1 4) 3)))))))
   (mret (mvar 2))))
noncomputable def f_l_bounds : List PyData → FOut := bodyF 8 [.v, .v] m_l_bounds

/-- _law_is_count(_law_value); slots 0:l_value -/
noncomputable def m_l_is_count : SM :=
  (mret (mandV (mc1p (isi? "int") 0) (mandV (mnotV (mc1p (isi? "bool") 0)) (op2l ge? 0 (mcon (.int 0))))))
noncomputable def f_l_is_count : List PyData → FOut := bodyF 1 [.v] m_l_is_count

/-- _law_mix_right(_law_sizes, _law_words); slots 0:l_sizes 1:l_words 2:l_some 3:l_most_here 4:l_many -/
noncomputable def m_l_mix_right : SM :=
  (mseq (mpar [.v (rtV (mcall f_request_mix [.v (mvar 0), .v (mvar 1)])), .v (rtV (mcall f_most_live [.v (mvar 0), .v (mvar 1)]))] [2, 3])
   (mseq (mifS (mor (asB (op2l ne? 3 (rtV (mcall f_l_most [.v (mvar 0), .v (mvar 1)])))) (asB (op2 ne? (rtV (mcall f_enough_pages [.v (mvar 0), .v (mvar 1)])) (op2 fdiv? (op2 item? (rtV (mcall f_l_bounds [.v (mvar 0), .v (mvar 3)])) (mneg (mcon (.int 1)))) (op2l item? 0 (mneg (mcon (.int 1)))))))) (mret (mcon (.bool false))) mnext)
   (mseq (mifS (mor (mnot (trB (mc1p (isi? "tuple") 2))) (mor (asB (op2 ne? (mc1p list? 2) (mc1p sortI? 2))) (asB (op2r gt? (mc1p sumA? 2) 1)))) (mret (mcon (.bool false))) mnext)
   (mseq (mifS (mnot (trB (mc1 all? (mlc (mseqI (mvar 2)) (aname 4) myes (mandV (rtV (mcall f_l_is_count [.v (mvar 4)])) (mchain le? le? (mcon (.int 1)) (mvar 4) (op2l item? 0 (mneg (mcon (.int 1)))))) [4])))) (mret (mcon (.bool false))) mnext)
   (mret (op2r eq? (mc1 sumA? (mlc (mseqI (mvar 2)) (aname 4) myes (rtV (mcall f_l_rounded [.v (mvar 0), .v (mvar 4)])) [4])) 3))))))
noncomputable def f_l_mix_right : List PyData → FOut := bodyF 5 [.v, .v] m_l_mix_right

/-- law(_law_script); slots 0:l_script 1:l_index 2:l_pot_here 3:l_turn 4:l_sizes 5:l_words 6:l_grown -/
noncomputable def m_law : SM :=
  (mseq (mfor (mrng1 (op2 max2? (mcon (.int 1)) (op2 min2? (mcon (.int 3)) (mlenS 0)))) (aname 1) (mseq (mown (rtG (mcall f_l_pot [.scr 0, .v (mvar 1)])) 2)
   (mfor (mrng1 (mcon (.int 6))) (aname 3) (mseq (massign (rtV (mcall f_l_chain [.lend 2, .v (mcon (.int 200))])) (aname 4))
   (mseq (massign (rtV (mcall f_l_pick [.lend 2, .v (mlst (acons (mcon (.int 0)) (acons (mcon (.int 1)) (acons (op2l item? 4 (mneg (mcon (.int 1)))) (acons (rtV (mcall f_l_draw [.lend 2, .v (mcon (.int 100))])) (acons (rtV (mcall f_l_draw [.lend 2, .v (mcon (.int 100))])) anil))))))])) (aname 5))
   (mseq (mifS (asB (op2l eq? 3 (mcon (.int 5)))) (massign (op2 sub? (mcon (.int 2000)) (rtV (mcall f_l_draw [.lend 2, .v (mcon (.int 300))]))) (aname 5)) mnext)
   (mseq (mifS (mnot (trB (rtV (mcall f_l_mix_right [.v (mvar 4), .v (mvar 5)])))) (mret (mcon (.bool false))) mnext)
   (mseq (massign (op2 sub? (rtV (mcall f_most_live [.v (mvar 4), .v (mvar 5)])) (rtV (mcall f_most_live [.v (mvar 4), .v (op2 max2? (mcon (.int 0)) (op2l sub? 5 (mcon (.int 1))))]))) (aname 6))
   (mifS (mnot (asB (mchain le? le? (mcon (.int 0)) (mvar 6) (op2l item? 4 (mneg (mcon (.int 1))))))) (mret (mcon (.bool false))) mnext)))))))))
   (mret (op2 eq? (rtV (mcall f_request_mix [.v (mtup (acons (mcon (.int 1)) (acons (mcon (.int 2)) anil))), .v (mcon (.int 0))])) (mtup anil))))
noncomputable def f_law : List PyData → FOut := bodyF 7 [.s] m_law

end Lk37

end
section
/-! the walk of the law k37, printed by gen.py -/
namespace Lk37
open PySem PySem.Spec PL L2
open PyProof.Rows hiding St

def topS (i : Nat) : Stmt := PySem.Challenge.pw_pinnedheap_k37_request_mixes.main.body.getD i (.Pass ⟨0, 0, 0, 0⟩)
abbrev s_l_pot : Stmt := topS 13
abbrev N_l_pot : List Str := ["_law_script", "_law_index", "_law_cell", "_law_own"]
theorem sc_l_pot : FnScope N_l_pot ["_law_script", "_law_index"] (defScope s_l_pot) := ⟨rfl, rfl, rfl, by decide +kernel, rfl, by decide +kernel, by decide +kernel⟩
abbrev s_Mixes_requests : Stmt := inClass (topS 8) 1
abbrev N_Mixes_requests : List Str := ["self", "found", "left"]
theorem sc_Mixes_requests : FnScope N_Mixes_requests ["self"] (defScope s_Mixes_requests) := ⟨rfl, rfl, rfl, by decide +kernel, rfl, by decide +kernel, by decide +kernel⟩
abbrev s_cheapest_requests : Stmt := topS 7
abbrev N_cheapest_requests : List Str := ["chain", "smaller"]
theorem sc_cheapest_requests : FnScope N_cheapest_requests ["chain"] (defScope s_cheapest_requests) := ⟨rfl, rfl, rfl, by decide +kernel, rfl, by decide +kernel, by decide +kernel⟩
abbrev s_MixesD_initD : Stmt := inClass (topS 8) 0
abbrev N_MixesD_initD : List Str := ["self", "chain", "words", "cheapest", "total", "best", "request", "size", "least"]
theorem sc_MixesD_initD : FnScope N_MixesD_initD ["self", "chain", "words"] (defScope s_MixesD_initD) := ⟨rfl, rfl, rfl, by decide +kernel, rfl, by decide +kernel, by decide +kernel⟩
abbrev s_request_mix : Stmt := topS 10
abbrev N_request_mix : List Str := ["chain", "words"]
theorem sc_request_mix : FnScope N_request_mix ["chain", "words"] (defScope s_request_mix) := ⟨rfl, rfl, rfl, by decide +kernel, rfl, by decide +kernel, by decide +kernel⟩
abbrev s_l_draw : Stmt := topS 14
abbrev N_l_draw : List Str := ["_law_pot_here", "_law_count_here", "_law_digit", "_law_mixed"]
theorem sc_l_draw : FnScope N_l_draw ["_law_pot_here", "_law_count_here"] (defScope s_l_draw) := ⟨rfl, rfl, rfl, by decide +kernel, rfl, by decide +kernel, by decide +kernel⟩
abbrev s_l_pick : Stmt := topS 15
abbrev N_l_pick : List Str := ["_law_pot_here", "_law_some"]
theorem sc_l_pick : FnScope N_l_pick ["_law_pot_here", "_law_some"] (defScope s_l_pick) := ⟨rfl, rfl, rfl, by decide +kernel, rfl, by decide +kernel, by decide +kernel⟩
abbrev s_l_chain : Stmt := topS 16
abbrev N_l_chain : List Str := ["_law_pot_here", "_law_most_here", "_law_sizes", "_law_turn", "_law_ratio"]
theorem sc_l_chain : FnScope N_l_chain ["_law_pot_here", "_law_most_here"] (defScope s_l_chain) := ⟨rfl, rfl, rfl, by decide +kernel, rfl, by decide +kernel, by decide +kernel⟩
abbrev s_most_live : Stmt := topS 9
abbrev N_most_live : List Str := ["chain", "words"]
theorem sc_most_live : FnScope N_most_live ["chain", "words"] (defScope s_most_live) := ⟨rfl, rfl, rfl, by decide +kernel, rfl, by decide +kernel, by decide +kernel⟩
abbrev s_l_most : Stmt := topS 21
abbrev N_l_most : List Str := ["_law_sizes", "_law_words", "_law_found", "_law_steps", "_law_smaller", "_law_many", "_law_total", "_law_least"]
theorem sc_l_most : FnScope N_l_most ["_law_sizes", "_law_words"] (defScope s_l_most) := ⟨rfl, rfl, rfl, by decide +kernel, rfl, by decide +kernel, by decide +kernel⟩
abbrev s_chunk_count : Stmt := topS 1
abbrev N_chunk_count : List Str := ["words", "size"]
theorem sc_chunk_count : FnScope N_chunk_count ["words", "size"] (defScope s_chunk_count) := ⟨rfl, rfl, rfl, by decide +kernel, rfl, by decide +kernel, by decide +kernel⟩
abbrev s_least_live : Stmt := topS 2
abbrev N_least_live : List Str := ["chain", "numbers", "size", "total", "counted", "smaller", "number", "count"]
theorem sc_least_live : FnScope N_least_live ["chain", "numbers", "size"] (defScope s_least_live) := ⟨rfl, rfl, rfl, by decide +kernel, rfl, by decide +kernel, by decide +kernel⟩
abbrev s_numbers_from : Stmt := topS 3
abbrev N_numbers_from : List Str := ["chain", "limit", "first_reaches", "numbers", "index", "size", "new_blocks", "bound"]
theorem sc_numbers_from : FnScope N_numbers_from ["chain", "limit", "first_reaches"] (defScope s_numbers_from) := ⟨rfl, rfl, rfl, by decide +kernel, rfl, by decide +kernel, by decide +kernel⟩
abbrev s_bounds : Stmt := topS 4
abbrev N_bounds : List Str := ["chain", "limit"]
theorem sc_bounds : FnScope N_bounds ["chain", "limit"] (defScope s_bounds) := ⟨rfl, rfl, rfl, by decide +kernel, rfl, by decide +kernel, by decide +kernel⟩
abbrev s_pages_needed : Stmt := topS 5
abbrev N_pages_needed : List Str := ["chain", "limit"]
theorem sc_pages_needed : FnScope N_pages_needed ["chain", "limit"] (defScope s_pages_needed) := ⟨rfl, rfl, rfl, by decide +kernel, rfl, by decide +kernel, by decide +kernel⟩
abbrev s_enough_pages : Stmt := topS 11
abbrev N_enough_pages : List Str := ["chain", "words"]
theorem sc_enough_pages : FnScope N_enough_pages ["chain", "words"] (defScope s_enough_pages) := ⟨rfl, rfl, rfl, by decide +kernel, rfl, by decide +kernel, by decide +kernel⟩
abbrev s_l_rounded : Stmt := topS 20
abbrev N_l_rounded : List Str := ["_law_sizes", "_law_many", "_law_one"]
theorem sc_l_rounded : FnScope N_l_rounded ["_law_sizes", "_law_many"] (defScope s_l_rounded) := ⟨rfl, rfl, rfl, by decide +kernel, rfl, by decide +kernel, by decide +kernel⟩
abbrev s_l_count : Stmt := topS 18
abbrev N_l_count : List Str := ["_law_words", "_law_many"]
theorem sc_l_count : FnScope N_l_count ["_law_words", "_law_many"] (defScope s_l_count) := ⟨rfl, rfl, rfl, by decide +kernel, rfl, by decide +kernel, by decide +kernel⟩
abbrev s_l_bounds : Stmt := topS 19
abbrev N_l_bounds : List Str := ["_law_sizes", "_law_cap", "_law_numbers", "_law_many", "_law_low", "_law_at", "_law_number", "_law_ahead"]
theorem sc_l_bounds : FnScope N_l_bounds ["_law_sizes", "_law_cap"] (defScope s_l_bounds) := ⟨rfl, rfl, rfl, by decide +kernel, rfl, by decide +kernel, by decide +kernel⟩
abbrev s_l_is_count : Stmt := topS 17
abbrev N_l_is_count : List Str := ["_law_value"]
theorem sc_l_is_count : FnScope N_l_is_count ["_law_value"] (defScope s_l_is_count) := ⟨rfl, rfl, rfl, by decide +kernel, rfl, by decide +kernel, by decide +kernel⟩
abbrev s_l_mix_right : Stmt := topS 22
abbrev N_l_mix_right : List Str := ["_law_sizes", "_law_words", "_law_some", "_law_most_here", "_law_many"]
theorem sc_l_mix_right : FnScope N_l_mix_right ["_law_sizes", "_law_words"] (defScope s_l_mix_right) := ⟨rfl, rfl, rfl, by decide +kernel, rfl, by decide +kernel, by decide +kernel⟩
abbrev s_law : Stmt := topS 23
abbrev N_law : List Str := ["_law_script", "_law_index", "_law_pot_here", "_law_turn", "_law_sizes", "_law_words", "_law_grown"]
theorem sc_law : FnScope N_law ["_law_script"] (defScope s_law) := ⟨rfl, rfl, rfl, by decide +kernel, rfl, by decide +kernel, by decide +kernel⟩
structure Txt (K : PySem.W.Frag) (mg : Str → Option Value) where
  C_Mixes : Addr
  k_Mixes : ClsF K "Mixes" C_Mixes
  na_Mixes_most : NoAttr K C_Mixes "most"
  na_Mixes_last : NoAttr K C_Mixes "last"
  a_l_pot : Addr
  d_l_pot : FuncData
  F_l_pot : Fun K "_law_pot" "_law_pot" s_l_pot a_l_pot d_l_pot
  g_l_pot : mg "_law_pot" = some (.ref a_l_pot)
  b_l_pot : Binds K d_l_pot ["_law_script", "_law_index"] []
  a_Mixes_requests : Addr
  d_Mixes_requests : FuncData
  F_Mixes_requests : Fun K "requests" "Mixes.requests" s_Mixes_requests a_Mixes_requests d_Mixes_requests
  b_Mixes_requests : Binds K d_Mixes_requests ["self"] []
  m_Mixes_requests : Meth K C_Mixes "requests" a_Mixes_requests
  a_cheapest_requests : Addr
  d_cheapest_requests : FuncData
  F_cheapest_requests : Fun K "cheapest_requests" "cheapest_requests" s_cheapest_requests a_cheapest_requests d_cheapest_requests
  g_cheapest_requests : mg "cheapest_requests" = some (.ref a_cheapest_requests)
  b_cheapest_requests : Binds K d_cheapest_requests ["chain"] []
  a_MixesD_initD : Addr
  d_MixesD_initD : FuncData
  F_MixesD_initD : Fun K "__init__" "Mixes.__init__" s_MixesD_initD a_MixesD_initD d_MixesD_initD
  b_MixesD_initD : Binds K d_MixesD_initD ["self", "chain", "words"] []
  mk_Mixes : Mk K C_Mixes a_MixesD_initD
  g_Mixes : mg "Mixes" = some (.ref C_Mixes)
  a_request_mix : Addr
  d_request_mix : FuncData
  F_request_mix : Fun K "request_mix" "request_mix" s_request_mix a_request_mix d_request_mix
  g_request_mix : mg "request_mix" = some (.ref a_request_mix)
  b_request_mix : Binds K d_request_mix ["chain", "words"] []
  a_l_draw : Addr
  d_l_draw : FuncData
  F_l_draw : Fun K "_law_draw" "_law_draw" s_l_draw a_l_draw d_l_draw
  g_l_draw : mg "_law_draw" = some (.ref a_l_draw)
  b_l_draw : Binds K d_l_draw ["_law_pot_here", "_law_count_here"] []
  a_l_pick : Addr
  d_l_pick : FuncData
  F_l_pick : Fun K "_law_pick" "_law_pick" s_l_pick a_l_pick d_l_pick
  g_l_pick : mg "_law_pick" = some (.ref a_l_pick)
  b_l_pick : Binds K d_l_pick ["_law_pot_here", "_law_some"] []
  a_l_chain : Addr
  d_l_chain : FuncData
  F_l_chain : Fun K "_law_chain" "_law_chain" s_l_chain a_l_chain d_l_chain
  g_l_chain : mg "_law_chain" = some (.ref a_l_chain)
  b_l_chain : Binds K d_l_chain ["_law_pot_here", "_law_most_here"] []
  a_most_live : Addr
  d_most_live : FuncData
  F_most_live : Fun K "most_live" "most_live" s_most_live a_most_live d_most_live
  g_most_live : mg "most_live" = some (.ref a_most_live)
  b_most_live : Binds K d_most_live ["chain", "words"] []
  a_l_most : Addr
  d_l_most : FuncData
  F_l_most : Fun K "_law_most" "_law_most" s_l_most a_l_most d_l_most
  g_l_most : mg "_law_most" = some (.ref a_l_most)
  b_l_most : Binds K d_l_most ["_law_sizes", "_law_words"] []
  a_chunk_count : Addr
  d_chunk_count : FuncData
  F_chunk_count : Fun K "chunk_count" "chunk_count" s_chunk_count a_chunk_count d_chunk_count
  g_chunk_count : mg "chunk_count" = some (.ref a_chunk_count)
  b_chunk_count : Binds K d_chunk_count ["words", "size"] []
  a_least_live : Addr
  d_least_live : FuncData
  F_least_live : Fun K "least_live" "least_live" s_least_live a_least_live d_least_live
  g_least_live : mg "least_live" = some (.ref a_least_live)
  b_least_live : Binds K d_least_live ["chain", "numbers", "size"] []
  a_numbers_from : Addr
  d_numbers_from : FuncData
  F_numbers_from : Fun K "numbers_from" "numbers_from" s_numbers_from a_numbers_from d_numbers_from
  g_numbers_from : mg "numbers_from" = some (.ref a_numbers_from)
  b_numbers_from : Binds K d_numbers_from ["chain", "limit", "first_reaches"] []
  a_bounds : Addr
  d_bounds : FuncData
  F_bounds : Fun K "bounds" "bounds" s_bounds a_bounds d_bounds
  g_bounds : mg "bounds" = some (.ref a_bounds)
  b_bounds : Binds K d_bounds ["chain", "limit"] []
  a_pages_needed : Addr
  d_pages_needed : FuncData
  F_pages_needed : Fun K "pages_needed" "pages_needed" s_pages_needed a_pages_needed d_pages_needed
  g_pages_needed : mg "pages_needed" = some (.ref a_pages_needed)
  b_pages_needed : Binds K d_pages_needed ["chain", "limit"] []
  a_enough_pages : Addr
  d_enough_pages : FuncData
  F_enough_pages : Fun K "enough_pages" "enough_pages" s_enough_pages a_enough_pages d_enough_pages
  g_enough_pages : mg "enough_pages" = some (.ref a_enough_pages)
  b_enough_pages : Binds K d_enough_pages ["chain", "words"] []
  a_l_rounded : Addr
  d_l_rounded : FuncData
  F_l_rounded : Fun K "_law_rounded" "_law_rounded" s_l_rounded a_l_rounded d_l_rounded
  g_l_rounded : mg "_law_rounded" = some (.ref a_l_rounded)
  b_l_rounded : Binds K d_l_rounded ["_law_sizes", "_law_many"] []
  a_l_count : Addr
  d_l_count : FuncData
  F_l_count : Fun K "_law_count" "_law_count" s_l_count a_l_count d_l_count
  g_l_count : mg "_law_count" = some (.ref a_l_count)
  b_l_count : Binds K d_l_count ["_law_words", "_law_many"] []
  a_l_bounds : Addr
  d_l_bounds : FuncData
  F_l_bounds : Fun K "_law_bounds" "_law_bounds" s_l_bounds a_l_bounds d_l_bounds
  g_l_bounds : mg "_law_bounds" = some (.ref a_l_bounds)
  b_l_bounds : Binds K d_l_bounds ["_law_sizes", "_law_cap"] []
  a_l_is_count : Addr
  d_l_is_count : FuncData
  F_l_is_count : Fun K "_law_is_count" "_law_is_count" s_l_is_count a_l_is_count d_l_is_count
  g_l_is_count : mg "_law_is_count" = some (.ref a_l_is_count)
  b_l_is_count : Binds K d_l_is_count ["_law_value"] []
  a_l_mix_right : Addr
  d_l_mix_right : FuncData
  F_l_mix_right : Fun K "_law_mix_right" "_law_mix_right" s_l_mix_right a_l_mix_right d_l_mix_right
  g_l_mix_right : mg "_law_mix_right" = some (.ref a_l_mix_right)
  b_l_mix_right : Binds K d_l_mix_right ["_law_sizes", "_law_words"] []
  a_law : Addr
  d_law : FuncData
  F_law : Fun K "law" "law" s_law a_law d_law
  g_law : mg "law" = some (.ref a_law)
  b_law : Binds K d_law ["_law_script"] []
  n_abs : mg "abs" = none
  n_all : mg "all" = none
  n_bool : mg "bool" = none
  n_enumerate : mg "enumerate" = none
  n_int : mg "int" = none
  n_isinstance : mg "isinstance" = none
  n_len : mg "len" = none
  n_list : mg "list" = none
  n_max : mg "max" = none
  n_min : mg "min" = none
  n_range : mg "range" = none
  n_sorted : mg "sorted" = none
  n_sum : mg "sum" = none
  n_tuple : mg "tuple" = none
  n_zip : mg "zip" = none
  nd : NoDg K
section
variable {P : Program} {w : World} {K : PySem.W.Frag} {mg : Str → Option Value} {base : Heap} {RX : RXT} (T : Txt K mg)
theorem ok_l_pot : FnG P w K mg base 1 T.a_l_pot T.d_l_pot ["_law_script", "_law_index"] (spF K RX [.s, .v] f_l_pot) :=
  fn_pure (N := N_l_pot) (m := m_l_pot) (k := 0) T.F_l_pot sc_l_pot rfl (by decide) (fun cdv A outer s H E hr hg => ⟨_, (pss_cons (ps_set (i := 2) sc_l_pot.nd rfl (by first | exact Or.inl rfl | exact Or.inr rfl) (pe_ifExp (pt_cmpR op_lt (pv 1) (pe_callB cr_len (by rfl) T.n_len bt_len (pa_cons (pv 0) pa_nil)) (nomark _)) (pe_ix ix_seq (pv 0) (pv 1) (fun _ _ => rfl)) (pe_op opr_add (pe_op opr_mul pe_int (pv 1)) pe_int)))
   (pss_cons (ps_set (i := 3) sc_l_pot.nd rfl (by first | exact Or.inl rfl | exact Or.inr rfl) (pe_op opr_mul (pe_op op_mod (pe_callB call_abs (by rfl) T.n_abs bt_abs (pa_cons (pv 2) pa_nil)) (pe_op opr_pow (pe_op opr_pow pe_int pe_int) pe_int)) (pe_callTy (cr_int T.nd) (by rfl) T.n_int bt_int (pa_cons (pe_cmpR op_ge (pe_callB call_abs (by rfl) T.n_abs bt_abs (pa_cons (pv 2) pa_nil)) (pe_op opr_pow pe_int pe_int) (nomark _)) pa_nil))))
   (pss_one (ps_ret (pe_lst (pa_cons (pv 3) (pa_cons (pe_op op_mod (pe_op opr_mul (pe_op opr_add (pe_op opr_add (pe_op op_mod (pv 2) pe_int) (pe_op opr_mul (pe_op opr_mul pe_int (pv 1)) (pv 1))) pe_int) pe_int) pe_int) (pa_cons pe_int pa_nil)))))))),
   (rs_seq (rs_assign (rf_ifE (rf_tTest (rf_op2l (of_cmpI _) rf_lenS)) (rf_ixS (rf_var (npsX [] rfl (by decide)))) (rf_op2 of_add (rf_op2r of_mul (rf_con fun _ _ => Rep.int _)) (rf_con fun _ _ => Rep.int _))) (rg_name (npsX [] rfl (by decide))))
   (rs_seq (rs_assign (rf_op2 of_mul (rf_op2 of_mod (rf_c1p c1_abs) (rf_op2 of_pow (rf_op2 of_pow (rf_con fun _ _ => Rep.int _) (rf_con fun _ _ => Rep.int _)) (rf_con fun _ _ => Rep.int _))) (rf_c1 c1_int (rf_op2 (of_cmpI _) (rf_c1p c1_abs) (rf_op2 of_pow (rf_con fun _ _ => Rep.int _) (rf_con fun _ _ => Rep.int _))))) (rg_name (npsX [] rfl (by decide))))
   (rs_retO (rf_lst (rf_cons (rf_var (npsX [] rfl (by decide))) (rf_cons (rf_op2 of_mod (rf_op2 of_mul (rf_op2 of_add (rf_op2 of_add (rf_op2l of_mod (rf_con fun _ _ => Rep.int _)) (rf_op2r of_mul (rf_op2r of_mul (rf_con fun _ _ => Rep.int _)))) (rf_con fun _ _ => Rep.int _)) (rf_con fun _ _ => Rep.int _)) (rf_con fun _ _ => Rep.int _)) (rf_cons (rf_con fun _ _ => Rep.int _) rf_nil)))))))⟩)
theorem ok_Mixes_requests : FnG P w K mg base 1 T.a_Mixes_requests T.d_Mixes_requests ["self"] (spF K RX [.o] f_Mixes_requests) :=
  fn_pure (N := N_Mixes_requests) (m := m_Mixes_requests) (k := 0) T.F_Mixes_requests sc_Mixes_requests rfl (by decide) (fun cdv A outer s H E hr hg => ⟨_, (pss_cons (ps_par rfl sc_Mixes_requests.nd (i := 1) (j := 2) rfl rfl (by decide) rfl rfl (pa_cons (pe_lst pa_nil) (pa_cons (pe_op op_sub (pe_callB cr_len (by rfl) T.n_len bt_len (pa_cons (pe_fld (pv 0) rfl) pa_nil)) pe_int) pa_nil)) (by rfl))
   (pss_cons (ps_while (passes_of rfl) (pt_cmpR op_gt (pv 2) pe_int (nomark _)) (pss_cons (ps_if (pt_cmpR op_gt (pe_ix ix_seq (pe_fld (pv 0) rfl) (pv 2) (fun _ _ => rfl)) pe_int (nomark _)) (pss_one (ps_expr (pe_bm PySem.F.plainAttrs_list PySem.F.slot_list_append PySem.F.type_list_append mt_append (pv 1) (pa_cons (pe_ix ix_seq (pe_fld (pv 0) rfl) (pv 2) (fun _ _ => rfl)) pa_nil)))) pss_nil)
   (pss_one (ps_aug (i := 2) sc_Mixes_requests.nd rfl (by first | exact Or.inl rfl | exact Or.inr rfl) (pe_callB (call_max2 rfl) (by rfl) T.n_max bt_max (pa_cons pe_int (pa_cons (pe_ix ix_seq (pe_fld (pv 0) rfl) (pv 2) (fun _ _ => rfl)) pa_nil))) ip_sub))))
   (pss_one (ps_ret (pe_callTy call_tuple_of (by rfl) T.n_tuple bt_tuple (pa_cons (pe_callB cr_sortedA (by rfl) T.n_sorted bt_sorted (pa_cons (pv 1) pa_nil)) pa_nil)))))),
   (rs_seq (rs_par (rf_po (rf_lst rf_nil) (rf_pv (rf_op2 of_sub (rf_c1F tE_Mixes_2 T.k_Mixes T.na_Mixes_most (by decide +kernel) c1_len) (rf_con fun _ _ => Rep.int _)) rf_pnil)) (npsXL [0] rfl (by decide)))
   (rs_seq (rs_while (rf_tTest (rf_op2l (of_cmpI _) (rf_con fun _ _ => Rep.int _))) (rs_seq (rs_if (rf_tTest (rf_op2 (of_cmpI _) (rf_opF tE_Mixes_2 T.k_Mixes T.na_Mixes_last (by decide +kernel) of_item rfq_var) (rf_con fun _ _ => Rep.int _))) (rs_append (rf_opF tE_Mixes_2 T.k_Mixes T.na_Mixes_last (by decide +kernel) of_item rfq_var)) rs_next)
   (rs_aug (npsX [0] rfl (by decide)) of_subI (rf_c2 c2_max (rf_con fun _ _ => Rep.int _) (rf_opF tE_Mixes_2 T.k_Mixes T.na_Mixes_last (by decide +kernel) of_item rfq_var)))))
   (rs_ret (rf_c1 c1_tuple (rf_cop co_sortI).frz))))⟩)
theorem ok_cheapest_requests : FnG P w K mg base 1 T.a_cheapest_requests T.d_cheapest_requests ["chain"] (spF K RX [.v] f_cheapest_requests) :=
  fn_pure (N := N_cheapest_requests) (m := m_cheapest_requests) (k := 0) T.F_cheapest_requests sc_cheapest_requests rfl (by decide) (fun cdv A outer s H E hr hg => ⟨_, (pss_one (ps_ret (pe_op opr_add (pe_lst (pa_cons pe_int pa_nil)) (pe_lc (own := [("smaller", 1)]) (by rfl) sc_cheapest_requests.nd (pi_seq (pe_slice slr_any (pv 0) po_none (po_some (pe_un un_neg pe_int)))) (blkOk_by (own := [("smaller", 1)]) (N := N_cheapest_requests) (sc := defScope s_cheapest_requests) (by decide +kernel)) (fun _ _ _ _ _ => (pg_name (i := 1) sc_cheapest_requests.nd rfl (by first | exact Or.inl rfl | exact Or.inr rfl))) (fun _ _ _ _ _ => pts_nil) (fun _ _ _ _ _ => (pe_op opr_add (pv 1) pe_int)))))),
   (rs_ret (rf_op2 of_add (rf_lst (rf_cons (rf_con fun _ _ => Rep.int _) rf_nil)).frz (rf_lc (rf_seqI (rf_slp rf_pn (rf_ps (rf_neg (rf_con fun _ _ => Rep.int _))))) (rg_name (npsX [] rfl (by decide))) rf_yes (rf_op2l of_add (rf_con fun _ _ => Rep.int _)) (by decide) (npsXL [] rfl (by decide))).frz))⟩)
theorem ok_MixesD_initD : FnG P w K mg base 2 T.a_MixesD_initD T.d_MixesD_initD ["self", "chain", "words"] (spF K RX [.o, .v, .v] f_MixesD_initD) :=
  fn_pure (N := N_MixesD_initD) (m := m_MixesD_initD) (k := 1) T.F_MixesD_initD sc_MixesD_initD rfl (by decide) (fun cdv A outer s H E hr hg => ⟨_, (pss_cons (ps_fld (pv 0) (pe_lst (pa_cons pe_int pa_nil)) rfl)
   (pss_cons (ps_fld (pv 0) (pe_lst (pa_cons pe_int pa_nil)) rfl)
   (pss_cons (ps_set (i := 3) sc_MixesD_initD.nd rfl (by first | exact Or.inl rfl | exact Or.inr rfl) (pe_callG (ok_cheapest_requests T) hr hg (by rfl) T.g_cheapest_requests T.F_cheapest_requests.kp T.b_cheapest_requests .nil (takes_of rfl rfl rfl rfl) (pa_cons (pv 1) pa_nil)))
   (pss_one (ps_for (passes_of rfl) rfl (pi_range2 (by rfl) T.n_range (pa_cons pe_int (pa_cons (pe_op opr_add (pv 2) pe_int) pa_nil))) (pg_name (i := 4) sc_MixesD_initD.nd rfl (by first | exact Or.inl rfl | exact Or.inr rfl)) (pss_cons (ps_par rfl sc_MixesD_initD.nd (i := 5) (j := 6) rfl rfl (by decide) rfl rfl (pa_cons (pe_ix ix_seq (pe_fld (pv 0) rfl) (pe_op op_sub (pv 4) pe_int) (fun _ _ => rfl)) (pa_cons pe_int pa_nil)) (by rfl))
   (pss_cons (ps_for (passes_of rfl) rfl (pi_zipX (by rfl) T.n_zip (pa_cons (pv 1) (pa_cons (pv 3) pa_nil))) (pg_tup rfl (pgs_cons (pg_name (i := 7) sc_MixesD_initD.nd rfl (by first | exact Or.inl rfl | exact Or.inr rfl)) (pgs_cons (pg_name (i := 8) sc_MixesD_initD.nd rfl (by first | exact Or.inl rfl | exact Or.inr rfl)) pgs_nil))) (pss_one (ps_if (PW.pt (pw_and (pt_cmpR op_le (pv 8) (pv 4) (nomark _)) (pw_and1 (pt_cmpR op_gt (pe_op opr_add (pe_ix ix_seq (pe_fld (pv 0) rfl) (pe_op op_sub (pv 4) (pv 8)) (fun _ _ => rfl)) (pv 7)) (pv 5) (nomark _))))) (pss_one (ps_par rfl sc_MixesD_initD.nd (i := 5) (j := 6) rfl rfl (by decide) rfl rfl (pa_cons (pe_op opr_add (pe_ix ix_seq (pe_fld (pv 0) rfl) (pe_op op_sub (pv 4) (pv 8)) (fun _ _ => rfl)) (pv 7)) (pa_cons (pv 8) pa_nil)) (by rfl))) pss_nil)))
   (pss_cons (ps_expr (pe_bm PySem.F.plainAttrs_list PySem.F.slot_list_append PySem.F.type_list_append mt_append (pe_fld (pv 0) rfl) (pa_cons (pv 5) pa_nil)))
   (pss_one (ps_expr (pe_bm PySem.F.plainAttrs_list PySem.F.slot_list_append PySem.F.type_list_append mt_append (pe_fld (pv 0) rfl) (pa_cons (pv 6) pa_nil)))))))))))),
   (rs_seq (rs_addFO tE_Mixes_0 tE_Mixes_1 T.k_Mixes T.na_Mixes_most (by decide +kernel) (by decide) (rf_og (rf_lst (rf_cons (rf_con fun _ _ => Rep.int _) rf_nil))))
   (rs_seq (rs_addFO tE_Mixes_1 tE_Mixes_2 T.k_Mixes T.na_Mixes_last (by decide +kernel) (by decide) (rf_og (rf_lst (rf_cons (rf_con fun _ _ => Rep.int _) rf_nil))))
   (rs_seq (rs_assign (rf_rtV (rf_call rfl (rf_acons (rf_var (npsX [0] rfl (by decide))) rf_anil))) (rg_name (npsX [0] rfl (by decide))))
   (rs_for (rf_rng2 (rf_con fun _ _ => Rep.int _) (rf_op2l of_add (rf_con fun _ _ => Rep.int _))) (rg_name (npsX [0] rfl (by decide))) (rs_seq (rs_par (rf_pv (rf_opF tE_Mixes_2 T.k_Mixes T.na_Mixes_most (by decide +kernel) of_item (rfq_op of_sub rfq_var (rfq_con fun _ _ => Rep.int _))) (rf_pv (rf_con fun _ _ => Rep.int _) rf_pnil)) (npsXL [0] rfl (by decide)))
   (rs_seq (rs_for (rf_zip (rf_var (npsX [0] rfl (by decide))) (rf_var (npsX [0] rfl (by decide)))) (rg_tup (rgs_cons (rg_name (npsX [0] rfl (by decide))) (rgs_cons (rg_name (npsX [0] rfl (by decide))) rgs_nil))) (rs_if (rf_and (rf_tTest (rf_op2b (of_cmpI _))) (rf_tTest (rf_op2r (of_cmpI _) (rf_op2r of_add (rf_opF tE_Mixes_2 T.k_Mixes T.na_Mixes_most (by decide +kernel) of_item (rfq_op of_sub rfq_var rfq_var)))))) (rs_par (rf_pv (rf_op2r of_add (rf_opF tE_Mixes_2 T.k_Mixes T.na_Mixes_most (by decide +kernel) of_item (rfq_op of_sub rfq_var rfq_var))) (rf_pv (rf_var (npsX [0] rfl (by decide))) rf_pnil)) (npsXL [0] rfl (by decide))) rs_next))
   (rs_seq (rs_appF tE_Mixes_2 T.k_Mixes T.na_Mixes_most (by decide +kernel) rfq_var)
   (rs_appF tE_Mixes_2 T.k_Mixes T.na_Mixes_last (by decide +kernel) rfq_var))))))))⟩)
theorem ok_request_mix : FnG P w K mg base 4 T.a_request_mix T.d_request_mix ["chain", "words"] (spF K RX [.v, .v] f_request_mix) :=
  fn_pure (N := N_request_mix) (m := m_request_mix) (k := 3) T.F_request_mix sc_request_mix rfl (by decide) (fun cdv A outer s H E hr hg => ⟨_, (pss_one (ps_ret (pe_methG0 (pe_makeG T.mk_Mixes (ok_MixesD_initD T) hr hg (by rfl) T.g_Mixes T.b_MixesD_initD (takes_of rfl rfl rfl rfl) (pa_cons (pv 0) (pa_cons (pv 1) pa_nil))) T.k_Mixes.cl T.m_Mixes_requests (ok_Mixes_requests T) (hr.mono (by decide)) hg T.b_Mixes_requests (takes_of rfl rfl rfl rfl)))),
   (rs_ret (rf_rtV (rf_methT tE_Mixes_2 T.k_Mixes (by decide +kernel) rfl (rf_make tE_Mixes_0 T.k_Mixes rfl (rf_acons (rf_var (npsX [] rfl (by decide))) (rf_acons (rf_var (npsX [] rfl (by decide))) rf_anil))) rf_anil)))⟩)
theorem ok_l_draw : FnG P w K mg base 1 T.a_l_draw T.d_l_draw ["_law_pot_here", "_law_count_here"] (spF K RX [.o, .v] f_l_draw) :=
  fn_pure (N := N_l_draw) (m := m_l_draw) (k := 0) T.F_l_draw sc_l_draw rfl (by decide) (fun cdv A outer s H E hr hg => ⟨_, (pss_cons (ps_if (pt_cmpR op_gt (pe_ix ix_seq (pv 0) pe_int (fun _ _ => rfl)) pe_int (nomark _)) (pss_cons (ps_set (i := 2) sc_l_draw.nd rfl (by first | exact Or.inl rfl | exact Or.inr rfl) (pe_op op_mod (pe_ix ix_seq (pv 0) pe_int (fun _ _ => rfl)) (pv 1)))
   (pss_cons (ps_asg (pe_op op_fdivW (pe_ix ix_seq (pv 0) pe_int (fun _ _ => rfl)) (pv 1)) (pg_sub (pv 0) pe_int set_list))
   (pss_one (ps_ret (pv 2))))) pss_nil)
   (pss_cons (ps_asg (pe_op opr_add (pe_ix ix_seq (pv 0) pe_int (fun _ _ => rfl)) pe_int) (pg_sub (pv 0) pe_int set_list))
   (pss_cons (ps_set (i := 3) sc_l_draw.nd rfl (by first | exact Or.inl rfl | exact Or.inr rfl) (pe_op opr_add (pe_op opr_add (pe_op opr_mul (pe_ix ix_seq (pv 0) pe_int (fun _ _ => rfl)) pe_int) (pe_op opr_mul pe_int (pe_ix ix_seq (pv 0) pe_int (fun _ _ => rfl)))) pe_int))
   (pss_cons (ps_asg (pe_op op_mod (pv 3) pe_int) (pg_sub (pv 0) pe_int set_list))
   (pss_one (ps_ret (pe_op op_mod (pe_op op_fdivW (pe_op op_mod (pe_op opr_mul (pe_op op_fdivW (pe_ix ix_seq (pv 0) pe_int (fun _ _ => rfl)) pe_int) (pe_op opr_add (pe_op op_mod (pe_ix ix_seq (pv 0) pe_int (fun _ _ => rfl)) pe_int) pe_int)) pe_int) pe_int) (pv 1)))))))),
   (rs_seq (rs_if (rf_tTest (rf_op2 (of_cmpI _) (rf_op2l of_item (rf_con fun _ _ => Rep.int _)) (rf_con fun _ _ => Rep.int _))) (rs_seq (rs_assign (rf_op2r of_mod (rf_op2l of_item (rf_con fun _ _ => Rep.int _))) (rg_name (npsX [0] rfl (by decide))))
   (rs_seq (rs_store (rf_op2r of_fdiv (rf_op2l of_item (rf_con fun _ _ => Rep.int _))) (rf_con fun _ _ => Rep.int _))
   (rs_ret (rf_var (npsX [0] rfl (by decide)))))) rs_next)
   (rs_seq (rs_store (rf_op2 of_add (rf_op2l of_item (rf_con fun _ _ => Rep.int _)) (rf_con fun _ _ => Rep.int _)) (rf_con fun _ _ => Rep.int _))
   (rs_seq (rs_assign (rf_op2 of_add (rf_op2 of_add (rf_op2 of_mul (rf_op2l of_item (rf_con fun _ _ => Rep.int _)) (rf_con fun _ _ => Rep.int _)) (rf_op2 of_mul (rf_con fun _ _ => Rep.int _) (rf_op2l of_item (rf_con fun _ _ => Rep.int _)))) (rf_con fun _ _ => Rep.int _)) (rg_name (npsX [0] rfl (by decide))))
   (rs_seq (rs_store (rf_op2l of_mod (rf_con fun _ _ => Rep.int _)) (rf_con fun _ _ => Rep.int _))
   (rs_ret (rf_op2r of_mod (rf_op2 of_fdiv (rf_op2 of_mod (rf_op2 of_mul (rf_op2 of_fdiv (rf_op2l of_item (rf_con fun _ _ => Rep.int _)) (rf_con fun _ _ => Rep.int _)) (rf_op2 of_add (rf_op2 of_mod (rf_op2l of_item (rf_con fun _ _ => Rep.int _)) (rf_con fun _ _ => Rep.int _)) (rf_con fun _ _ => Rep.int _))) (rf_con fun _ _ => Rep.int _)) (rf_con fun _ _ => Rep.int _))))))))⟩)
theorem ok_l_pick : FnG P w K mg base 2 T.a_l_pick T.d_l_pick ["_law_pot_here", "_law_some"] (spF K RX [.o, .v] f_l_pick) :=
  fn_pure (N := N_l_pick) (m := m_l_pick) (k := 1) T.F_l_pick sc_l_pick rfl (by decide) (fun cdv A outer s H E hr hg => ⟨_, (pss_one (ps_ret (pe_ix ix_seq (pv 1) (pe_callG (ok_l_draw T) hr hg (by rfl) T.g_l_draw T.F_l_draw.kp T.b_l_draw .nil (takes_of rfl rfl rfl rfl) (pa_cons (pv 0) (pa_cons (pe_callB cr_len (by rfl) T.n_len bt_len (pa_cons (pv 1) pa_nil)) pa_nil))) (fun _ _ => rfl)))),
   (rs_ret (rf_op2l of_item (rf_rtV (rf_call rfl (rf_alend (rf_acons (rf_c1p c1_len) rf_anil))))))⟩)
theorem ok_l_chain : FnG P w K mg base 3 T.a_l_chain T.d_l_chain ["_law_pot_here", "_law_most_here"] (spF K RX [.o, .v] f_l_chain) :=
  fn_pure (N := N_l_chain) (m := m_l_chain) (k := 2) T.F_l_chain sc_l_chain rfl (by decide) (fun cdv A outer s H E hr hg => ⟨_, (pss_cons (ps_set (i := 2) sc_l_chain.nd rfl (by first | exact Or.inl rfl | exact Or.inr rfl) (pe_lst (pa_cons pe_int pa_nil)))
   (pss_cons (ps_for (passes_of rfl) rfl (pi_range1 (by rfl) T.n_range (pa_cons (pe_callG (ok_l_draw T) (hr.mono (by decide)) hg (by rfl) T.g_l_draw T.F_l_draw.kp T.b_l_draw .nil (takes_of rfl rfl rfl rfl) (pa_cons (pv 0) (pa_cons pe_int pa_nil))) pa_nil)) (pg_name (i := 3) sc_l_chain.nd rfl (by first | exact Or.inl rfl | exact Or.inr rfl)) (pss_cons (ps_set (i := 4) sc_l_chain.nd rfl (by first | exact Or.inl rfl | exact Or.inr rfl) (pe_callG (ok_l_pick T) hr hg (by rfl) T.g_l_pick T.F_l_pick.kp T.b_l_pick .nil (takes_of rfl rfl rfl rfl) (pa_cons (pv 0) (pa_cons (pe_lst (pa_cons pe_int (pa_cons pe_int (pa_cons pe_int (pa_cons pe_int (pa_cons pe_int (pa_cons pe_int (pa_cons pe_int pa_nil)))))))) pa_nil))))
   (pss_one (ps_if (pt_cmpR op_le (pe_op opr_mul (pe_ix ix_seq (pv 2) (pe_un un_neg pe_int) (fun _ _ => rfl)) (pv 4)) (pv 1) (nomark _)) (pss_one (ps_expr (pe_bm PySem.F.plainAttrs_list PySem.F.slot_list_append PySem.F.type_list_append mt_append (pv 2) (pa_cons (pe_op opr_mul (pe_ix ix_seq (pv 2) (pe_un un_neg pe_int) (fun _ _ => rfl)) (pv 4)) pa_nil)))) pss_nil))))
   (pss_one (ps_ret (pe_callTy call_tuple_of (by rfl) T.n_tuple bt_tuple (pa_cons (pv 2) pa_nil)))))),
   (rs_seq (rs_own (npsX [0] rfl (by decide)) (rf_lst (rf_cons (rf_con fun _ _ => Rep.int _) rf_nil)))
   (rs_seq (rs_for (rf_rng1 (rf_rtV (rf_call rfl (rf_alend (rf_acons (rf_con fun _ _ => Rep.int _) rf_anil))))) (rg_name (npsX [0] rfl (by decide))) (rs_seq (rs_assign (rf_rtV (rf_call rfl (rf_alend (rf_acons (rf_lst (rf_cons (rf_con fun _ _ => Rep.int _) (rf_cons (rf_con fun _ _ => Rep.int _) (rf_cons (rf_con fun _ _ => Rep.int _) (rf_cons (rf_con fun _ _ => Rep.int _) (rf_cons (rf_con fun _ _ => Rep.int _) (rf_cons (rf_con fun _ _ => Rep.int _) (rf_cons (rf_con fun _ _ => Rep.int _) rf_nil)))))))).frz rf_anil)))) (rg_name (npsX [0] rfl (by decide))))
   (rs_if (rf_tTest (rf_op2r (of_cmpI _) (rf_op2r of_mul (rf_op2l of_item (rf_neg (rf_con fun _ _ => Rep.int _)))))) (rs_append (rf_op2r of_mul (rf_op2l of_item (rf_neg (rf_con fun _ _ => Rep.int _))))) rs_next)))
   (rs_ret (rf_c1p c1_tuple))))⟩)
theorem ok_most_live : FnG P w K mg base 4 T.a_most_live T.d_most_live ["chain", "words"] (spF K RX [.v, .v] f_most_live) :=
  fn_pure (N := N_most_live) (m := m_most_live) (k := 3) T.F_most_live sc_most_live rfl (by decide) (fun cdv A outer s H E hr hg => ⟨_, (pss_one (ps_ret (pe_ix ix_seq (pe_fld (pe_makeG T.mk_Mixes (ok_MixesD_initD T) hr hg (by rfl) T.g_Mixes T.b_MixesD_initD (takes_of rfl rfl rfl rfl) (pa_cons (pv 0) (pa_cons (pv 1) pa_nil))) rfl) (pv 1) (fun _ _ => rfl)))),
   (rs_ret (rf_op2r of_item (rf_go (rf_fldT tE_Mixes_2 T.k_Mixes T.na_Mixes_most (by decide +kernel) (rf_make tE_Mixes_0 T.k_Mixes rfl (rf_acons (rf_var (npsX [] rfl (by decide))) (rf_acons (rf_var (npsX [] rfl (by decide))) rf_anil))))).frz))⟩)
theorem ok_l_most : FnG P w K mg base 1 T.a_l_most T.d_l_most ["_law_sizes", "_law_words"] (spF K RX [.v, .v] f_l_most) :=
  fn_pure (N := N_l_most) (m := m_l_most) (k := 0) T.F_l_most sc_l_most rfl (by decide) (fun cdv A outer s H E hr hg => ⟨_, (pss_cons (ps_asg (pe_tup (pa_cons (pe_lst (pa_cons pe_int pa_nil)) (pa_cons (pe_lst (pa_cons (pe_tup (pa_cons pe_int (pa_cons pe_int pa_nil))) pa_nil)) pa_nil))) (pg_tup rfl (pgs_cons (pg_name (i := 2) sc_l_most.nd rfl (by first | exact Or.inl rfl | exact Or.inr rfl)) (pgs_cons (pg_name (i := 3) sc_l_most.nd rfl (by first | exact Or.inl rfl | exact Or.inr rfl)) pgs_nil))))
   (pss_cons (ps_for (passes_of rfl) rfl (pi_zipX (by rfl) T.n_zip (pa_cons (pv 0) (pa_cons (pe_slice slr_any (pv 0) (po_some pe_int) po_none) pa_nil))) (pg_tup rfl (pgs_cons (pg_name (i := 4) sc_l_most.nd rfl (by first | exact Or.inl rfl | exact Or.inr rfl)) (pgs_cons (pg_name (i := 5) sc_l_most.nd rfl (by first | exact Or.inl rfl | exact Or.inr rfl)) pgs_nil))) (pss_one (ps_expr (pe_bm PySem.F.plainAttrs_list PySem.F.slot_list_append PySem.F.type_list_append mt_append (pv 3) (pa_cons (pe_tup (pa_cons (pe_op opr_add (pv 4) pe_int) (pa_cons (pv 5) pa_nil))) pa_nil)))))
   (pss_cons (ps_for (passes_of rfl) rfl (pi_range2 (by rfl) T.n_range (pa_cons pe_int (pa_cons (pe_op opr_add (pv 1) pe_int) pa_nil))) (pg_name (i := 6) sc_l_most.nd rfl (by first | exact Or.inl rfl | exact Or.inr rfl)) (pss_one (ps_expr (pe_bm PySem.F.plainAttrs_list PySem.F.slot_list_append PySem.F.type_list_append mt_append (pv 2) (pa_cons (pe_callB (cr_max rfl) (by rfl) T.n_max bt_max (pa_cons (pe_op opr_add (pe_lst (pa_cons (pe_ix ix_seq (pv 2) (pe_un un_neg pe_int) (fun _ _ => rfl)) pa_nil)) (pe_lc (own := [("_law_least", 7), ("_law_many", 5)]) (by rfl) sc_l_most.nd (pi_seq (pv 3)) (blkOk_by (own := [("_law_least", 7), ("_law_many", 5)]) (N := N_l_most) (sc := defScope s_l_most) (by decide +kernel)) (fun _ _ _ _ _ => (pg_tup rfl (pgs_cons (pg_name (i := 7) sc_l_most.nd rfl (by first | exact Or.inl rfl | exact Or.inr rfl)) (pgs_cons (pg_name (i := 5) sc_l_most.nd rfl (by first | exact Or.inl rfl | exact Or.inr rfl)) pgs_nil)))) (fun _ _ _ _ _ => (pts_one (pt_cmpR op_le (pv 7) (pv 6) (nomark _)))) (fun _ _ _ _ _ => (pe_op opr_add (pe_ix ix_seq (pv 2) (pe_op op_sub (pv 6) (pv 7)) (fun _ _ => rfl)) (pv 5))))) pa_nil)) pa_nil)))))
   (pss_one (ps_ret (pe_ix ix_seq (pv 2) (pv 1) (fun _ _ => rfl))))))),
   (rs_seq (rs_parN (is := [2, 3]) (rf_po (rf_lst (rf_cons (rf_con fun _ _ => Rep.int _) rf_nil)) (rf_po (rf_lst (rf_cons (rf_tup (rf_cons (rf_con fun _ _ => Rep.int _) (rf_cons (rf_con fun _ _ => Rep.int _) rf_nil))) rf_nil)) rf_pnil)) (npsXL [] rfl (by decide)) rfl (by decide))
   (rs_seq (rs_for (rf_zip (rf_var (npsX [] rfl (by decide))) (rf_slp (rf_ps (rf_con fun _ _ => Rep.int _)) rf_pn)) (rg_tup (rgs_cons (rg_name (npsX [] rfl (by decide))) (rgs_cons (rg_name (npsX [] rfl (by decide))) rgs_nil))) (rs_append (rf_tup (rf_cons (rf_op2l of_add (rf_con fun _ _ => Rep.int _)) (rf_cons (rf_var (npsX [] rfl (by decide))) rf_nil)))))
   (rs_seq (rs_for (rf_rng2 (rf_con fun _ _ => Rep.int _) (rf_op2l of_add (rf_con fun _ _ => Rep.int _))) (rg_name (npsX [] rfl (by decide))) (rs_append (rf_c1 c1_max (rf_op2 of_add (rf_lst (rf_cons (rf_op2l of_item (rf_neg (rf_con fun _ _ => Rep.int _))) rf_nil)).frz (rf_borO (rf_lc (rf_seqI (rf_var (npsX [] rfl (by decide)))) (rg_tup (rgs_cons (rg_name (npsX [] rfl (by decide))) (rgs_cons (rg_name (npsX [] rfl (by decide))) rgs_nil))) (rf_tTest (rf_op2b (of_cmpI _))) (rf_op2r of_add (rf_op2l of_item (rf_op2b of_sub))) (by decide) (npsXL [] rfl (by decide)))).frz))))
   (rs_ret (rf_op2b of_item)))))⟩)
theorem ok_chunk_count : FnG P w K mg base 1 T.a_chunk_count T.d_chunk_count ["words", "size"] (spF K RX [.v, .v] f_chunk_count) :=
  fn_pure (N := N_chunk_count) (m := m_chunk_count) (k := 0) T.F_chunk_count sc_chunk_count rfl (by decide) (fun cdv A outer s H E hr hg => ⟨_, (pss_one (ps_ret (pe_un un_neg (pe_op op_fdivW (pe_un un_neg (pv 0)) (pv 1))))),
   (rs_ret (rf_neg (rf_op2r of_fdiv (rf_neg (rf_var (npsX [] rfl (by decide)))))))⟩)
theorem ok_least_live : FnG P w K mg base 2 T.a_least_live T.d_least_live ["chain", "numbers", "size"] (spF K RX [.v, .v, .v] f_least_live) :=
  fn_pure (N := N_least_live) (m := m_least_live) (k := 1) T.F_least_live sc_least_live rfl (by decide) (fun cdv A outer s H E hr hg => ⟨_, (pss_cons (ps_asg (pe_tup (pa_cons pe_int (pa_cons pe_int pa_nil))) (pg_tup rfl (pgs_cons (pg_name (i := 3) sc_least_live.nd rfl (by first | exact Or.inl rfl | exact Or.inr rfl)) (pgs_cons (pg_name (i := 4) sc_least_live.nd rfl (by first | exact Or.inl rfl | exact Or.inr rfl)) pgs_nil))))
   (pss_cons (ps_for (passes_of rfl) rfl (pi_zipX (by rfl) T.n_zip (pa_cons (pv 0) (pa_cons (pv 1) pa_nil))) (pg_tup rfl (pgs_cons (pg_name (i := 5) sc_least_live.nd rfl (by first | exact Or.inl rfl | exact Or.inr rfl)) (pgs_cons (pg_name (i := 6) sc_least_live.nd rfl (by first | exact Or.inl rfl | exact Or.inr rfl)) pgs_nil))) (pss_cons (ps_set (i := 7) sc_least_live.nd rfl (by first | exact Or.inl rfl | exact Or.inr rfl) (pe_callG (ok_chunk_count T) hr hg (by rfl) T.g_chunk_count T.F_chunk_count.kp T.b_chunk_count .nil (takes_of rfl rfl rfl rfl) (pa_cons (pv 6) (pa_cons (pv 2) pa_nil))))
   (pss_cons (ps_aug (i := 3) sc_least_live.nd rfl (by first | exact Or.inl rfl | exact Or.inr rfl) (pe_op opr_mul (pe_op op_sub (pv 7) (pv 4)) (pv 5)) ip_add)
   (pss_one (ps_set (i := 4) sc_least_live.nd rfl (by first | exact Or.inl rfl | exact Or.inr rfl) (pv 7))))))
   (pss_one (ps_ret (pv 3))))),
   (rs_seq (rs_parN (is := [3, 4]) (rf_pv (rf_con fun _ _ => Rep.int _) (rf_pv (rf_con fun _ _ => Rep.int _) rf_pnil)) (npsXL [] rfl (by decide)) rfl (by decide))
   (rs_seq (rs_for (rf_zip (rf_var (npsX [] rfl (by decide))) (rf_var (npsX [] rfl (by decide)))) (rg_tup (rgs_cons (rg_name (npsX [] rfl (by decide))) (rgs_cons (rg_name (npsX [] rfl (by decide))) rgs_nil))) (rs_seq (rs_assign (rf_rtV (rf_call rfl (rf_acons (rf_var (npsX [] rfl (by decide))) (rf_acons (rf_var (npsX [] rfl (by decide))) rf_anil)))) (rg_name (npsX [] rfl (by decide))))
   (rs_seq (rs_aug (npsX [] rfl (by decide)) of_addI (rf_op2r of_mul (rf_op2b of_sub)))
   (rs_assign (rf_var (npsX [] rfl (by decide))) (rg_name (npsX [] rfl (by decide)))))))
   (rs_ret (rf_var (npsX [] rfl (by decide))))))⟩)
theorem ok_numbers_from : FnG P w K mg base 3 T.a_numbers_from T.d_numbers_from ["chain", "limit", "first_reaches"] (spF K RX [.v, .v, .v] f_numbers_from) :=
  fn_pure (N := N_numbers_from) (m := m_numbers_from) (k := 2) T.F_numbers_from sc_numbers_from rfl (by decide) (fun cdv A outer s H E hr hg => ⟨_, (pss_cons (ps_set (i := 3) sc_numbers_from.nd rfl (by first | exact Or.inl rfl | exact Or.inr rfl) (pe_lst (pa_cons (pe_callB (call_max2 rfl) (by rfl) T.n_max bt_max (pa_cons (pv 1) (pa_cons (pe_ix ix_seq (pv 2) pe_int (fun _ _ => rfl)) pa_nil))) pa_nil)))
   (pss_cons (ps_for (passes_of rfl) rfl (pi_range2 (by rfl) T.n_range (pa_cons pe_int (pa_cons (pe_callB cr_len (by rfl) T.n_len bt_len (pa_cons (pv 0) pa_nil)) pa_nil))) (pg_name (i := 4) sc_numbers_from.nd rfl (by first | exact Or.inl rfl | exact Or.inr rfl)) (pss_cons (ps_set (i := 5) sc_numbers_from.nd rfl (by first | exact Or.inl rfl | exact Or.inr rfl) (pe_ix ix_seq (pv 0) (pv 4) (fun _ _ => rfl)))
   (pss_cons (ps_set (i := 6) sc_numbers_from.nd rfl (by first | exact Or.inl rfl | exact Or.inr rfl) (pe_op op_fdivW (pe_callB (call_max2 rfl) (by rfl) T.n_max bt_max (pa_cons pe_int (pa_cons (pe_op op_sub (pv 1) (pe_callG (ok_least_live T) hr hg (by rfl) T.g_least_live T.F_least_live.kp T.b_least_live .nil (takes_of rfl rfl rfl rfl) (pa_cons (pv 0) (pa_cons (pv 3) (pa_cons (pv 5) pa_nil))))) pa_nil))) (pv 5)))
   (pss_cons (ps_set (i := 7) sc_numbers_from.nd rfl (by first | exact Or.inl rfl | exact Or.inr rfl) (pe_op opr_mul (pv 5) (pe_op opr_add (pe_callG (ok_chunk_count T) (hr.mono (by decide)) hg (by rfl) T.g_chunk_count T.F_chunk_count.kp T.b_chunk_count .nil (takes_of rfl rfl rfl rfl) (pa_cons (pe_ix ix_seq (pv 3) (pe_un un_neg pe_int) (fun _ _ => rfl)) (pa_cons (pv 5) pa_nil))) (pv 6))))
   (pss_one (ps_expr (pe_bm PySem.F.plainAttrs_list PySem.F.slot_list_append PySem.F.type_list_append mt_append (pv 3) (pa_cons (pe_callB (call_max2 rfl) (by rfl) T.n_max bt_max (pa_cons (pv 7) (pa_cons (pe_ix ix_seq (pv 2) (pv 4) (fun _ _ => rfl)) pa_nil))) pa_nil))))))))
   (pss_one (ps_ret (pe_callTy call_tuple_of (by rfl) T.n_tuple bt_tuple (pa_cons (pv 3) pa_nil)))))),
   (rs_seq (rs_own (npsX [] rfl (by decide)) (rf_lst (rf_cons (rf_c2 c2_max (rf_var (npsX [] rfl (by decide))) (rf_op2l of_item (rf_con fun _ _ => Rep.int _))) rf_nil)))
   (rs_seq (rs_for (rf_rng2 (rf_con fun _ _ => Rep.int _) (rf_c1p c1_len)) (rg_name (npsX [] rfl (by decide))) (rs_seq (rs_assign (rf_op2b of_item) (rg_name (npsX [] rfl (by decide))))
   (rs_seq (rs_assign (rf_op2r of_fdiv (rf_c2 c2_max (rf_con fun _ _ => Rep.int _) (rf_op2l of_sub (rf_borV (rf_rtV (rf_call rfl (rf_acons (rf_var (npsX [] rfl (by decide))) (rf_acons (rf_var (npsX [] rfl (by decide))) (rf_acons (rf_var (npsX [] rfl (by decide))) rf_anil))))))))) (rg_name (npsX [] rfl (by decide))))
   (rs_seq (rs_assign (rf_op2l of_mul (rf_op2r of_add (rf_rtV (rf_call rfl (rf_acons (rf_op2l of_item (rf_neg (rf_con fun _ _ => Rep.int _))) (rf_acons (rf_var (npsX [] rfl (by decide))) rf_anil)))))) (rg_name (npsX [] rfl (by decide))))
   (rs_append (rf_c2 c2_max (rf_var (npsX [] rfl (by decide))) (rf_op2b of_item)))))))
   (rs_ret (rf_c1p c1_tuple))))⟩)
theorem ok_bounds : FnG P w K mg base 4 T.a_bounds T.d_bounds ["chain", "limit"] (spF K RX [.v, .v] f_bounds) :=
  fn_pure (N := N_bounds) (m := m_bounds) (k := 3) T.F_bounds sc_bounds rfl (by decide) (fun cdv A outer s H E hr hg => ⟨_, (pss_one (ps_ret (pe_callG (ok_numbers_from T) hr hg (by rfl) T.g_numbers_from T.F_numbers_from.kp T.b_numbers_from .nil (takes_of rfl rfl rfl rfl) (pa_cons (pv 0) (pa_cons (pv 1) (pa_cons (pe_op opr_mul (pe_tup (pa_cons pe_int pa_nil)) (pe_callB cr_len (by rfl) T.n_len bt_len (pa_cons (pv 0) pa_nil))) pa_nil)))))),
   (rs_ret (rf_rtV (rf_call rfl (rf_acons (rf_var (npsX [] rfl (by decide))) (rf_acons (rf_var (npsX [] rfl (by decide))) (rf_acons (rf_op2 of_mul (rf_tup (rf_cons (rf_con fun _ _ => Rep.int _) rf_nil)) (rf_c1p c1_len)) rf_anil))))))⟩)
theorem ok_pages_needed : FnG P w K mg base 5 T.a_pages_needed T.d_pages_needed ["chain", "limit"] (spF K RX [.v, .v] f_pages_needed) :=
  fn_pure (N := N_pages_needed) (m := m_pages_needed) (k := 4) T.F_pages_needed sc_pages_needed rfl (by decide) (fun cdv A outer s H E hr hg => ⟨_, (pss_one (ps_ret (pe_op op_fdivW (pe_ix ix_seq (pe_callG (ok_bounds T) hr hg (by rfl) T.g_bounds T.F_bounds.kp T.b_bounds .nil (takes_of rfl rfl rfl rfl) (pa_cons (pv 0) (pa_cons (pv 1) pa_nil))) (pe_un un_neg pe_int) (fun _ _ => rfl)) (pe_ix ix_seq (pv 0) (pe_un un_neg pe_int) (fun _ _ => rfl))))),
   (rs_ret (rf_op2 of_fdiv (rf_op2 of_item (rf_rtV (rf_call rfl (rf_acons (rf_var (npsX [] rfl (by decide))) (rf_acons (rf_var (npsX [] rfl (by decide))) rf_anil)))) (rf_neg (rf_con fun _ _ => Rep.int _))) (rf_op2l of_item (rf_neg (rf_con fun _ _ => Rep.int _)))))⟩)
theorem ok_enough_pages : FnG P w K mg base 6 T.a_enough_pages T.d_enough_pages ["chain", "words"] (spF K RX [.v, .v] f_enough_pages) :=
  fn_pure (N := N_enough_pages) (m := m_enough_pages) (k := 5) T.F_enough_pages sc_enough_pages rfl (by decide) (fun cdv A outer s H E hr hg => ⟨_, (pss_one (ps_ret (pe_callG (ok_pages_needed T) hr hg (by rfl) T.g_pages_needed T.F_pages_needed.kp T.b_pages_needed .nil (takes_of rfl rfl rfl rfl) (pa_cons (pv 0) (pa_cons (pe_callG (ok_most_live T) (hr.mono (by decide)) hg (by rfl) T.g_most_live T.F_most_live.kp T.b_most_live .nil (takes_of rfl rfl rfl rfl) (pa_cons (pv 0) (pa_cons (pv 1) pa_nil))) pa_nil))))),
   (rs_ret (rf_rtV (rf_call rfl (rf_acons (rf_var (npsX [] rfl (by decide))) (rf_acons (rf_rtV (rf_call rfl (rf_acons (rf_var (npsX [] rfl (by decide))) (rf_acons (rf_var (npsX [] rfl (by decide))) rf_anil)))) rf_anil)))))⟩)
theorem ok_l_rounded : FnG P w K mg base 1 T.a_l_rounded T.d_l_rounded ["_law_sizes", "_law_many"] (spF K RX [.v, .v] f_l_rounded) :=
  fn_pure (N := N_l_rounded) (m := m_l_rounded) (k := 0) T.F_l_rounded sc_l_rounded rfl (by decide) (fun cdv A outer s H E hr hg => ⟨_, (pss_one (ps_ret (pe_ix ix_seq (pe_lc (own := [("_law_one", 2)]) (by rfl) sc_l_rounded.nd (pi_seq (pv 0)) (blkOk_by (own := [("_law_one", 2)]) (N := N_l_rounded) (sc := defScope s_l_rounded) (by decide +kernel)) (fun _ _ _ _ _ => (pg_name (i := 2) sc_l_rounded.nd rfl (by first | exact Or.inl rfl | exact Or.inr rfl))) (fun _ _ _ _ _ => (pts_one (pt_cmpR op_ge (pv 2) (pv 1) (nomark _)))) (fun _ _ _ _ _ => (pv 2))) pe_int (fun _ _ => rfl)))),
   (rs_ret (rf_op2 of_item (rf_lc (rf_seqI (rf_var (npsX [] rfl (by decide)))) (rg_name (npsX [] rfl (by decide))) (rf_tTest (rf_op2b (of_cmpI _))) (rf_var (npsX [] rfl (by decide))) (by decide) (npsXL [] rfl (by decide))).frz (rf_con fun _ _ => Rep.int _)))⟩)
theorem ok_l_count : FnG P w K mg base 1 T.a_l_count T.d_l_count ["_law_words", "_law_many"] (spF K RX [.v, .v] f_l_count) :=
  fn_pure (N := N_l_count) (m := m_l_count) (k := 0) T.F_l_count sc_l_count rfl (by decide) (fun cdv A outer s H E hr hg => ⟨_, (pss_one (ps_ret (pe_op op_fdivW (pe_op op_sub (pe_op opr_add (pv 0) (pv 1)) pe_int) (pv 1)))),
   (rs_ret (rf_op2r of_fdiv (rf_op2 of_sub (rf_op2b of_add) (rf_con fun _ _ => Rep.int _))))⟩)
theorem ok_l_bounds : FnG P w K mg base 2 T.a_l_bounds T.d_l_bounds ["_law_sizes", "_law_cap"] (spF K RX [.v, .v] f_l_bounds) :=
  fn_pure (N := N_l_bounds) (m := m_l_bounds) (k := 1) T.F_l_bounds sc_l_bounds rfl (by decide) (fun cdv A outer s H E hr hg => ⟨_, (pss_cons (ps_set (i := 2) sc_l_bounds.nd rfl (by first | exact Or.inl rfl | exact Or.inr rfl) (pe_lst (pa_cons (pv 1) pa_nil)))
   (pss_cons (ps_for (passes_of rfl) rfl (pi_seq (pe_slice slr_any (pv 0) (po_some pe_int) po_none)) (pg_name (i := 3) sc_l_bounds.nd rfl (by first | exact Or.inl rfl | exact Or.inr rfl)) (pss_cons (ps_set (i := 4) sc_l_bounds.nd rfl (by first | exact Or.inl rfl | exact Or.inr rfl) pe_int)
   (pss_cons (ps_for (passes_of rfl) rfl (pi_enum (by rfl) T.n_enumerate (pa_cons (pv 2) pa_nil)) (pg_tup rfl (pgs_cons (pg_name (i := 5) sc_l_bounds.nd rfl (by first | exact Or.inl rfl | exact Or.inr rfl)) (pgs_cons (pg_name (i := 6) sc_l_bounds.nd rfl (by first | exact Or.inl rfl | exact Or.inr rfl)) pgs_nil))) (pss_cons (ps_set (i := 7) sc_l_bounds.nd rfl (by first | exact Or.inl rfl | exact Or.inr rfl) (pe_ifExp (pt_cmpR op_gt (pv 5) pe_int (nomark _)) (pe_callG (ok_l_count T) hr hg (by rfl) T.g_l_count T.F_l_count.kp T.b_l_count .nil (takes_of rfl rfl rfl rfl) (pa_cons (pe_ix ix_seq (pv 2) (pe_op op_sub (pv 5) pe_int) (fun _ _ => rfl)) (pa_cons (pv 3) pa_nil))) pe_int))
   (pss_one (ps_set (i := 4) sc_l_bounds.nd rfl (by first | exact Or.inl rfl | exact Or.inr rfl) (pe_op opr_add (pv 4) (pe_op opr_mul (pe_ix ix_seq (pv 0) (pv 5) (fun _ _ => rfl)) (pe_op op_sub (pe_callG (ok_l_count T) hr hg (by rfl) T.g_l_count T.F_l_count.kp T.b_l_count .nil (takes_of rfl rfl rfl rfl) (pa_cons (pv 6) (pa_cons (pv 3) pa_nil))) (pv 7))))))))
   (pss_one (ps_expr (pe_bm PySem.F.plainAttrs_list PySem.F.slot_list_append PySem.F.type_list_append mt_append (pv 2) (pa_cons (pe_op opr_mul (pv 3) (pe_op opr_add (pe_callG (ok_l_count T) hr hg (by rfl) T.g_l_count T.F_l_count.kp T.b_l_count .nil (takes_of rfl rfl rfl rfl) (pa_cons (pe_ix ix_seq (pv 2) (pe_un un_neg pe_int) (fun _ _ => rfl)) (pa_cons (pv 3) pa_nil))) (pe_op op_fdivW (pe_op op_sub (pv 1) (pv 4)) (pv 3)))) pa_nil)))))))
   (pss_one (ps_ret (pv 2))))),
   (rs_seq (rs_own (npsX [] rfl (by decide)) (rf_lst (rf_cons (rf_var (npsX [] rfl (by decide))) rf_nil)))
   (rs_seq (rs_for (rf_seqI (rf_slp (rf_ps (rf_con fun _ _ => Rep.int _)) rf_pn)) (rg_name (npsX [] rfl (by decide))) (rs_seq (rs_assign (rf_con fun _ _ => Rep.int _) (rg_name (npsX [] rfl (by decide))))
   (rs_seq (rs_forOE (rg_tup (rgs_cons (rg_name (npsX [2] rfl (by decide))) (rgs_cons (rg_name (npsX [2] rfl (by decide))) rgs_nil))) (rs_seq (rs_assign (rf_ifE (rf_tTest (rf_op2l (of_cmpI _) (rf_con fun _ _ => Rep.int _))) (rf_rtV (rf_call rfl (rf_acons (rf_op2l of_item (rf_op2l of_sub (rf_con fun _ _ => Rep.int _))) (rf_acons (rf_var (npsX [2] rfl (by decide))) rf_anil)))) (rf_con fun _ _ => Rep.int _)) (rg_name (npsX [2] rfl (by decide))))
   (rs_assign (rf_op2l of_add (rf_op2 of_mul (rf_op2b of_item) (rf_op2r of_sub (rf_rtV (rf_call rfl (rf_acons (rf_var (npsX [2] rfl (by decide))) (rf_acons (rf_var (npsX [2] rfl (by decide))) rf_anil))))))) (rg_name (npsX [2] rfl (by decide))))))
   (rs_append (rf_op2l of_mul (rf_op2 of_add (rf_rtV (rf_call rfl (rf_acons (rf_op2l of_item (rf_neg (rf_con fun _ _ => Rep.int _))) (rf_acons (rf_var (npsX [] rfl (by decide))) rf_anil)))) (rf_op2r of_fdiv (rf_op2b of_sub))))))))
   (rs_ret (rf_var (npsX [] rfl (by decide))))))⟩)
theorem ok_l_is_count : FnG P w K mg base 1 T.a_l_is_count T.d_l_is_count ["_law_value"] (spF K RX [.v] f_l_is_count) :=
  fn_pure (N := N_l_is_count) (m := m_l_is_count) (k := 0) T.F_l_is_count sc_l_is_count rfl (by decide) (fun cdv A outer s H E hr hg => ⟨_, (pss_one (ps_ret (pe_and (pe_callB call_isi (by rfl) T.n_isinstance (by decide +kernel) (pa_cons (pv 0) (pa_cons (pe_bltn (v := .ty "int") (u := .type "int") (by rfl) T.n_int (by decide +kernel) rfl) pa_nil))) (pe_and (pe_not (pe_callB call_isi (by rfl) T.n_isinstance (by decide +kernel) (pa_cons (pv 0) (pa_cons (pe_bltn (v := .ty "bool") (u := .type "bool") (by rfl) T.n_bool (by decide +kernel) rfl) pa_nil)))) (pe_one (pe_cmpR op_ge (pv 0) pe_int (nomark _))))))),
   (rs_ret (rf_andV (rf_isip (by simp)) (rf_andV (rf_notV (rf_isip (by simp))) (rf_op2l (of_cmpI _) (rf_con fun _ _ => Rep.int _)))))⟩)
theorem ok_l_mix_right : FnG P w K mg base 7 T.a_l_mix_right T.d_l_mix_right ["_law_sizes", "_law_words"] (spF K RX [.v, .v] f_l_mix_right) :=
  fn_pure (N := N_l_mix_right) (m := m_l_mix_right) (k := 6) T.F_l_mix_right sc_l_mix_right rfl (by decide) (fun cdv A outer s H E hr hg => ⟨_, (pss_cons (ps_par rfl sc_l_mix_right.nd (i := 2) (j := 3) rfl rfl (by decide) rfl rfl (pa_cons (pe_callG (ok_request_mix T) (hr.mono (by decide)) hg (by rfl) T.g_request_mix T.F_request_mix.kp T.b_request_mix .nil (takes_of rfl rfl rfl rfl) (pa_cons (pv 0) (pa_cons (pv 1) pa_nil))) (pa_cons (pe_callG (ok_most_live T) (hr.mono (by decide)) hg (by rfl) T.g_most_live T.F_most_live.kp T.b_most_live .nil (takes_of rfl rfl rfl rfl) (pa_cons (pv 0) (pa_cons (pv 1) pa_nil))) pa_nil)) (by rfl))
   (pss_cons (ps_if (PW.pt (pw_or (pt_cmpR (opr_ne hr.units) (pv 3) (pe_callG (ok_l_most T) (hr.mono (by decide)) hg (by rfl) T.g_l_most T.F_l_most.kp T.b_l_most .nil (takes_of rfl rfl rfl rfl) (pa_cons (pv 0) (pa_cons (pv 1) pa_nil))) (nomark _)) (pw_or1 (pt_cmpR (opr_ne hr.units) (pe_callG (ok_enough_pages T) hr hg (by rfl) T.g_enough_pages T.F_enough_pages.kp T.b_enough_pages .nil (takes_of rfl rfl rfl rfl) (pa_cons (pv 0) (pa_cons (pv 1) pa_nil))) (pe_op op_fdivW (pe_ix ix_seq (pe_callG (ok_l_bounds T) (hr.mono (by decide)) hg (by rfl) T.g_l_bounds T.F_l_bounds.kp T.b_l_bounds .nil (takes_of rfl rfl rfl rfl) (pa_cons (pv 0) (pa_cons (pv 3) pa_nil))) (pe_un un_neg pe_int) (fun _ _ => rfl)) (pe_ix ix_seq (pv 0) (pe_un un_neg pe_int) (fun _ _ => rfl))) (nomark _))))) (pss_one (ps_ret pe_bl)) pss_nil)
   (pss_cons (ps_if (PW.pt (pw_or (pt_not (pt_truth (pe_callB call_isi (by rfl) T.n_isinstance (by decide +kernel) (pa_cons (pv 2) (pa_cons (pe_bltn (v := .ty "tuple") (u := .type "tuple") (by rfl) T.n_tuple (by decide +kernel) rfl) pa_nil))) (by intro _; rfl))) (pw_or (pt_cmpR (opr_ne hr.units) (pe_callTy call_list_of (by rfl) T.n_list bt_list (pa_cons (pv 2) pa_nil)) (pe_callB cr_sortedA (by rfl) T.n_sorted bt_sorted (pa_cons (pv 2) pa_nil)) (nomark _)) (pw_or1 (pt_cmpR op_gt (pe_callB (cr_sumA rfl) (by rfl) T.n_sum bt_sum (pa_cons (pv 2) pa_nil)) (pv 1) (nomark _)))))) (pss_one (ps_ret pe_bl)) pss_nil)
   (pss_cons (ps_if (pt_not (pt_truth (pe_callB (cr_allV rfl) (by rfl) T.n_all bt_all (pa_cons (pe_lc (own := [("_law_many", 4)]) (by rfl) sc_l_mix_right.nd (pi_seq (pv 2)) (blkOk_by (own := [("_law_many", 4)]) (N := N_l_mix_right) (sc := defScope s_l_mix_right) (by decide +kernel)) (fun _ _ _ _ _ => (pg_name (i := 4) sc_l_mix_right.nd rfl (by first | exact Or.inl rfl | exact Or.inr rfl))) (fun _ _ _ _ _ => pts_nil) (fun _ _ _ _ _ => (pe_and (pe_callG (ok_l_is_count T) (hr.mono (by decide)) hg (by rfl) T.g_l_is_count T.F_l_is_count.kp T.b_l_is_count .nil takes0 (pa_cons (pv 4) pa_nil)) (pe_one (pe_chain op_le op_le pe_int (pv 4) (pe_ix ix_seq (pv 0) (pe_un un_neg pe_int) (fun _ _ => rfl))))))) pa_nil)) (by intro _; rfl))) (pss_one (ps_ret pe_bl)) pss_nil)
   (pss_one (ps_ret (pe_cmpR (opr_eq hr.units) (pe_callB (cr_sumA rfl) (by rfl) T.n_sum bt_sum (pa_cons (pe_lc (own := [("_law_many", 4)]) (by rfl) sc_l_mix_right.nd (pi_seq (pv 2)) (blkOk_by (own := [("_law_many", 4)]) (N := N_l_mix_right) (sc := defScope s_l_mix_right) (by decide +kernel)) (fun _ _ _ _ _ => (pg_name (i := 4) sc_l_mix_right.nd rfl (by first | exact Or.inl rfl | exact Or.inr rfl))) (fun _ _ _ _ _ => pts_nil) (fun _ _ _ _ _ => (pe_callG (ok_l_rounded T) (hr.mono (by decide)) hg (by rfl) T.g_l_rounded T.F_l_rounded.kp T.b_l_rounded .nil takes0 (pa_cons (pv 0) (pa_cons (pv 4) pa_nil))))) pa_nil)) (pv 3) (nomark _)))))))),
   (rs_seq (rs_par (rf_pv (rf_rtV (rf_call rfl (rf_acons (rf_var (npsX [] rfl (by decide))) (rf_acons (rf_var (npsX [] rfl (by decide))) rf_anil)))) (rf_pv (rf_rtV (rf_call rfl (rf_acons (rf_var (npsX [] rfl (by decide))) (rf_acons (rf_var (npsX [] rfl (by decide))) rf_anil)))) rf_pnil)) (npsXL [] rfl (by decide)))
   (rs_seq (rs_if (rf_or (rf_tTest (rf_op2l of_ne (rf_rtV (rf_call rfl (rf_acons (rf_var (npsX [] rfl (by decide))) (rf_acons (rf_var (npsX [] rfl (by decide))) rf_anil)))))) (rf_tTest (rf_op2 of_ne (rf_rtV (rf_call rfl (rf_acons (rf_var (npsX [] rfl (by decide))) (rf_acons (rf_var (npsX [] rfl (by decide))) rf_anil)))) (rf_op2 of_fdiv (rf_op2 of_item (rf_rtV (rf_call rfl (rf_acons (rf_var (npsX [] rfl (by decide))) (rf_acons (rf_var (npsX [] rfl (by decide))) rf_anil)))) (rf_neg (rf_con fun _ _ => Rep.int _))) (rf_op2l of_item (rf_neg (rf_con fun _ _ => Rep.int _))))))) (rs_ret (rf_con fun _ _ => Rep.bl _)) rs_next)
   (rs_seq (rs_if (rf_or (rf_not (rf_tru (rf_isip (by simp)))) (rf_or (rf_tTest (rf_op2 of_ne (rf_cop co_list).frz (rf_cop co_sortI).frz)) (rf_tTest (rf_op2r (of_cmpI _) (rf_c1p c1_sumA))))) (rs_ret (rf_con fun _ _ => Rep.bl _)) rs_next)
   (rs_seq (rs_if (rf_not (rf_tru (rf_c1 c1_all (rf_lc (rf_seqI (rf_var (npsX [] rfl (by decide)))) (rg_name (npsX [] rfl (by decide))) rf_yes (rf_andV (rf_rtV (rf_call rfl (rf_acons (rf_var (npsX [] rfl (by decide))) rf_anil))) (rf_chain (of_cmpI _) (of_cmpI _) (rf_con fun _ _ => Rep.int _) (rf_var (npsX [] rfl (by decide))) (rf_op2l of_item (rf_neg (rf_con fun _ _ => Rep.int _))))) (by decide) (npsXL [] rfl (by decide))).frz))) (rs_ret (rf_con fun _ _ => Rep.bl _)) rs_next)
   (rs_ret (rf_op2r of_eq (rf_c1 c1_sumA (rf_lc (rf_seqI (rf_var (npsX [] rfl (by decide)))) (rg_name (npsX [] rfl (by decide))) rf_yes (rf_rtV (rf_call rfl (rf_acons (rf_var (npsX [] rfl (by decide))) (rf_acons (rf_var (npsX [] rfl (by decide))) rf_anil)))) (by decide) (npsXL [] rfl (by decide))).frz)))))))⟩)
theorem ok_law : FnG P w K mg base 8 T.a_law T.d_law ["_law_script"] (spF K RX [.s] f_law) :=
  fn_pure (N := N_law) (m := m_law) (k := 7) T.F_law sc_law rfl (by decide) (fun cdv A outer s H E hr hg => ⟨_, (pss_cons (ps_for (passes_of rfl) rfl (pi_range1 (by rfl) T.n_range (pa_cons (pe_callB (call_max2 rfl) (by rfl) T.n_max bt_max (pa_cons pe_int (pa_cons (pe_callB (call_min2 rfl) (by rfl) T.n_min bt_min (pa_cons pe_int (pa_cons (pe_callB cr_len (by rfl) T.n_len bt_len (pa_cons (pv 0) pa_nil)) pa_nil))) pa_nil))) pa_nil)) (pg_name (i := 1) sc_law.nd rfl (by first | exact Or.inl rfl | exact Or.inr rfl)) (pss_cons (ps_set (i := 2) sc_law.nd rfl (by first | exact Or.inl rfl | exact Or.inr rfl) (pe_callG (ok_l_pot T) (hr.mono (by decide)) hg (by rfl) T.g_l_pot T.F_l_pot.kp T.b_l_pot .nil (takes_of rfl rfl rfl rfl) (pa_cons (pv 0) (pa_cons (pv 1) pa_nil))))
   (pss_one (ps_for (passes_of rfl) rfl (pi_range1 (by rfl) T.n_range (pa_cons pe_int pa_nil)) (pg_name (i := 3) sc_law.nd rfl (by first | exact Or.inl rfl | exact Or.inr rfl)) (pss_cons (ps_set (i := 4) sc_law.nd rfl (by first | exact Or.inl rfl | exact Or.inr rfl) (pe_callG (ok_l_chain T) (hr.mono (by decide)) hg (by rfl) T.g_l_chain T.F_l_chain.kp T.b_l_chain .nil (takes_of rfl rfl rfl rfl) (pa_cons (pv 2) (pa_cons pe_int pa_nil))))
   (pss_cons (ps_set (i := 5) sc_law.nd rfl (by first | exact Or.inl rfl | exact Or.inr rfl) (pe_callG (ok_l_pick T) (hr.mono (by decide)) hg (by rfl) T.g_l_pick T.F_l_pick.kp T.b_l_pick .nil (takes_of rfl rfl rfl rfl) (pa_cons (pv 2) (pa_cons (pe_lst (pa_cons pe_int (pa_cons pe_int (pa_cons (pe_ix ix_seq (pv 4) (pe_un un_neg pe_int) (fun _ _ => rfl)) (pa_cons (pe_callG (ok_l_draw T) (hr.mono (by decide)) hg (by rfl) T.g_l_draw T.F_l_draw.kp T.b_l_draw .nil (takes_of rfl rfl rfl rfl) (pa_cons (pv 2) (pa_cons pe_int pa_nil))) (pa_cons (pe_callG (ok_l_draw T) (hr.mono (by decide)) hg (by rfl) T.g_l_draw T.F_l_draw.kp T.b_l_draw .nil (takes_of rfl rfl rfl rfl) (pa_cons (pv 2) (pa_cons pe_int pa_nil))) pa_nil)))))) pa_nil))))
   (pss_cons (ps_if (pt_cmpR (opr_eq hr.units) (pv 3) pe_int (nomark _)) (pss_one (ps_set (i := 5) sc_law.nd rfl (by first | exact Or.inl rfl | exact Or.inr rfl) (pe_op op_sub pe_int (pe_callG (ok_l_draw T) (hr.mono (by decide)) hg (by rfl) T.g_l_draw T.F_l_draw.kp T.b_l_draw .nil (takes_of rfl rfl rfl rfl) (pa_cons (pv 2) (pa_cons pe_int pa_nil)))))) pss_nil)
   (pss_cons (ps_if (pt_not (pt_truth (pe_callG (ok_l_mix_right T) hr hg (by rfl) T.g_l_mix_right T.F_l_mix_right.kp T.b_l_mix_right .nil (takes_of rfl rfl rfl rfl) (pa_cons (pv 4) (pa_cons (pv 5) pa_nil))) (by intro _; rfl))) (pss_one (ps_ret pe_bl)) pss_nil)
   (pss_cons (ps_set (i := 6) sc_law.nd rfl (by first | exact Or.inl rfl | exact Or.inr rfl) (pe_op op_sub (pe_callG (ok_most_live T) (hr.mono (by decide)) hg (by rfl) T.g_most_live T.F_most_live.kp T.b_most_live .nil (takes_of rfl rfl rfl rfl) (pa_cons (pv 4) (pa_cons (pv 5) pa_nil))) (pe_callG (ok_most_live T) (hr.mono (by decide)) hg (by rfl) T.g_most_live T.F_most_live.kp T.b_most_live .nil (takes_of rfl rfl rfl rfl) (pa_cons (pv 4) (pa_cons (pe_callB (call_max2 rfl) (by rfl) T.n_max bt_max (pa_cons pe_int (pa_cons (pe_op op_sub (pv 5) pe_int) pa_nil))) pa_nil)))))
   (pss_one (ps_if (pt_not (pt_chain op_le op_le pe_int (pv 6) (pe_ix ix_seq (pv 4) (pe_un un_neg pe_int) (fun _ _ => rfl)))) (pss_one (ps_ret pe_bl)) pss_nil)))))))))))
   (pss_one (ps_ret (pe_cmpR (opr_eq hr.units) (pe_callG (ok_request_mix T) (hr.mono (by decide)) hg (by rfl) T.g_request_mix T.F_request_mix.kp T.b_request_mix .nil (takes_of rfl rfl rfl rfl) (pa_cons (pe_tup (pa_cons pe_int (pa_cons pe_int pa_nil))) (pa_cons pe_int pa_nil))) (pe_tup pa_nil) (nomark _))))),
   (rs_seq (rs_for (rf_rng1 (rf_c2 c2_max (rf_con fun _ _ => Rep.int _) (rf_c2 c2_min (rf_con fun _ _ => Rep.int _) rf_lenS))) (rg_name (npsX [] rfl (by decide))) (rs_seq (rs_ownG (npsX [] rfl (by decide)) (rf_rtG (rf_call rfl (rf_ascr (rf_acons (rf_var (npsX [] rfl (by decide))) rf_anil)))))
   (rs_for (rf_rng1 (rf_con fun _ _ => Rep.int _)) (rg_name (npsX [] rfl (by decide))) (rs_seq (rs_assign (rf_rtV (rf_call rfl (rf_alend (rf_acons (rf_con fun _ _ => Rep.int _) rf_anil)))) (rg_name (npsX [] rfl (by decide))))
   (rs_seq (rs_assign (rf_rtV (rf_call rfl (rf_alend (rf_acons (rf_lst (rf_cons (rf_con fun _ _ => Rep.int _) (rf_cons (rf_con fun _ _ => Rep.int _) (rf_cons (rf_op2l of_item (rf_neg (rf_con fun _ _ => Rep.int _))) (rf_cons (rf_rtV (rf_call rfl (rf_alend (rf_acons (rf_con fun _ _ => Rep.int _) rf_anil)))) (rf_cons (rf_rtV (rf_call rfl (rf_alend (rf_acons (rf_con fun _ _ => Rep.int _) rf_anil)))) rf_nil)))))).frz rf_anil)))) (rg_name (npsX [] rfl (by decide))))
   (rs_seq (rs_if (rf_tTest (rf_op2l of_eq (rf_con fun _ _ => Rep.int _))) (rs_assign (rf_op2 of_sub (rf_con fun _ _ => Rep.int _) (rf_rtV (rf_call rfl (rf_alend (rf_acons (rf_con fun _ _ => Rep.int _) rf_anil))))) (rg_name (npsX [] rfl (by decide)))) rs_next)
   (rs_seq (rs_if (rf_not (rf_tru (rf_rtV (rf_call rfl (rf_acons (rf_var (npsX [] rfl (by decide))) (rf_acons (rf_var (npsX [] rfl (by decide))) rf_anil)))))) (rs_ret (rf_con fun _ _ => Rep.bl _)) rs_next)
   (rs_seq (rs_assign (rf_op2 of_sub (rf_rtV (rf_call rfl (rf_acons (rf_var (npsX [] rfl (by decide))) (rf_acons (rf_var (npsX [] rfl (by decide))) rf_anil)))) (rf_rtV (rf_call rfl (rf_acons (rf_var (npsX [] rfl (by decide))) (rf_acons (rf_c2 c2_max (rf_con fun _ _ => Rep.int _) (rf_op2l of_sub (rf_con fun _ _ => Rep.int _))) rf_anil))))) (rg_name (npsX [] rfl (by decide))))
   (rs_if (rf_not (rf_tTest (rf_chain (of_cmpI _) (of_cmpI _) (rf_con fun _ _ => Rep.int _) (rf_var (npsX [] rfl (by decide))) (rf_op2l of_item (rf_neg (rf_con fun _ _ => Rep.int _)))))) (rs_ret (rf_con fun _ _ => Rep.bl _)) rs_next)))))))))
   (rs_ret (rf_op2 of_eq (rf_rtV (rf_call rfl (rf_acons (rf_tup (rf_cons (rf_con fun _ _ => Rep.int _) (rf_cons (rf_con fun _ _ => Rep.int _) rf_nil))) (rf_acons (rf_con fun _ _ => Rep.int _) rf_anil)))) (rf_tup rf_nil))))⟩)
end
theorem all_mk {l : PySem.W.OpenLaw} {w : World} {K : PySem.W.Frag} {h : Heap} {mg : Str → Option Value} {fa : Addr} {RX : RXT} (X : K.In h) (G : h.Ns mainGlobals mg) (hfa : mg "law" = some (.ref fa))
    {f0 f1 f2 f3 f4 f5 f6 f7 f8 f9 f10 f11 f12 f13 f14 f15 f16 f17 f18 f19 f20 f21 : Addr} {od0 an0 od1 an1 od2 an2 od3 an3 od4 an4 od5 an5 od6 an6 od7 an7 od8 an8 od9 an9 od10 an10 od11 an11 od12 an12 od13 an13 od14 an14 od15 an15 od16 an16 od17 an17 od18 an18 od19 an19 od20 an20 od21 an21 : Option Addr} {sl0 sl1 sl2 sl3 sl4 sl5 sl6 sl7 sl8 sl9 sl10 sl11 sl12 sl13 sl14 sl15 sl16 sl17 sl18 sl19 sl20 sl21 : Array (Option Value)} {oc0 kV0 dc0 pm0 cd0 ct0 oc1 kV1 dc1 pm1 cd1 ct1 oc2 kV2 dc2 pm2 cd2 ct2 oc3 kV3 dc3 pm3 cd3 ct3 oc4 kV4 dc4 pm4 cd4 ct4 oc5 kV5 dc5 pm5 cd5 ct5 oc6 kV6 dc6 pm6 cd6 ct6 oc7 kV7 dc7 pm7 cd7 ct7 oc8 kV8 dc8 pm8 cd8 ct8 oc9 kV9 dc9 pm9 cd9 ct9 oc10 kV10 dc10 pm10 cd10 ct10 oc11 kV11 dc11 pm11 cd11 ct11 oc12 kV12 dc12 pm12 cd12 ct12 oc13 kV13 dc13 pm13 cd13 ct13 oc14 kV14 dc14 pm14 cd14 ct14 oc15 kV15 dc15 pm15 cd15 ct15 oc16 kV16 dc16 pm16 cd16 ct16 oc17 kV17 dc17 pm17 cd17 ct17 oc18 kV18 dc18 pm18 cd18 ct18 oc19 kV19 dc19 pm19 cd19 ct19 oc20 kV20 dc20 pm20 cd20 ct20 oc21 kV21 dc21 pm21 cd21 ct21 : Value} {CMixes : Addr}
        (k1_Mixes : PySem.W.nsIn K mainGlobals "Mixes" = some (some (.ref CMixes))) (k2_Mixes : PySem.W.plainGet K CMixes Str.empty = true) (k3_Mixes : PySem.W.hasDictIn K CMixes = true) (k4_Mixes : PySem.W.plainOver K CMixes = true) (k5_Mixes : PySem.W.findIn K (.ref CMixes) "__setattr__" = some (some (.builtin "object.__setattr__")))
    (n_Mixes_most : PySem.W.findIn K (.ref CMixes) "most" = some none)
    (n_Mixes_last : PySem.W.findIn K (.ref CMixes) "last" = some none)
    (a0 : PySem.W.nsIn K mainGlobals "_law_pot" = some (some (.ref f0))) (l0 : K.lookup f0 = some ⟨oc0, od0, .func (PySem.W.fnOf "_law_pot" "_law_pot" (defArgs s_l_pot) (defBody s_l_pot) (defScope s_l_pot) .none kV0 dc0 pm0 an0 cd0 ct0), sl0⟩) (c0 : PySem.W.codeIn K cd0 "_law_pot" = true) (k0 : PySem.W.keepIn K (.ref f0) = true)
    (a1 : PySem.W.findIn K (.ref CMixes) "requests" = some (some (.ref f1))) (i1 : PySem.W.isFn K (.ref f1) = true) (l1 : K.lookup f1 = some ⟨oc1, od1, .func (PySem.W.fnOf "requests" "Mixes.requests" (defArgs s_Mixes_requests) (defBody s_Mixes_requests) (defScope s_Mixes_requests) .none kV1 dc1 pm1 an1 cd1 ct1), sl1⟩) (c1 : PySem.W.codeIn K cd1 "Mixes.requests" = true) (k1 : PySem.W.keepIn K (.ref f1) = true)
    (a2 : PySem.W.nsIn K mainGlobals "cheapest_requests" = some (some (.ref f2))) (l2 : K.lookup f2 = some ⟨oc2, od2, .func (PySem.W.fnOf "cheapest_requests" "cheapest_requests" (defArgs s_cheapest_requests) (defBody s_cheapest_requests) (defScope s_cheapest_requests) .none kV2 dc2 pm2 an2 cd2 ct2), sl2⟩) (c2 : PySem.W.codeIn K cd2 "cheapest_requests" = true) (k2 : PySem.W.keepIn K (.ref f2) = true)
    (a3 : PySem.W.findIn K (.ref CMixes) "__init__" = some (some (.ref f3))) (i3 : PySem.W.isFn K (.ref f3) = true) (l3 : K.lookup f3 = some ⟨oc3, od3, .func (PySem.W.fnOf "__init__" "Mixes.__init__" (defArgs s_MixesD_initD) (defBody s_MixesD_initD) (defScope s_MixesD_initD) .none kV3 dc3 pm3 an3 cd3 ct3), sl3⟩) (c3 : PySem.W.codeIn K cd3 "Mixes.__init__" = true) (k3 : PySem.W.keepIn K (.ref f3) = true)
    (x3 : PySem.W.makesIn K CMixes = true) (y3 : PySem.W.keepIn K (.ref CMixes) = true)
    (a4 : PySem.W.nsIn K mainGlobals "request_mix" = some (some (.ref f4))) (l4 : K.lookup f4 = some ⟨oc4, od4, .func (PySem.W.fnOf "request_mix" "request_mix" (defArgs s_request_mix) (defBody s_request_mix) (defScope s_request_mix) .none kV4 dc4 pm4 an4 cd4 ct4), sl4⟩) (c4 : PySem.W.codeIn K cd4 "request_mix" = true) (k4 : PySem.W.keepIn K (.ref f4) = true)
    (a5 : PySem.W.nsIn K mainGlobals "_law_draw" = some (some (.ref f5))) (l5 : K.lookup f5 = some ⟨oc5, od5, .func (PySem.W.fnOf "_law_draw" "_law_draw" (defArgs s_l_draw) (defBody s_l_draw) (defScope s_l_draw) .none kV5 dc5 pm5 an5 cd5 ct5), sl5⟩) (c5 : PySem.W.codeIn K cd5 "_law_draw" = true) (k5 : PySem.W.keepIn K (.ref f5) = true)
    (a6 : PySem.W.nsIn K mainGlobals "_law_pick" = some (some (.ref f6))) (l6 : K.lookup f6 = some ⟨oc6, od6, .func (PySem.W.fnOf "_law_pick" "_law_pick" (defArgs s_l_pick) (defBody s_l_pick) (defScope s_l_pick) .none kV6 dc6 pm6 an6 cd6 ct6), sl6⟩) (c6 : PySem.W.codeIn K cd6 "_law_pick" = true) (k6 : PySem.W.keepIn K (.ref f6) = true)
    (a7 : PySem.W.nsIn K mainGlobals "_law_chain" = some (some (.ref f7))) (l7 : K.lookup f7 = some ⟨oc7, od7, .func (PySem.W.fnOf "_law_chain" "_law_chain" (defArgs s_l_chain) (defBody s_l_chain) (defScope s_l_chain) .none kV7 dc7 pm7 an7 cd7 ct7), sl7⟩) (c7 : PySem.W.codeIn K cd7 "_law_chain" = true) (k7 : PySem.W.keepIn K (.ref f7) = true)
    (a8 : PySem.W.nsIn K mainGlobals "most_live" = some (some (.ref f8))) (l8 : K.lookup f8 = some ⟨oc8, od8, .func (PySem.W.fnOf "most_live" "most_live" (defArgs s_most_live) (defBody s_most_live) (defScope s_most_live) .none kV8 dc8 pm8 an8 cd8 ct8), sl8⟩) (c8 : PySem.W.codeIn K cd8 "most_live" = true) (k8 : PySem.W.keepIn K (.ref f8) = true)
    (a9 : PySem.W.nsIn K mainGlobals "_law_most" = some (some (.ref f9))) (l9 : K.lookup f9 = some ⟨oc9, od9, .func (PySem.W.fnOf "_law_most" "_law_most" (defArgs s_l_most) (defBody s_l_most) (defScope s_l_most) .none kV9 dc9 pm9 an9 cd9 ct9), sl9⟩) (c9 : PySem.W.codeIn K cd9 "_law_most" = true) (k9 : PySem.W.keepIn K (.ref f9) = true)
    (a10 : PySem.W.nsIn K mainGlobals "chunk_count" = some (some (.ref f10))) (l10 : K.lookup f10 = some ⟨oc10, od10, .func (PySem.W.fnOf "chunk_count" "chunk_count" (defArgs s_chunk_count) (defBody s_chunk_count) (defScope s_chunk_count) .none kV10 dc10 pm10 an10 cd10 ct10), sl10⟩) (c10 : PySem.W.codeIn K cd10 "chunk_count" = true) (k10 : PySem.W.keepIn K (.ref f10) = true)
    (a11 : PySem.W.nsIn K mainGlobals "least_live" = some (some (.ref f11))) (l11 : K.lookup f11 = some ⟨oc11, od11, .func (PySem.W.fnOf "least_live" "least_live" (defArgs s_least_live) (defBody s_least_live) (defScope s_least_live) .none kV11 dc11 pm11 an11 cd11 ct11), sl11⟩) (c11 : PySem.W.codeIn K cd11 "least_live" = true) (k11 : PySem.W.keepIn K (.ref f11) = true)
    (a12 : PySem.W.nsIn K mainGlobals "numbers_from" = some (some (.ref f12))) (l12 : K.lookup f12 = some ⟨oc12, od12, .func (PySem.W.fnOf "numbers_from" "numbers_from" (defArgs s_numbers_from) (defBody s_numbers_from) (defScope s_numbers_from) .none kV12 dc12 pm12 an12 cd12 ct12), sl12⟩) (c12 : PySem.W.codeIn K cd12 "numbers_from" = true) (k12 : PySem.W.keepIn K (.ref f12) = true)
    (a13 : PySem.W.nsIn K mainGlobals "bounds" = some (some (.ref f13))) (l13 : K.lookup f13 = some ⟨oc13, od13, .func (PySem.W.fnOf "bounds" "bounds" (defArgs s_bounds) (defBody s_bounds) (defScope s_bounds) .none kV13 dc13 pm13 an13 cd13 ct13), sl13⟩) (c13 : PySem.W.codeIn K cd13 "bounds" = true) (k13 : PySem.W.keepIn K (.ref f13) = true)
    (a14 : PySem.W.nsIn K mainGlobals "pages_needed" = some (some (.ref f14))) (l14 : K.lookup f14 = some ⟨oc14, od14, .func (PySem.W.fnOf "pages_needed" "pages_needed" (defArgs s_pages_needed) (defBody s_pages_needed) (defScope s_pages_needed) .none kV14 dc14 pm14 an14 cd14 ct14), sl14⟩) (c14 : PySem.W.codeIn K cd14 "pages_needed" = true) (k14 : PySem.W.keepIn K (.ref f14) = true)
    (a15 : PySem.W.nsIn K mainGlobals "enough_pages" = some (some (.ref f15))) (l15 : K.lookup f15 = some ⟨oc15, od15, .func (PySem.W.fnOf "enough_pages" "enough_pages" (defArgs s_enough_pages) (defBody s_enough_pages) (defScope s_enough_pages) .none kV15 dc15 pm15 an15 cd15 ct15), sl15⟩) (c15 : PySem.W.codeIn K cd15 "enough_pages" = true) (k15 : PySem.W.keepIn K (.ref f15) = true)
    (a16 : PySem.W.nsIn K mainGlobals "_law_rounded" = some (some (.ref f16))) (l16 : K.lookup f16 = some ⟨oc16, od16, .func (PySem.W.fnOf "_law_rounded" "_law_rounded" (defArgs s_l_rounded) (defBody s_l_rounded) (defScope s_l_rounded) .none kV16 dc16 pm16 an16 cd16 ct16), sl16⟩) (c16 : PySem.W.codeIn K cd16 "_law_rounded" = true) (k16 : PySem.W.keepIn K (.ref f16) = true)
    (a17 : PySem.W.nsIn K mainGlobals "_law_count" = some (some (.ref f17))) (l17 : K.lookup f17 = some ⟨oc17, od17, .func (PySem.W.fnOf "_law_count" "_law_count" (defArgs s_l_count) (defBody s_l_count) (defScope s_l_count) .none kV17 dc17 pm17 an17 cd17 ct17), sl17⟩) (c17 : PySem.W.codeIn K cd17 "_law_count" = true) (k17 : PySem.W.keepIn K (.ref f17) = true)
    (a18 : PySem.W.nsIn K mainGlobals "_law_bounds" = some (some (.ref f18))) (l18 : K.lookup f18 = some ⟨oc18, od18, .func (PySem.W.fnOf "_law_bounds" "_law_bounds" (defArgs s_l_bounds) (defBody s_l_bounds) (defScope s_l_bounds) .none kV18 dc18 pm18 an18 cd18 ct18), sl18⟩) (c18 : PySem.W.codeIn K cd18 "_law_bounds" = true) (k18 : PySem.W.keepIn K (.ref f18) = true)
    (a19 : PySem.W.nsIn K mainGlobals "_law_is_count" = some (some (.ref f19))) (l19 : K.lookup f19 = some ⟨oc19, od19, .func (PySem.W.fnOf "_law_is_count" "_law_is_count" (defArgs s_l_is_count) (defBody s_l_is_count) (defScope s_l_is_count) .none kV19 dc19 pm19 an19 cd19 ct19), sl19⟩) (c19 : PySem.W.codeIn K cd19 "_law_is_count" = true) (k19 : PySem.W.keepIn K (.ref f19) = true)
    (a20 : PySem.W.nsIn K mainGlobals "_law_mix_right" = some (some (.ref f20))) (l20 : K.lookup f20 = some ⟨oc20, od20, .func (PySem.W.fnOf "_law_mix_right" "_law_mix_right" (defArgs s_l_mix_right) (defBody s_l_mix_right) (defScope s_l_mix_right) .none kV20 dc20 pm20 an20 cd20 ct20), sl20⟩) (c20 : PySem.W.codeIn K cd20 "_law_mix_right" = true) (k20 : PySem.W.keepIn K (.ref f20) = true)
    (a21 : PySem.W.nsIn K mainGlobals "law" = some (some (.ref f21))) (l21 : K.lookup f21 = some ⟨oc21, od21, .func (PySem.W.fnOf "law" "law" (defArgs s_law) (defBody s_law) (defScope s_law) .none kV21 dc21 pm21 an21 cd21 ct21), sl21⟩) (c21 : PySem.W.codeIn K cd21 "law" = true) (k21 : PySem.W.keepIn K (.ref f21) = true)
    (z_abs : PySem.W.nsIn K mainGlobals "abs" = some none)
    (z_all : PySem.W.nsIn K mainGlobals "all" = some none)
    (z_bool : PySem.W.nsIn K mainGlobals "bool" = some none)
    (z_enumerate : PySem.W.nsIn K mainGlobals "enumerate" = some none)
    (z_int : PySem.W.nsIn K mainGlobals "int" = some none)
    (z_isinstance : PySem.W.nsIn K mainGlobals "isinstance" = some none)
    (z_len : PySem.W.nsIn K mainGlobals "len" = some none)
    (z_list : PySem.W.nsIn K mainGlobals "list" = some none)
    (z_max : PySem.W.nsIn K mainGlobals "max" = some none)
    (z_min : PySem.W.nsIn K mainGlobals "min" = some none)
    (z_range : PySem.W.nsIn K mainGlobals "range" = some none)
    (z_sorted : PySem.W.nsIn K mainGlobals "sorted" = some none)
    (z_sum : PySem.W.nsIn K mainGlobals "sum" = some none)
    (z_tuple : PySem.W.nsIn K mainGlobals "tuple" = some none)
    (z_zip : PySem.W.nsIn K mainGlobals "zip" = some none)
    (z_nd : PySem.W.nsIn K cStatics "sys.int_max_str_digits" = some none) :
    ∃ fd : FuncData, (∀ (s : Shared) (v : Value), BindsTo s fd ⟨[v], []⟩ [("_law_script", v)]) ∧ ∀ base : Heap, K.In base → base.Ns mainGlobals mg → FnG l.prog w K mg base 8 fa fd ["_law_script"] (spF K RX [.s] f_law) := by
  have e := hfa.symm.trans (PySem.W.mg_of X G a21)
  cases e
  let T : Txt K mg := { C_Mixes := CMixes, k_Mixes := ⟨clsAt_of k1_Mixes, ⟨k2_Mixes, k3_Mixes, k4_Mixes, k5_Mixes⟩⟩, na_Mixes_most := n_Mixes_most, na_Mixes_last := n_Mixes_last, a_l_pot := _, d_l_pot := _, F_l_pot := fun_mk (st := s_l_pot) l0 c0 k0, g_l_pot := PySem.W.mg_of X G a0, b_l_pot := (fun_mk (st := s_l_pot) l0 c0 k0).binds (ps := ["_law_script", "_law_index"]) (fun _ _ _ _ _ _ us hl => match us, hl with | [_, _], _ => rfl), a_Mixes_requests := _, d_Mixes_requests := _, F_Mixes_requests := fun_mk (st := s_Mixes_requests) l1 c1 k1, b_Mixes_requests := (fun_mk (st := s_Mixes_requests) l1 c1 k1).binds (ps := ["self"]) (fun _ _ _ _ _ _ us hl => match us, hl with | [_], _ => rfl), m_Mixes_requests := ⟨a1, i1, k1⟩, a_cheapest_requests := _, d_cheapest_requests := _, F_cheapest_requests := fun_mk (st := s_cheapest_requests) l2 c2 k2, g_cheapest_requests := PySem.W.mg_of X G a2, b_cheapest_requests := (fun_mk (st := s_cheapest_requests) l2 c2 k2).binds (ps := ["chain"]) (fun _ _ _ _ _ _ us hl => match us, hl with | [_], _ => rfl), a_MixesD_initD := _, d_MixesD_initD := _, F_MixesD_initD := fun_mk (st := s_MixesD_initD) l3 c3 k3, b_MixesD_initD := (fun_mk (st := s_MixesD_initD) l3 c3 k3).binds (ps := ["self", "chain", "words"]) (fun _ _ _ _ _ _ us hl => match us, hl with | [_, _, _], _ => rfl), mk_Mixes := ⟨x3, a3, i3, y3⟩, g_Mixes := PySem.W.mg_of X G k1_Mixes, a_request_mix := _, d_request_mix := _, F_request_mix := fun_mk (st := s_request_mix) l4 c4 k4, g_request_mix := PySem.W.mg_of X G a4, b_request_mix := (fun_mk (st := s_request_mix) l4 c4 k4).binds (ps := ["chain", "words"]) (fun _ _ _ _ _ _ us hl => match us, hl with | [_, _], _ => rfl), a_l_draw := _, d_l_draw := _, F_l_draw := fun_mk (st := s_l_draw) l5 c5 k5, g_l_draw := PySem.W.mg_of X G a5, b_l_draw := (fun_mk (st := s_l_draw) l5 c5 k5).binds (ps := ["_law_pot_here", "_law_count_here"]) (fun _ _ _ _ _ _ us hl => match us, hl with | [_, _], _ => rfl), a_l_pick := _, d_l_pick := _, F_l_pick := fun_mk (st := s_l_pick) l6 c6 k6, g_l_pick := PySem.W.mg_of X G a6, b_l_pick := (fun_mk (st := s_l_pick) l6 c6 k6).binds (ps := ["_law_pot_here", "_law_some"]) (fun _ _ _ _ _ _ us hl => match us, hl with | [_, _], _ => rfl), a_l_chain := _, d_l_chain := _, F_l_chain := fun_mk (st := s_l_chain) l7 c7 k7, g_l_chain := PySem.W.mg_of X G a7, b_l_chain := (fun_mk (st := s_l_chain) l7 c7 k7).binds (ps := ["_law_pot_here", "_law_most_here"]) (fun _ _ _ _ _ _ us hl => match us, hl with | [_, _], _ => rfl), a_most_live := _, d_most_live := _, F_most_live := fun_mk (st := s_most_live) l8 c8 k8, g_most_live := PySem.W.mg_of X G a8, b_most_live := (fun_mk (st := s_most_live) l8 c8 k8).binds (ps := ["chain", "words"]) (fun _ _ _ _ _ _ us hl => match us, hl with | [_, _], _ => rfl), a_l_most := _, d_l_most := _, F_l_most := fun_mk (st := s_l_most) l9 c9 k9, g_l_most := PySem.W.mg_of X G a9, b_l_most := (fun_mk (st := s_l_most) l9 c9 k9).binds (ps := ["_law_sizes", "_law_words"]) (fun _ _ _ _ _ _ us hl => match us, hl with | [_, _], _ => rfl), a_chunk_count := _, d_chunk_count := _, F_chunk_count := fun_mk (st := s_chunk_count) l10 c10 k10, g_chunk_count := PySem.W.mg_of X G a10, b_chunk_count := (fun_mk (st := s_chunk_count) l10 c10 k10).binds (ps := ["words", "size"]) (fun _ _ _ _ _ _ us hl => match us, hl with | [_, _], _ => rfl), a_least_live := _, d_least_live := _, F_least_live := fun_mk (st := s_least_live) l11 c11 k11, g_least_live := PySem.W.mg_of X G a11, b_least_live := (fun_mk (st := s_least_live) l11 c11 k11).binds (ps := ["chain", "numbers", "size"]) (fun _ _ _ _ _ _ us hl => match us, hl with | [_, _, _], _ => rfl), a_numbers_from := _, d_numbers_from := _, F_numbers_from := fun_mk (st := s_numbers_from) l12 c12 k12, g_numbers_from := PySem.W.mg_of X G a12, b_numbers_from := (fun_mk (st := s_numbers_from) l12 c12 k12).binds (ps := ["chain", "limit", "first_reaches"]) (fun _ _ _ _ _ _ us hl => match us, hl with | [_, _, _], _ => rfl), a_bounds := _, d_bounds := _, F_bounds := fun_mk (st := s_bounds) l13 c13 k13, g_bounds := PySem.W.mg_of X G a13, b_bounds := (fun_mk (st := s_bounds) l13 c13 k13).binds (ps := ["chain", "limit"]) (fun _ _ _ _ _ _ us hl => match us, hl with | [_, _], _ => rfl), a_pages_needed := _, d_pages_needed := _, F_pages_needed := fun_mk (st := s_pages_needed) l14 c14 k14, g_pages_needed := PySem.W.mg_of X G a14, b_pages_needed := (fun_mk (st := s_pages_needed) l14 c14 k14).binds (ps := ["chain", "limit"]) (fun _ _ _ _ _ _ us hl => match us, hl with | [_, _], _ => rfl), a_enough_pages := _, d_enough_pages := _, F_enough_pages := fun_mk (st := s_enough_pages) l15 c15 k15, g_enough_pages := PySem.W.mg_of X G a15, b_enough_pages := (fun_mk (st := s_enough_pages) l15 c15 k15).binds (ps := ["chain", "words"]) (fun _ _ _ _ _ _ us hl => match us, hl with | [_, _], _ => rfl), a_l_rounded := _, d_l_rounded := _, F_l_rounded := fun_mk (st := s_l_rounded) l16 c16 k16, g_l_rounded := PySem.W.mg_of X G a16, b_l_rounded := (fun_mk (st := s_l_rounded) l16 c16 k16).binds (ps := ["_law_sizes", "_law_many"]) (fun _ _ _ _ _ _ us hl => match us, hl with | [_, _], _ => rfl), a_l_count := _, d_l_count := _, F_l_count := fun_mk (st := s_l_count) l17 c17 k17, g_l_count := PySem.W.mg_of X G a17, b_l_count := (fun_mk (st := s_l_count) l17 c17 k17).binds (ps := ["_law_words", "_law_many"]) (fun _ _ _ _ _ _ us hl => match us, hl with | [_, _], _ => rfl), a_l_bounds := _, d_l_bounds := _, F_l_bounds := fun_mk (st := s_l_bounds) l18 c18 k18, g_l_bounds := PySem.W.mg_of X G a18, b_l_bounds := (fun_mk (st := s_l_bounds) l18 c18 k18).binds (ps := ["_law_sizes", "_law_cap"]) (fun _ _ _ _ _ _ us hl => match us, hl with | [_, _], _ => rfl), a_l_is_count := _, d_l_is_count := _, F_l_is_count := fun_mk (st := s_l_is_count) l19 c19 k19, g_l_is_count := PySem.W.mg_of X G a19, b_l_is_count := (fun_mk (st := s_l_is_count) l19 c19 k19).binds (ps := ["_law_value"]) (fun _ _ _ _ _ _ us hl => match us, hl with | [_], _ => rfl), a_l_mix_right := _, d_l_mix_right := _, F_l_mix_right := fun_mk (st := s_l_mix_right) l20 c20 k20, g_l_mix_right := PySem.W.mg_of X G a20, b_l_mix_right := (fun_mk (st := s_l_mix_right) l20 c20 k20).binds (ps := ["_law_sizes", "_law_words"]) (fun _ _ _ _ _ _ us hl => match us, hl with | [_, _], _ => rfl), a_law := _, d_law := _, F_law := fun_mk (st := s_law) l21 c21 k21, g_law := PySem.W.mg_of X G a21, b_law := (fun_mk (st := s_law) l21 c21 k21).binds (ps := ["_law_script"]) (fun _ _ _ _ _ _ us hl => match us, hl with | [_], _ => rfl), n_abs := PySem.W.mg_none_of X G z_abs, n_all := PySem.W.mg_none_of X G z_all, n_bool := PySem.W.mg_none_of X G z_bool, n_enumerate := PySem.W.mg_none_of X G z_enumerate, n_int := PySem.W.mg_none_of X G z_int, n_isinstance := PySem.W.mg_none_of X G z_isinstance, n_len := PySem.W.mg_none_of X G z_len, n_list := PySem.W.mg_none_of X G z_list, n_max := PySem.W.mg_none_of X G z_max, n_min := PySem.W.mg_none_of X G z_min, n_range := PySem.W.mg_none_of X G z_range, n_sorted := PySem.W.mg_none_of X G z_sorted, n_sum := PySem.W.mg_none_of X G z_sum, n_tuple := PySem.W.mg_none_of X G z_tuple, n_zip := PySem.W.mg_none_of X G z_zip, nd := z_nd }
  exact ⟨_, fun s v => .of_eq rfl, fun base _ _ => ok_law (base := base) (RX := RX) T⟩
end Lk37
open PySem PySem.W PyProof.Rows

end
section
/-! BT: the bounds of a chain, in plain numbers. -/
namespace BT

/-- chunks, rounded up -/
def cc (w z : Int) : Int := -(-w / z)
section
variable {w v z k : Int}
theorem cc_le (h : 0 < z) : cc w z ≤ k ↔ w ≤ k * z := by
  unfold cc
  constructor
  · intro h1
    have h2 : -k ≤ -w / z := by omega
    have h3 := (Int.le_ediv_iff_mul_le h).mp h2
    grind
  · intro h1
    have h3 : -k * z ≤ -w := by grind
    have h2 := (Int.le_ediv_iff_mul_le h).mpr h3
    omega
theorem lt_cc (h : 0 < z) : k < cc w z ↔ k * z < w := by
  have := cc_le (w := w) (k := k) h
  omega
theorem cc_mono (h : 0 < z) (hw : w ≤ v) : cc w z ≤ cc v z := by
  rw [cc_le h]
  exact Int.le_trans hw ((cc_le h).mp (Int.le_refl _))
theorem cc_ub (h : 0 < z) : w ≤ cc w z * z := (cc_le h).mp (Int.le_refl _)
theorem cc_lb (h : 0 < z) : cc w z * z < w + z := by
  have := (lt_cc (w := w) (k := cc w z - 1) h).mp (by omega)
  grind
theorem cc_self (h : 0 < z) : cc (k * z) z = k := by
  unfold cc
  have : -(k * z) = (-k) * z := by grind
  rw [this, Int.mul_ediv_cancel _ (by omega)]
  omega
theorem cc_self' (h : 0 < z) : cc (z * k) z = k := by rw [Int.mul_comm]; exact cc_self h
theorem cc_zero (h : 0 < z) : cc 0 z = 0 := by have := cc_self (k := 0) h; simpa using this
theorem cc_nonneg (h : 0 < z) (hw : 0 ≤ w) : 0 ≤ cc w z := by
  have := cc_mono h hw
  rwa [cc_zero h] at this
theorem cc_one : cc w 1 = w := by unfold cc; omega
theorem cc_cc {r : Int} (h : 0 < z) (hr : 0 < r) : cc (cc w z) r = cc w (z * r) := by
  apply Int.le_antisymm
  · rw [cc_le hr, cc_le h]
    have := cc_ub (w := w) (z := z * r) (Int.mul_pos h hr)
    grind
  · rw [cc_le (Int.mul_pos h hr)]
    have h1 := (cc_le (w := cc w z) (k := cc (cc w z) r) hr).mp (Int.le_refl _)
    have h2 := (cc_le (w := w) (k := cc (cc w z) r * r) h).mp h1
    grind
/-- a step more takes at most one chunk more -/
theorem cc_step {r : Int} (hr : 0 < r) : cc (w + k) r ≤ cc w r + k ∨ k < 0 := by
  by_cases hk : k < 0
  · exact .inr hk
  · refine .inl ?_
    rw [cc_le hr]
    have h1 := cc_ub (w := w) hr
    have h2 : k ≤ k * r := by
      have := Int.mul_le_mul_of_nonneg_left (a := 1) (b := r) (c := k) (by omega) (by omega)
      omega
    grind
end

/-- the chunks counted so far -/
def pv (n : Nat → Int) (z : Int) : Nat → Int
  | 0 => 0
  | k + 1 => cc (n k) z
theorem pv_s {n : Nat → Int} {z : Int} {k : Nat} : pv n z (k + 1) = cc (n k) z := rfl
theorem pv_0 {n : Nat → Int} {z : Int} : pv n z 0 = 0 := rfl
/-- the least live words -/
def LL (s n : Nat → Int) (z : Int) : Nat → Int
  | 0 => 0
  | k + 1 => LL s n z k + (cc (n k) z - pv n z k) * s k
def AB (s n : Nat → Int) (z : Int) : Nat → Int
  | 0 => 0
  | k + 1 => AB s n z k + cc (n k) z * (s (k + 1) - s k)
theorem abel (s n : Nat → Int) (z : Int) (k : Nat) : s k * pv n z k - LL s n z k = AB s n z k := by
  induction k with
  | zero => simp [pv, LL, AB]
  | succ k ih => simp only [pv_s, LL, AB]; grind

/-- the sizes of a chain -/
structure Szs (s : Nat → Int) : Prop where
  s0 : s 0 = 1
  mul : ∀ i, ∃ q : Int, 1 ≤ q ∧ s (i + 1) = s i * q
theorem Szs.pos {s : Nat → Int} (h : Szs s) : ∀ i, 0 < s i
  | 0 => by rw [h.s0]; decide
  | i + 1 => by
    obtain ⟨q, hq, e⟩ := h.mul i
    rw [e]; exact Int.mul_pos (h.pos i) (by omega)
theorem Szs.step {s : Nat → Int} (h : Szs s) (i : Nat) : s i ≤ s (i + 1) := by
  obtain ⟨q, hq, e⟩ := h.mul i
  have hp := h.pos i
  rw [e]
  have := Int.mul_le_mul_of_nonneg_left (a := 1) (b := q) (c := s i) hq (by omega)
  omega
theorem Szs.mono {s : Nat → Int} (h : Szs s) {i j : Nat} (hij : i ≤ j) : s i ≤ s j := by
  induction j with
  | zero => have : i = 0 := by omega
            subst this; exact Int.le_refl _
  | succ j ih =>
    by_cases e : i = j + 1
    · subst e; exact Int.le_refl _
    · exact Int.le_trans (ih (by omega)) (h.step j)
theorem Szs.dvd {s : Nat → Int} (h : Szs s) {i j : Nat} (hij : i ≤ j) : ∃ q : Int, 1 ≤ q ∧ s j = s i * q := by
  induction j with
  | zero => have : i = 0 := by omega
            subst this; exact ⟨1, by decide, by omega⟩
  | succ j ih =>
    by_cases e : i = j + 1
    · subst e; exact ⟨1, by decide, by omega⟩
    · obtain ⟨q, hq, e1⟩ := ih (by omega)
      obtain ⟨r, hr, e2⟩ := h.mul j
      refine ⟨q * r, ?_, by rw [e2, e1, Int.mul_assoc]⟩
      have := Int.mul_pos (a := q) (b := r) (by omega) (by omega)
      omega

/-- the numbers of bounds, m of them behind the first -/
structure Nums (s n : Nat → Int) (M : Int) (m : Nat) : Prop where
  n0 : n 0 = M
  nx : ∀ i, i < m → n (i + 1) = s (i + 1) * (cc (n i) (s (i + 1)) + max 0 (M - LL s n (s (i + 1)) (i + 1)) / s (i + 1))
section
variable {s n : Nat → Int} {M : Int} {m : Nat}
theorem Nums.rise (h : Szs s) (N : Nums s n M m) {i : Nat} (hi : i < m) : n i ≤ n (i + 1) := by
  have hp := h.pos (i + 1)
  rw [N.nx i hi]
  have h1 := cc_ub (w := n i) hp
  have h2 : 0 ≤ max 0 (M - LL s n (s (i + 1)) (i + 1)) / s (i + 1) := Int.ediv_nonneg (by omega) (by omega)
  have h3 := Int.mul_nonneg (a := s (i + 1)) (by omega) h2
  rw [Int.mul_add, Int.mul_comm (s (i + 1)) (cc _ _)]
  omega
theorem Nums.mono (h : Szs s) (N : Nums s n M m) {i j : Nat} (hij : i ≤ j) (hj : j ≤ m) : n i ≤ n j := by
  induction j with
  | zero => have : i = 0 := by omega
            subst this; exact Int.le_refl _
  | succ j ih =>
    by_cases e : i = j + 1
    · subst e; exact Int.le_refl _
    · exact Int.le_trans (ih (by omega) (by omega)) (N.rise h (by omega))
theorem Nums.nonneg (h : Szs s) (N : Nums s n M m) (hM : 0 ≤ M) {i : Nat} (hi : i ≤ m) : 0 ≤ n i := by
  have := N.mono h (Nat.zero_le i) hi
  rw [N.n0] at this
  omega
/-- thinned out, no more words -/
theorem thin (h : Szs s) {z r : Int} (hz : 0 < z) (hr : 0 < r) (k : Nat) (h0 : ∀ j, j + 1 < k → n j ≤ n (j + 1)) (hn : 0 < k → 0 ≤ n 0) :
    LL s n (z * r) k ≤ LL s n z k ∧ 0 ≤ LL s n z k := by
  have pvm : ∀ j, j < k → pv n z j ≤ cc (n j) z := fun j hj => by
    cases j with
    | zero => exact cc_nonneg hz (hn (by omega))
    | succ j => exact cc_mono hz (h0 j hj)
  have pvr : ∀ j, j ≤ k → pv n (z * r) j = cc (pv n z j) r := fun j hj => by
    cases j with
    | zero => exact (cc_zero hr).symm
    | succ j => exact (cc_cc hz hr).symm
  induction k with
  | zero => exact ⟨Int.le_refl _, Int.le_refl _⟩
  | succ k ih =>
    obtain ⟨i1, i2⟩ := ih (fun j hj => h0 j (by omega)) (fun hk => hn (by omega)) (fun j hj => pvm j (by omega)) (fun j hj => pvr j (by omega))
    simp only [LL]
    have hs := h.pos k
    have h1 := pvm k (by omega)
    rw [pvr k (by omega), ← cc_cc hz hr]
    have h2 : cc (cc (n k) z) r - cc (pv n z k) r ≤ cc (n k) z - pv n z k := by
      rcases cc_step (w := pv n z k) (k := cc (n k) z - pv n z k) hr with h3 | h3
      · have e : pv n z k + (cc (n k) z - pv n z k) = cc (n k) z := by omega
        rw [e] at h3
        omega
      · omega
    have h4 := Int.mul_le_mul_of_nonneg_right h2 (Int.le_of_lt hs)
    have h5 := Int.mul_nonneg (a := cc (n k) z - pv n z k) (b := s k) (by omega) (by omega)
    omega
/-- the least live words never exceed the limit -/
theorem Nums.ll (h : Szs s) (N : Nums s n M m) (hM : 0 ≤ M) : ∀ i, i ≤ m → LL s n (s i) i ≤ M ∧ LL s n (s i) (i + 1) ≤ M ∧ (i < m → LL s n (s (i + 1)) (i + 1) ≤ M ∧ 0 ≤ LL s n (s (i + 1)) (i + 1))
  | 0, _ => by
    have hr := h.mul 0
    obtain ⟨q, hq, e⟩ := hr
    have h1 : LL s n (s 0) 1 = M := by simp only [LL, pv_0]; rw [N.n0, h.s0, cc_one]; omega
    refine ⟨hM, by rw [h1]; omega, fun hm => ?_⟩
    have t := thin h (n := n) (z := s 1) (r := 1) (h.pos 1) (by decide) 1 (fun j hj => by omega) (fun _ => by rw [N.n0]; exact hM)
    have t2 := thin h (n := n) (z := s 0) (r := q) (h.pos 0) (by omega) 1 (fun j hj => by omega) (fun _ => by rw [N.n0]; exact hM)
    have t3 : LL s n (s (0 + 1)) (0 + 1) ≤ LL s n (s 0) 1 := by rw [e]; exact t2.1
    exact ⟨Int.le_trans t3 (by rw [h1]; omega), t.2⟩
  | i + 1, hi => by
    obtain ⟨_, h2, h3⟩ := N.ll h hM i (by omega)
    obtain ⟨h4, h5⟩ := h3 (by omega)
    have hp := h.pos (i + 1)
    have e1 : LL s n (s (i + 1)) (i + 1 + 1) ≤ M := by
      rw [LL, pv_s]
      have e2 := N.nx i (by omega)
      have e3 : cc (n (i + 1)) (s (i + 1)) = cc (n i) (s (i + 1)) + max 0 (M - LL s n (s (i + 1)) (i + 1)) / s (i + 1) := by
        rw [e2, cc_self' hp]
      rw [e3]
      have e4 : max 0 (M - LL s n (s (i + 1)) (i + 1)) = M - LL s n (s (i + 1)) (i + 1) := by omega
      rw [e4]
      generalize LL s n (s (i + 1)) (i + 1) = l at *
      have h6 := Int.ediv_mul_le (M - l) (Int.ne_of_gt hp)
      have h7 : (cc (n i) (s (i + 1)) + (M - l) / s (i + 1) - cc (n i) (s (i + 1))) * s (i + 1) = (M - l) / s (i + 1) * s (i + 1) := by grind
      rw [h7]; omega
    refine ⟨h4, e1, fun hm => ?_⟩
    obtain ⟨q, hq, e⟩ := h.mul (i + 1)
    have mono : ∀ j, j + 1 < i + 1 + 1 → n j ≤ n (j + 1) := fun j hj => N.rise h (by omega)
    have h0 : 0 < i + 1 + 1 → 0 ≤ n 0 := fun _ => by rw [N.n0]; exact hM
    have t := thin h (n := n) (z := s (i + 1)) (r := q) hp (by omega) (i + 1 + 1) mono h0
    have t2 := thin h (n := n) (z := s (i + 1 + 1)) (r := 1) (h.pos _) (by decide) (i + 1 + 1) mono h0
    rw [← e] at t
    exact ⟨by omega, t2.2⟩
/-- a number by the limit and the numbers before it -/
theorem Nums.form (h : Szs s) (N : Nums s n M m) (hM : 0 ≤ M) {i : Nat} (hi : i < m) : n (i + 1) = s (i + 1) * ((M + AB s n (s (i + 1)) (i + 1)) / s (i + 1)) := by
  have hp := h.pos (i + 1)
  obtain ⟨h4, h5⟩ := (N.ll h hM i (by omega)).2.2 hi
  rw [N.nx i hi]
  congr 1
  have e := abel s n (s (i + 1)) (i + 1)
  have e4 : max 0 (M - LL s n (s (i + 1)) (i + 1)) = M - LL s n (s (i + 1)) (i + 1) := by omega
  rw [e4, ← e]
  have e5 : M + (s (i + 1) * pv n (s (i + 1)) (i + 1) - LL s n (s (i + 1)) (i + 1)) = (M - LL s n (s (i + 1)) (i + 1)) + s (i + 1) * cc (n i) (s (i + 1)) := by simp only [pv_s]; omega
  rw [e5, Int.add_mul_ediv_left _ _ (Int.ne_of_gt hp)]
  omega
theorem Nums.mult (h : Szs s) (N : Nums s n M m) {i : Nat} (hi : i ≤ m) : ∃ k, n i = s i * k := by
  cases i with
  | zero => exact ⟨n 0, by rw [h.s0]; omega⟩
  | succ i => exact ⟨_, N.nx i (by omega)⟩
/-- a piece of the sum -/
theorem ab_piece (h : Szs s) {z x : Int} (hz : 0 < z) {a : Nat} : ∀ b, a ≤ b → (∀ t, a ≤ t → t < b → x ≤ cc (n t) z) → x * (s b - s a) ≤ AB s n z b - AB s n z a
  | 0, hb, _ => by have : a = 0 := by omega
                   subst this; simp
  | b + 1, hb, hx => by
    by_cases e : a = b + 1
    · subst e; simp
    · have i1 := ab_piece h hz b (by omega) (fun t h1 h2 => hx t h1 (by omega))
      have i2 := hx b (by omega) (by omega)
      have h3 := Int.mul_le_mul_of_nonneg_right i2 (show 0 ≤ s (b + 1) - s b by have := h.step b; omega)
      simp only [AB]
      grind
/-- more words and more sizes: no number is less -/
theorem Nums.less (h : Szs s) (N : Nums s n M m) {s' n' : Nat → Int} {M' : Int} {m' : Nat} (h' : Szs s') (N' : Nums s' n' M' m') (hM : 0 ≤ M') (hMM : M' ≤ M) (e : Nat → Nat) (e0 : e 0 = 0)
    (em : ∀ i, i < m' → e i < e (i + 1)) (es : ∀ i, i ≤ m' → s' i = s (e i)) (ee : ∀ i, i ≤ m' → e i ≤ m) : ∀ i, i ≤ m' → n' i ≤ n (e i) := by
  intro i
  induction i using Nat.strongRecOn with
  | _ i ih =>
    intro hi
    cases i with
    | zero => rw [e0, N.n0, N'.n0]; exact hMM
    | succ i =>
      have hp := h'.pos (i + 1)
      obtain ⟨t, ht⟩ : ∃ t, e (i + 1) = t + 1 := ⟨e (i + 1) - 1, by have := em i (by omega); omega⟩
      have hs : s' (i + 1) = s (t + 1) := by rw [es (i + 1) hi, ht]
      have htm : t < m := by have := ee (i + 1) hi; omega
      rw [ht, N'.form h' hM (by omega), N.form h (by omega) htm, ← hs]
      refine Int.mul_le_mul_of_nonneg_left ?_ (Int.le_of_lt hp)
      refine Int.ediv_le_ediv hp ?_
      have go : ∀ k, k ≤ i + 1 → AB s' n' (s' (i + 1)) k ≤ AB s n (s' (i + 1)) (e k) := by
        intro k
        induction k with
        | zero => intro _; rw [e0]; exact Int.le_refl _
        | succ k ihk =>
          intro hk
          have i1 := ihk (by omega)
          have i2 := ab_piece (n := n) (x := cc (n' k) (s' (i + 1))) h hp (a := e k) (e (k + 1)) (by have := em k (by omega); omega) (fun t h1 h2 => by
            refine cc_mono hp ?_
            refine Int.le_trans (ih k (by omega) (by omega)) (N.mono h h1 ?_)
            have := ee (k + 1) (by omega); omega)
          simp only [AB]
          rw [es k (by omega), es (k + 1) (by omega)]
          omega
      have := go (i + 1) (Nat.le_refl _)
      rw [ht] at this
      omega
/-- a page more of words needs a page more -/
theorem Nums.page (h : Szs s) (N : Nums s n M m) {n' : Nat → Int} {M' : Int} (N' : Nums s n' M' m) (hM : 0 ≤ M) (hMM : M + s m ≤ M') : n m + s m ≤ n' m := by
  have hp := h.pos m
  have lt := N'.less h h N hM (by omega) id rfl (fun i _ => by simp) (fun i _ => rfl) (fun i h => h)
  cases m with
  | zero => rw [N.n0, N'.n0]; exact hMM
  | succ i =>
    have hMM2 : 0 ≤ M' := by omega
    rw [N.form h hM (by omega), N'.form h hMM2 (by omega)]
    have hAB : AB s n (s (i + 1)) (i + 1) ≤ AB s n' (s (i + 1)) (i + 1) := by
      have go : ∀ k, k ≤ i + 1 → AB s n (s (i + 1)) k ≤ AB s n' (s (i + 1)) k := by
        intro k
        induction k with
        | zero => intro _; exact Int.le_refl _
        | succ k ihk =>
          intro hk
          have i1 := ihk (by omega)
          have i2 : cc (n k) (s (i + 1)) ≤ cc (n' k) (s (i + 1)) := cc_mono hp (lt k (by omega))
          have h3 := Int.mul_le_mul_of_nonneg_right i2 (show 0 ≤ s (k + 1) - s k by have := h.step k; omega)
          simp only [AB]
          omega
      exact go (i + 1) (Nat.le_refl _)
    have e1 : (M + AB s n (s (i + 1)) (i + 1) + s (i + 1) * 1) / s (i + 1) = (M + AB s n (s (i + 1)) (i + 1)) / s (i + 1) + 1 := Int.add_mul_ediv_left _ _ (Int.ne_of_gt hp)
    have e2 : (M + AB s n (s (i + 1)) (i + 1) + s (i + 1) * 1) / s (i + 1) ≤ (M' + AB s n' (s (i + 1)) (i + 1)) / s (i + 1) := Int.ediv_le_ediv hp (by omega)
    rw [e1] at e2
    have := Int.mul_le_mul_of_nonneg_left e2 (Int.le_of_lt hp)
    rw [Int.mul_add] at this
    omega
/-- the careless pages suffice -/
theorem Nums.careless (h : Szs s) (N : Nums s n M m) (hM : 0 ≤ M) {P : Int} (hP0 : 0 ≤ P) (hP : ∀ i, i ≤ m → s i ≤ M → ∀ q, s m = s i * q → 1 + (M - s i) / q ≤ P) : ∀ i, i ≤ m → n i ≤ s m * P
  | 0, _ => by
    rw [N.n0]
    by_cases h0 : 1 ≤ M
    · have := hP 0 (by omega) (by rw [h.s0]; exact h0) (s m) (by rw [h.s0]; omega)
      rw [h.s0] at this
      have h1 : (M - 1) / s m < P := by omega
      have h2 := (Int.ediv_lt_iff_lt_mul (h.pos m)).mp h1
      have : P * s m = s m * P := Int.mul_comm _ _
      omega
    · have := Int.mul_nonneg (Int.le_of_lt (h.pos m)) hP0
      omega
  | i + 1, hi => by
    have ih := N.careless h hM hP0 hP i (by omega)
    have hp := h.pos (i + 1)
    obtain ⟨q, hq, eq⟩ := h.dvd (i := i + 1) (j := m) hi
    obtain ⟨h4, h5⟩ := (N.ll h hM i (by omega)).2.2 (by omega)
    rw [N.nx i (by omega), eq, Int.mul_assoc]
    refine Int.mul_le_mul_of_nonneg_left ?_ (Int.le_of_lt hp)
    have e4 : max 0 (M - LL s n (s (i + 1)) (i + 1)) = M - LL s n (s (i + 1)) (i + 1) := by omega
    rw [e4]
    have c1 : cc (n i) (s (i + 1)) ≤ q * P := by
      rw [cc_le hp]
      rw [eq] at ih
      grind
    have l1 : cc (n i) (s (i + 1)) ≤ LL s n (s (i + 1)) (i + 1) := by
      have go : ∀ k, k ≤ i + 1 → pv n (s (i + 1)) k ≤ LL s n (s (i + 1)) k := by
        intro k
        induction k with
        | zero => intro _; exact Int.le_refl _
        | succ k ihk =>
          intro hk
          have i1 := ihk (by omega)
          have i2 : pv n (s (i + 1)) k ≤ cc (n k) (s (i + 1)) := by
            cases k with
            | zero => exact cc_nonneg hp (by rw [N.n0]; exact hM)
            | succ k => exact cc_mono hp (N.rise h (by omega))
          have h3 := Int.mul_le_mul_of_nonneg_left (a := 1) (b := s k) (c := cc (n k) (s (i + 1)) - pv n (s (i + 1)) k) (by have := h.pos k; omega) (by omega)
          simp only [LL, pv_s]
          omega
      exact go (i + 1) (Nat.le_refl _)
    generalize cc (n i) (s (i + 1)) = c at *
    generalize LL s n (s (i + 1)) (i + 1) = l at *
    apply Int.le_of_not_gt
    intro hgt
    have h6 : q * P - c + 1 ≤ (M - l) / s (i + 1) := by omega
    have h7 := (Int.le_ediv_iff_mul_le hp).mp h6
    have hx : 0 ≤ q * P - c := by omega
    have h8 := Int.mul_le_mul_of_nonneg_left (a := 1) (b := s (i + 1)) (c := q * P - c) (by omega) hx
    have h9 : (q * P - c + 1) * s (i + 1) = (q * P - c) * s (i + 1) + s (i + 1) := by grind
    have h10 : q * P + s (i + 1) ≤ M := by omega
    have h11 := hP (i + 1) hi (by have := Int.mul_nonneg (a := q) (b := P) (by omega) hP0; omega) q eq
    have h12 : P ≤ (M - s (i + 1)) / q := (Int.le_ediv_iff_mul_le (by omega)).mpr (by rw [Int.mul_comm]; omega)
    omega
end
end BT

end
section
/-! CH: chains by their ratios; the numbers of bounds as lists. -/
namespace BT
open PySem PySem.Spec L2 PL

def prodQ (qs : List Nat) : Nat := qs.foldr (· * ·) 1
theorem prodQ_snoc (qs : List Nat) (q : Nat) : prodQ (qs ++ [q]) = prodQ qs * q := by
  induction qs with
  | nil => simp [prodQ]
  | cons p qs ih => unfold prodQ at *; simp [ih, Nat.mul_assoc]
theorem prodQ_append (a b : List Nat) : prodQ (a ++ b) = prodQ a * prodQ b := by
  induction a with
  | nil => simp [prodQ]
  | cons p qs ih => unfold prodQ at *; simp [ih, Nat.mul_assoc]
theorem prodQ_pos {qs : List Nat} (h : ∀ q ∈ qs, 1 ≤ q) : 0 < prodQ qs := by
  induction qs with
  | nil => simp [prodQ]
  | cons p qs ih =>
    have h1 := h p (by simp)
    have h2 := ih fun q z => h q (List.mem_cons_of_mem _ z)
    exact Nat.mul_pos (by omega) h2
/-- size i of a chain -/
def sz (qs : List Nat) (i : Nat) : Int := (prodQ (qs.take i) : Nat)
theorem sz_szs {qs : List Nat} (h : ∀ q ∈ qs, 1 ≤ q) : Szs (sz qs) := by
  refine ⟨rfl, fun i => ?_⟩
  unfold sz
  by_cases hi : i < qs.length
  · refine ⟨(qs[i] : Nat), ?_, ?_⟩
    · have := h qs[i] (List.getElem_mem hi)
      omega
    · rw [List.take_succ_eq_append_getElem hi, prodQ_snoc, Int.natCast_mul]
  · exact ⟨1, by decide, by rw [List.take_of_length_le (by omega), List.take_of_length_le (by omega)]; omega⟩
/-- the chain with these ratios -/
def chn (qs : List Nat) : List Int := (List.range (qs.length + 1)).map (sz qs)
theorem chn_len (qs : List Nat) : (chn qs).length = qs.length + 1 := by simp [chn]
theorem chn_at {qs : List Nat} {i : Nat} (h : i ≤ qs.length) : (chn qs)[i]? = some (sz qs i) := by
  unfold chn
  rw [List.getElem?_map, List.getElem?_range (by omega)]; rfl
theorem chn_snoc (qs : List Nat) (q : Nat) : chn (qs ++ [q]) = chn qs ++ [sz qs qs.length * q] := by
  unfold chn
  rw [List.length_append, List.length_singleton, List.range_succ, List.map_append]
  congr 1
  · apply List.map_congr_left
    intro i hi
    have : i < qs.length + 1 := by simpa using hi
    unfold sz
    rw [List.take_append_of_le_length (by omega)]
  · simp only [List.map_cons, List.map_nil]
    unfold sz
    rw [List.take_of_length_le (by simp), List.take_length, prodQ_snoc, Int.natCast_mul]
theorem chn_nil : chn [] = [1] := rfl
/-- the page -/
theorem sz_page (qs : List Nat) : sz qs qs.length = (prodQ qs : Nat) := by unfold sz; rw [List.take_length]

theorem LL_congr {s n n' : Nat → Int} {z : Int} : ∀ {k : Nat}, (∀ j, j < k → n j = n' j) → LL s n z k = LL s n' z k
  | 0, _ => rfl
  | k + 1, h => by
    rw [LL, LL, LL_congr (k := k) (fun j hj => h j (by omega)), h k (by omega)]
    congr 3
    cases k with
    | zero => rfl
    | succ k => rw [pv_s, pv_s, h k (by omega)]
/-- the numbers, with first reaches -/
def nxt (s f : Nat → Int) (M : Int) (l : List Int) (k : Nat) : Int :=
  max (s (k + 1) * (cc (l.getD k 0) (s (k + 1)) + max 0 (M - LL s (fun j => l.getD j 0) (s (k + 1)) (k + 1)) / s (k + 1))) (f (k + 1))
def numL (s f : Nat → Int) (M : Int) : Nat → List Int
  | 0 => [max M (f 0)]
  | k + 1 => numL s f M k ++ [nxt s f M (numL s f M k) k]
def num (s f : Nat → Int) (M : Int) (k : Nat) : Int := (numL s f M k).getD k 0
section
variable {s f : Nat → Int} {M : Int}
theorem numL_len : ∀ k, (numL s f M k).length = k + 1
  | 0 => rfl
  | k + 1 => by simp [numL, numL_len k]
theorem numL_at : ∀ {k j : Nat}, j ≤ k → (numL s f M k).getD j 0 = num s f M j
  | 0, j, h => by have : j = 0 := by omega
                  subst this; rfl
  | k + 1, j, h => by
    by_cases e : j = k + 1
    · subst e; rfl
    · have := numL_at (k := k) (j := j) (by omega)
      rw [← this]
      show (numL s f M k ++ [_]).getD j 0 = _
      rw [List.getD_eq_getElem?_getD, List.getD_eq_getElem?_getD, List.getElem?_append_left (by rw [numL_len]; omega)]
theorem numL_eq (k : Nat) : numL s f M k = (List.range (k + 1)).map (num s f M) := by
  apply List.ext_getElem?
  intro i
  by_cases h : i < k + 1
  · rw [List.getElem?_map, List.getElem?_range h]
    have := numL_at (s := s) (f := f) (M := M) (k := k) (j := i) (by omega)
    rw [List.getD_eq_getElem?_getD] at this
    have hl : i < (numL s f M k).length := by rw [numL_len]; exact h
    rw [List.getElem?_eq_getElem hl] at this ⊢
    simp only [Option.getD_some] at this
    simp only [Option.map_some, this]
  · rw [List.getElem?_eq_none (by rw [numL_len]; omega), List.getElem?_eq_none (by simp; omega)]
theorem num_0 : num s f M 0 = max M (f 0) := rfl
theorem num_s (k : Nat) : num s f M (k + 1) = max (s (k + 1) * (cc (num s f M k) (s (k + 1)) + max 0 (M - LL s (num s f M) (s (k + 1)) (k + 1)) / s (k + 1))) (f (k + 1)) := by
  show (numL s f M k ++ [nxt s f M (numL s f M k) k]).getD (k + 1) 0 = _
  rw [List.getD_eq_getElem?_getD, List.getElem?_append_right (by rw [numL_len]; omega), numL_len]
  simp only [Nat.sub_self, List.getElem?_cons_zero, Option.getD_some]
  unfold nxt
  rw [numL_at (Nat.le_refl k), LL_congr (n' := num s f M) (fun j hj => numL_at (by omega))]
theorem num_nums (h : Szs s) (hM : 0 ≤ M) (hf : ∀ i, f i = 0) (m : Nat) : Nums s (num s f M) M m := by
  have n0 : num s f M 0 = M := by rw [num_0, hf]; omega
  have go : ∀ i, 0 ≤ num s f M i ∧ num s f M (i + 1) = s (i + 1) * (cc (num s f M i) (s (i + 1)) + max 0 (M - LL s (num s f M) (s (i + 1)) (i + 1)) / s (i + 1)) := by
    intro i
    have pos : 0 ≤ num s f M i → 0 ≤ s (i + 1) * (cc (num s f M i) (s (i + 1)) + max 0 (M - LL s (num s f M) (s (i + 1)) (i + 1)) / s (i + 1)) := fun hn => by
      have hp := h.pos (i + 1)
      have h1 := cc_nonneg hp hn
      have h2 : 0 ≤ max 0 (M - LL s (num s f M) (s (i + 1)) (i + 1)) / s (i + 1) := Int.ediv_nonneg (by omega) (by omega)
      exact Int.mul_nonneg (by omega) (by omega)
    induction i with
    | zero =>
      have h0 : 0 ≤ num s f M 0 := by rw [n0]; exact hM
      refine ⟨h0, ?_⟩
      have := pos h0
      rw [num_s, hf]
      omega
    | succ i ih =>
      have h0 : 0 ≤ num s f M (i + 1) := by
        rw [num_s]
        rw [hf]
        exact Int.le_max_right _ _
      refine ⟨h0, ?_⟩
      have := pos h0
      rw [num_s, hf]
      omega
  exact ⟨n0, fun i _ => (go i).2⟩
end
/-- the careless pages -/
def CLL (s : Nat → Int) (M : Int) (m : Nat) : List Int := ((List.range (m + 1)).filter fun i => decide (s i ≤ M)).map (fun i => 1 + (M - s i) / (s m / s i)) ++ [0]
def CLS (s : Nat → Int) (M : Int) (m : Nat) : Int := maxL (CLL s M m)
theorem LL_sum {s n : Nat → Int} {z : Int} : ∀ {k : Nat}, ((List.range k).map fun j => (pv n z (j + 1) - pv n z j) * s j).sum = LL s n z k
  | 0 => rfl
  | k + 1 => by
    rw [List.range_succ, List.map_append, List.sum_append, LL_sum (k := k), LL]
    simp [pv_s]
theorem filt_true {α : Type} (l : List α) : l.filter (fun _ => true) = l := List.filter_eq_self.mpr (by simp)
end BT

end
section
/-! BT2: exact numbers; the smooth bound. -/
namespace BT
/-- the sum of what each ratio leaves -/
def EX (r : Nat → Int) (M : Int) : Nat → Int
  | 0 => 0
  | k + 1 => EX r M k + (M - M / r k)
section
variable {s n : Nat → Int} {M : Int} {m : Nat}
theorem Nums.exact (h : Szs s) (N : Nums s n M m) (hM : 0 ≤ M) (r u : Nat → Int) (hr : ∀ i, i < m → s (i + 1) = s i * r i ∧ 1 ≤ r i) {t : Int} (ht : M = s m * t) (hu : ∀ i, i < m → M = s m * (r i * u i)) :
    ∀ i, i ≤ m → n i = M + EX r M i ∧ ∃ k, n i = s m * k := by
  have div : ∀ i, i < m → M / r i = s m * u i := fun i hi => by
    have e : M = (s m * u i) * r i := by rw [hu i hi]; grind
    have := (hr i hi).2
    rw [e, Int.mul_ediv_cancel _ (by omega)]
  intro i
  induction i using Nat.strongRecOn with
  | _ i ih =>
    intro hi
    cases i with
    | zero => exact ⟨by rw [N.n0]; simp [EX], t, by rw [N.n0]; exact ht⟩
    | succ i =>
      have hp := h.pos (i + 1)
      obtain ⟨q, hq, eq⟩ := h.dvd (i := i + 1) (j := m) hi
      have hz : s (i + 1) ≠ 0 := by omega
      -- the words shown
      have L : ∀ k, k ≤ i → LL s n (s (i + 1)) (k + 1) = q * t * s k := by
        intro k
        induction k with
        | zero =>
          intro _
          have e1 : cc (n 0) (s (i + 1)) = q * t := by
            rw [N.n0, ht, eq, Int.mul_assoc]
            exact cc_self' hp
          simp only [LL, pv_0, e1]
          grind
        | succ k ihk =>
          intro hk
          rw [LL, ihk (by omega), pv_s]
          obtain ⟨e1, k1, f1⟩ := ih k (by omega) (by omega)
          obtain ⟨e2, k2, f2⟩ := ih (k + 1) (by omega) (by omega)
          have c1 : cc (n k) (s (i + 1)) = q * k1 := by rw [f1, eq, Int.mul_assoc]; exact cc_self' hp
          have c2 : cc (n (k + 1)) (s (i + 1)) = q * k2 := by rw [f2, eq, Int.mul_assoc]; exact cc_self' hp
          have d1 : n (k + 1) - n k = M - s m * u k := by
            rw [e1, e2, EX, div k (by omega)]; omega
          have hs := hr k (by omega)
          have hm : s m ≠ 0 := by have := h.pos m; omega
          have k12 : k2 - k1 = t - u k := by
            rw [f1, f2] at d1
            rw [ht] at d1
            have : s m * (k2 - k1) = s m * (t - u k) := by grind
            exact Int.eq_of_mul_eq_mul_left hm this
          have tu : t = r k * u k := by
            have := hu k (by omega)
            rw [ht] at this
            exact Int.eq_of_mul_eq_mul_left hm this
          rw [c1, c2, hs.1]
          have e3 : q * k2 - q * k1 = q * (t - u k) := by rw [← k12]; grind
          rw [e3, tu]
          grind
      have L1 := L i (Nat.le_refl _)
      obtain ⟨e1, k1, f1⟩ := ih i (by omega) (by omega)
      have c1 : cc (n i) (s (i + 1)) = q * k1 := by rw [f1, eq, Int.mul_assoc]; exact cc_self' hp
      have hs := hr i (by omega)
      have hm : s m ≠ 0 := by have := h.pos m; omega
      have tu : t = r i * u i := by
        have := hu i (by omega)
        rw [ht] at this
        exact Int.eq_of_mul_eq_mul_left hm this
      have mx : max 0 (M - LL s n (s (i + 1)) (i + 1)) = M - LL s n (s (i + 1)) (i + 1) := by
        have := ((N.ll h hM i (by omega)).2.2 (by omega)).1
        omega
      have e5 : M - LL s n (s (i + 1)) (i + 1) = s (i + 1) * (q * (t - u i)) := by
        rw [L1]
        have : q * t * s i = s (i + 1) * (q * u i) := by rw [hs.1, tu]; grind
        rw [this, ht, eq]; grind
      have e6 : n (i + 1) = s m * (k1 + (t - u i)) := by
        rw [N.nx i (by omega), mx, e5, Int.mul_ediv_cancel_left _ hz, c1, eq]; grind
      refine ⟨?_, _, e6⟩
      rw [e6, EX, div i (by omega)]
      rw [f1] at e1
      have : s m * (k1 + (t - u i)) = s m * k1 + (s m * t - s m * u i) := by grind
      rw [this, ← ht]
      omega
/-- at most so much more than the smooth number -/
theorem Nums.smooth (h : Szs s) (N : Nums s n M m) (hM : 0 ≤ M) (r : Nat → Int) (hr : ∀ i, i < m → s (i + 1) = s i * r i ∧ 1 ≤ r i) (left under : Nat → Int) (l0 : left 0 = M) (u0 : under 0 = 1)
    (ls : ∀ i, i < m → left (i + 1) = left i * r i + M * under i * (r i - 1)) (us : ∀ i, i < m → under (i + 1) = under i * r i) : True := trivial
end
end BT

end
section
/-! BT3: the smooth bound. -/
namespace BT
def lf (s r : Nat → Int) (M : Int) : Nat → Int
  | 0 => M
  | i + 1 => lf s r M i * r i + M * s i * (r i - 1)
def LF (s r : Nat → Int) (M : Int) : Nat → Int
  | 0 => 0
  | i + 1 => LF s r M i + lf s r M i * (r i - 1)
def SS (s n : Nat → Int) : Nat → Int
  | 0 => 0
  | k + 1 => SS s n k + n k * (s (k + 1) - s k)
section
variable {s n r : Nat → Int} {M : Int} {m : Nat}
theorem lf_eq (h0 : s 0 = 1) (hr : ∀ i, i < m → s (i + 1) = s i * r i ∧ 1 ≤ r i) : ∀ i, i ≤ m → lf s r M i = M * s i + LF s r M i
  | 0, _ => by rw [lf, LF, h0]; omega
  | i + 1, hi => by
    have ih := lf_eq h0 hr i (by omega)
    rw [lf, LF, (hr i (by omega)).1]
    grind
theorem Nums.smoothly (h : Szs s) (N : Nums s n M m) (hM : 0 ≤ M) (hr : ∀ i, i < m → s (i + 1) = s i * r i ∧ 1 ≤ r i) : ∀ i, i ≤ m → n i * s i ≤ lf s r M i + 2 * (i : Int) * (s i * s i) := by
  intro i
  induction i using Nat.strongRecOn with
  | _ i ih =>
    intro hi
    cases i with
    | zero => rw [N.n0, h.s0, lf]; omega
    | succ i =>
      have hz := h.pos (i + 1)
      generalize ez : s (i + 1) = z at *
      have f1 : n (i + 1) ≤ M + AB s n z (i + 1) := by
        rw [N.form h hM (by omega), ez, Int.mul_comm]
        exact Int.ediv_mul_le _ (Int.ne_of_gt hz)
      have f2 : ∀ k, k ≤ i + 1 → AB s n z k * z ≤ SS s n k + z * (s k - 1) := by
        intro k
        induction k with
        | zero => intro _; rw [AB, SS, h.s0]; omega
        | succ k ihk =>
          intro hk
          have a := ihk (by omega)
          have b := cc_lb (w := n k) hz
          have d : 0 ≤ s (k + 1) - s k := by have := h.step k; omega
          have e := Int.mul_le_mul_of_nonneg_right (show cc (n k) z * z ≤ n k + z by omega) d
          rw [AB, SS]
          grind
      have f3 : ∀ k, k ≤ i + 1 → SS s n k ≤ LF s r M k + 2 * (i : Int) * z * (s k - 1) := by
        intro k
        induction k with
        | zero => intro _; rw [SS, LF, h.s0]; omega
        | succ k ihk =>
          intro hk
          have a := ihk (by omega)
          have b := ih k (by omega) (by omega)
          have hs := hr k (by omega)
          have e := Int.mul_le_mul_of_nonneg_right b (show 0 ≤ r k - 1 by omega)
          have p := h.pos k
          have q : s k ≤ z := by rw [← ez]; exact h.mono (by omega)
          have d : 0 ≤ s k * (r k - 1) := Int.mul_nonneg (by omega) (by omega)
          have g1 : (k : Int) * s k ≤ (i : Int) * z := Int.mul_le_mul (by omega) q (by omega) (by omega)
          have g2 := Int.mul_le_mul_of_nonneg_right g1 d
          rw [SS, LF, hs.1]
          grind
      have f4 := f2 (i + 1) (Nat.le_refl _)
      have f5 := f3 (i + 1) (Nat.le_refl _)
      have f6 := lf_eq (M := M) h.s0 hr (i + 1) hi
      rw [ez] at f4 f5 f6
      have f7 := Int.mul_le_mul_of_nonneg_right f1 (Int.le_of_lt hz)
      have f8 : 0 ≤ (i : Int) * z := Int.mul_nonneg (by omega) (by omega)
      have f9 : 0 ≤ z * z := Int.mul_nonneg (by omega) (by omega)
      have e1 : (M + AB s n z (i + 1)) * z = M * z + AB s n z (i + 1) * z := by grind
      have e2 : 2 * (i : Int) * z * (z - 1) = 2 * ((i : Int) * (z * z)) - 2 * ((i : Int) * z) := by grind
      have e3 : z * (z - 1) = z * z - z := by grind
      have e4 : 2 * ((i + 1 : Nat) : Int) * (z * z) = 2 * ((i : Int) * (z * z)) + 2 * (z * z) := by
        rw [Int.natCast_add]; grind
      rw [e1] at f7
      rw [e2] at f5
      rw [e3] at f4
      rw [e4]
      omega
end
end BT

end
section
/-! BT4: the least live words, chunk by chunk. -/
namespace BT
def LC (s n : Nat → Int) (z c : Int) : Nat → Int
  | 0 => 0
  | k + 1 => LC s n z c k + (min c (cc (n k) z) - min c (pv n z k)) * s k
section
variable {s n : Nat → Int} {z c : Int}
theorem LC_zero (hn : ∀ j, 0 ≤ cc (n j) z) : ∀ k, LC s n z 0 k = 0
  | 0 => rfl
  | k + 1 => by
    have h1 := hn k
    have h2 : 0 ≤ pv n z k := by
      cases k with
      | zero => exact Int.le_refl _
      | succ k => exact hn k
    have e1 : min 0 (cc (n k) z) = 0 := by omega
    have e2 : min 0 (pv n z k) = 0 := by omega
    rw [LC, LC_zero hn k, e1, e2]; simp
theorem LC_end : ∀ k, (∀ j, j < k → cc (n j) z ≤ c) → (0 ≤ c) → LC s n z c k = LL s n z k
  | 0, _, _ => rfl
  | k + 1, h, hc => by
    have h1 := h k (by omega)
    have h2 : pv n z k ≤ c := by
      cases k with
      | zero => exact hc
      | succ k => exact h k (by omega)
    have e1 : min c (cc (n k) z) = cc (n k) z := by omega
    have e2 : min c (pv n z k) = pv n z k := by omega
    rw [LC, LL, LC_end k (fun j hj => h j (by omega)) hc, e1, e2]
theorem LC_below {f : Nat} (hc : 0 ≤ c) : ∀ k, k ≤ f → (∀ j, j < f → cc (n j) z ≤ c) → LC s n z (c + 1) k = LC s n z c k
  | 0, _, _ => rfl
  | k + 1, hk, h => by
    have h1 := h k (by omega)
    have h2 : pv n z k ≤ c := by
      cases k with
      | zero => exact hc
      | succ k => exact h k (by omega)
    have e1 : min (c + 1) (cc (n k) z) = min c (cc (n k) z) := by omega
    have e2 : min (c + 1) (pv n z k) = min c (pv n z k) := by omega
    rw [LC, LC, LC_below hc k (by omega) h, e1, e2]
/-- a chunk more shows the smallest size that still reaches it -/
theorem LC_step {f : Nat} (hc : 0 ≤ c) (hf : c < cc (n f) z) (hb : ∀ j, j < f → cc (n j) z ≤ c) (mono : ∀ j, cc (n j) z ≤ cc (n (j + 1)) z) : ∀ k, f < k → LC s n z (c + 1) k = LC s n z c k + s f
  | 0, h => by omega
  | k + 1, h => by
    by_cases e : k = f
    · subst e
      have h2 : pv n z k ≤ c := by
        cases k with
        | zero => exact hc
        | succ k => exact hb k (by omega)
      have e1 : min (c + 1) (cc (n k) z) = c + 1 := by omega
      have e2 : min (c + 1) (pv n z k) = pv n z k := by omega
      have e3 : min c (cc (n k) z) = c := by omega
      have e4 : min c (pv n z k) = pv n z k := by omega
      rw [LC, LC, LC_below hc k (Nat.le_refl k) hb, e1, e2, e3, e4]
      grind
    · have up : ∀ j, f ≤ j → c < cc (n j) z := fun j hj => by
        induction j with
        | zero => have : f = 0 := by omega
                  subst this; exact hf
        | succ j ih =>
          by_cases q : f = j + 1
          · subst q; exact hf
          · have := ih (by omega); have := mono j; omega
      have h1 := up k (by omega)
      have h2 : c < pv n z k := by
        cases k with
        | zero => omega
        | succ k => exact up k (by omega)
      have e1 : min (c + 1) (cc (n k) z) = c + 1 := by omega
      have e2 : min (c + 1) (pv n z k) = c + 1 := by omega
      have e3 : min c (cc (n k) z) = c := by omega
      have e4 : min c (pv n z k) = c := by omega
      rw [LC, LC, LC_step hc hf hb mono k (by omega), e1, e2, e3, e4]
      grind
end
theorem filter_first {p : Nat → Bool} {f k : Nat} (hf : f < k) (h : p f = true) (hb : ∀ j, j < f → p j = false) : ∃ r, (List.range k).filter p = f :: r := by
  have e : List.range k = List.range f ++ (List.range (k - f)).map (f + ·) := by
    have := List.range_add (n := f) (m := k - f)
    rw [← this]
    congr 1; omega
  rw [e, List.filter_append]
  have e1 : (List.range f).filter p = [] := by
    rw [List.filter_eq_nil_iff]
    intro j hj
    rw [hb j (by simpa using hj)]
    simp
  have e2 : k - f = (k - f - 1) + 1 := by omega
  rw [e1, e2, List.range_succ_eq_map, List.map_cons, List.nil_append, List.filter_cons]
  have : p (f + 0) = true := h
  rw [if_pos this]
  exact ⟨_, rfl⟩
theorem least {p : Nat → Prop} [DecidablePred p] : ∀ k, p k → ∃ f, f ≤ k ∧ p f ∧ ∀ j, j < f → ¬ p j := by
  intro k
  induction k using Nat.strongRecOn with
  | _ k ih =>
    intro hk
    by_cases h : ∃ j, j < k ∧ p j
    · obtain ⟨j, hj, hp⟩ := h
      obtain ⟨f, h1, h2, h3⟩ := ih j hj hp
      exact ⟨f, by omega, h2, h3⟩
    · exact ⟨k, Nat.le_refl k, hk, fun j hj hp => h ⟨j, hj, hp⟩⟩
end BT

end
section
/-! TP: tuples of numbers. -/
namespace BT
open PySem PySem.Spec L2 PL
theorem zip_rng {g k : Nat → PyData} {a b : Nat} (hab : b ≤ a) : zipP ((List.range a).map g) ((List.range b).map k) = (List.range b).map fun i => .tuple [g i, k i] := by
  unfold zipP
  apply List.ext_getElem?
  intro i
  rw [List.getElem?_map, List.getElem?_map]
  by_cases h : i < b
  · rw [List.getElem?_range h]
    have : ((List.range a).map g).zip ((List.range b).map k) = ((List.range a).map g).zip ((List.range b).map k) := rfl
    rw [List.getElem?_eq_getElem (by simp; omega)]
    simp
  · rw [List.getElem?_eq_none (by simp; omega), List.getElem?_eq_none (by simp; omega)]
    rfl
theorem len_map {f : Nat → PyData} {k : Nat} : ((List.range k).map f).length = k := by simp
theorem at_map {f : Nat → PyData} {k i : Nat} (h : i < k) : atI ((List.range k).map f) (i : Int) = some (f i) :=
  atI_nat (by rw [List.getElem?_map, List.getElem?_range h]; rfl)
theorem last_map {f : Nat → PyData} {k : Nat} : atI ((List.range (k + 1)).map f) (-1) = some (f k) := by
  rw [List.range_succ, List.map_append]
  exact atI_last _ _
/-- the tuple of f's first k numbers -/
def tup (k : Nat) (f : Nat → Int) : PyData := .tuple ((List.range k).map fun i => .int (f i))
theorem szs_hs {s : Nat → Int} {m : Nat} (h : Szs s) (hb : s m < 18446744073709551616) : ∀ i, i ≤ m → 0 < s i ∧ s i < 18446744073709551616 := fun i hi => ⟨h.pos i, by have := h.mono hi; omega⟩
theorem drop_rng {f : Nat → PyData} {n : Nat} : ((List.range (n + 1)).map f).drop 1 = (List.range n).map fun i => f (i + 1) := by
  rw [List.range_succ_eq_map, List.map_cons, List.map_map]
  rfl
theorem tup_ints {k : Nat} {f : Nat → Int} : tup k f = .tuple (((List.range k).map f).map PyData.int) := by
  unfold tup; rw [List.map_map]; rfl
theorem tup_at0 {k : Nat} {f : Nat → Int} : item? (tup (k + 1) f) (.int 0) = some (.int (f 0)) := at_map (f := fun i => PyData.int (f i)) (k := k + 1) (i := 0) (by omega)
theorem tup_last {k : Nat} {f : Nat → Int} : item? (tup (k + 1) f) (.int (-1)) = some (.int (f k)) := last_map
def lstI (k : Nat) (f : Nat → Int) : PyData := .list (((List.range k).map f).map PyData.int)
theorem tup_list {k : Nat} {f : Nat → Int} : list? (tup k f) = some (lstI k f) := by rw [tup_ints]; rfl
theorem tup_sort {k : Nat} {f : Nat → Int} (h : ∀ i, i + 1 < k → f i ≤ f (i + 1)) : sortI? (tup k f) = some (lstI k f) := by
  rw [tup_ints, sort_t, isort_id]
  · rfl
  · rw [List.pairwise_map]
    have mono : ∀ j i, i ≤ j → j < k → f i ≤ f j := fun j => by
      induction j with
      | zero => intro i hi _; have : i = 0 := by omega
                subst this; exact Int.le_refl _
      | succ j ih =>
        intro i hi hj
        by_cases e : i = j + 1
        · subst e; exact Int.le_refl _
        · exact Int.le_trans (ih i (by omega) (by omega)) (h j hj)
    refine List.Pairwise.imp_of_mem (R := (· < ·)) (fun {a b} ha hb hab => mono b a (Nat.le_of_lt hab) (by simpa using hb)) List.pairwise_lt_range
theorem ne_lstI {k : Nat} {f g : Nat → Int} : ne? (lstI k f) (lstI k g) = some (.bool (!decide ((List.range k).map f = (List.range k).map g))) := ne_lst
theorem tup_repr {k : Nat} {f : Nat → Int} (h : ∀ i, i < k → (f i).natAbs < 2 ^ 1000) (hk : k ≤ 8000) : ∃ x, repr? (tup k f) = some (.str x) := by
  rw [tup_ints]
  exact ⟨_, repr_tup (fun n hn => by
    obtain ⟨i, hi, rfl⟩ := List.mem_map.mp hn
    exact h i (by simpa using hi)) (by simpa using hk)⟩
theorem tup_len {k : Nat} {f : Nat → Int} : len? (tup k f) = some (.int k) := by unfold tup; rw [len_t]; simp
theorem tup_zip {k : Nat} {f g : Nat → Int} : zip? (tup k f) (tup k g) = some ((List.range k).map fun i => .tuple [.int (f i), .int (g i)]) := by
  unfold tup
  rw [zip_t, zip_rng (Nat.le_refl k)]
theorem cut_take {α : Type} (xs : List α) (k : Nat) : cut xs none (some (k : Int)) = xs.take k := by
  unfold cut
  rw [HT.sIx_nat]
  show (xs.drop 0).take (min k xs.length - 0) = _
  rw [List.drop_zero, Nat.sub_zero, ← List.take_take, List.take_length]
theorem cut_drop {α : Type} (xs : List α) (k : Nat) : cut xs (some (k : Int)) none = xs.drop k := by
  unfold cut
  rw [HT.sIx_nat]
  show (xs.drop (min k xs.length)).take (xs.length - min k xs.length) = _
  rw [List.take_of_length_le (by simp)]
  by_cases h : k ≤ xs.length
  · rw [Nat.min_eq_left h]
  · rw [Nat.min_eq_right (by omega), List.drop_length, List.drop_of_length_le (by omega)]
theorem cut_1n {α : Type} (xs : List α) : cut xs (some 1) none = xs.drop 1 := cut_drop xs 1
theorem sIx_m1 {n d : Nat} : HT.sIx (n + 1) d (some (-1)) = n := by
  show (if (-1 : Int) < 0 then ((-1 : Int) + ((n + 1 : Nat) : Int)).toNat else min (-1 : Int).toNat (n + 1)) = n
  rw [if_pos (by decide)]
  omega
theorem cut_mid {f : Nat → PyData} {m : Nat} (hm : 1 ≤ m) : cut ((List.range (m + 1)).map f) (some 1) (some (-1)) = (List.range (m - 1)).map fun i => f (i + 1) := by
  unfold cut
  rw [List.length_map, List.length_range, sIx_m1]
  have e : HT.sIx (m + 1) 0 (some 1) = 1 := by
    have := HT.sIx_nat (m + 1) 0 1
    rw [show ((1 : Nat) : Int) = 1 from rfl] at this
    rw [this]; omega
  rw [e, drop_rng, ← List.map_take, List.take_range]
  congr 2
  omega
theorem cut_last {f : Nat → PyData} {m : Nat} : cut ((List.range (m + 1)).map f) (some (-1)) none = [f m] := by
  unfold cut
  rw [List.length_map, List.length_range, sIx_m1]
  show (((List.range (m + 1)).map f).drop m).take (m + 1 - m) = _
  rw [List.range_succ, List.map_append, List.drop_left' (by simp)]
  have : m + 1 - m = 1 := by omega
  rw [this]; rfl
theorem CLS_pos {s : Nat → Int} {M : Int} {m : Nat} : 0 ≤ CLS s M m := maxL_ge (by unfold CLL; simp)
theorem CLS_ge {s : Nat → Int} {M : Int} {m i : Nat} (hi : i ≤ m) (h : s i ≤ M) : 1 + (M - s i) / (s m / s i) ≤ CLS s M m := by
  refine maxL_ge ?_
  unfold CLL
  refine List.mem_append_left _ (List.mem_map.mpr ⟨i, List.mem_filter.mpr ⟨by simp; omega, by simpa using h⟩, rfl⟩)
theorem CLS_le {s : Nat → Int} {M : Int} {m : Nat} (h : Szs s) (hM : 0 ≤ M) : CLS s M m ≤ 1 + M := by
  refine maxL_le (by unfold CLL; simp) fun x hx => ?_
  unfold CLL at hx
  rcases List.mem_append.mp hx with hx | hx
  · obtain ⟨i, hi, rfl⟩ := List.mem_map.mp hx
    have h1 := (List.mem_filter.mp hi).2
    have h2 : s i ≤ M := by simpa using h1
    have h3 := h.pos i
    have : (M - s i) / (s m / s i) ≤ M - s i := Int.ediv_le_self _ (by omega)
    omega
  · have : x = 0 := by simpa using hx
    omega
theorem num_le {s : Nat → Int} {M : Int} {m : Nat} (h : Szs s) (hM : 0 ≤ M) {i : Nat} (hi : i ≤ m) : 0 ≤ num s (fun _ => 0) M i ∧ num s (fun _ => 0) M i ≤ s m * CLS s M m := by
  have N := num_nums (f := fun _ => 0) h hM (fun _ => rfl) m
  refine ⟨N.nonneg h hM hi, N.careless h hM CLS_pos (fun j hj h1 q e => ?_) i hi⟩
  have hp := h.pos j
  have := CLS_ge (m := m) hj h1
  have e2 : s m / s j = q := by rw [e]; exact Int.mul_ediv_cancel_left _ (by omega)
  rwa [e2] at this
theorem tup_chn {qs : List Nat} : PyData.tuple ((chn qs).map PyData.int) = tup (qs.length + 1) (sz qs) := by
  unfold tup chn
  rw [List.map_map]
  rfl
theorem chn_last {qs : List Nat} : atI ((chn qs).map PyData.int) (-1) = some (.int (prodQ qs : Nat)) := by
  unfold chn
  rw [List.range_succ, List.map_append, List.map_append]
  show atI (((List.range qs.length).map (sz qs)).map PyData.int ++ [PyData.int (sz qs qs.length)]) (-1) = _
  rw [sz_page]
  exact atI_last _ _
def rt (s : Nat → Int) (i : Nat) : Int := s (i + 1) / s i
theorem rt_ok {s : Nat → Int} (h : Szs s) (i : Nat) : s (i + 1) = s i * rt s i ∧ 1 ≤ rt s i := by
  obtain ⟨q, hq, e⟩ := h.mul i
  have hp := h.pos i
  have : rt s i = q := by unfold rt; rw [e]; exact Int.mul_ediv_cancel_left _ (by omega)
  rw [this]
  exact ⟨e, hq⟩
theorem rt_lt {s : Nat → Int} {m : Nat} (h : Szs s) (hb : s m < 18446744073709551616) : ∀ i, i < m → 0 < rt s i ∧ rt s i < 18446744073709551616 := fun i hi => by
  have hs := szs_hs h hb
  obtain ⟨e, h1⟩ := rt_ok h i
  have h2 := hs (i + 1) (by omega)
  have h3 := hs i (by omega)
  have := Int.mul_le_mul_of_nonneg_right (a := 1) (b := s i) (c := rt s i) (by omega) (by omega)
  omega
end BT

end
section
/-! SZ: requests of any size: the most live words, by the cheapest requests and by all of them. -/
namespace BT
open PySem PySem.Spec L2 PL

/-! ### lists that grow by what they hold -/
def itL (z : Int) (step : List Int → Int) : Nat → List Int
  | 0 => [z]
  | k + 1 => itL z step k ++ [step (itL z step k)]
def itA (z : Int) (step : List Int → Int) (k : Nat) : Int := (itL z step k).getD k 0
section
variable {z : Int} {step : List Int → Int}
theorem itL_len : ∀ k, (itL z step k).length = k + 1
  | 0 => rfl
  | k + 1 => by simp [itL, itL_len k]
theorem itL_at : ∀ {k j : Nat}, j ≤ k → (itL z step k).getD j 0 = itA z step j
  | 0, j, h => by have : j = 0 := by omega
                  subst this; rfl
  | k + 1, j, h => by
    by_cases e : j = k + 1
    · subst e; rfl
    · have := itL_at (k := k) (j := j) (by omega)
      rw [← this]
      show (itL z step k ++ [_]).getD j 0 = _
      rw [List.getD_eq_getElem?_getD, List.getD_eq_getElem?_getD, List.getElem?_append_left (by rw [itL_len]; omega)]
theorem itL_eq (k : Nat) : itL z step k = (List.range (k + 1)).map (itA z step) := by
  apply List.ext_getElem?
  intro i
  by_cases h : i < k + 1
  · rw [List.getElem?_map, List.getElem?_range h]
    have := itL_at (z := z) (step := step) (k := k) (j := i) (by omega)
    rw [List.getD_eq_getElem?_getD] at this
    have hl : i < (itL z step k).length := by rw [itL_len]; exact h
    rw [List.getElem?_eq_getElem hl] at this ⊢
    simp only [Option.getD_some] at this
    simp only [Option.map_some, this]
  · rw [List.getElem?_eq_none (by rw [itL_len]; omega), List.getElem?_eq_none (by simp; omega)]
theorem itA_0 : itA z step 0 = z := rfl
theorem itA_s (k : Nat) : itA z step (k + 1) = step (itL z step k) := by
  show (itL z step k ++ [step (itL z step k)]).getD (k + 1) 0 = _
  rw [List.getD_eq_getElem?_getD, List.getElem?_append_right (by rw [itL_len]; omega), itL_len]
  simp
end

/-! ### the program's way: the cheapest request for each size -/
/-- the least words that want size i -/
def ls (s : Nat → Int) : Nat → Int
  | 0 => 1
  | i + 1 => s i + 1
/-- best, request behind i sizes -/
def bq (s : Nat → Int) (g : Nat → Int) (t : Nat) : Nat → Int × Int
  | 0 => (g (t - 1), 0)
  | i + 1 => if ls s i ≤ t ∧ g (t - (ls s i).toNat) + s i > (bq s g t i).1 then (g (t - (ls s i).toNat) + s i, ls s i) else bq s g t i
def PM (s : Nat → Int) (m : Nat) : Nat → Int := itA 0 fun l => (bq s (fun k => l.getD k 0) l.length (m + 1)).1
def LM (s : Nat → Int) (m : Nat) : Nat → Int
  | 0 => 0
  | t + 1 => (bq s (PM s m) (t + 1) (m + 1)).2
theorem ls_pos {s : Nat → Int} (h : Szs s) : ∀ i, 1 ≤ ls s i
  | 0 => Int.le_refl _
  | i + 1 => by
    have := h.pos i
    have e2 : ls s (i + 1) = s i + 1 := rfl
    omega
theorem bq_congr {s : Nat → Int} (h : Szs s) {g g' : Nat → Int} {t : Nat} (ht : 0 < t) (hg : ∀ k, k < t → g k = g' k) : ∀ i, bq s g t i = bq s g' t i
  | 0 => by unfold bq; rw [hg _ (by omega)]
  | i + 1 => by
    unfold bq
    rw [bq_congr h ht hg i]
    by_cases hl : ls s i ≤ t
    · have := ls_pos h i
      rw [hg (t - (ls s i).toNat) (by omega)]
    · rw [if_neg (by omega), if_neg (by omega)]
theorem PM_0 {s : Nat → Int} {m : Nat} : PM s m 0 = 0 := rfl
theorem PM_s {s : Nat → Int} (h : Szs s) {m : Nat} (t : Nat) : PM s m (t + 1) = (bq s (PM s m) (t + 1) (m + 1)).1 := by
  have e : PM s m (t + 1) = (bq s (fun k => (itL 0 (fun l => (bq s (fun k => l.getD k 0) l.length (m + 1)).1) t).getD k 0) (itL 0 (fun l => (bq s (fun k => l.getD k 0) l.length (m + 1)).1) t).length (m + 1)).1 := itA_s t
  rw [e, itL_len, bq_congr h (by omega) fun k hk => itL_at (by omega)]
  rfl
theorem bq_ge {s g : Nat → Int} {t : Nat} : ∀ i, g (t - 1) ≤ (bq s g t i).1
  | 0 => Int.le_refl _
  | i + 1 => by
    have := bq_ge (s := s) (g := g) (t := t) i
    unfold bq
    split
    · simp only; omega
    · exact this
theorem bq_ub {s g : Nat → Int} {t : Nat} : ∀ {i j : Nat}, j < i → ls s j ≤ t → g (t - (ls s j).toNat) + s j ≤ (bq s g t i).1
  | 0, j, h, _ => by omega
  | i + 1, j, h, hl => by
    unfold bq
    by_cases e : j = i
    · subst e
      split
      · exact Int.le_refl _
      · rename_i hn
        have : ¬ (g (t - (ls s j).toNat) + s j > (bq s g t j).1) := fun z => hn ⟨hl, z⟩
        omega
    · have := bq_ub (s := s) (g := g) (t := t) (i := i) (j := j) (by omega) hl
      split
      · rename_i hy
        simp only
        omega
      · exact this
theorem bq_or {s g : Nat → Int} {t : Nat} : ∀ i, bq s g t i = (g (t - 1), 0) ∨ ∃ j, j < i ∧ ls s j ≤ t ∧ bq s g t i = (g (t - (ls s j).toNat) + s j, ls s j)
  | 0 => .inl rfl
  | i + 1 => by
    have := bq_or (s := s) (g := g) (t := t) i
    unfold bq
    split
    · rename_i hy
      exact .inr ⟨i, by omega, hy.1, rfl⟩
    · rcases this with e | ⟨j, h1, h2, h3⟩
      · exact .inl e
      · exact .inr ⟨j, by omega, h2, h3⟩

/-! ### the law's way: every request -/
/-- the smallest size that has room for q -/
def rnd (s : Nat → Int) (m : Nat) (q : Int) : Int := (((List.range (m + 1)).filter fun i => decide (q ≤ s i)).map s).headD 0
theorem rnd_at {s : Nat → Int} (h : Szs s) {m : Nat} {q : Int} (h1 : 1 ≤ q) (h2 : q ≤ s m) : ∃ j, j ≤ m ∧ ((List.range (m + 1)).filter fun i => decide (q ≤ s i)).head? = some j ∧ rnd s m q = s j ∧ ls s j ≤ q ∧ q ≤ s j := by
  have ex : ∃ j, j ≤ m ∧ ((List.range (m + 1)).filter fun i => decide (q ≤ s i)).head? = some j ∧ q ≤ s j ∧ ∀ i, i < j → s i < q := by
    rw [List.head?_filter]
    cases e : List.find? (fun i => decide (q ≤ s i)) (List.range (m + 1)) with
    | none =>
      have := List.find?_eq_none.mp e m (by simp)
      simp at this
      omega
    | some j =>
      rw [List.find?_range_eq_some] at e
      simp only [decide_eq_true_eq, List.mem_range, Bool.not_eq_true', decide_eq_false_iff_not] at e
      exact ⟨j, by omega, rfl, e.1, fun i hi => by have := e.2.2 i hi; omega⟩
  obtain ⟨j, hj, e, hq, hlt⟩ := ex
  refine ⟨j, hj, e, ?_, ?_, hq⟩
  · unfold rnd
    rw [List.headD_eq_head?_getD, List.head?_map, e]
    rfl
  · cases j with
    | zero => exact h1
    | succ j =>
      have := hlt j (by omega)
      have e2 : ls s (j + 1) = s j + 1 := rfl
      omega
theorem rnd_ls {s : Nat → Int} (h : Szs s) {m : Nat} (hs : ∀ i, i < m → s i < s (i + 1)) {j : Nat} (hj : j ≤ m) : rnd s m (ls s j) = s j ∧ ls s j ≤ s j := by
  have up : ls s j ≤ s j := by
    cases j with
    | zero => rw [h.s0]; exact Int.le_refl _
    | succ j =>
      have := hs j (by omega)
      have e2 : ls s (j + 1) = s j + 1 := rfl
      omega
  obtain ⟨i, hi, _, e, h3, h4⟩ := rnd_at h (ls_pos h j) (Int.le_trans up (h.mono hj))
  refine ⟨?_, up⟩
  have : i = j := by
    rcases Nat.lt_trichotomy i j with z | z | z
    · cases j with
      | zero => omega
      | succ j =>
        have := h.mono (show i ≤ j by omega)
        have e2 : ls s (j + 1) = s j + 1 := rfl
        omega
    · exact z
    · cases i with
      | zero => omega
      | succ i =>
        have := h.mono (show j ≤ i by omega)
        have e2 : ls s (i + 1) = s i + 1 := rfl
        omega
  rw [e, this]
def FM (s : Nat → Int) (m : Nat) : Nat → Int := itA 0 fun l => maxL ((List.range (min l.length (s m).toNat)).map fun i : Nat => rnd s m ((i : Int) + 1) + l.getD (l.length - (i + 1)) 0)
theorem FM_0 {s : Nat → Int} {m : Nat} : FM s m 0 = 0 := rfl
theorem FM_s {s : Nat → Int} {m : Nat} (t : Nat) : FM s m (t + 1) = maxL ((List.range (min (t + 1) (s m).toNat)).map fun i : Nat => rnd s m ((i : Int) + 1) + FM s m (t + 1 - (i + 1))) := by
  have e : FM s m (t + 1) = _ := itA_s t
  rw [e, itL_len]
  congr 1
  apply List.map_congr_left
  intro i hi
  rw [itL_at (by omega)]
  rfl
/-- both ways tell the same -/
theorem PM_FM {s : Nat → Int} (h : Szs s) {m : Nat} (hs : ∀ i, i < m → s i < s (i + 1)) : ∀ t, PM s m t = FM s m t ∧ (∀ k, k < t → FM s m k < FM s m (k + 1)) ∧ 0 ≤ FM s m t
  | 0 => ⟨rfl, fun k hk => by omega, Int.le_refl _⟩
  | t + 1 => by
    have ih : ∀ k, k < t + 1 → PM s m k = FM s m k := fun k hk => (PM_FM h hs k).1
    obtain ⟨_, hm, h0⟩ := PM_FM h hs t
    have mono : ∀ {i j : Nat}, i ≤ j → j ≤ t → FM s m i ≤ FM s m j := fun {i j} hij hj => by
      induction j with
      | zero => have : i = 0 := by omega
                subst this; exact Int.le_refl _
      | succ j ihj =>
        by_cases e : i = j + 1
        · rw [e]; exact Int.le_refl _
        · have := ihj (by omega) (by omega)
          have := hm j (by omega)
          omega
    have hp := h.pos m
    have hpg : 0 < min (t + 1) (s m).toNat := by omega
    -- the list of all ways
    have mem : ∀ q : Nat, 1 ≤ q → q ≤ t + 1 → (q : Int) ≤ s m → rnd s m q + FM s m (t + 1 - q) ≤ FM s m (t + 1) := fun q h1 h2 h3 => by
      rw [FM_s]
      refine maxL_ge (List.mem_map.mpr ⟨q - 1, List.mem_range.mpr (by omega), ?_⟩)
      have e1 : ((q - 1 : Nat) : Int) + 1 = q := by omega
      have e2 : q - 1 + 1 = q := by omega
      rw [e1, e2]
    have one : 1 + FM s m t ≤ FM s m (t + 1) := by
      have h1 := (rnd_ls h hs (Nat.zero_le m)).1
      have h2 := mem 1 (Nat.le_refl _) (by omega) (by omega)
      have e : ls s 0 = 1 := rfl
      rw [e, h.s0] at h1
      rw [show ((1 : Nat) : Int) = 1 from rfl, h1, Nat.add_sub_cancel] at h2
      exact h2
    refine ⟨?_, fun k hk => ?_, by omega⟩
    · rw [PM_s h]
      apply Int.le_antisymm
      · rcases bq_or (s := s) (g := PM s m) (t := t + 1) (m + 1) with e | ⟨j, h1, h2, e⟩
        · rw [e]
          simp only [Nat.add_sub_cancel, ih t (Nat.lt_succ_self t)]
          omega
        · rw [e]
          simp only
          have hl := ls_pos h j
          obtain ⟨h3, h4⟩ := rnd_ls h hs (show j ≤ m by omega)
          rw [ih _ (by omega)]
          have h5 := mem (ls s j).toNat (by omega) (by omega) (by have := h.mono (show j ≤ m by omega); omega)
          rw [show (((ls s j).toNat : Nat) : Int) = ls s j by omega, h3] at h5
          omega
      · rw [FM_s]
        refine maxL_le (by intro z; have := congrArg List.length z; simp at this; omega) fun x hx => ?_
        obtain ⟨i, hi, rfl⟩ := List.mem_map.mp hx
        have hi := List.mem_range.mp hi
        obtain ⟨j, hj, _, e, h3, h4⟩ := rnd_at h (m := m) (q := (i : Int) + 1) (by omega) (by omega)
        have hl := ls_pos h j
        have h5 := bq_ub (s := s) (g := PM s m) (t := t + 1) (i := m + 1) (j := j) (by omega) (by omega)
        rw [ih _ (by omega)] at h5
        have h6 : FM s m (t + 1 - (i + 1)) ≤ FM s m (t + 1 - (ls s j).toNat) := mono (by omega) (by omega)
        rw [e]
        omega
    · by_cases e : k = t
      · subst e; omega
      · exact hm k (by omega)
end BT
namespace BT
theorem PM_le {s : Nat → Int} (h : Szs s) {m : Nat} : ∀ t : Nat, 0 ≤ PM s m t ∧ PM s m t ≤ t * s m
  | 0 => by rw [PM_0]; exact ⟨Int.le_refl _, by simp⟩
  | t + 1 => by
    have hp := h.pos m
    have step : ∀ k : Nat, k ≤ t → 0 ≤ PM s m k ∧ PM s m k ≤ t * s m := fun k hk => by
      have ih := PM_le h (m := m) k
      have := Int.mul_le_mul_of_nonneg_right (show (k : Int) ≤ t by omega) (Int.le_of_lt hp)
      omega
    have e : ((t + 1 : Nat) : Int) * s m = t * s m + s m := by rw [Int.natCast_succ, Int.add_mul, Int.one_mul]
    rw [PM_s h, e]
    rcases bq_or (s := s) (g := PM s m) (t := t + 1) (m + 1) with q | ⟨j, h1, h2, q⟩
    · rw [q]
      have := step t (Nat.le_refl _)
      simp only [Nat.add_sub_cancel]
      omega
    · rw [q]
      have hl := ls_pos h j
      have := step (t + 1 - (ls s j).toNat) (by omega)
      have := h.mono (show j ≤ m by omega)
      have := h.pos j
      simp only
      omega
theorem chn_step {qs : List Nat} (hq : ∀ q ∈ qs, 2 ≤ q) : ∀ i, i < qs.length → sz qs i < sz qs (i + 1) := fun i hi => by
  have h1 : ∀ q ∈ qs, 1 ≤ q := fun q h => by have := hq q h; omega
  have hp := (sz_szs h1).pos i
  unfold sz at *
  rw [List.take_succ_eq_append_getElem hi, prodQ_snoc, Int.natCast_mul]
  have := hq qs[i] (List.getElem_mem hi)
  have := Int.mul_le_mul_of_nonneg_left (show (2 : Int) ≤ qs[i] by omega) (Int.le_of_lt hp)
  omega
end BT

end
section
/-! RB: blocks, reaches, numbers from any reaches. -/
namespace BT
open PySem PySem.Spec L2 PL
theorem cc_alt {w z : Int} (h : 0 < z) : (w + z - 1) / z = cc w z := by
  have h1 := Int.mul_ediv_add_emod (w + z - 1) z
  have h2 := Int.emod_nonneg (w + z - 1) (Int.ne_of_gt h)
  have h3 := Int.emod_lt_of_pos (w + z - 1) h
  generalize (w + z - 1) / z = k at *
  generalize (w + z - 1) % z = r at *
  have h4 : cc w z ≤ k := (cc_le h).mpr (by rw [Int.mul_comm]; omega)
  have h5 : k - 1 < cc w z := (lt_cc h).mpr (by rw [Int.sub_mul, Int.mul_comm]; omega)
  omega
theorem maxL_swap {l : List Int} : maxL (0 :: l) = maxL (l ++ [0]) := by
  refine Int.le_antisymm (maxL_le (by simp) fun x hx => maxL_ge ?_) (maxL_le (by simp) fun x hx => maxL_ge ?_)
  · simp only [List.mem_cons, List.mem_append, List.not_mem_nil, or_false] at *
    exact hx.symm
  · simp only [List.mem_cons, List.mem_append, List.not_mem_nil, or_false] at *
    exact hx.symm
theorem nl_ints : ∀ ns : List Int, noListA (ns.map PyData.int) = true
  | [] => rfl
  | n :: ns => by simp only [List.map_cons, noListA, noList, nl_ints ns, Bool.and_self]
theorem flat_ints {ns : List Int} : flatC (.list (ns.map PyData.int)) = true := nl_ints ns
theorem flat_rng {k : Nat} {f : Nat → Int} : flatC (.list ((List.range k).map fun i => PyData.int (f i))) = true := by
  have := flat_ints (ns := (List.range k).map f)
  rwa [List.map_map] at this
def endL (s : Int) (bs : List (Int × Int)) : List Int := 0 :: (bs.filter fun b => decide (b.2 ≤ s)).map fun b => b.1 + b.2
def rch (s : Nat → Int) (bs : List (Int × Int)) (i : Nat) : Int := maxL (endL (s i) bs)
theorem rch_nn {s : Nat → Int} {bs : List (Int × Int)} {i : Nat} : 0 ≤ rch s bs i := maxL_ge (by simp [endL])
theorem rch_le {s : Nat → Int} {bs : List (Int × Int)} {i : Nat} {B : Int} (h0 : 0 ≤ B) (h : ∀ b ∈ bs, b.1 + b.2 ≤ B) : rch s bs i ≤ B := by
  refine maxL_le (by simp [endL]) fun x hx => ?_
  unfold endL at hx
  rcases List.mem_cons.mp hx with rfl | hx
  · exact h0
  · obtain ⟨b, hb, rfl⟩ := List.mem_map.mp hx
    exact h b (List.mem_filter.mp hb).1
theorem rch_ge {s : Nat → Int} {bs : List (Int × Int)} {i : Nat} {b : Int × Int} (h : b ∈ bs) (hs : b.2 ≤ s i) : b.1 + b.2 ≤ rch s bs i :=
  maxL_ge (List.mem_cons_of_mem _ (List.mem_map.mpr ⟨b, List.mem_filter.mpr ⟨h, by simpa using hs⟩, rfl⟩))
theorem rch_sub {s : Nat → Int} {bs bs' : List (Int × Int)} {i : Nat} (h : ∀ b ∈ bs', b ∈ bs) : rch s bs' i ≤ rch s bs i := by
  refine maxL_le (by simp [endL]) fun x hx => ?_
  unfold endL at hx
  rcases List.mem_cons.mp hx with rfl | hx
  · exact rch_nn
  · obtain ⟨b, hb, rfl⟩ := List.mem_map.mp hx
    have h2 := List.mem_filter.mp hb
    exact rch_ge (h b h2.1) (by simpa using h2.2)
theorem rch_nil {s : Nat → Int} {i : Nat} : rch s [] i = 0 := rfl
theorem zip_lu {k : Nat} {f : Nat → PyData} {g : Nat → Int} : zip? (.list ((List.range k).map f)) (tup k g) = some ((List.range k).map fun i => .tuple [f i, .int (g i)]) := by
  unfold tup
  rw [zip_lt, zip_rng (Nat.le_refl k)]
theorem zip_ul {k : Nat} {f : Nat → PyData} {g : Nat → Int} : zip? (tup k g) (.list ((List.range k).map f)) = some ((List.range k).map fun i => .tuple [.int (g i), f i]) := by
  unfold tup
  rw [zip_tl, zip_rng (Nat.le_refl k)]
section
variable {s f f' : Nat → Int} {M M' : Int}
theorem num_rise (h : Szs s) (i : Nat) : num s f M i ≤ num s f M (i + 1) := by
  rw [num_s]
  have hz := h.pos (i + 1)
  have h1 := cc_ub (w := num s f M i) hz
  have h2 : 0 ≤ max 0 (M - LL s (num s f M) (s (i + 1)) (i + 1)) / s (i + 1) := Int.ediv_nonneg (by omega) (by omega)
  have h3 : s (i + 1) * cc (num s f M i) (s (i + 1)) ≤ s (i + 1) * (cc (num s f M i) (s (i + 1)) + max 0 (M - LL s (num s f M) (s (i + 1)) (i + 1)) / s (i + 1)) := Int.mul_le_mul_of_nonneg_left (by omega) (by omega)
  rw [Int.mul_comm] at h1
  omega
theorem num_up (h : Szs s) {i j : Nat} (hij : i ≤ j) : num s f M i ≤ num s f M j := by
  induction j with
  | zero => have : i = 0 := by omega
            subst this; exact Int.le_refl _
  | succ j ih =>
    by_cases e : i = j + 1
    · subst e; exact Int.le_refl _
    · exact Int.le_trans (ih (by omega)) (num_rise h j)
theorem num_nn (h : Szs s) (hM : 0 ≤ M) (i : Nat) : 0 ≤ num s f M i := by
  have := num_up (f := f) (M := M) h (Nat.zero_le i)
  rw [num_0] at this
  omega
theorem LL_nn {n : Nat → Int} {z : Int} (h : Szs s) (hz : 0 < z) (n0 : 0 ≤ n 0) (up : ∀ j, n j ≤ n (j + 1)) : ∀ k, 0 ≤ LL s n z k
  | 0 => Int.le_refl 0
  | k + 1 => by
    have h1 := LL_nn h hz n0 up k
    have h2 : pv n z k ≤ cc (n k) z := by
      cases k with
      | zero => exact cc_nonneg hz n0
      | succ k => exact cc_mono hz (up k)
    have h3 := Int.mul_nonneg (a := cc (n k) z - pv n z k) (b := s k) (by omega) (by have := h.pos k; omega)
    unfold LL
    omega
theorem num_ge (i : Nat) : f i ≤ num s f M i := by
  cases i with
  | zero => rw [num_0]; omega
  | succ i => rw [num_s]; omega
theorem AB_mono {n n' : Nat → Int} {z : Int} (h : Szs s) (hz : 0 < z) : ∀ k, (∀ j, j < k → n j ≤ n' j) → AB s n z k ≤ AB s n' z k
  | 0, _ => Int.le_refl _
  | k + 1, hk => by
    have h1 := AB_mono h hz k fun j hj => hk j (by omega)
    have h2 := cc_mono hz (hk k (by omega))
    have h3 := h.step k
    have h4 := Int.mul_le_mul_of_nonneg_left (a := cc (n k) z) (b := cc (n' k) z) (c := s (k + 1) - s k) h2 (by omega)
    unfold AB
    rw [Int.mul_comm (cc (n k) z), Int.mul_comm (cc (n' k) z)] at *
    omega
theorem num_mono (h : Szs s) (hf : ∀ i, f i ≤ f' i) (hM : M ≤ M') : ∀ i, num s f M i ≤ num s f' M' i := by
  intro i
  induction i using Nat.strongRecOn with
  | _ i ih =>
    cases i with
    | zero => rw [num_0, num_0]; have := hf 0; omega
    | succ i =>
      rw [num_s, num_s]
      have hz := h.pos (i + 1)
      have hA := AB_mono (s := s) (n := num s f M) (n' := num s f' M') h hz (i + 1) fun j hj => ih j hj
      have a1 := abel s (num s f M) (s (i + 1)) (i + 1)
      have a2 := abel s (num s f' M') (s (i + 1)) (i + 1)
      rw [pv_s] at a1 a2
      have hc := cc_mono hz (ih i (by omega))
      generalize LL s (num s f M) (s (i + 1)) (i + 1) = L at *
      generalize LL s (num s f' M') (s (i + 1)) (i + 1) = L' at *
      generalize cc (num s f M i) (s (i + 1)) = c at *
      generalize cc (num s f' M' i) (s (i + 1)) = c' at *
      generalize AB s (num s f M) (s (i + 1)) (i + 1) = A at *
      generalize AB s (num s f' M') (s (i + 1)) (i + 1) = A' at *
      generalize s (i + 1) = z at *
      have e : ∀ c D : Int, z * (c + D / z) = z * ((z * c + D) / z) := fun c D => by
        rw [Int.add_comm (z * c), Int.add_mul_ediv_left _ _ (by omega), Int.add_comm]
      have goal : z * (c + max 0 (M - L) / z) ≤ z * (c' + max 0 (M' - L') / z) := by
        refine Int.mul_le_mul_of_nonneg_left ?_ (by omega)
        by_cases hd : 0 ≤ M - L
        · have e1 : max 0 (M - L) = M - L := by omega
          rw [e1]
          have h1 : c + (M - L) / z = (z * c + (M - L)) / z := by rw [Int.add_comm (z * c), Int.add_mul_ediv_left _ _ (by omega), Int.add_comm]
          have h2 : c' + (M' - L') / z = (z * c' + (M' - L')) / z := by rw [Int.add_comm (z * c'), Int.add_mul_ediv_left _ _ (by omega), Int.add_comm]
          have h3 : (M' - L') / z ≤ max 0 (M' - L') / z := Int.ediv_le_ediv hz (by omega)
          have h4 : (z * c + (M - L)) / z ≤ (z * c' + (M' - L')) / z := Int.ediv_le_ediv hz (by omega)
          omega
        · have e1 : max 0 (M - L) = 0 := by omega
          rw [e1]
          have h3 : 0 ≤ max 0 (M' - L') / z := Int.ediv_nonneg (by omega) (by omega)
          simp
          omega
      have := hf (i + 1)
      omega
theorem num_ub (h : Szs s) (hM : 0 ≤ M) {S F : Int} {m : Nat} (hS : ∀ i, i ≤ m → s i ≤ S) (hF0 : 0 ≤ F) (hF : ∀ i, f i ≤ F) : ∀ i, i ≤ m → num s f M i ≤ F + M + i * (M + S)
  | 0, _ => by rw [num_0]; have := hF 0; simp; omega
  | i + 1, hi => by
    have ih := num_ub h hM hS hF0 hF i (by omega)
    rw [num_s]
    have hz := h.pos (i + 1)
    have hl := LL_nn (n := num s f M) h hz (num_nn h hM 0) (num_rise h) (i + 1)
    have h1 := cc_lb (w := num s f M i) hz
    have h2 : max 0 (M - LL s (num s f M) (s (i + 1)) (i + 1)) / s (i + 1) * s (i + 1) ≤ max 0 (M - LL s (num s f M) (s (i + 1)) (i + 1)) := Int.ediv_mul_le _ (by omega)
    have h3 := hS (i + 1) hi
    have h4 := hF (i + 1)
    have h5 : (((i + 1 : Nat) : Int)) * (M + S) = i * (M + S) + (M + S) := by
      rw [Int.natCast_add, Int.add_mul]; simp
    have h6 : 0 ≤ (i : Int) * (M + S) := Int.mul_nonneg (by omega) (by have := hS 0 (by omega); have := h.pos 0; omega)
    rw [Int.mul_add, Int.mul_comm (s (i + 1)) (cc _ _), Int.mul_comm (s (i + 1)) (_ / _)]
    generalize cc (num s f M i) (s (i + 1)) * s (i + 1) = a at *
    generalize max 0 (M - LL s (num s f M) (s (i + 1)) (i + 1)) / s (i + 1) * s (i + 1) = b at *
    rw [h5]
    generalize (i : Int) * (M + S) = g at *
    omega
end
/-- two sizes -/
def s2 (r : Int) (i : Nat) : Int := if i = 0 then 1 else r
theorem s2_szs {r : Int} (h : 1 ≤ r) : Szs (s2 r) := ⟨rfl, fun i => by
  cases i with
  | zero => exact ⟨r, h, by simp [s2]⟩
  | succ i => exact ⟨1, Int.le_refl _, by simp [s2]⟩⟩
theorem tup_s2 {r : Int} : tup 2 (s2 r) = .tuple [.int 1, .int r] := rfl
theorem num_s2 {r M : Int} (h : 1 ≤ r) (hM : 0 ≤ M) : num (s2 r) (fun _ => 0) M 0 = M ∧ num (s2 r) (fun _ => 0) M 1 = r * (cc M r + (M - cc M r) / r) := by
  have h0 : num (s2 r) (fun _ => 0) M 0 = M := by rw [num_0]; omega
  refine ⟨h0, ?_⟩
  have h1 := num_s (s := s2 r) (f := fun _ => 0) (M := M) 0
  have e1 : s2 r (0 + 1) = r := rfl
  have e2 : s2 r 0 = 1 := rfl
  simp only [LL, pv_0, h0, e1, e2] at h1
  have hc : cc M r ≤ M := (cc_le (by omega)).mpr (by
    have := Int.mul_le_mul_of_nonneg_left (a := 1) (b := r) (c := M) (by omega) hM
    omega)
  have hc0 := cc_nonneg (w := M) (z := r) (by omega) hM
  have e3 : max 0 (M - (0 + (cc M r - 0) * 1)) = M - cc M r := by omega
  rw [e3] at h1
  have h2 : 0 ≤ (M - cc M r) / r := Int.ediv_nonneg (by omega) (by omega)
  have h3 : 0 ≤ r * (cc M r + (M - cc M r) / r) := Int.mul_nonneg (by omega) (by omega)
  rw [h1]
  omega
theorem sz_succ {qs : List Nat} {j : Nat} (h : j < qs.length) : sz qs (j + 1) = sz qs j * (qs[j] : Nat) := by
  unfold sz
  rw [List.take_succ, List.getElem?_eq_getElem h]
  show ((prodQ (qs.take j ++ [qs[j]]) : Nat) : Int) = _
  rw [prodQ_snoc, Int.natCast_mul]
theorem sz_rt {qs : List Nat} {j : Nat} (hq : ∀ q ∈ qs, 1 ≤ q) (h : j < qs.length) : rt (sz qs) j = (qs[j] : Nat) := by
  unfold rt
  rw [sz_succ h]
  exact Int.mul_ediv_cancel_left _ (by have := (sz_szs hq).pos j; omega)
end BT

end
section
namespace Lk37
open PySem PySem.Spec L2 PL BT
theorem rounded_ok {s : Nat → Int} {m : Nat} {q : Int} (hm : m ≤ 900) (h : Szs s) (h1 : 1 ≤ q) (h2 : q ≤ s m) : f_l_rounded [tup (m + 1) s, .int q] = .ok (.v (.int (rnd s m q))) [] := by
  obtain ⟨j, hj, e, e2, _, _⟩ := rnd_at h h1 h2
  obtain ⟨r, er⟩ := List.head?_eq_some_iff.mp e
  apply trF_eq
  unfold f_l_rounded m_l_rounded tup
  rw [trF_body]
  simp only [tr_bnd, tr_lft, tr_con, tr_op2, tr_op2r, tr_op2b, tr_asB, tr_trB, tr_trBp, tr_and, tr_or, tr_not, tr_if, tr_andV, tr_orV, tr_notV, tr_neg, tr_chain, tr_nil, tr_cons, tr_tup, tr_lst, tr_pn, tr_ps, tr_sl, tr_c1, tr_c1p, tr_seqI, tr_rng1, tr_rng2, tr_rng3, tr_zip, tr_enum, tr_rtV, tr_rtO, tr_aNil, tr_aV, tr_call, tr_callT, ts_next, ts_break, ts_cont, ts_seq, ts_ret, ts_retO, ts_retN, ts_expr, ts_assign, as_name, as_nil, as_cons, as_tup, ts_own, ts_if, ts_for, ts_store, varK_v, varK_o, leaf_l, leaf_d, tu_takeG, tr_rtG, rtg_o, getV_od, rtd_od, rto_od, tr_yes, wipe_n, wipe_c, unw_n, unw_c, unw1_v, unw1_e, unw1_n, getQ_0, getQ_s, isOS_v, isOS_e, nl_i, nl_b, nl_n, nl_s, nl_t, eq_self, ts_par, pev_n, pev_v, pev_o, sets_n, sets_c, tr_bor, bor_c, bor_n, sok_e, sok_vv, sok_int, sok_ss, sok_o, rtd_v, rtd_o, rto_o, tu_var, tu_op2l, tu_slp, getO_o, getS_s, getX_v, tu_aL, tu_aS, tu_take, tu_aug, tu_append, tu_pop, tu_lenS, tu_ixS, outA, scrA, isOA, isSA, outS_o, scrS_s, isO_o, isS_s, lok_gen, lix_nil, lix_v, lix_l, lix_s, sok_nil, sok_v, sok_l, sok_s, at_0, at_1, getV_v, getV_o, getL_o, add_ii, sub_ii, mul_ii, mul_ti, mul_li, fdiv_ii, mod_ii, pow_ii, neg_i, cmp_ii, addI_ii, mulI_ii, eq_ii, ne_ii, eq_ss, ne_ss, asB_b, truth_b, truth_i, truth_l, truth_t, truth_n, asI_i, item_l, item_t, len_l, len_t, abs_i, int_i, int_b, tuple_l, tuple_t, list_l, list_t, max2_ii, min2_ii, seq_l, seq_t, slice_l, slice_t, rng1_i, rng2_i, zip_l, zip_t, zip_tl, zip_lt, enum_l, add_tt, add_ll, add_ss, repr_i, atI_0, atI_1, atI_2, ixN_0, ixN_1, ixN_2, ite_some, map_some, ex_and, ex_eq, bind_some, List.set_cons_zero, List.set_cons_succ, List.length_cons, List.length_nil, Option.some.injEq, decide_eq_true_eq, Bool.not_true, Bool.not_false, Bool.and_eq_true, Bool.or_eq_true, fillA, wbA, entry, entrySls, entrySl, List.replicate, List.cons_append, List.nil_append, trF_ok, List.append_nil, List.map_nil, List.map_cons, ownIx, and_assoc, exists_and_left, exists_eq_left', exists_eq_left, Rt.v.injEq, Rt.o.injEq, List.cons.injEq, PyData.int.injEq, PyData.list.injEq, PyData.tuple.injEq, and_true, true_and, List.all_cons, List.all_nil, List.nodup_cons, List.nodup_nil, decide_true, decide_false, Bool.and_true, Bool.true_and, List.mem_cons, List.not_mem_nil, not_false_eq_true, Nat.sub_self, Nat.reduceSub, Nat.reduceAdd, if_true, if_false, Bool.false_eq_true, reduceCtorEq, false_and, and_false, or_false, false_or, and_self, Nat.zero_add, exists_eq', exists_eq, Sl.val.injEq, Sl.own.injEq, exists_const, tr_vnil, tr_vcons, tr_callX, pick_c, pick_n, List.getElem?_cons_zero, List.getElem?_cons_succ, Option.toList_some, tr_dict0, tr_dict1, ts_never, isi_tt, isi_ii, isi_bi, rev_t, rev_l, ts_dput, ts_update, getDc_o, asD_d, din_i, dnin_i, dget_i, key_i, Option.isSome_some, Option.isSome_none, tr_fld, tr_opF, tr_opFr, tr_c1F, ts_setF, ts_setFO, ts_addF, ts_addFO, ts_augF, ts_appF, tr_popF, tr_pop0F, tr_meth, tr_methT, tr_tagM, tr_fldT, tr_make, tr_leaf, getI_o, tagE_o, fV_0, fV_s, fA_0, fA_s, fO_0l, fO_0d, fO_s, fL_0, fL_s, gvS_v, qvar_at, qcon_at, qnil_at, qop_at, fldQ_at, tr_mq, ts_forO]
  refine tr_lcM (fun i => PyData.int (s i)) (List.range (m + 1)) (fun i => decide (q ≤ s i)) (fun i => PyData.int (s i)) ?_
  simp only [tr_bnd, tr_lft, tr_con, tr_op2, tr_op2r, tr_op2b, tr_asB, tr_trB, tr_trBp, tr_and, tr_or, tr_not, tr_if, tr_andV, tr_orV, tr_notV, tr_neg, tr_chain, tr_nil, tr_cons, tr_tup, tr_lst, tr_pn, tr_ps, tr_sl, tr_c1, tr_c1p, tr_seqI, tr_rng1, tr_rng2, tr_rng3, tr_zip, tr_enum, tr_rtV, tr_rtO, tr_aNil, tr_aV, tr_call, tr_callT, ts_next, ts_break, ts_cont, ts_seq, ts_ret, ts_retO, ts_retN, ts_expr, ts_assign, as_name, as_nil, as_cons, as_tup, ts_own, ts_if, ts_for, ts_store, varK_v, varK_o, leaf_l, leaf_d, tu_takeG, tr_rtG, rtg_o, getV_od, rtd_od, rto_od, tr_yes, wipe_n, wipe_c, unw_n, unw_c, unw1_v, unw1_e, unw1_n, getQ_0, getQ_s, isOS_v, isOS_e, nl_i, nl_b, nl_n, nl_s, nl_t, eq_self, ts_par, pev_n, pev_v, pev_o, sets_n, sets_c, tr_bor, bor_c, bor_n, sok_e, sok_vv, sok_int, sok_ss, sok_o, rtd_v, rtd_o, rto_o, tu_var, tu_op2l, tu_slp, getO_o, getS_s, getX_v, tu_aL, tu_aS, tu_take, tu_aug, tu_append, tu_pop, tu_lenS, tu_ixS, outA, scrA, isOA, isSA, outS_o, scrS_s, isO_o, isS_s, lok_gen, lix_nil, lix_v, lix_l, lix_s, sok_nil, sok_v, sok_l, sok_s, at_0, at_1, getV_v, getV_o, getL_o, add_ii, sub_ii, mul_ii, mul_ti, mul_li, fdiv_ii, mod_ii, pow_ii, neg_i, cmp_ii, addI_ii, mulI_ii, eq_ii, ne_ii, eq_ss, ne_ss, asB_b, truth_b, truth_i, truth_l, truth_t, truth_n, asI_i, item_l, item_t, len_l, len_t, abs_i, int_i, int_b, tuple_l, tuple_t, list_l, list_t, max2_ii, min2_ii, seq_l, seq_t, slice_l, slice_t, rng1_i, rng2_i, zip_l, zip_t, zip_tl, zip_lt, enum_l, add_tt, add_ll, add_ss, repr_i, atI_0, atI_1, atI_2, ixN_0, ixN_1, ixN_2, ite_some, map_some, ex_and, ex_eq, bind_some, List.set_cons_zero, List.set_cons_succ, List.length_cons, List.length_nil, Option.some.injEq, decide_eq_true_eq, Bool.not_true, Bool.not_false, Bool.and_eq_true, Bool.or_eq_true, fillA, wbA, entry, entrySls, entrySl, List.replicate, List.cons_append, List.nil_append, trF_ok, List.append_nil, List.map_nil, List.map_cons, ownIx, and_assoc, exists_and_left, exists_eq_left', exists_eq_left, Rt.v.injEq, Rt.o.injEq, List.cons.injEq, PyData.int.injEq, PyData.list.injEq, PyData.tuple.injEq, and_true, true_and, List.all_cons, List.all_nil, List.nodup_cons, List.nodup_nil, decide_true, decide_false, Bool.and_true, Bool.true_and, List.mem_cons, List.not_mem_nil, not_false_eq_true, Nat.sub_self, Nat.reduceSub, Nat.reduceAdd, if_true, if_false, Bool.false_eq_true, reduceCtorEq, false_and, and_false, or_false, false_or, and_self, Nat.zero_add, exists_eq', exists_eq, Sl.val.injEq, Sl.own.injEq, exists_const, tr_vnil, tr_vcons, tr_callX, pick_c, pick_n, List.getElem?_cons_zero, List.getElem?_cons_succ, Option.toList_some, tr_dict0, tr_dict1, ts_never, isi_tt, isi_ii, isi_bi, rev_t, rev_l, ts_dput, ts_update, getDc_o, asD_d, din_i, dnin_i, dget_i, key_i, Option.isSome_some, Option.isSome_none, tr_fld, tr_opF, tr_opFr, tr_c1F, ts_setF, ts_setFO, ts_addF, ts_addFO, ts_augF, ts_appF, tr_popF, tr_pop0F, tr_meth, tr_methT, tr_tagM, tr_fldT, tr_make, tr_leaf, getI_o, tagE_o, fV_0, fV_s, fA_0, fA_s, fO_0l, fO_0d, fO_s, fL_0, fL_s, gvS_v, qvar_at, qcon_at, qnil_at, qop_at, fldQ_at, tr_mq, ts_forO, er]
  exact ⟨fun d _ => by split <;> trivial, lenOk_of (by simp; omega), e2.symm⟩
theorem bqmax {s : Nat → Int} {m t : Nat} (h : Szs s) : maxL ((PM s m t) :: ((List.range (m + 1)).filter fun i => decide (ls s i ≤ (t + 1 : Nat))).map fun i => PM s m (t + 1 - (ls s i).toNat) + s i) = PM s m (t + 1) := by
  rw [PM_s h]
  apply Int.le_antisymm
  · refine maxL_le (by simp) fun x hx => ?_
    rcases List.mem_cons.mp hx with rfl | hx
    · have := bq_ge (s := s) (g := PM s m) (t := t + 1) (m + 1)
      rwa [Nat.add_sub_cancel] at this
    · obtain ⟨i, hi, rfl⟩ := List.mem_map.mp hx
      obtain ⟨h1, h2⟩ := List.mem_filter.mp hi
      exact bq_ub (by simpa using h1) (by simpa using h2)
  · rcases bq_or (s := s) (g := PM s m) (t := t + 1) (m + 1) with e | ⟨j, h1, h2, e⟩
    · rw [e]
      exact maxL_ge (by simp)
    · rw [e]
      refine maxL_ge (List.mem_cons_of_mem _ (List.mem_map.mpr ⟨j, List.mem_filter.mpr ⟨by simpa using h1, by simpa using h2⟩, rfl⟩))
theorem lmost_ok {s : Nat → Int} {m n : Nat} (hm : m ≤ 900) (hn : n ≤ 100000) (h : Szs s) : f_l_most [tup (m + 1) s, .int n] = .ok (.v (.int (PM s m n))) [] := by
  have hp := h.pos m
  apply trF_eq
  unfold f_l_most m_l_most tup
  rw [trF_body]
  simp only [tr_bnd, tr_lft, tr_con, tr_op2, tr_op2r, tr_op2b, tr_asB, tr_trB, tr_trBp, tr_and, tr_or, tr_not, tr_if, tr_andV, tr_orV, tr_notV, tr_neg, tr_chain, tr_nil, tr_cons, tr_tup, tr_lst, tr_pn, tr_ps, tr_sl, tr_c1, tr_c1p, tr_seqI, tr_rng1, tr_rng2, tr_rng3, tr_zip, tr_enum, tr_rtV, tr_rtO, tr_aNil, tr_aV, tr_call, tr_callT, ts_next, ts_break, ts_cont, ts_seq, ts_ret, ts_retO, ts_retN, ts_expr, ts_assign, as_name, as_nil, as_cons, as_tup, ts_own, ts_if, ts_for, ts_store, varK_v, varK_o, leaf_l, leaf_d, tu_takeG, tr_rtG, rtg_o, getV_od, rtd_od, rto_od, tr_yes, wipe_n, wipe_c, unw_n, unw_c, unw1_v, unw1_e, unw1_n, getQ_0, getQ_s, isOS_v, isOS_e, nl_i, nl_b, nl_n, nl_s, nl_t, eq_self, ts_par, pev_n, pev_v, pev_o, sets_n, sets_c, tr_bor, bor_c, bor_n, sok_e, sok_vv, sok_int, sok_ss, sok_o, rtd_v, rtd_o, rto_o, tu_var, tu_op2l, tu_slp, getO_o, getS_s, getX_v, tu_aL, tu_aS, tu_take, tu_aug, tu_append, tu_pop, tu_lenS, tu_ixS, outA, scrA, isOA, isSA, outS_o, scrS_s, isO_o, isS_s, lok_gen, lix_nil, lix_v, lix_l, lix_s, sok_nil, sok_v, sok_l, sok_s, at_0, at_1, getV_v, getV_o, getL_o, add_ii, sub_ii, mul_ii, mul_ti, mul_li, fdiv_ii, mod_ii, pow_ii, neg_i, cmp_ii, addI_ii, mulI_ii, eq_ii, ne_ii, eq_ss, ne_ss, asB_b, truth_b, truth_i, truth_l, truth_t, truth_n, asI_i, item_l, item_t, len_l, len_t, abs_i, int_i, int_b, tuple_l, tuple_t, list_l, list_t, max2_ii, min2_ii, seq_l, seq_t, slice_l, slice_t, rng1_i, rng2_i, zip_l, zip_t, zip_tl, zip_lt, enum_l, add_tt, add_ll, add_ss, repr_i, atI_0, atI_1, atI_2, ixN_0, ixN_1, ixN_2, ite_some, map_some, ex_and, ex_eq, bind_some, List.set_cons_zero, List.set_cons_succ, List.length_cons, List.length_nil, Option.some.injEq, decide_eq_true_eq, Bool.not_true, Bool.not_false, Bool.and_eq_true, Bool.or_eq_true, fillA, wbA, entry, entrySls, entrySl, List.replicate, List.cons_append, List.nil_append, trF_ok, List.append_nil, List.map_nil, List.map_cons, ownIx, and_assoc, exists_and_left, exists_eq_left', exists_eq_left, Rt.v.injEq, Rt.o.injEq, List.cons.injEq, PyData.int.injEq, PyData.list.injEq, PyData.tuple.injEq, and_true, true_and, List.all_cons, List.all_nil, List.nodup_cons, List.nodup_nil, decide_true, decide_false, Bool.and_true, Bool.true_and, List.mem_cons, List.not_mem_nil, not_false_eq_true, Nat.sub_self, Nat.reduceSub, Nat.reduceAdd, if_true, if_false, Bool.false_eq_true, reduceCtorEq, false_and, and_false, or_false, false_or, and_self, Nat.zero_add, exists_eq', exists_eq, Sl.val.injEq, Sl.own.injEq, exists_const, tr_vnil, tr_vcons, tr_callX, pick_c, pick_n, List.getElem?_cons_zero, List.getElem?_cons_succ, Option.toList_some, tr_dict0, tr_dict1, ts_never, isi_tt, isi_ii, isi_bi, rev_t, rev_l, ts_dput, ts_update, getDc_o, asD_d, din_i, dnin_i, dget_i, key_i, Option.isSome_some, Option.isSome_none, tr_fld, tr_opF, tr_opFr, tr_c1F, ts_setF, ts_setFO, ts_addF, ts_addFO, ts_augF, ts_appF, tr_popF, tr_pop0F, tr_meth, tr_methT, tr_tagM, tr_fldT, tr_make, tr_leaf, getI_o, tagE_o, fV_0, fV_s, fA_0, fA_s, fO_0l, fO_0d, fO_s, fL_0, fL_s, gvS_v, qvar_at, qcon_at, qnil_at, qop_at, fldQ_at, tr_mq, ts_forO, len_map, cut_1n, drop_rng]
  rw [zip_rng (Nat.le_succ m)]
  refine ⟨lenOk_of (by decide), lenOk_of (by decide), lenOk_of (by decide), ?_⟩
  have e0 : PyData.tuple [.int 1, .int 1] = .tuple [.int (ls s 0), .int (s 0)] := by rw [h.s0]; rfl
  refine ts_forM (fun i => PyData.tuple [.int (s i), .int (s (i + 1))]) (List.range m) rfl (fun i r => ∃ x4 x5, (x5 = .emp ∨ ∃ v, x5 = .val (.int v)) ∧ isOS x4 = false ∧ r = [.val (.tuple ((List.range (m + 1)).map fun i => .int (s i))), .val (.int n), .own (.list [.int 0]), .own (.list ((List.range (i + 1)).map fun i => .tuple [.int (ls s i), .int (s i)])), x4, x5, .emp, .emp]) ⟨.emp, .emp, .inl rfl, rfl, by rw [e0]; rfl⟩ (fun i k r hi hr => ?_) (fun r hr => ?_)
  · obtain ⟨x4, x5, h5, h4, rfl⟩ := hr
    obtain ⟨him, rfl⟩ : i < m ∧ k = i := by
      have h1 := (List.getElem?_eq_some_iff.mp hi).1
      rw [List.length_range] at h1
      rw [List.getElem?_range h1] at hi
      exact ⟨h1, (Option.some.inj hi).symm⟩
    simp only [tr_bnd, tr_lft, tr_con, tr_op2, tr_op2r, tr_op2b, tr_asB, tr_trB, tr_trBp, tr_and, tr_or, tr_not, tr_if, tr_andV, tr_orV, tr_notV, tr_neg, tr_chain, tr_nil, tr_cons, tr_tup, tr_lst, tr_pn, tr_ps, tr_sl, tr_c1, tr_c1p, tr_seqI, tr_rng1, tr_rng2, tr_rng3, tr_zip, tr_enum, tr_rtV, tr_rtO, tr_aNil, tr_aV, tr_call, tr_callT, ts_next, ts_break, ts_cont, ts_seq, ts_ret, ts_retO, ts_retN, ts_expr, ts_assign, as_name, as_nil, as_cons, as_tup, ts_own, ts_if, ts_for, ts_store, varK_v, varK_o, leaf_l, leaf_d, tu_takeG, tr_rtG, rtg_o, getV_od, rtd_od, rto_od, tr_yes, wipe_n, wipe_c, unw_n, unw_c, unw1_v, unw1_e, unw1_n, getQ_0, getQ_s, isOS_v, isOS_e, nl_i, nl_b, nl_n, nl_s, nl_t, eq_self, ts_par, pev_n, pev_v, pev_o, sets_n, sets_c, tr_bor, bor_c, bor_n, sok_e, sok_vv, sok_int, sok_ss, sok_o, rtd_v, rtd_o, rto_o, tu_var, tu_op2l, tu_slp, getO_o, getS_s, getX_v, tu_aL, tu_aS, tu_take, tu_aug, tu_append, tu_pop, tu_lenS, tu_ixS, outA, scrA, isOA, isSA, outS_o, scrS_s, isO_o, isS_s, lok_gen, lix_nil, lix_v, lix_l, lix_s, sok_nil, sok_v, sok_l, sok_s, at_0, at_1, getV_v, getV_o, getL_o, add_ii, sub_ii, mul_ii, mul_ti, mul_li, fdiv_ii, mod_ii, pow_ii, neg_i, cmp_ii, addI_ii, mulI_ii, eq_ii, ne_ii, eq_ss, ne_ss, asB_b, truth_b, truth_i, truth_l, truth_t, truth_n, asI_i, item_l, item_t, len_l, len_t, abs_i, int_i, int_b, tuple_l, tuple_t, list_l, list_t, max2_ii, min2_ii, seq_l, seq_t, slice_l, slice_t, rng1_i, rng2_i, zip_l, zip_t, zip_tl, zip_lt, enum_l, add_tt, add_ll, add_ss, repr_i, atI_0, atI_1, atI_2, ixN_0, ixN_1, ixN_2, ite_some, map_some, ex_and, ex_eq, bind_some, List.set_cons_zero, List.set_cons_succ, List.length_cons, List.length_nil, Option.some.injEq, decide_eq_true_eq, Bool.not_true, Bool.not_false, Bool.and_eq_true, Bool.or_eq_true, fillA, wbA, entry, entrySls, entrySl, List.replicate, List.cons_append, List.nil_append, trF_ok, List.append_nil, List.map_nil, List.map_cons, ownIx, and_assoc, exists_and_left, exists_eq_left', exists_eq_left, Rt.v.injEq, Rt.o.injEq, List.cons.injEq, PyData.int.injEq, PyData.list.injEq, PyData.tuple.injEq, and_true, true_and, List.all_cons, List.all_nil, List.nodup_cons, List.nodup_nil, decide_true, decide_false, Bool.and_true, Bool.true_and, List.mem_cons, List.not_mem_nil, not_false_eq_true, Nat.sub_self, Nat.reduceSub, Nat.reduceAdd, if_true, if_false, Bool.false_eq_true, reduceCtorEq, false_and, and_false, or_false, false_or, and_self, Nat.zero_add, exists_eq', exists_eq, Sl.val.injEq, Sl.own.injEq, exists_const, tr_vnil, tr_vcons, tr_callX, pick_c, pick_n, List.getElem?_cons_zero, List.getElem?_cons_succ, Option.toList_some, tr_dict0, tr_dict1, ts_never, isi_tt, isi_ii, isi_bi, rev_t, rev_l, ts_dput, ts_update, getDc_o, asD_d, din_i, dnin_i, dget_i, key_i, Option.isSome_some, Option.isSome_none, tr_fld, tr_opF, tr_opFr, tr_c1F, ts_setF, ts_setFO, ts_addF, ts_addFO, ts_augF, ts_appF, tr_popF, tr_pop0F, tr_meth, tr_methT, tr_tagM, tr_fldT, tr_make, tr_leaf, getI_o, tagE_o, fV_0, fV_s, fA_0, fA_s, fO_0l, fO_0d, fO_s, fL_0, fL_s, gvS_v, qvar_at, qcon_at, qnil_at, qop_at, fldQ_at, tr_mq, ts_forO]
    refine ⟨lenOk_of (by decide), lenOk_of (by simp; omega), ?_⟩
    rw [List.range_succ (n := k + 1), List.map_append]
    exact ⟨_, _, .inr ⟨_, rfl⟩, rfl, rfl, rfl, rfl⟩
  · obtain ⟨x4, x5, h5, h4, rfl⟩ := hr
    simp only [tr_bnd, tr_lft, tr_con, tr_op2, tr_op2r, tr_op2b, tr_asB, tr_trB, tr_trBp, tr_and, tr_or, tr_not, tr_if, tr_andV, tr_orV, tr_notV, tr_neg, tr_chain, tr_nil, tr_cons, tr_tup, tr_lst, tr_pn, tr_ps, tr_sl, tr_c1, tr_c1p, tr_seqI, tr_rng1, tr_rng2, tr_rng3, tr_zip, tr_enum, tr_rtV, tr_rtO, tr_aNil, tr_aV, tr_call, tr_callT, ts_next, ts_break, ts_cont, ts_seq, ts_ret, ts_retO, ts_retN, ts_expr, ts_assign, as_name, as_nil, as_cons, as_tup, ts_own, ts_if, ts_for, ts_store, varK_v, varK_o, leaf_l, leaf_d, tu_takeG, tr_rtG, rtg_o, getV_od, rtd_od, rto_od, tr_yes, wipe_n, wipe_c, unw_n, unw_c, unw1_v, unw1_e, unw1_n, getQ_0, getQ_s, isOS_v, isOS_e, nl_i, nl_b, nl_n, nl_s, nl_t, eq_self, ts_par, pev_n, pev_v, pev_o, sets_n, sets_c, tr_bor, bor_c, bor_n, sok_e, sok_vv, sok_int, sok_ss, sok_o, rtd_v, rtd_o, rto_o, tu_var, tu_op2l, tu_slp, getO_o, getS_s, getX_v, tu_aL, tu_aS, tu_take, tu_aug, tu_append, tu_pop, tu_lenS, tu_ixS, outA, scrA, isOA, isSA, outS_o, scrS_s, isO_o, isS_s, lok_gen, lix_nil, lix_v, lix_l, lix_s, sok_nil, sok_v, sok_l, sok_s, at_0, at_1, getV_v, getV_o, getL_o, add_ii, sub_ii, mul_ii, mul_ti, mul_li, fdiv_ii, mod_ii, pow_ii, neg_i, cmp_ii, addI_ii, mulI_ii, eq_ii, ne_ii, eq_ss, ne_ss, asB_b, truth_b, truth_i, truth_l, truth_t, truth_n, asI_i, item_l, item_t, len_l, len_t, abs_i, int_i, int_b, tuple_l, tuple_t, list_l, list_t, max2_ii, min2_ii, seq_l, seq_t, slice_l, slice_t, rng1_i, rng2_i, zip_l, zip_t, zip_tl, zip_lt, enum_l, add_tt, add_ll, add_ss, repr_i, atI_0, atI_1, atI_2, ixN_0, ixN_1, ixN_2, ite_some, map_some, ex_and, ex_eq, bind_some, List.set_cons_zero, List.set_cons_succ, List.length_cons, List.length_nil, Option.some.injEq, decide_eq_true_eq, Bool.not_true, Bool.not_false, Bool.and_eq_true, Bool.or_eq_true, fillA, wbA, entry, entrySls, entrySl, List.replicate, List.cons_append, List.nil_append, trF_ok, List.append_nil, List.map_nil, List.map_cons, ownIx, and_assoc, exists_and_left, exists_eq_left', exists_eq_left, Rt.v.injEq, Rt.o.injEq, List.cons.injEq, PyData.int.injEq, PyData.list.injEq, PyData.tuple.injEq, and_true, true_and, List.all_cons, List.all_nil, List.nodup_cons, List.nodup_nil, decide_true, decide_false, Bool.and_true, Bool.true_and, List.mem_cons, List.not_mem_nil, not_false_eq_true, Nat.sub_self, Nat.reduceSub, Nat.reduceAdd, if_true, if_false, Bool.false_eq_true, reduceCtorEq, false_and, and_false, or_false, false_or, and_self, Nat.zero_add, exists_eq', exists_eq, Sl.val.injEq, Sl.own.injEq, exists_const, tr_vnil, tr_vcons, tr_callX, pick_c, pick_n, List.getElem?_cons_zero, List.getElem?_cons_succ, Option.toList_some, tr_dict0, tr_dict1, ts_never, isi_tt, isi_ii, isi_bi, rev_t, rev_l, ts_dput, ts_update, getDc_o, asD_d, din_i, dnin_i, dget_i, key_i, Option.isSome_some, Option.isSome_none, tr_fld, tr_opF, tr_opFr, tr_c1F, ts_setF, ts_setFO, ts_addF, ts_addFO, ts_augF, ts_appF, tr_popF, tr_pop0F, tr_meth, tr_methT, tr_tagM, tr_fldT, tr_make, tr_leaf, getI_o, tagE_o, fV_0, fV_s, fA_0, fA_s, fO_0l, fO_0d, fO_s, fL_0, fL_s, gvS_v, qvar_at, qcon_at, qnil_at, qop_at, fldQ_at, tr_mq, ts_forO, List.length_range]
    refine ⟨rOk_of (by omega) (by omega), rOk_of (by omega) (by omega), ?_⟩
    have e1 : ((n : Int) + 1 - 1).toNat = n := by omega
    rw [e1]
    refine ts_range (fun t r => ∃ x6, isOS x6 = false ∧ r = [.val (.tuple ((List.range (m + 1)).map fun i => .int (s i))), .val (.int n), .own (.list ((List.range (t + 1)).map fun k => .int (PM s m k))), .own (.list ((List.range (m + 1)).map fun i => .tuple [.int (ls s i), .int (s i)])), x4, x5, x6, .emp]) ⟨.emp, rfl, rfl⟩ (fun t r ht hr => ?_) (fun r hr => ?_)
    · obtain ⟨x6, h6, rfl⟩ := hr
      simp only [tr_bnd, tr_lft, tr_con, tr_op2, tr_op2r, tr_op2b, tr_asB, tr_trB, tr_trBp, tr_and, tr_or, tr_not, tr_if, tr_andV, tr_orV, tr_notV, tr_neg, tr_chain, tr_nil, tr_cons, tr_tup, tr_lst, tr_pn, tr_ps, tr_sl, tr_c1, tr_c1p, tr_seqI, tr_rng1, tr_rng2, tr_rng3, tr_zip, tr_enum, tr_rtV, tr_rtO, tr_aNil, tr_aV, tr_call, tr_callT, ts_next, ts_break, ts_cont, ts_seq, ts_ret, ts_retO, ts_retN, ts_expr, ts_assign, as_name, as_nil, as_cons, as_tup, ts_own, ts_if, ts_for, ts_store, varK_v, varK_o, leaf_l, leaf_d, tu_takeG, tr_rtG, rtg_o, getV_od, rtd_od, rto_od, tr_yes, wipe_n, wipe_c, unw_n, unw_c, unw1_v, unw1_e, unw1_n, getQ_0, getQ_s, isOS_v, isOS_e, nl_i, nl_b, nl_n, nl_s, nl_t, eq_self, ts_par, pev_n, pev_v, pev_o, sets_n, sets_c, tr_bor, bor_c, bor_n, sok_e, sok_vv, sok_int, sok_ss, sok_o, rtd_v, rtd_o, rto_o, tu_var, tu_op2l, tu_slp, getO_o, getS_s, getX_v, tu_aL, tu_aS, tu_take, tu_aug, tu_append, tu_pop, tu_lenS, tu_ixS, outA, scrA, isOA, isSA, outS_o, scrS_s, isO_o, isS_s, lok_gen, lix_nil, lix_v, lix_l, lix_s, sok_nil, sok_v, sok_l, sok_s, at_0, at_1, getV_v, getV_o, getL_o, add_ii, sub_ii, mul_ii, mul_ti, mul_li, fdiv_ii, mod_ii, pow_ii, neg_i, cmp_ii, addI_ii, mulI_ii, eq_ii, ne_ii, eq_ss, ne_ss, asB_b, truth_b, truth_i, truth_l, truth_t, truth_n, asI_i, item_l, item_t, len_l, len_t, abs_i, int_i, int_b, tuple_l, tuple_t, list_l, list_t, max2_ii, min2_ii, seq_l, seq_t, slice_l, slice_t, rng1_i, rng2_i, zip_l, zip_t, zip_tl, zip_lt, enum_l, add_tt, add_ll, add_ss, repr_i, atI_0, atI_1, atI_2, ixN_0, ixN_1, ixN_2, ite_some, map_some, ex_and, ex_eq, bind_some, List.set_cons_zero, List.set_cons_succ, List.length_cons, List.length_nil, Option.some.injEq, decide_eq_true_eq, Bool.not_true, Bool.not_false, Bool.and_eq_true, Bool.or_eq_true, fillA, wbA, entry, entrySls, entrySl, List.replicate, List.cons_append, List.nil_append, trF_ok, List.append_nil, List.map_nil, List.map_cons, ownIx, and_assoc, exists_and_left, exists_eq_left', exists_eq_left, Rt.v.injEq, Rt.o.injEq, List.cons.injEq, PyData.int.injEq, PyData.list.injEq, PyData.tuple.injEq, and_true, true_and, List.all_cons, List.all_nil, List.nodup_cons, List.nodup_nil, decide_true, decide_false, Bool.and_true, Bool.true_and, List.mem_cons, List.not_mem_nil, not_false_eq_true, Nat.sub_self, Nat.reduceSub, Nat.reduceAdd, if_true, if_false, Bool.false_eq_true, reduceCtorEq, false_and, and_false, or_false, false_or, and_self, Nat.zero_add, exists_eq', exists_eq, Sl.val.injEq, Sl.own.injEq, exists_const, tr_vnil, tr_vcons, tr_callX, pick_c, pick_n, List.getElem?_cons_zero, List.getElem?_cons_succ, Option.toList_some, tr_dict0, tr_dict1, ts_never, isi_tt, isi_ii, isi_bi, rev_t, rev_l, ts_dput, ts_update, getDc_o, asD_d, din_i, dnin_i, dget_i, key_i, Option.isSome_some, Option.isSome_none, tr_fld, tr_opF, tr_opFr, tr_c1F, ts_setF, ts_setFO, ts_addF, ts_addFO, ts_augF, ts_appF, tr_popF, tr_pop0F, tr_meth, tr_methT, tr_tagM, tr_fldT, tr_make, tr_leaf, getI_o, tagE_o, fV_0, fV_s, fA_0, fA_s, fO_0l, fO_0d, fO_s, fL_0, fL_s, gvS_v, qvar_at, qcon_at, qnil_at, qop_at, fldQ_at, tr_mq, ts_forO, last_map]
      rcases h5 with rfl | ⟨v5, rfl⟩
      all_goals
        refine ⟨lenOk_of (by decide), ?_⟩
        refine tr_lcM (fun i : Nat => PyData.tuple [.int (ls s i), .int (s i)]) (List.range (m + 1)) (fun i => decide (ls s i ≤ 1 + (t : Int))) (fun i => PyData.int (PM s m (t + 1 - (ls s i).toNat) + s i)) ?_
        simp only [tr_bnd, tr_lft, tr_con, tr_op2, tr_op2r, tr_op2b, tr_asB, tr_trB, tr_trBp, tr_and, tr_or, tr_not, tr_if, tr_andV, tr_orV, tr_notV, tr_neg, tr_chain, tr_nil, tr_cons, tr_tup, tr_lst, tr_pn, tr_ps, tr_sl, tr_c1, tr_c1p, tr_seqI, tr_rng1, tr_rng2, tr_rng3, tr_zip, tr_enum, tr_rtV, tr_rtO, tr_aNil, tr_aV, tr_call, tr_callT, ts_next, ts_break, ts_cont, ts_seq, ts_ret, ts_retO, ts_retN, ts_expr, ts_assign, as_name, as_nil, as_cons, as_tup, ts_own, ts_if, ts_for, ts_store, varK_v, varK_o, leaf_l, leaf_d, tu_takeG, tr_rtG, rtg_o, getV_od, rtd_od, rto_od, tr_yes, wipe_n, wipe_c, unw_n, unw_c, unw1_v, unw1_e, unw1_n, getQ_0, getQ_s, isOS_v, isOS_e, nl_i, nl_b, nl_n, nl_s, nl_t, eq_self, ts_par, pev_n, pev_v, pev_o, sets_n, sets_c, tr_bor, bor_c, bor_n, sok_e, sok_vv, sok_int, sok_ss, sok_o, rtd_v, rtd_o, rto_o, tu_var, tu_op2l, tu_slp, getO_o, getS_s, getX_v, tu_aL, tu_aS, tu_take, tu_aug, tu_append, tu_pop, tu_lenS, tu_ixS, outA, scrA, isOA, isSA, outS_o, scrS_s, isO_o, isS_s, lok_gen, lix_nil, lix_v, lix_l, lix_s, sok_nil, sok_v, sok_l, sok_s, at_0, at_1, getV_v, getV_o, getL_o, add_ii, sub_ii, mul_ii, mul_ti, mul_li, fdiv_ii, mod_ii, pow_ii, neg_i, cmp_ii, addI_ii, mulI_ii, eq_ii, ne_ii, eq_ss, ne_ss, asB_b, truth_b, truth_i, truth_l, truth_t, truth_n, asI_i, item_l, item_t, len_l, len_t, abs_i, int_i, int_b, tuple_l, tuple_t, list_l, list_t, max2_ii, min2_ii, seq_l, seq_t, slice_l, slice_t, rng1_i, rng2_i, zip_l, zip_t, zip_tl, zip_lt, enum_l, add_tt, add_ll, add_ss, repr_i, atI_0, atI_1, atI_2, ixN_0, ixN_1, ixN_2, ite_some, map_some, ex_and, ex_eq, bind_some, List.set_cons_zero, List.set_cons_succ, List.length_cons, List.length_nil, Option.some.injEq, decide_eq_true_eq, Bool.not_true, Bool.not_false, Bool.and_eq_true, Bool.or_eq_true, fillA, wbA, entry, entrySls, entrySl, List.replicate, List.cons_append, List.nil_append, trF_ok, List.append_nil, List.map_nil, List.map_cons, ownIx, and_assoc, exists_and_left, exists_eq_left', exists_eq_left, Rt.v.injEq, Rt.o.injEq, List.cons.injEq, PyData.int.injEq, PyData.list.injEq, PyData.tuple.injEq, and_true, true_and, List.all_cons, List.all_nil, List.nodup_cons, List.nodup_nil, decide_true, decide_false, Bool.and_true, Bool.true_and, List.mem_cons, List.not_mem_nil, not_false_eq_true, Nat.sub_self, Nat.reduceSub, Nat.reduceAdd, if_true, if_false, Bool.false_eq_true, reduceCtorEq, false_and, and_false, or_false, false_or, and_self, Nat.zero_add, exists_eq', exists_eq, Sl.val.injEq, Sl.own.injEq, exists_const, tr_vnil, tr_vcons, tr_callX, pick_c, pick_n, List.getElem?_cons_zero, List.getElem?_cons_succ, Option.toList_some, tr_dict0, tr_dict1, ts_never, isi_tt, isi_ii, isi_bi, rev_t, rev_l, ts_dput, ts_update, getDc_o, asD_d, din_i, dnin_i, dget_i, key_i, Option.isSome_some, Option.isSome_none, tr_fld, tr_opF, tr_opFr, tr_c1F, ts_setF, ts_setFO, ts_addF, ts_addFO, ts_augF, ts_appF, tr_popF, tr_pop0F, tr_meth, tr_methT, tr_tagM, tr_fldT, tr_make, tr_leaf, getI_o, tagE_o, fV_0, fV_s, fA_0, fA_s, fO_0l, fO_0d, fO_s, fL_0, fL_s, gvS_v, qvar_at, qcon_at, qnil_at, qop_at, fldQ_at, tr_mq, ts_forO]
        have e5 : (((List.range (m + 1)).filter fun i => decide (ls s i ≤ 1 + (t : Int))).map fun i => PyData.int (PM s m (t + 1 - (ls s i).toNat) + s i)) = (((List.range (m + 1)).filter fun i => decide (ls s i ≤ 1 + (t : Int))).map fun i => PM s m (t + 1 - (ls s i).toNat) + s i).map PyData.int := by
          rw [List.map_map]; rfl
        have hl : (((List.range (m + 1)).filter fun i => decide (ls s i ≤ 1 + (t : Int))).map fun i => PM s m (t + 1 - (ls s i).toNat) + s i).length ≤ m + 1 := by
          rw [List.length_map]
          have := List.length_filter_le (fun i => decide (ls s i ≤ 1 + (t : Int))) (List.range (m + 1))
          rwa [List.length_range] at this
        have e6 := bqmax (m := m) (t := t) h
        have e7 : ((t + 1 : Nat) : Int) = 1 + (t : Int) := by omega
        rw [e7] at e6
        have e8 := max_l (ns := PM s m t :: ((List.range (m + 1)).filter fun i => decide (ls s i ≤ 1 + (t : Int))).map fun i => PM s m (t + 1 - (ls s i).toNat) + s i) (by simp)
        rw [e6, List.map_cons] at e8
        rw [e5]
        simp only [tr_bnd, tr_lft, tr_con, tr_op2, tr_op2r, tr_op2b, tr_asB, tr_trB, tr_trBp, tr_and, tr_or, tr_not, tr_if, tr_andV, tr_orV, tr_notV, tr_neg, tr_chain, tr_nil, tr_cons, tr_tup, tr_lst, tr_pn, tr_ps, tr_sl, tr_c1, tr_c1p, tr_seqI, tr_rng1, tr_rng2, tr_rng3, tr_zip, tr_enum, tr_rtV, tr_rtO, tr_aNil, tr_aV, tr_call, tr_callT, ts_next, ts_break, ts_cont, ts_seq, ts_ret, ts_retO, ts_retN, ts_expr, ts_assign, as_name, as_nil, as_cons, as_tup, ts_own, ts_if, ts_for, ts_store, varK_v, varK_o, leaf_l, leaf_d, tu_takeG, tr_rtG, rtg_o, getV_od, rtd_od, rto_od, tr_yes, wipe_n, wipe_c, unw_n, unw_c, unw1_v, unw1_e, unw1_n, getQ_0, getQ_s, isOS_v, isOS_e, nl_i, nl_b, nl_n, nl_s, nl_t, eq_self, ts_par, pev_n, pev_v, pev_o, sets_n, sets_c, tr_bor, bor_c, bor_n, sok_e, sok_vv, sok_int, sok_ss, sok_o, rtd_v, rtd_o, rto_o, tu_var, tu_op2l, tu_slp, getO_o, getS_s, getX_v, tu_aL, tu_aS, tu_take, tu_aug, tu_append, tu_pop, tu_lenS, tu_ixS, outA, scrA, isOA, isSA, outS_o, scrS_s, isO_o, isS_s, lok_gen, lix_nil, lix_v, lix_l, lix_s, sok_nil, sok_v, sok_l, sok_s, at_0, at_1, getV_v, getV_o, getL_o, add_ii, sub_ii, mul_ii, mul_ti, mul_li, fdiv_ii, mod_ii, pow_ii, neg_i, cmp_ii, addI_ii, mulI_ii, eq_ii, ne_ii, eq_ss, ne_ss, asB_b, truth_b, truth_i, truth_l, truth_t, truth_n, asI_i, item_l, item_t, len_l, len_t, abs_i, int_i, int_b, tuple_l, tuple_t, list_l, list_t, max2_ii, min2_ii, seq_l, seq_t, slice_l, slice_t, rng1_i, rng2_i, zip_l, zip_t, zip_tl, zip_lt, enum_l, add_tt, add_ll, add_ss, repr_i, atI_0, atI_1, atI_2, ixN_0, ixN_1, ixN_2, ite_some, map_some, ex_and, ex_eq, bind_some, List.set_cons_zero, List.set_cons_succ, List.length_cons, List.length_nil, Option.some.injEq, decide_eq_true_eq, Bool.not_true, Bool.not_false, Bool.and_eq_true, Bool.or_eq_true, fillA, wbA, entry, entrySls, entrySl, List.replicate, List.cons_append, List.nil_append, trF_ok, List.append_nil, List.map_nil, List.map_cons, ownIx, and_assoc, exists_and_left, exists_eq_left', exists_eq_left, Rt.v.injEq, Rt.o.injEq, List.cons.injEq, PyData.int.injEq, PyData.list.injEq, PyData.tuple.injEq, and_true, true_and, List.all_cons, List.all_nil, List.nodup_cons, List.nodup_nil, decide_true, decide_false, Bool.and_true, Bool.true_and, List.mem_cons, List.not_mem_nil, not_false_eq_true, Nat.sub_self, Nat.reduceSub, Nat.reduceAdd, if_true, if_false, Bool.false_eq_true, reduceCtorEq, false_and, and_false, or_false, false_or, and_self, Nat.zero_add, exists_eq', exists_eq, Sl.val.injEq, Sl.own.injEq, exists_const, tr_vnil, tr_vcons, tr_callX, pick_c, pick_n, List.getElem?_cons_zero, List.getElem?_cons_succ, Option.toList_some, tr_dict0, tr_dict1, ts_never, isi_tt, isi_ii, isi_bi, rev_t, rev_l, ts_dput, ts_update, getDc_o, asD_d, din_i, dnin_i, dget_i, key_i, Option.isSome_some, Option.isSome_none, tr_fld, tr_opF, tr_opFr, tr_c1F, ts_setF, ts_setFO, ts_addF, ts_addFO, ts_augF, ts_appF, tr_popF, tr_pop0F, tr_meth, tr_methT, tr_tagM, tr_fldT, tr_make, tr_leaf, getI_o, tagE_o, fV_0, fV_s, fA_0, fA_s, fO_0l, fO_0d, fO_s, fL_0, fL_s, gvS_v, qvar_at, qcon_at, qnil_at, qop_at, fldQ_at, tr_mq, ts_forO, e8, List.length_map]
        refine ⟨fun d hd => ?_, lenOk_of (by simp; omega), PL.nl_ints _, flat_rng, sok_x h4, lenOk_of (by simp only [List.length_map] at hl; omega), lenOk_of (by simp; omega), .val (.int (1 + (t : Int))), rfl, ?_, rfl⟩
        · split
          · rename_i hle
            have lp := ls_pos h d
            have a2 := at_map (f := fun k => PyData.int (PM s m k)) (k := t + 1) (i := t + 1 - (ls s d).toNat) (by omega)
            have e3 : ((t + 1 - (ls s d).toNat : Nat) : Int) = 1 + (t : Int) - ls s d := by omega
            rw [e3] at a2
            simp only [tr_bnd, tr_lft, tr_con, tr_op2, tr_op2r, tr_op2b, tr_asB, tr_trB, tr_trBp, tr_and, tr_or, tr_not, tr_if, tr_andV, tr_orV, tr_notV, tr_neg, tr_chain, tr_nil, tr_cons, tr_tup, tr_lst, tr_pn, tr_ps, tr_sl, tr_c1, tr_c1p, tr_seqI, tr_rng1, tr_rng2, tr_rng3, tr_zip, tr_enum, tr_rtV, tr_rtO, tr_aNil, tr_aV, tr_call, tr_callT, ts_next, ts_break, ts_cont, ts_seq, ts_ret, ts_retO, ts_retN, ts_expr, ts_assign, as_name, as_nil, as_cons, as_tup, ts_own, ts_if, ts_for, ts_store, varK_v, varK_o, leaf_l, leaf_d, tu_takeG, tr_rtG, rtg_o, getV_od, rtd_od, rto_od, tr_yes, wipe_n, wipe_c, unw_n, unw_c, unw1_v, unw1_e, unw1_n, getQ_0, getQ_s, isOS_v, isOS_e, nl_i, nl_b, nl_n, nl_s, nl_t, eq_self, ts_par, pev_n, pev_v, pev_o, sets_n, sets_c, tr_bor, bor_c, bor_n, sok_e, sok_vv, sok_int, sok_ss, sok_o, rtd_v, rtd_o, rto_o, tu_var, tu_op2l, tu_slp, getO_o, getS_s, getX_v, tu_aL, tu_aS, tu_take, tu_aug, tu_append, tu_pop, tu_lenS, tu_ixS, outA, scrA, isOA, isSA, outS_o, scrS_s, isO_o, isS_s, lok_gen, lix_nil, lix_v, lix_l, lix_s, sok_nil, sok_v, sok_l, sok_s, at_0, at_1, getV_v, getV_o, getL_o, add_ii, sub_ii, mul_ii, mul_ti, mul_li, fdiv_ii, mod_ii, pow_ii, neg_i, cmp_ii, addI_ii, mulI_ii, eq_ii, ne_ii, eq_ss, ne_ss, asB_b, truth_b, truth_i, truth_l, truth_t, truth_n, asI_i, item_l, item_t, len_l, len_t, abs_i, int_i, int_b, tuple_l, tuple_t, list_l, list_t, max2_ii, min2_ii, seq_l, seq_t, slice_l, slice_t, rng1_i, rng2_i, zip_l, zip_t, zip_tl, zip_lt, enum_l, add_tt, add_ll, add_ss, repr_i, atI_0, atI_1, atI_2, ixN_0, ixN_1, ixN_2, ite_some, map_some, ex_and, ex_eq, bind_some, List.set_cons_zero, List.set_cons_succ, List.length_cons, List.length_nil, Option.some.injEq, decide_eq_true_eq, Bool.not_true, Bool.not_false, Bool.and_eq_true, Bool.or_eq_true, fillA, wbA, entry, entrySls, entrySl, List.replicate, List.cons_append, List.nil_append, trF_ok, List.append_nil, List.map_nil, List.map_cons, ownIx, and_assoc, exists_and_left, exists_eq_left', exists_eq_left, Rt.v.injEq, Rt.o.injEq, List.cons.injEq, PyData.int.injEq, PyData.list.injEq, PyData.tuple.injEq, and_true, true_and, List.all_cons, List.all_nil, List.nodup_cons, List.nodup_nil, decide_true, decide_false, Bool.and_true, Bool.true_and, List.mem_cons, List.not_mem_nil, not_false_eq_true, Nat.sub_self, Nat.reduceSub, Nat.reduceAdd, if_true, if_false, Bool.false_eq_true, reduceCtorEq, false_and, and_false, or_false, false_or, and_self, Nat.zero_add, exists_eq', exists_eq, Sl.val.injEq, Sl.own.injEq, exists_const, tr_vnil, tr_vcons, tr_callX, pick_c, pick_n, List.getElem?_cons_zero, List.getElem?_cons_succ, Option.toList_some, tr_dict0, tr_dict1, ts_never, isi_tt, isi_ii, isi_bi, rev_t, rev_l, ts_dput, ts_update, getDc_o, asD_d, din_i, dnin_i, dget_i, key_i, Option.isSome_some, Option.isSome_none, tr_fld, tr_opF, tr_opFr, tr_c1F, ts_setF, ts_setFO, ts_addF, ts_addFO, ts_augF, ts_appF, tr_popF, tr_pop0F, tr_meth, tr_methT, tr_tagM, tr_fldT, tr_make, tr_leaf, getI_o, tagE_o, fV_0, fV_s, fA_0, fA_s, fO_0l, fO_0d, fO_s, fL_0, fL_s, gvS_v, qvar_at, qcon_at, qnil_at, qop_at, fldQ_at, tr_mq, ts_forO, a2]
          · trivial
        · rw [List.range_succ (n := t + 1), List.map_append]
          rfl
    · obtain ⟨x6, h6, rfl⟩ := hr
      have a1 := at_map (f := fun k => PyData.int (PM s m k)) (k := n + 1) (i := n) (by omega)
      simp only [tr_bnd, tr_lft, tr_con, tr_op2, tr_op2r, tr_op2b, tr_asB, tr_trB, tr_trBp, tr_and, tr_or, tr_not, tr_if, tr_andV, tr_orV, tr_notV, tr_neg, tr_chain, tr_nil, tr_cons, tr_tup, tr_lst, tr_pn, tr_ps, tr_sl, tr_c1, tr_c1p, tr_seqI, tr_rng1, tr_rng2, tr_rng3, tr_zip, tr_enum, tr_rtV, tr_rtO, tr_aNil, tr_aV, tr_call, tr_callT, ts_next, ts_break, ts_cont, ts_seq, ts_ret, ts_retO, ts_retN, ts_expr, ts_assign, as_name, as_nil, as_cons, as_tup, ts_own, ts_if, ts_for, ts_store, varK_v, varK_o, leaf_l, leaf_d, tu_takeG, tr_rtG, rtg_o, getV_od, rtd_od, rto_od, tr_yes, wipe_n, wipe_c, unw_n, unw_c, unw1_v, unw1_e, unw1_n, getQ_0, getQ_s, isOS_v, isOS_e, nl_i, nl_b, nl_n, nl_s, nl_t, eq_self, ts_par, pev_n, pev_v, pev_o, sets_n, sets_c, tr_bor, bor_c, bor_n, sok_e, sok_vv, sok_int, sok_ss, sok_o, rtd_v, rtd_o, rto_o, tu_var, tu_op2l, tu_slp, getO_o, getS_s, getX_v, tu_aL, tu_aS, tu_take, tu_aug, tu_append, tu_pop, tu_lenS, tu_ixS, outA, scrA, isOA, isSA, outS_o, scrS_s, isO_o, isS_s, lok_gen, lix_nil, lix_v, lix_l, lix_s, sok_nil, sok_v, sok_l, sok_s, at_0, at_1, getV_v, getV_o, getL_o, add_ii, sub_ii, mul_ii, mul_ti, mul_li, fdiv_ii, mod_ii, pow_ii, neg_i, cmp_ii, addI_ii, mulI_ii, eq_ii, ne_ii, eq_ss, ne_ss, asB_b, truth_b, truth_i, truth_l, truth_t, truth_n, asI_i, item_l, item_t, len_l, len_t, abs_i, int_i, int_b, tuple_l, tuple_t, list_l, list_t, max2_ii, min2_ii, seq_l, seq_t, slice_l, slice_t, rng1_i, rng2_i, zip_l, zip_t, zip_tl, zip_lt, enum_l, add_tt, add_ll, add_ss, repr_i, atI_0, atI_1, atI_2, ixN_0, ixN_1, ixN_2, ite_some, map_some, ex_and, ex_eq, bind_some, List.set_cons_zero, List.set_cons_succ, List.length_cons, List.length_nil, Option.some.injEq, decide_eq_true_eq, Bool.not_true, Bool.not_false, Bool.and_eq_true, Bool.or_eq_true, fillA, wbA, entry, entrySls, entrySl, List.replicate, List.cons_append, List.nil_append, trF_ok, List.append_nil, List.map_nil, List.map_cons, ownIx, and_assoc, exists_and_left, exists_eq_left', exists_eq_left, Rt.v.injEq, Rt.o.injEq, List.cons.injEq, PyData.int.injEq, PyData.list.injEq, PyData.tuple.injEq, and_true, true_and, List.all_cons, List.all_nil, List.nodup_cons, List.nodup_nil, decide_true, decide_false, Bool.and_true, Bool.true_and, List.mem_cons, List.not_mem_nil, not_false_eq_true, Nat.sub_self, Nat.reduceSub, Nat.reduceAdd, if_true, if_false, Bool.false_eq_true, reduceCtorEq, false_and, and_false, or_false, false_or, and_self, Nat.zero_add, exists_eq', exists_eq, Sl.val.injEq, Sl.own.injEq, exists_const, tr_vnil, tr_vcons, tr_callX, pick_c, pick_n, List.getElem?_cons_zero, List.getElem?_cons_succ, Option.toList_some, tr_dict0, tr_dict1, ts_never, isi_tt, isi_ii, isi_bi, rev_t, rev_l, ts_dput, ts_update, getDc_o, asD_d, din_i, dnin_i, dget_i, key_i, Option.isSome_some, Option.isSome_none, tr_fld, tr_opF, tr_opFr, tr_c1F, ts_setF, ts_setFO, ts_addF, ts_addFO, ts_augF, ts_appF, tr_popF, tr_pop0F, tr_meth, tr_methT, tr_tagM, tr_fldT, tr_make, tr_leaf, getI_o, tagE_o, fV_0, fV_s, fA_0, fA_s, fO_0l, fO_0d, fO_s, fL_0, fL_s, gvS_v, qvar_at, qcon_at, qnil_at, qop_at, fldQ_at, tr_mq, ts_forO, a1]
end Lk37

end
section
namespace Lk37
open PySem PySem.Spec L2 PL BT
theorem count_ok {w z : Int} (h : 0 < z) (h2 : z < 18446744073709551616) : f_l_count [.int w, .int z] = .ok (.v (.int (cc w z))) [] := by
  apply trF_eq
  unfold f_l_count m_l_count
  rw [trF_body]
  simp only [tr_bnd, tr_lft, tr_con, tr_op2, tr_op2r, tr_op2b, tr_asB, tr_trB, tr_trBp, tr_and, tr_or, tr_not, tr_if, tr_andV, tr_orV, tr_notV, tr_neg, tr_chain, tr_nil, tr_cons, tr_tup, tr_lst, tr_pn, tr_ps, tr_sl, tr_c1, tr_c1p, tr_seqI, tr_rng1, tr_rng2, tr_rng3, tr_zip, tr_enum, tr_rtV, tr_rtO, tr_aNil, tr_aV, tr_call, tr_callT, ts_next, ts_break, ts_cont, ts_seq, ts_ret, ts_retO, ts_retN, ts_expr, ts_assign, as_name, as_nil, as_cons, as_tup, ts_own, ts_if, ts_for, ts_store, varK_v, varK_o, leaf_l, leaf_d, tu_takeG, tr_rtG, rtg_o, getV_od, rtd_od, rto_od, tr_yes, wipe_n, wipe_c, unw_n, unw_c, unw1_v, unw1_e, unw1_n, getQ_0, getQ_s, isOS_v, isOS_e, nl_i, nl_b, nl_n, nl_s, nl_t, eq_self, ts_par, pev_n, pev_v, pev_o, sets_n, sets_c, tr_bor, bor_c, bor_n, sok_e, sok_vv, sok_int, sok_ss, sok_o, rtd_v, rtd_o, rto_o, tu_var, tu_op2l, tu_slp, getO_o, getS_s, getX_v, tu_aL, tu_aS, tu_take, tu_aug, tu_append, tu_pop, tu_lenS, tu_ixS, outA, scrA, isOA, isSA, outS_o, scrS_s, isO_o, isS_s, lok_gen, lix_nil, lix_v, lix_l, lix_s, sok_nil, sok_v, sok_l, sok_s, at_0, at_1, getV_v, getV_o, getL_o, add_ii, sub_ii, mul_ii, mul_ti, mul_li, fdiv_ii, mod_ii, pow_ii, neg_i, cmp_ii, addI_ii, mulI_ii, eq_ii, ne_ii, eq_ss, ne_ss, asB_b, truth_b, truth_i, truth_l, truth_t, truth_n, asI_i, item_l, item_t, len_l, len_t, abs_i, int_i, int_b, tuple_l, tuple_t, list_l, list_t, max2_ii, min2_ii, seq_l, seq_t, slice_l, slice_t, rng1_i, rng2_i, zip_l, zip_t, zip_tl, zip_lt, enum_l, add_tt, add_ll, add_ss, repr_i, atI_0, atI_1, atI_2, ixN_0, ixN_1, ixN_2, ite_some, map_some, ex_and, ex_eq, bind_some, List.set_cons_zero, List.set_cons_succ, List.length_cons, List.length_nil, Option.some.injEq, decide_eq_true_eq, Bool.not_true, Bool.not_false, Bool.and_eq_true, Bool.or_eq_true, fillA, wbA, entry, entrySls, entrySl, List.replicate, List.cons_append, List.nil_append, trF_ok, List.append_nil, List.map_nil, List.map_cons, ownIx, and_assoc, exists_and_left, exists_eq_left', exists_eq_left, Rt.v.injEq, Rt.o.injEq, List.cons.injEq, PyData.int.injEq, PyData.list.injEq, PyData.tuple.injEq, and_true, true_and, List.all_cons, List.all_nil, List.nodup_cons, List.nodup_nil, decide_true, decide_false, Bool.and_true, Bool.true_and, List.mem_cons, List.not_mem_nil, not_false_eq_true, Nat.sub_self, Nat.reduceSub, Nat.reduceAdd, if_true, if_false, Bool.false_eq_true, reduceCtorEq, false_and, and_false, or_false, false_or, and_self, Nat.zero_add, exists_eq', exists_eq, Sl.val.injEq, Sl.own.injEq, exists_const, tr_vnil, tr_vcons, tr_callX, pick_c, pick_n, List.getElem?_cons_zero, List.getElem?_cons_succ, Option.toList_some, tr_dict0, tr_dict1, ts_never, isi_tt, isi_ii, isi_bi, rev_t, rev_l, ts_dput, ts_update, getDc_o, asD_d, din_i, dnin_i, dget_i, key_i, Option.isSome_some, Option.isSome_none]
  refine ⟨fdOk_s h (by omega), ?_⟩
  have e : (w + z - 1) / z = cc w z := by
    apply Int.le_antisymm
    · have h1 := cc_ub (w := w) h
      have h3 : w + z - 1 < (cc w z + 1) * z := by rw [Int.add_mul]; omega
      have := Int.ediv_lt_of_lt_mul h h3
      omega
    · rw [cc_le h]
      have h1 := Int.lt_ediv_add_one_mul_self (w + z - 1) h
      rw [Int.add_mul] at h1
      omega
  rw [e]
/-- the law's own bounds -/
theorem lbounds_ok {s : Nat → Int} {M : Int} {m : Nat} (hm : m ≤ 900) (h : Szs s) (hb : s m < 18446744073709551616) (hM : 0 ≤ M) :
    f_l_bounds [tup (m + 1) s, .int M] = .ok (.v (.list ((List.range (m + 1)).map fun i => .int (num s (fun _ => 0) M i)))) [] := by
  have hN := num_nums (s := s) (f := fun _ => 0) h hM (fun _ => rfl) m
  have hll := hN.ll h hM
  have hs : ∀ i, i ≤ m → 0 < s i ∧ s i < 18446744073709551616 := fun i hi => ⟨h.pos i, Int.lt_of_le_of_lt (h.mono hi) hb⟩
  have n0 : num s (fun _ => 0) M 0 = M := by rw [num_0]; omega
  apply trF_eq
  unfold f_l_bounds m_l_bounds tup
  rw [trF_body]
  simp only [tr_bnd, tr_lft, tr_con, tr_op2, tr_op2r, tr_op2b, tr_asB, tr_trB, tr_trBp, tr_and, tr_or, tr_not, tr_if, tr_andV, tr_orV, tr_notV, tr_neg, tr_chain, tr_nil, tr_cons, tr_tup, tr_lst, tr_pn, tr_ps, tr_sl, tr_c1, tr_c1p, tr_seqI, tr_rng1, tr_rng2, tr_rng3, tr_zip, tr_enum, tr_rtV, tr_rtO, tr_aNil, tr_aV, tr_call, tr_callT, ts_next, ts_break, ts_cont, ts_seq, ts_ret, ts_retO, ts_retN, ts_expr, ts_assign, as_name, as_nil, as_cons, as_tup, ts_own, ts_if, ts_for, ts_store, varK_v, varK_o, leaf_l, leaf_d, tu_takeG, tr_rtG, rtg_o, getV_od, rtd_od, rto_od, tr_yes, wipe_n, wipe_c, unw_n, unw_c, unw1_v, unw1_e, unw1_n, getQ_0, getQ_s, isOS_v, isOS_e, nl_i, nl_b, nl_n, nl_s, nl_t, eq_self, ts_par, pev_n, pev_v, pev_o, sets_n, sets_c, tr_bor, bor_c, bor_n, sok_e, sok_vv, sok_int, sok_ss, sok_o, rtd_v, rtd_o, rto_o, tu_var, tu_op2l, tu_slp, getO_o, getS_s, getX_v, tu_aL, tu_aS, tu_take, tu_aug, tu_append, tu_pop, tu_lenS, tu_ixS, outA, scrA, isOA, isSA, outS_o, scrS_s, isO_o, isS_s, lok_gen, lix_nil, lix_v, lix_l, lix_s, sok_nil, sok_v, sok_l, sok_s, at_0, at_1, getV_v, getV_o, getL_o, add_ii, sub_ii, mul_ii, mul_ti, mul_li, fdiv_ii, mod_ii, pow_ii, neg_i, cmp_ii, addI_ii, mulI_ii, eq_ii, ne_ii, eq_ss, ne_ss, asB_b, truth_b, truth_i, truth_l, truth_t, truth_n, asI_i, item_l, item_t, len_l, len_t, abs_i, int_i, int_b, tuple_l, tuple_t, list_l, list_t, max2_ii, min2_ii, seq_l, seq_t, slice_l, slice_t, rng1_i, rng2_i, zip_l, zip_t, zip_tl, zip_lt, enum_l, add_tt, add_ll, add_ss, repr_i, atI_0, atI_1, atI_2, ixN_0, ixN_1, ixN_2, ite_some, map_some, ex_and, ex_eq, bind_some, List.set_cons_zero, List.set_cons_succ, List.length_cons, List.length_nil, Option.some.injEq, decide_eq_true_eq, Bool.not_true, Bool.not_false, Bool.and_eq_true, Bool.or_eq_true, fillA, wbA, entry, entrySls, entrySl, List.replicate, List.cons_append, List.nil_append, trF_ok, List.append_nil, List.map_nil, List.map_cons, ownIx, and_assoc, exists_and_left, exists_eq_left', exists_eq_left, Rt.v.injEq, Rt.o.injEq, List.cons.injEq, PyData.int.injEq, PyData.list.injEq, PyData.tuple.injEq, and_true, true_and, List.all_cons, List.all_nil, List.nodup_cons, List.nodup_nil, decide_true, decide_false, Bool.and_true, Bool.true_and, List.mem_cons, List.not_mem_nil, not_false_eq_true, Nat.sub_self, Nat.reduceSub, Nat.reduceAdd, if_true, if_false, Bool.false_eq_true, reduceCtorEq, false_and, and_false, or_false, false_or, and_self, Nat.zero_add, exists_eq', exists_eq, Sl.val.injEq, Sl.own.injEq, exists_const, tr_vnil, tr_vcons, tr_callX, pick_c, pick_n, List.getElem?_cons_zero, List.getElem?_cons_succ, Option.toList_some, tr_dict0, tr_dict1, ts_never, isi_tt, isi_ii, isi_bi, rev_t, rev_l, ts_dput, ts_update, getDc_o, asD_d, din_i, dnin_i, dget_i, key_i, Option.isSome_some, Option.isSome_none, tr_fld, tr_opF, tr_opFr, tr_c1F, ts_setF, ts_setFO, ts_addF, ts_addFO, ts_augF, ts_appF, tr_popF, tr_pop0F, tr_meth, tr_methT, tr_tagM, tr_fldT, tr_make, tr_leaf, getI_o, tagE_o, fV_0, fV_s, fA_0, fA_s, fO_0l, fO_0d, fO_s, fL_0, fL_s, gvS_v, qvar_at, qcon_at, qnil_at, qop_at, fldQ_at, tr_mq, ts_forO, len_map, cut_1n, drop_rng]
  refine ⟨lenOk_of (by decide), ?_⟩
  refine ts_forM (fun i => PyData.int (s (i + 1))) (List.range m) rfl (fun i r => ∃ x3 x4 x5 x6 x7, r = [.val (.tuple ((List.range (m + 1)).map fun i => .int (s i))), .val (.int M), .own (.list ((List.range (i + 1)).map fun i => .int (num s (fun _ => 0) M i))), x3, x4, x5, x6, x7]) ⟨_, _, _, _, _, by rw [show (1 : Nat) = 0 + 1 from rfl]; simp [n0]; exact ⟨rfl, rfl, rfl, rfl, rfl⟩⟩ (fun i k r hi hr => ?_) (fun r hr => ?_)
  · obtain ⟨x3, x4, x5, x6, x7, rfl⟩ := hr
    obtain ⟨him, rfl⟩ : i < m ∧ k = i := by
      have h1 := (List.getElem?_eq_some_iff.mp hi).1
      rw [List.length_range] at h1
      rw [List.getElem?_range h1] at hi
      exact ⟨h1, (Option.some.inj hi).symm⟩
    have hz := hs (k + 1) (by omega)
    simp only [tr_bnd, tr_lft, tr_con, tr_op2, tr_op2r, tr_op2b, tr_asB, tr_trB, tr_trBp, tr_and, tr_or, tr_not, tr_if, tr_andV, tr_orV, tr_notV, tr_neg, tr_chain, tr_nil, tr_cons, tr_tup, tr_lst, tr_pn, tr_ps, tr_sl, tr_c1, tr_c1p, tr_seqI, tr_rng1, tr_rng2, tr_rng3, tr_zip, tr_enum, tr_rtV, tr_rtO, tr_aNil, tr_aV, tr_call, tr_callT, ts_next, ts_break, ts_cont, ts_seq, ts_ret, ts_retO, ts_retN, ts_expr, ts_assign, as_name, as_nil, as_cons, as_tup, ts_own, ts_if, ts_for, ts_store, varK_v, varK_o, leaf_l, leaf_d, tu_takeG, tr_rtG, rtg_o, getV_od, rtd_od, rto_od, tr_yes, wipe_n, wipe_c, unw_n, unw_c, unw1_v, unw1_e, unw1_n, getQ_0, getQ_s, isOS_v, isOS_e, nl_i, nl_b, nl_n, nl_s, nl_t, eq_self, ts_par, pev_n, pev_v, pev_o, sets_n, sets_c, tr_bor, bor_c, bor_n, sok_e, sok_vv, sok_int, sok_ss, sok_o, rtd_v, rtd_o, rto_o, tu_var, tu_op2l, tu_slp, getO_o, getS_s, getX_v, tu_aL, tu_aS, tu_take, tu_aug, tu_append, tu_pop, tu_lenS, tu_ixS, outA, scrA, isOA, isSA, outS_o, scrS_s, isO_o, isS_s, lok_gen, lix_nil, lix_v, lix_l, lix_s, sok_nil, sok_v, sok_l, sok_s, at_0, at_1, getV_v, getV_o, getL_o, add_ii, sub_ii, mul_ii, mul_ti, mul_li, fdiv_ii, mod_ii, pow_ii, neg_i, cmp_ii, addI_ii, mulI_ii, eq_ii, ne_ii, eq_ss, ne_ss, asB_b, truth_b, truth_i, truth_l, truth_t, truth_n, asI_i, item_l, item_t, len_l, len_t, abs_i, int_i, int_b, tuple_l, tuple_t, list_l, list_t, max2_ii, min2_ii, seq_l, seq_t, slice_l, slice_t, rng1_i, rng2_i, zip_l, zip_t, zip_tl, zip_lt, enum_l, add_tt, add_ll, add_ss, repr_i, atI_0, atI_1, atI_2, ixN_0, ixN_1, ixN_2, ite_some, map_some, ex_and, ex_eq, bind_some, List.set_cons_zero, List.set_cons_succ, List.length_cons, List.length_nil, Option.some.injEq, decide_eq_true_eq, Bool.not_true, Bool.not_false, Bool.and_eq_true, Bool.or_eq_true, fillA, wbA, entry, entrySls, entrySl, List.replicate, List.cons_append, List.nil_append, trF_ok, List.append_nil, List.map_nil, List.map_cons, ownIx, and_assoc, exists_and_left, exists_eq_left', exists_eq_left, Rt.v.injEq, Rt.o.injEq, List.cons.injEq, PyData.int.injEq, PyData.list.injEq, PyData.tuple.injEq, and_true, true_and, List.all_cons, List.all_nil, List.nodup_cons, List.nodup_nil, decide_true, decide_false, Bool.and_true, Bool.true_and, List.mem_cons, List.not_mem_nil, not_false_eq_true, Nat.sub_self, Nat.reduceSub, Nat.reduceAdd, if_true, if_false, Bool.false_eq_true, reduceCtorEq, false_and, and_false, or_false, false_or, and_self, Nat.zero_add, exists_eq', exists_eq, Sl.val.injEq, Sl.own.injEq, exists_const, tr_vnil, tr_vcons, tr_callX, pick_c, pick_n, List.getElem?_cons_zero, List.getElem?_cons_succ, Option.toList_some, tr_dict0, tr_dict1, ts_never, isi_tt, isi_ii, isi_bi, rev_t, rev_l, ts_dput, ts_update, getDc_o, asD_d, din_i, dnin_i, dget_i, key_i, Option.isSome_some, Option.isSome_none, tr_fld, tr_opF, tr_opFr, tr_c1F, ts_setF, ts_setFO, ts_addF, ts_addFO, ts_augF, ts_appF, tr_popF, tr_pop0F, tr_meth, tr_methT, tr_tagM, tr_fldT, tr_make, tr_leaf, getI_o, tagE_o, fV_0, fV_s, fA_0, fA_s, fO_0l, fO_0d, fO_s, fL_0, fL_s, gvS_v, qvar_at, qcon_at, qnil_at, qop_at, fldQ_at, tr_mq, ts_forO]
    refine ts_forLO (fun j r => ∃ x5 x6 x7, r = [.val (.tuple ((List.range (m + 1)).map fun i => .int (s i))), .val (.int M), .own (.list ((List.range (k + 1)).map fun i => .int (num s (fun _ => 0) M i))), .val (.int (s (k + 1))), .val (.int (LL s (num s (fun _ => 0) M) (s (k + 1)) j)), x5, x6, x7]) (n := 0) ⟨_, _, _, rfl⟩ (fun j r hr => ?_) (fun j x r hx hr => ?_) (fun r hr => ?_)
    · obtain ⟨x5, x6, x7, rfl⟩ := hr
      rfl
    · obtain ⟨x5, x6, x7, rfl⟩ := hr
      obtain ⟨hj, rfl⟩ : j < k + 1 ∧ x = .tuple [.int (j : Nat), .int (num s (fun _ => 0) M j)] := by
        unfold enumP at hx
        have h1 := (List.getElem?_eq_some_iff.mp hx).1
        rw [List.length_mapIdx, List.length_map, List.length_range] at h1
        rw [List.getElem?_mapIdx, List.getElem?_map, List.getElem?_range h1] at hx
        exact ⟨h1, (Option.some.inj hx).symm⟩
      simp only [tr_bnd, tr_lft, tr_con, tr_op2, tr_op2r, tr_op2b, tr_asB, tr_trB, tr_trBp, tr_and, tr_or, tr_not, tr_if, tr_andV, tr_orV, tr_notV, tr_neg, tr_chain, tr_nil, tr_cons, tr_tup, tr_lst, tr_pn, tr_ps, tr_sl, tr_c1, tr_c1p, tr_seqI, tr_rng1, tr_rng2, tr_rng3, tr_zip, tr_enum, tr_rtV, tr_rtO, tr_aNil, tr_aV, tr_call, tr_callT, ts_next, ts_break, ts_cont, ts_seq, ts_ret, ts_retO, ts_retN, ts_expr, ts_assign, as_name, as_nil, as_cons, as_tup, ts_own, ts_if, ts_for, ts_store, varK_v, varK_o, leaf_l, leaf_d, tu_takeG, tr_rtG, rtg_o, getV_od, rtd_od, rto_od, tr_yes, wipe_n, wipe_c, unw_n, unw_c, unw1_v, unw1_e, unw1_n, getQ_0, getQ_s, isOS_v, isOS_e, nl_i, nl_b, nl_n, nl_s, nl_t, eq_self, ts_par, pev_n, pev_v, pev_o, sets_n, sets_c, tr_bor, bor_c, bor_n, sok_e, sok_vv, sok_int, sok_ss, sok_o, rtd_v, rtd_o, rto_o, tu_var, tu_op2l, tu_slp, getO_o, getS_s, getX_v, tu_aL, tu_aS, tu_take, tu_aug, tu_append, tu_pop, tu_lenS, tu_ixS, outA, scrA, isOA, isSA, outS_o, scrS_s, isO_o, isS_s, lok_gen, lix_nil, lix_v, lix_l, lix_s, sok_nil, sok_v, sok_l, sok_s, at_0, at_1, getV_v, getV_o, getL_o, add_ii, sub_ii, mul_ii, mul_ti, mul_li, fdiv_ii, mod_ii, pow_ii, neg_i, cmp_ii, addI_ii, mulI_ii, eq_ii, ne_ii, eq_ss, ne_ss, asB_b, truth_b, truth_i, truth_l, truth_t, truth_n, asI_i, item_l, item_t, len_l, len_t, abs_i, int_i, int_b, tuple_l, tuple_t, list_l, list_t, max2_ii, min2_ii, seq_l, seq_t, slice_l, slice_t, rng1_i, rng2_i, zip_l, zip_t, zip_tl, zip_lt, enum_l, add_tt, add_ll, add_ss, repr_i, atI_0, atI_1, atI_2, ixN_0, ixN_1, ixN_2, ite_some, map_some, ex_and, ex_eq, bind_some, List.set_cons_zero, List.set_cons_succ, List.length_cons, List.length_nil, Option.some.injEq, decide_eq_true_eq, Bool.not_true, Bool.not_false, Bool.and_eq_true, Bool.or_eq_true, fillA, wbA, entry, entrySls, entrySl, List.replicate, List.cons_append, List.nil_append, trF_ok, List.append_nil, List.map_nil, List.map_cons, ownIx, and_assoc, exists_and_left, exists_eq_left', exists_eq_left, Rt.v.injEq, Rt.o.injEq, List.cons.injEq, PyData.int.injEq, PyData.list.injEq, PyData.tuple.injEq, and_true, true_and, List.all_cons, List.all_nil, List.nodup_cons, List.nodup_nil, decide_true, decide_false, Bool.and_true, Bool.true_and, List.mem_cons, List.not_mem_nil, not_false_eq_true, Nat.sub_self, Nat.reduceSub, Nat.reduceAdd, if_true, if_false, Bool.false_eq_true, reduceCtorEq, false_and, and_false, or_false, false_or, and_self, Nat.zero_add, exists_eq', exists_eq, Sl.val.injEq, Sl.own.injEq, exists_const, tr_vnil, tr_vcons, tr_callX, pick_c, pick_n, List.getElem?_cons_zero, List.getElem?_cons_succ, Option.toList_some, tr_dict0, tr_dict1, ts_never, isi_tt, isi_ii, isi_bi, rev_t, rev_l, ts_dput, ts_update, getDc_o, asD_d, din_i, dnin_i, dget_i, key_i, Option.isSome_some, Option.isSome_none, tr_fld, tr_opF, tr_opFr, tr_c1F, ts_setF, ts_setFO, ts_addF, ts_addFO, ts_augF, ts_appF, tr_popF, tr_pop0F, tr_meth, tr_methT, tr_tagM, tr_fldT, tr_make, tr_leaf, getI_o, tagE_o, fV_0, fV_s, fA_0, fA_s, fO_0l, fO_0d, fO_s, fL_0, fL_s, gvS_v, qvar_at, qcon_at, qnil_at, qop_at, fldQ_at, tr_mq, ts_forO, Nat.zero_add]
      have sj := at_map (f := fun i => PyData.int (s i)) (k := m + 1) (i := j) (by omega)
      have hsj := hs j (by omega)
      cases j with
      | zero =>
        simp only [tr_bnd, tr_lft, tr_con, tr_op2, tr_op2r, tr_op2b, tr_asB, tr_trB, tr_trBp, tr_and, tr_or, tr_not, tr_if, tr_andV, tr_orV, tr_notV, tr_neg, tr_chain, tr_nil, tr_cons, tr_tup, tr_lst, tr_pn, tr_ps, tr_sl, tr_c1, tr_c1p, tr_seqI, tr_rng1, tr_rng2, tr_rng3, tr_zip, tr_enum, tr_rtV, tr_rtO, tr_aNil, tr_aV, tr_call, tr_callT, ts_next, ts_break, ts_cont, ts_seq, ts_ret, ts_retO, ts_retN, ts_expr, ts_assign, as_name, as_nil, as_cons, as_tup, ts_own, ts_if, ts_for, ts_store, varK_v, varK_o, leaf_l, leaf_d, tu_takeG, tr_rtG, rtg_o, getV_od, rtd_od, rto_od, tr_yes, wipe_n, wipe_c, unw_n, unw_c, unw1_v, unw1_e, unw1_n, getQ_0, getQ_s, isOS_v, isOS_e, nl_i, nl_b, nl_n, nl_s, nl_t, eq_self, ts_par, pev_n, pev_v, pev_o, sets_n, sets_c, tr_bor, bor_c, bor_n, sok_e, sok_vv, sok_int, sok_ss, sok_o, rtd_v, rtd_o, rto_o, tu_var, tu_op2l, tu_slp, getO_o, getS_s, getX_v, tu_aL, tu_aS, tu_take, tu_aug, tu_append, tu_pop, tu_lenS, tu_ixS, outA, scrA, isOA, isSA, outS_o, scrS_s, isO_o, isS_s, lok_gen, lix_nil, lix_v, lix_l, lix_s, sok_nil, sok_v, sok_l, sok_s, at_0, at_1, getV_v, getV_o, getL_o, add_ii, sub_ii, mul_ii, mul_ti, mul_li, fdiv_ii, mod_ii, pow_ii, neg_i, cmp_ii, addI_ii, mulI_ii, eq_ii, ne_ii, eq_ss, ne_ss, asB_b, truth_b, truth_i, truth_l, truth_t, truth_n, asI_i, item_l, item_t, len_l, len_t, abs_i, int_i, int_b, tuple_l, tuple_t, list_l, list_t, max2_ii, min2_ii, seq_l, seq_t, slice_l, slice_t, rng1_i, rng2_i, zip_l, zip_t, zip_tl, zip_lt, enum_l, add_tt, add_ll, add_ss, repr_i, atI_0, atI_1, atI_2, ixN_0, ixN_1, ixN_2, ite_some, map_some, ex_and, ex_eq, bind_some, List.set_cons_zero, List.set_cons_succ, List.length_cons, List.length_nil, Option.some.injEq, decide_eq_true_eq, Bool.not_true, Bool.not_false, Bool.and_eq_true, Bool.or_eq_true, fillA, wbA, entry, entrySls, entrySl, List.replicate, List.cons_append, List.nil_append, trF_ok, List.append_nil, List.map_nil, List.map_cons, ownIx, and_assoc, exists_and_left, exists_eq_left', exists_eq_left, Rt.v.injEq, Rt.o.injEq, List.cons.injEq, PyData.int.injEq, PyData.list.injEq, PyData.tuple.injEq, and_true, true_and, List.all_cons, List.all_nil, List.nodup_cons, List.nodup_nil, decide_true, decide_false, Bool.and_true, Bool.true_and, List.mem_cons, List.not_mem_nil, not_false_eq_true, Nat.sub_self, Nat.reduceSub, Nat.reduceAdd, if_true, if_false, Bool.false_eq_true, reduceCtorEq, false_and, and_false, or_false, false_or, and_self, Nat.zero_add, exists_eq', exists_eq, Sl.val.injEq, Sl.own.injEq, exists_const, tr_vnil, tr_vcons, tr_callX, pick_c, pick_n, List.getElem?_cons_zero, List.getElem?_cons_succ, Option.toList_some, tr_dict0, tr_dict1, ts_never, isi_tt, isi_ii, isi_bi, rev_t, rev_l, ts_dput, ts_update, getDc_o, asD_d, din_i, dnin_i, dget_i, key_i, Option.isSome_some, Option.isSome_none, tr_fld, tr_opF, tr_opFr, tr_c1F, ts_setF, ts_setFO, ts_addF, ts_addFO, ts_augF, ts_appF, tr_popF, tr_pop0F, tr_meth, tr_methT, tr_tagM, tr_fldT, tr_make, tr_leaf, getI_o, tagE_o, fV_0, fV_s, fA_0, fA_s, fO_0l, fO_0d, fO_s, fL_0, fL_s, gvS_v, qvar_at, qcon_at, qnil_at, qop_at, fldQ_at, tr_mq, ts_forO, count_ok hz.1 hz.2, sj]
        simp only [LL, pv_0, Int.natCast_zero, Int.lt_irrefl, if_false, tr_bnd, tr_lft, tr_con, tr_op2, tr_op2r, tr_op2b, tr_asB, tr_trB, tr_trBp, tr_and, tr_or, tr_not, tr_if, tr_andV, tr_orV, tr_notV, tr_neg, tr_chain, tr_nil, tr_cons, tr_tup, tr_lst, tr_pn, tr_ps, tr_sl, tr_c1, tr_c1p, tr_seqI, tr_rng1, tr_rng2, tr_rng3, tr_zip, tr_enum, tr_rtV, tr_rtO, tr_aNil, tr_aV, tr_call, tr_callT, ts_next, ts_break, ts_cont, ts_seq, ts_ret, ts_retO, ts_retN, ts_expr, ts_assign, as_name, as_nil, as_cons, as_tup, ts_own, ts_if, ts_for, ts_store, varK_v, varK_o, leaf_l, leaf_d, tu_takeG, tr_rtG, rtg_o, getV_od, rtd_od, rto_od, tr_yes, wipe_n, wipe_c, unw_n, unw_c, unw1_v, unw1_e, unw1_n, getQ_0, getQ_s, isOS_v, isOS_e, nl_i, nl_b, nl_n, nl_s, nl_t, eq_self, ts_par, pev_n, pev_v, pev_o, sets_n, sets_c, tr_bor, bor_c, bor_n, sok_e, sok_vv, sok_int, sok_ss, sok_o, rtd_v, rtd_o, rto_o, tu_var, tu_op2l, tu_slp, getO_o, getS_s, getX_v, tu_aL, tu_aS, tu_take, tu_aug, tu_append, tu_pop, tu_lenS, tu_ixS, outA, scrA, isOA, isSA, outS_o, scrS_s, isO_o, isS_s, lok_gen, lix_nil, lix_v, lix_l, lix_s, sok_nil, sok_v, sok_l, sok_s, at_0, at_1, getV_v, getV_o, getL_o, add_ii, sub_ii, mul_ii, mul_ti, mul_li, fdiv_ii, mod_ii, pow_ii, neg_i, cmp_ii, addI_ii, mulI_ii, eq_ii, ne_ii, eq_ss, ne_ss, asB_b, truth_b, truth_i, truth_l, truth_t, truth_n, asI_i, item_l, item_t, len_l, len_t, abs_i, int_i, int_b, tuple_l, tuple_t, list_l, list_t, max2_ii, min2_ii, seq_l, seq_t, slice_l, slice_t, rng1_i, rng2_i, zip_l, zip_t, zip_tl, zip_lt, enum_l, add_tt, add_ll, add_ss, repr_i, atI_0, atI_1, atI_2, ixN_0, ixN_1, ixN_2, ite_some, map_some, ex_and, ex_eq, bind_some, List.set_cons_zero, List.set_cons_succ, List.length_cons, List.length_nil, Option.some.injEq, decide_eq_true_eq, Bool.not_true, Bool.not_false, Bool.and_eq_true, Bool.or_eq_true, fillA, wbA, entry, entrySls, entrySl, List.replicate, List.cons_append, List.nil_append, trF_ok, List.append_nil, List.map_nil, List.map_cons, ownIx, and_assoc, exists_and_left, exists_eq_left', exists_eq_left, Rt.v.injEq, Rt.o.injEq, List.cons.injEq, PyData.int.injEq, PyData.list.injEq, PyData.tuple.injEq, and_true, true_and, List.all_cons, List.all_nil, List.nodup_cons, List.nodup_nil, decide_true, decide_false, Bool.and_true, Bool.true_and, List.mem_cons, List.not_mem_nil, not_false_eq_true, Nat.sub_self, Nat.reduceSub, Nat.reduceAdd, if_true, if_false, Bool.false_eq_true, reduceCtorEq, false_and, and_false, or_false, false_or, and_self, Nat.zero_add, exists_eq', exists_eq, Sl.val.injEq, Sl.own.injEq, exists_const, tr_vnil, tr_vcons, tr_callX, pick_c, pick_n, List.getElem?_cons_zero, List.getElem?_cons_succ, Option.toList_some, tr_dict0, tr_dict1, ts_never, isi_tt, isi_ii, isi_bi, rev_t, rev_l, ts_dput, ts_update, getDc_o, asD_d, din_i, dnin_i, dget_i, key_i, Option.isSome_some, Option.isSome_none, tr_fld, tr_opF, tr_opFr, tr_c1F, ts_setF, ts_setFO, ts_addF, ts_addFO, ts_augF, ts_appF, tr_popF, tr_pop0F, tr_meth, tr_methT, tr_tagM, tr_fldT, tr_make, tr_leaf, getI_o, tagE_o, fV_0, fV_s, fA_0, fA_s, fO_0l, fO_0d, fO_s, fL_0, fL_s, gvS_v, qvar_at, qcon_at, qnil_at, qop_at, fldQ_at, tr_mq, ts_forO, gt_iff_lt]
        exact ⟨mulOk_l (by omega), by rw [Int.mul_comm]⟩
      | succ j =>
        have pj := at_map (f := fun i => PyData.int (num s (fun _ => 0) M i)) (k := k + 1) (i := j) (by omega)
        have e1 : (((j + 1 : Nat) : Int) - 1) = (j : Int) := by omega
        have g0 : (((j + 1 : Nat) : Int) > 0) := by omega
        simp only [tr_bnd, tr_lft, tr_con, tr_op2, tr_op2r, tr_op2b, tr_asB, tr_trB, tr_trBp, tr_and, tr_or, tr_not, tr_if, tr_andV, tr_orV, tr_notV, tr_neg, tr_chain, tr_nil, tr_cons, tr_tup, tr_lst, tr_pn, tr_ps, tr_sl, tr_c1, tr_c1p, tr_seqI, tr_rng1, tr_rng2, tr_rng3, tr_zip, tr_enum, tr_rtV, tr_rtO, tr_aNil, tr_aV, tr_call, tr_callT, ts_next, ts_break, ts_cont, ts_seq, ts_ret, ts_retO, ts_retN, ts_expr, ts_assign, as_name, as_nil, as_cons, as_tup, ts_own, ts_if, ts_for, ts_store, varK_v, varK_o, leaf_l, leaf_d, tu_takeG, tr_rtG, rtg_o, getV_od, rtd_od, rto_od, tr_yes, wipe_n, wipe_c, unw_n, unw_c, unw1_v, unw1_e, unw1_n, getQ_0, getQ_s, isOS_v, isOS_e, nl_i, nl_b, nl_n, nl_s, nl_t, eq_self, ts_par, pev_n, pev_v, pev_o, sets_n, sets_c, tr_bor, bor_c, bor_n, sok_e, sok_vv, sok_int, sok_ss, sok_o, rtd_v, rtd_o, rto_o, tu_var, tu_op2l, tu_slp, getO_o, getS_s, getX_v, tu_aL, tu_aS, tu_take, tu_aug, tu_append, tu_pop, tu_lenS, tu_ixS, outA, scrA, isOA, isSA, outS_o, scrS_s, isO_o, isS_s, lok_gen, lix_nil, lix_v, lix_l, lix_s, sok_nil, sok_v, sok_l, sok_s, at_0, at_1, getV_v, getV_o, getL_o, add_ii, sub_ii, mul_ii, mul_ti, mul_li, fdiv_ii, mod_ii, pow_ii, neg_i, cmp_ii, addI_ii, mulI_ii, eq_ii, ne_ii, eq_ss, ne_ss, asB_b, truth_b, truth_i, truth_l, truth_t, truth_n, asI_i, item_l, item_t, len_l, len_t, abs_i, int_i, int_b, tuple_l, tuple_t, list_l, list_t, max2_ii, min2_ii, seq_l, seq_t, slice_l, slice_t, rng1_i, rng2_i, zip_l, zip_t, zip_tl, zip_lt, enum_l, add_tt, add_ll, add_ss, repr_i, atI_0, atI_1, atI_2, ixN_0, ixN_1, ixN_2, ite_some, map_some, ex_and, ex_eq, bind_some, List.set_cons_zero, List.set_cons_succ, List.length_cons, List.length_nil, Option.some.injEq, decide_eq_true_eq, Bool.not_true, Bool.not_false, Bool.and_eq_true, Bool.or_eq_true, fillA, wbA, entry, entrySls, entrySl, List.replicate, List.cons_append, List.nil_append, trF_ok, List.append_nil, List.map_nil, List.map_cons, ownIx, and_assoc, exists_and_left, exists_eq_left', exists_eq_left, Rt.v.injEq, Rt.o.injEq, List.cons.injEq, PyData.int.injEq, PyData.list.injEq, PyData.tuple.injEq, and_true, true_and, List.all_cons, List.all_nil, List.nodup_cons, List.nodup_nil, decide_true, decide_false, Bool.and_true, Bool.true_and, List.mem_cons, List.not_mem_nil, not_false_eq_true, Nat.sub_self, Nat.reduceSub, Nat.reduceAdd, if_true, if_false, Bool.false_eq_true, reduceCtorEq, false_and, and_false, or_false, false_or, and_self, Nat.zero_add, exists_eq', exists_eq, Sl.val.injEq, Sl.own.injEq, exists_const, tr_vnil, tr_vcons, tr_callX, pick_c, pick_n, List.getElem?_cons_zero, List.getElem?_cons_succ, Option.toList_some, tr_dict0, tr_dict1, ts_never, isi_tt, isi_ii, isi_bi, rev_t, rev_l, ts_dput, ts_update, getDc_o, asD_d, din_i, dnin_i, dget_i, key_i, Option.isSome_some, Option.isSome_none, tr_fld, tr_opF, tr_opFr, tr_c1F, ts_setF, ts_setFO, ts_addF, ts_addFO, ts_augF, ts_appF, tr_popF, tr_pop0F, tr_meth, tr_methT, tr_tagM, tr_fldT, tr_make, tr_leaf, getI_o, tagE_o, fV_0, fV_s, fA_0, fA_s, fO_0l, fO_0d, fO_s, fL_0, fL_s, gvS_v, qvar_at, qcon_at, qnil_at, qop_at, fldQ_at, tr_mq, ts_forO, count_ok hz.1 hz.2, sj, if_pos g0, e1, pj]
        refine ⟨mulOk_l (by omega), ?_⟩
        rw [LL.eq_2 s _ _ (j + 1), pv_s, Int.mul_comm (s (j + 1))]
    · obtain ⟨x5, x6, x7, rfl⟩ := hr
      have ln : (enumP ((List.range (k + 1)).map fun i => PyData.int (num s (fun _ => 0) M i))).length = k + 1 := by unfold enumP; rw [List.length_mapIdx, List.length_map, List.length_range]
      have hl2 := ((hll k (by omega)).2.2 him).1
      have e2 : num s (fun _ => 0) M (k + 1) = s (k + 1) * (cc (num s (fun _ => 0) M k) (s (k + 1)) + (M - LL s (num s (fun _ => 0) M) (s (k + 1)) (k + 1)) / s (k + 1)) := by
        rw [hN.nx k him, Int.max_eq_right (by omega)]
      rw [ln, Nat.zero_add]
      simp only [tr_bnd, tr_lft, tr_con, tr_op2, tr_op2r, tr_op2b, tr_asB, tr_trB, tr_trBp, tr_and, tr_or, tr_not, tr_if, tr_andV, tr_orV, tr_notV, tr_neg, tr_chain, tr_nil, tr_cons, tr_tup, tr_lst, tr_pn, tr_ps, tr_sl, tr_c1, tr_c1p, tr_seqI, tr_rng1, tr_rng2, tr_rng3, tr_zip, tr_enum, tr_rtV, tr_rtO, tr_aNil, tr_aV, tr_call, tr_callT, ts_next, ts_break, ts_cont, ts_seq, ts_ret, ts_retO, ts_retN, ts_expr, ts_assign, as_name, as_nil, as_cons, as_tup, ts_own, ts_if, ts_for, ts_store, varK_v, varK_o, leaf_l, leaf_d, tu_takeG, tr_rtG, rtg_o, getV_od, rtd_od, rto_od, tr_yes, wipe_n, wipe_c, unw_n, unw_c, unw1_v, unw1_e, unw1_n, getQ_0, getQ_s, isOS_v, isOS_e, nl_i, nl_b, nl_n, nl_s, nl_t, eq_self, ts_par, pev_n, pev_v, pev_o, sets_n, sets_c, tr_bor, bor_c, bor_n, sok_e, sok_vv, sok_int, sok_ss, sok_o, rtd_v, rtd_o, rto_o, tu_var, tu_op2l, tu_slp, getO_o, getS_s, getX_v, tu_aL, tu_aS, tu_take, tu_aug, tu_append, tu_pop, tu_lenS, tu_ixS, outA, scrA, isOA, isSA, outS_o, scrS_s, isO_o, isS_s, lok_gen, lix_nil, lix_v, lix_l, lix_s, sok_nil, sok_v, sok_l, sok_s, at_0, at_1, getV_v, getV_o, getL_o, add_ii, sub_ii, mul_ii, mul_ti, mul_li, fdiv_ii, mod_ii, pow_ii, neg_i, cmp_ii, addI_ii, mulI_ii, eq_ii, ne_ii, eq_ss, ne_ss, asB_b, truth_b, truth_i, truth_l, truth_t, truth_n, asI_i, item_l, item_t, len_l, len_t, abs_i, int_i, int_b, tuple_l, tuple_t, list_l, list_t, max2_ii, min2_ii, seq_l, seq_t, slice_l, slice_t, rng1_i, rng2_i, zip_l, zip_t, zip_tl, zip_lt, enum_l, add_tt, add_ll, add_ss, repr_i, atI_0, atI_1, atI_2, ixN_0, ixN_1, ixN_2, ite_some, map_some, ex_and, ex_eq, bind_some, List.set_cons_zero, List.set_cons_succ, List.length_cons, List.length_nil, Option.some.injEq, decide_eq_true_eq, Bool.not_true, Bool.not_false, Bool.and_eq_true, Bool.or_eq_true, fillA, wbA, entry, entrySls, entrySl, List.replicate, List.cons_append, List.nil_append, trF_ok, List.append_nil, List.map_nil, List.map_cons, ownIx, and_assoc, exists_and_left, exists_eq_left', exists_eq_left, Rt.v.injEq, Rt.o.injEq, List.cons.injEq, PyData.int.injEq, PyData.list.injEq, PyData.tuple.injEq, and_true, true_and, List.all_cons, List.all_nil, List.nodup_cons, List.nodup_nil, decide_true, decide_false, Bool.and_true, Bool.true_and, List.mem_cons, List.not_mem_nil, not_false_eq_true, Nat.sub_self, Nat.reduceSub, Nat.reduceAdd, if_true, if_false, Bool.false_eq_true, reduceCtorEq, false_and, and_false, or_false, false_or, and_self, Nat.zero_add, exists_eq', exists_eq, Sl.val.injEq, Sl.own.injEq, exists_const, tr_vnil, tr_vcons, tr_callX, pick_c, pick_n, List.getElem?_cons_zero, List.getElem?_cons_succ, Option.toList_some, tr_dict0, tr_dict1, ts_never, isi_tt, isi_ii, isi_bi, rev_t, rev_l, ts_dput, ts_update, getDc_o, asD_d, din_i, dnin_i, dget_i, key_i, Option.isSome_some, Option.isSome_none, tr_fld, tr_opF, tr_opFr, tr_c1F, ts_setF, ts_setFO, ts_addF, ts_addFO, ts_augF, ts_appF, tr_popF, tr_pop0F, tr_meth, tr_methT, tr_tagM, tr_fldT, tr_make, tr_leaf, getI_o, tagE_o, fV_0, fV_s, fA_0, fA_s, fO_0l, fO_0d, fO_s, fL_0, fL_s, gvS_v, qvar_at, qcon_at, qnil_at, qop_at, fldQ_at, tr_mq, ts_forO, last_map, count_ok hz.1 hz.2, len_map, ← e2]
      refine ⟨fdOk_s hz.1 (by omega), mulOk_l (by omega), lenOk_of (by omega), ?_⟩
      rw [List.range_succ (n := k + 1), List.map_append]
      rfl
  · obtain ⟨x3, x4, x5, x6, x7, rfl⟩ := hr
    simp only [tr_bnd, tr_lft, tr_con, tr_op2, tr_op2r, tr_op2b, tr_asB, tr_trB, tr_trBp, tr_and, tr_or, tr_not, tr_if, tr_andV, tr_orV, tr_notV, tr_neg, tr_chain, tr_nil, tr_cons, tr_tup, tr_lst, tr_pn, tr_ps, tr_sl, tr_c1, tr_c1p, tr_seqI, tr_rng1, tr_rng2, tr_rng3, tr_zip, tr_enum, tr_rtV, tr_rtO, tr_aNil, tr_aV, tr_call, tr_callT, ts_next, ts_break, ts_cont, ts_seq, ts_ret, ts_retO, ts_retN, ts_expr, ts_assign, as_name, as_nil, as_cons, as_tup, ts_own, ts_if, ts_for, ts_store, varK_v, varK_o, leaf_l, leaf_d, tu_takeG, tr_rtG, rtg_o, getV_od, rtd_od, rto_od, tr_yes, wipe_n, wipe_c, unw_n, unw_c, unw1_v, unw1_e, unw1_n, getQ_0, getQ_s, isOS_v, isOS_e, nl_i, nl_b, nl_n, nl_s, nl_t, eq_self, ts_par, pev_n, pev_v, pev_o, sets_n, sets_c, tr_bor, bor_c, bor_n, sok_e, sok_vv, sok_int, sok_ss, sok_o, rtd_v, rtd_o, rto_o, tu_var, tu_op2l, tu_slp, getO_o, getS_s, getX_v, tu_aL, tu_aS, tu_take, tu_aug, tu_append, tu_pop, tu_lenS, tu_ixS, outA, scrA, isOA, isSA, outS_o, scrS_s, isO_o, isS_s, lok_gen, lix_nil, lix_v, lix_l, lix_s, sok_nil, sok_v, sok_l, sok_s, at_0, at_1, getV_v, getV_o, getL_o, add_ii, sub_ii, mul_ii, mul_ti, mul_li, fdiv_ii, mod_ii, pow_ii, neg_i, cmp_ii, addI_ii, mulI_ii, eq_ii, ne_ii, eq_ss, ne_ss, asB_b, truth_b, truth_i, truth_l, truth_t, truth_n, asI_i, item_l, item_t, len_l, len_t, abs_i, int_i, int_b, tuple_l, tuple_t, list_l, list_t, max2_ii, min2_ii, seq_l, seq_t, slice_l, slice_t, rng1_i, rng2_i, zip_l, zip_t, zip_tl, zip_lt, enum_l, add_tt, add_ll, add_ss, repr_i, atI_0, atI_1, atI_2, ixN_0, ixN_1, ixN_2, ite_some, map_some, ex_and, ex_eq, bind_some, List.set_cons_zero, List.set_cons_succ, List.length_cons, List.length_nil, Option.some.injEq, decide_eq_true_eq, Bool.not_true, Bool.not_false, Bool.and_eq_true, Bool.or_eq_true, fillA, wbA, entry, entrySls, entrySl, List.replicate, List.cons_append, List.nil_append, trF_ok, List.append_nil, List.map_nil, List.map_cons, ownIx, and_assoc, exists_and_left, exists_eq_left', exists_eq_left, Rt.v.injEq, Rt.o.injEq, List.cons.injEq, PyData.int.injEq, PyData.list.injEq, PyData.tuple.injEq, and_true, true_and, List.all_cons, List.all_nil, List.nodup_cons, List.nodup_nil, decide_true, decide_false, Bool.and_true, Bool.true_and, List.mem_cons, List.not_mem_nil, not_false_eq_true, Nat.sub_self, Nat.reduceSub, Nat.reduceAdd, if_true, if_false, Bool.false_eq_true, reduceCtorEq, false_and, and_false, or_false, false_or, and_self, Nat.zero_add, exists_eq', exists_eq, Sl.val.injEq, Sl.own.injEq, exists_const, tr_vnil, tr_vcons, tr_callX, pick_c, pick_n, List.getElem?_cons_zero, List.getElem?_cons_succ, Option.toList_some, tr_dict0, tr_dict1, ts_never, isi_tt, isi_ii, isi_bi, rev_t, rev_l, ts_dput, ts_update, getDc_o, asD_d, din_i, dnin_i, dget_i, key_i, Option.isSome_some, Option.isSome_none, tr_fld, tr_opF, tr_opFr, tr_c1F, ts_setF, ts_setFO, ts_addF, ts_addFO, ts_augF, ts_appF, tr_popF, tr_pop0F, tr_meth, tr_methT, tr_tagM, tr_fldT, tr_make, tr_leaf, getI_o, tagE_o, fV_0, fV_s, fA_0, fA_s, fO_0l, fO_0d, fO_s, fL_0, fL_s, gvS_v, qvar_at, qcon_at, qnil_at, qop_at, fldQ_at, tr_mq, ts_forO, List.length_range]
end Lk37

end
section
namespace Lk37
open PySem PySem.Spec L2 PL BT
theorem cc_ok {w z : Int} (h : 0 < z) (h2 : z < 18446744073709551616) : f_chunk_count [.int w, .int z] = .ok (.v (.int (cc w z))) [] := by
  apply trF_eq
  unfold f_chunk_count m_chunk_count
  rw [trF_body]
  simp only [tr_bnd, tr_lft, tr_con, tr_op2, tr_op2r, tr_op2b, tr_asB, tr_trB, tr_trBp, tr_and, tr_or, tr_not, tr_if, tr_andV, tr_orV, tr_notV, tr_neg, tr_chain, tr_nil, tr_cons, tr_tup, tr_lst, tr_pn, tr_ps, tr_sl, tr_c1, tr_c1p, tr_seqI, tr_rng1, tr_rng2, tr_rng3, tr_zip, tr_enum, tr_rtV, tr_rtO, tr_aNil, tr_aV, tr_call, tr_callT, ts_next, ts_break, ts_cont, ts_seq, ts_ret, ts_retO, ts_retN, ts_expr, ts_assign, as_name, as_nil, as_cons, as_tup, ts_own, ts_if, ts_for, ts_store, varK_v, varK_o, leaf_l, leaf_d, tu_takeG, tr_rtG, rtg_o, getV_od, rtd_od, rto_od, tr_yes, wipe_n, wipe_c, unw_n, unw_c, unw1_v, unw1_e, unw1_n, getQ_0, getQ_s, isOS_v, isOS_e, nl_i, nl_b, nl_n, nl_s, nl_t, eq_self, ts_par, pev_n, pev_v, pev_o, sets_n, sets_c, tr_bor, bor_c, bor_n, sok_e, sok_vv, sok_int, sok_ss, sok_o, rtd_v, rtd_o, rto_o, tu_var, tu_op2l, tu_slp, getO_o, getS_s, getX_v, tu_aL, tu_aS, tu_take, tu_aug, tu_append, tu_pop, tu_lenS, tu_ixS, outA, scrA, isOA, isSA, outS_o, scrS_s, isO_o, isS_s, lok_gen, lix_nil, lix_v, lix_l, lix_s, sok_nil, sok_v, sok_l, sok_s, at_0, at_1, getV_v, getV_o, getL_o, add_ii, sub_ii, mul_ii, mul_ti, mul_li, fdiv_ii, mod_ii, pow_ii, neg_i, cmp_ii, addI_ii, mulI_ii, eq_ii, ne_ii, eq_ss, ne_ss, asB_b, truth_b, truth_i, truth_l, truth_t, truth_n, asI_i, item_l, item_t, len_l, len_t, abs_i, int_i, int_b, tuple_l, tuple_t, list_l, list_t, max2_ii, min2_ii, seq_l, seq_t, slice_l, slice_t, rng1_i, rng2_i, zip_l, zip_t, zip_tl, zip_lt, enum_l, add_tt, add_ll, add_ss, repr_i, atI_0, atI_1, atI_2, ixN_0, ixN_1, ixN_2, ite_some, map_some, ex_and, ex_eq, bind_some, List.set_cons_zero, List.set_cons_succ, List.length_cons, List.length_nil, Option.some.injEq, decide_eq_true_eq, Bool.not_true, Bool.not_false, Bool.and_eq_true, Bool.or_eq_true, fillA, wbA, entry, entrySls, entrySl, List.replicate, List.cons_append, List.nil_append, trF_ok, List.append_nil, List.map_nil, List.map_cons, ownIx, and_assoc, exists_and_left, exists_eq_left', exists_eq_left, Rt.v.injEq, Rt.o.injEq, List.cons.injEq, PyData.int.injEq, PyData.list.injEq, PyData.tuple.injEq, and_true, true_and, List.all_cons, List.all_nil, List.nodup_cons, List.nodup_nil, decide_true, decide_false, Bool.and_true, Bool.true_and, List.mem_cons, List.not_mem_nil, not_false_eq_true, Nat.sub_self, Nat.reduceSub, Nat.reduceAdd, if_true, if_false, Bool.false_eq_true, reduceCtorEq, false_and, and_false, or_false, false_or, and_self, Nat.zero_add, exists_eq', exists_eq, Sl.val.injEq, Sl.own.injEq, exists_const, tr_vnil, tr_vcons, tr_callX, pick_c, pick_n, List.getElem?_cons_zero, List.getElem?_cons_succ, Option.toList_some, tr_dict0, tr_dict1, ts_never, isi_tt, isi_ii, isi_bi, rev_t, rev_l, ts_dput, ts_update, getDc_o, asD_d, din_i, dnin_i, dget_i, key_i, Option.isSome_some, Option.isSome_none]
  exact ⟨fdOk_s h (by omega), rfl⟩
theorem ll_ok {s n : Nat → Int} {a k : Nat} {z : Int} (hk : k ≤ a) (hz : 0 < z) (hz2 : z < 18446744073709551616) (hs : ∀ i, i < k → 0 ≤ s i ∧ s i < 18446744073709551616) :
    f_least_live [.tuple ((List.range a).map fun i => .int (s i)), .list ((List.range k).map fun i => .int (n i)), .int z] = .ok (.v (.int (LL s n z k))) [] := by
  apply trF_eq
  unfold f_least_live m_least_live
  rw [trF_body]
  simp only [tr_bnd, tr_lft, tr_con, tr_op2, tr_op2r, tr_op2b, tr_asB, tr_trB, tr_trBp, tr_and, tr_or, tr_not, tr_if, tr_andV, tr_orV, tr_notV, tr_neg, tr_chain, tr_nil, tr_cons, tr_tup, tr_lst, tr_pn, tr_ps, tr_sl, tr_c1, tr_c1p, tr_seqI, tr_rng1, tr_rng2, tr_rng3, tr_zip, tr_enum, tr_rtV, tr_rtO, tr_aNil, tr_aV, tr_call, tr_callT, ts_next, ts_break, ts_cont, ts_seq, ts_ret, ts_retO, ts_retN, ts_expr, ts_assign, as_name, as_nil, as_cons, as_tup, ts_own, ts_if, ts_for, ts_store, varK_v, varK_o, leaf_l, leaf_d, tu_takeG, tr_rtG, rtg_o, getV_od, rtd_od, rto_od, tr_yes, wipe_n, wipe_c, unw_n, unw_c, unw1_v, unw1_e, unw1_n, getQ_0, getQ_s, isOS_v, isOS_e, nl_i, nl_b, nl_n, nl_s, nl_t, eq_self, ts_par, pev_n, pev_v, pev_o, sets_n, sets_c, tr_bor, bor_c, bor_n, sok_e, sok_vv, sok_int, sok_ss, sok_o, rtd_v, rtd_o, rto_o, tu_var, tu_op2l, tu_slp, getO_o, getS_s, getX_v, tu_aL, tu_aS, tu_take, tu_aug, tu_append, tu_pop, tu_lenS, tu_ixS, outA, scrA, isOA, isSA, outS_o, scrS_s, isO_o, isS_s, lok_gen, lix_nil, lix_v, lix_l, lix_s, sok_nil, sok_v, sok_l, sok_s, at_0, at_1, getV_v, getV_o, getL_o, add_ii, sub_ii, mul_ii, mul_ti, mul_li, fdiv_ii, mod_ii, pow_ii, neg_i, cmp_ii, addI_ii, mulI_ii, eq_ii, ne_ii, eq_ss, ne_ss, asB_b, truth_b, truth_i, truth_l, truth_t, truth_n, asI_i, item_l, item_t, len_l, len_t, abs_i, int_i, int_b, tuple_l, tuple_t, list_l, list_t, max2_ii, min2_ii, seq_l, seq_t, slice_l, slice_t, rng1_i, rng2_i, zip_l, zip_t, zip_tl, zip_lt, enum_l, add_tt, add_ll, add_ss, repr_i, atI_0, atI_1, atI_2, ixN_0, ixN_1, ixN_2, ite_some, map_some, ex_and, ex_eq, bind_some, List.set_cons_zero, List.set_cons_succ, List.length_cons, List.length_nil, Option.some.injEq, decide_eq_true_eq, Bool.not_true, Bool.not_false, Bool.and_eq_true, Bool.or_eq_true, fillA, wbA, entry, entrySls, entrySl, List.replicate, List.cons_append, List.nil_append, trF_ok, List.append_nil, List.map_nil, List.map_cons, ownIx, and_assoc, exists_and_left, exists_eq_left', exists_eq_left, Rt.v.injEq, Rt.o.injEq, List.cons.injEq, PyData.int.injEq, PyData.list.injEq, PyData.tuple.injEq, and_true, true_and, List.all_cons, List.all_nil, List.nodup_cons, List.nodup_nil, decide_true, decide_false, Bool.and_true, Bool.true_and, List.mem_cons, List.not_mem_nil, not_false_eq_true, Nat.sub_self, Nat.reduceSub, Nat.reduceAdd, if_true, if_false, Bool.false_eq_true, reduceCtorEq, false_and, and_false, or_false, false_or, and_self, Nat.zero_add, exists_eq', exists_eq, Sl.val.injEq, Sl.own.injEq, exists_const, tr_vnil, tr_vcons, tr_callX, pick_c, pick_n, List.getElem?_cons_zero, List.getElem?_cons_succ, Option.toList_some, tr_dict0, tr_dict1, ts_never, isi_tt, isi_ii, isi_bi, rev_t, rev_l, ts_dput, ts_update, getDc_o, asD_d, din_i, dnin_i, dget_i, key_i, Option.isSome_some, Option.isSome_none, zip_rng hk]
  refine ts_forL (fun i r => ∃ x y w, r = [.val (.tuple ((List.range a).map fun i => .int (s i))), .val (.list ((List.range k).map fun i => .int (n i))), .val (.int z), .val (.int (LL s n z i)), .val (.int (pv n z i)), x, y, w]) ⟨_, _, _, rfl⟩ (fun i d r hi h => ?_) (fun r h => ?_)
  · obtain ⟨x, y, w, rfl⟩ := h
    have hik : i < k := by
      apply Nat.lt_of_not_le
      intro h
      rw [List.getElem?_eq_none (by simpa using h)] at hi
      cases hi
    rw [List.getElem?_map, List.getElem?_range hik] at hi
    cases hi
    simp only [tr_bnd, tr_lft, tr_con, tr_op2, tr_op2r, tr_op2b, tr_asB, tr_trB, tr_trBp, tr_and, tr_or, tr_not, tr_if, tr_andV, tr_orV, tr_notV, tr_neg, tr_chain, tr_nil, tr_cons, tr_tup, tr_lst, tr_pn, tr_ps, tr_sl, tr_c1, tr_c1p, tr_seqI, tr_rng1, tr_rng2, tr_rng3, tr_zip, tr_enum, tr_rtV, tr_rtO, tr_aNil, tr_aV, tr_call, tr_callT, ts_next, ts_break, ts_cont, ts_seq, ts_ret, ts_retO, ts_retN, ts_expr, ts_assign, as_name, as_nil, as_cons, as_tup, ts_own, ts_if, ts_for, ts_store, varK_v, varK_o, leaf_l, leaf_d, tu_takeG, tr_rtG, rtg_o, getV_od, rtd_od, rto_od, tr_yes, wipe_n, wipe_c, unw_n, unw_c, unw1_v, unw1_e, unw1_n, getQ_0, getQ_s, isOS_v, isOS_e, nl_i, nl_b, nl_n, nl_s, nl_t, eq_self, ts_par, pev_n, pev_v, pev_o, sets_n, sets_c, tr_bor, bor_c, bor_n, sok_e, sok_vv, sok_int, sok_ss, sok_o, rtd_v, rtd_o, rto_o, tu_var, tu_op2l, tu_slp, getO_o, getS_s, getX_v, tu_aL, tu_aS, tu_take, tu_aug, tu_append, tu_pop, tu_lenS, tu_ixS, outA, scrA, isOA, isSA, outS_o, scrS_s, isO_o, isS_s, lok_gen, lix_nil, lix_v, lix_l, lix_s, sok_nil, sok_v, sok_l, sok_s, at_0, at_1, getV_v, getV_o, getL_o, add_ii, sub_ii, mul_ii, mul_ti, mul_li, fdiv_ii, mod_ii, pow_ii, neg_i, cmp_ii, addI_ii, mulI_ii, eq_ii, ne_ii, eq_ss, ne_ss, asB_b, truth_b, truth_i, truth_l, truth_t, truth_n, asI_i, item_l, item_t, len_l, len_t, abs_i, int_i, int_b, tuple_l, tuple_t, list_l, list_t, max2_ii, min2_ii, seq_l, seq_t, slice_l, slice_t, rng1_i, rng2_i, zip_l, zip_t, zip_tl, zip_lt, enum_l, add_tt, add_ll, add_ss, repr_i, atI_0, atI_1, atI_2, ixN_0, ixN_1, ixN_2, ite_some, map_some, ex_and, ex_eq, bind_some, List.set_cons_zero, List.set_cons_succ, List.length_cons, List.length_nil, Option.some.injEq, decide_eq_true_eq, Bool.not_true, Bool.not_false, Bool.and_eq_true, Bool.or_eq_true, fillA, wbA, entry, entrySls, entrySl, List.replicate, List.cons_append, List.nil_append, trF_ok, List.append_nil, List.map_nil, List.map_cons, ownIx, and_assoc, exists_and_left, exists_eq_left', exists_eq_left, Rt.v.injEq, Rt.o.injEq, List.cons.injEq, PyData.int.injEq, PyData.list.injEq, PyData.tuple.injEq, and_true, true_and, List.all_cons, List.all_nil, List.nodup_cons, List.nodup_nil, decide_true, decide_false, Bool.and_true, Bool.true_and, List.mem_cons, List.not_mem_nil, not_false_eq_true, Nat.sub_self, Nat.reduceSub, Nat.reduceAdd, if_true, if_false, Bool.false_eq_true, reduceCtorEq, false_and, and_false, or_false, false_or, and_self, Nat.zero_add, exists_eq', exists_eq, Sl.val.injEq, Sl.own.injEq, exists_const, tr_vnil, tr_vcons, tr_callX, pick_c, pick_n, List.getElem?_cons_zero, List.getElem?_cons_succ, Option.toList_some, tr_dict0, tr_dict1, ts_never, isi_tt, isi_ii, isi_bi, rev_t, rev_l, ts_dput, ts_update, getDc_o, asD_d, din_i, dnin_i, dget_i, key_i, Option.isSome_some, Option.isSome_none, cc_ok hz hz2]
    refine ⟨mulOk_r (by have := hs i hik; omega), ?_⟩
    exact ⟨rfl, rfl⟩
  · obtain ⟨x, y, w, rfl⟩ := h
    simp only [tr_bnd, tr_lft, tr_con, tr_op2, tr_op2r, tr_op2b, tr_asB, tr_trB, tr_trBp, tr_and, tr_or, tr_not, tr_if, tr_andV, tr_orV, tr_notV, tr_neg, tr_chain, tr_nil, tr_cons, tr_tup, tr_lst, tr_pn, tr_ps, tr_sl, tr_c1, tr_c1p, tr_seqI, tr_rng1, tr_rng2, tr_rng3, tr_zip, tr_enum, tr_rtV, tr_rtO, tr_aNil, tr_aV, tr_call, tr_callT, ts_next, ts_break, ts_cont, ts_seq, ts_ret, ts_retO, ts_retN, ts_expr, ts_assign, as_name, as_nil, as_cons, as_tup, ts_own, ts_if, ts_for, ts_store, varK_v, varK_o, leaf_l, leaf_d, tu_takeG, tr_rtG, rtg_o, getV_od, rtd_od, rto_od, tr_yes, wipe_n, wipe_c, unw_n, unw_c, unw1_v, unw1_e, unw1_n, getQ_0, getQ_s, isOS_v, isOS_e, nl_i, nl_b, nl_n, nl_s, nl_t, eq_self, ts_par, pev_n, pev_v, pev_o, sets_n, sets_c, tr_bor, bor_c, bor_n, sok_e, sok_vv, sok_int, sok_ss, sok_o, rtd_v, rtd_o, rto_o, tu_var, tu_op2l, tu_slp, getO_o, getS_s, getX_v, tu_aL, tu_aS, tu_take, tu_aug, tu_append, tu_pop, tu_lenS, tu_ixS, outA, scrA, isOA, isSA, outS_o, scrS_s, isO_o, isS_s, lok_gen, lix_nil, lix_v, lix_l, lix_s, sok_nil, sok_v, sok_l, sok_s, at_0, at_1, getV_v, getV_o, getL_o, add_ii, sub_ii, mul_ii, mul_ti, mul_li, fdiv_ii, mod_ii, pow_ii, neg_i, cmp_ii, addI_ii, mulI_ii, eq_ii, ne_ii, eq_ss, ne_ss, asB_b, truth_b, truth_i, truth_l, truth_t, truth_n, asI_i, item_l, item_t, len_l, len_t, abs_i, int_i, int_b, tuple_l, tuple_t, list_l, list_t, max2_ii, min2_ii, seq_l, seq_t, slice_l, slice_t, rng1_i, rng2_i, zip_l, zip_t, zip_tl, zip_lt, enum_l, add_tt, add_ll, add_ss, repr_i, atI_0, atI_1, atI_2, ixN_0, ixN_1, ixN_2, ite_some, map_some, ex_and, ex_eq, bind_some, List.set_cons_zero, List.set_cons_succ, List.length_cons, List.length_nil, Option.some.injEq, decide_eq_true_eq, Bool.not_true, Bool.not_false, Bool.and_eq_true, Bool.or_eq_true, fillA, wbA, entry, entrySls, entrySl, List.replicate, List.cons_append, List.nil_append, trF_ok, List.append_nil, List.map_nil, List.map_cons, ownIx, and_assoc, exists_and_left, exists_eq_left', exists_eq_left, Rt.v.injEq, Rt.o.injEq, List.cons.injEq, PyData.int.injEq, PyData.list.injEq, PyData.tuple.injEq, and_true, true_and, List.all_cons, List.all_nil, List.nodup_cons, List.nodup_nil, decide_true, decide_false, Bool.and_true, Bool.true_and, List.mem_cons, List.not_mem_nil, not_false_eq_true, Nat.sub_self, Nat.reduceSub, Nat.reduceAdd, if_true, if_false, Bool.false_eq_true, reduceCtorEq, false_and, and_false, or_false, false_or, and_self, Nat.zero_add, exists_eq', exists_eq, Sl.val.injEq, Sl.own.injEq, exists_const, tr_vnil, tr_vcons, tr_callX, pick_c, pick_n, List.getElem?_cons_zero, List.getElem?_cons_succ, Option.toList_some, tr_dict0, tr_dict1, ts_never, isi_tt, isi_ii, isi_bi, rev_t, rev_l, ts_dput, ts_update, getDc_o, asD_d, din_i, dnin_i, dget_i, key_i, Option.isSome_some, Option.isSome_none]
    simp
theorem nums_ok {s f : Nat → Int} {M : Int} {m : Nat} (hm : m ≤ 1000) (hs : ∀ i, i ≤ m → 0 < s i ∧ s i < 18446744073709551616) :
    f_numbers_from [tup (m + 1) s, .int M, tup (m + 1) f] = .ok (.v (tup (m + 1) (num s f M))) [] := by
  apply trF_eq
  unfold f_numbers_from m_numbers_from tup
  rw [trF_body]
  have a0 : atI ((List.range (m + 1)).map fun i => PyData.int (f i)) 0 = some (.int (f 0)) := at_map (i := 0) (by omega)
  simp only [tr_bnd, tr_lft, tr_con, tr_op2, tr_op2r, tr_op2b, tr_asB, tr_trB, tr_trBp, tr_and, tr_or, tr_not, tr_if, tr_andV, tr_orV, tr_notV, tr_neg, tr_chain, tr_nil, tr_cons, tr_tup, tr_lst, tr_pn, tr_ps, tr_sl, tr_c1, tr_c1p, tr_seqI, tr_rng1, tr_rng2, tr_rng3, tr_zip, tr_enum, tr_rtV, tr_rtO, tr_aNil, tr_aV, tr_call, tr_callT, ts_next, ts_break, ts_cont, ts_seq, ts_ret, ts_retO, ts_retN, ts_expr, ts_assign, as_name, as_nil, as_cons, as_tup, ts_own, ts_if, ts_for, ts_store, varK_v, varK_o, leaf_l, leaf_d, tu_takeG, tr_rtG, rtg_o, getV_od, rtd_od, rto_od, tr_yes, wipe_n, wipe_c, unw_n, unw_c, unw1_v, unw1_e, unw1_n, getQ_0, getQ_s, isOS_v, isOS_e, nl_i, nl_b, nl_n, nl_s, nl_t, eq_self, ts_par, pev_n, pev_v, pev_o, sets_n, sets_c, tr_bor, bor_c, bor_n, sok_e, sok_vv, sok_int, sok_ss, sok_o, rtd_v, rtd_o, rto_o, tu_var, tu_op2l, tu_slp, getO_o, getS_s, getX_v, tu_aL, tu_aS, tu_take, tu_aug, tu_append, tu_pop, tu_lenS, tu_ixS, outA, scrA, isOA, isSA, outS_o, scrS_s, isO_o, isS_s, lok_gen, lix_nil, lix_v, lix_l, lix_s, sok_nil, sok_v, sok_l, sok_s, at_0, at_1, getV_v, getV_o, getL_o, add_ii, sub_ii, mul_ii, mul_ti, mul_li, fdiv_ii, mod_ii, pow_ii, neg_i, cmp_ii, addI_ii, mulI_ii, eq_ii, ne_ii, eq_ss, ne_ss, asB_b, truth_b, truth_i, truth_l, truth_t, truth_n, asI_i, item_l, item_t, len_l, len_t, abs_i, int_i, int_b, tuple_l, tuple_t, list_l, list_t, max2_ii, min2_ii, seq_l, seq_t, slice_l, slice_t, rng1_i, rng2_i, zip_l, zip_t, zip_tl, zip_lt, enum_l, add_tt, add_ll, add_ss, repr_i, atI_0, atI_1, atI_2, ixN_0, ixN_1, ixN_2, ite_some, map_some, ex_and, ex_eq, bind_some, List.set_cons_zero, List.set_cons_succ, List.length_cons, List.length_nil, Option.some.injEq, decide_eq_true_eq, Bool.not_true, Bool.not_false, Bool.and_eq_true, Bool.or_eq_true, fillA, wbA, entry, entrySls, entrySl, List.replicate, List.cons_append, List.nil_append, trF_ok, List.append_nil, List.map_nil, List.map_cons, ownIx, and_assoc, exists_and_left, exists_eq_left', exists_eq_left, Rt.v.injEq, Rt.o.injEq, List.cons.injEq, PyData.int.injEq, PyData.list.injEq, PyData.tuple.injEq, and_true, true_and, List.all_cons, List.all_nil, List.nodup_cons, List.nodup_nil, decide_true, decide_false, Bool.and_true, Bool.true_and, List.mem_cons, List.not_mem_nil, not_false_eq_true, Nat.sub_self, Nat.reduceSub, Nat.reduceAdd, if_true, if_false, Bool.false_eq_true, reduceCtorEq, false_and, and_false, or_false, false_or, and_self, Nat.zero_add, exists_eq', exists_eq, Sl.val.injEq, Sl.own.injEq, exists_const, tr_vnil, tr_vcons, tr_callX, pick_c, pick_n, List.getElem?_cons_zero, List.getElem?_cons_succ, Option.toList_some, tr_dict0, tr_dict1, ts_never, isi_tt, isi_ii, isi_bi, rev_t, rev_l, ts_dput, ts_update, getDc_o, asD_d, din_i, dnin_i, dget_i, key_i, Option.isSome_some, Option.isSome_none, a0, len_map]
  have mx : ∀ a b : Int, (if b > a then b else a) = max a b := fun a b => by split <;> omega
  refine ⟨lenOk_of (by decide), rOk_of (by omega) (by omega), rOk_of (by omega) (by omega), ?_⟩
  have e1 : (((m + 1 : Nat) : Int) - 1).toNat = m := by omega
  rw [e1]
  refine ts_range (fun i r => ∃ x y w v, r = [.val (.tuple ((List.range (m + 1)).map fun i => .int (s i))), .val (.int M), .val (.tuple ((List.range (m + 1)).map fun i => .int (f i))), .own (.list ((List.range (i + 1)).map fun i => .int (num s f M i))), x, y, w, v] ∧ isOS x = false ∧ isOS y = false ∧ isOS w = false ∧ isOS v = false) ⟨.emp, .emp, .emp, .emp, ?_, rfl, rfl, rfl, rfl⟩ (fun i r hi h => ?_) (fun r h => ?_)
  · rw [mx]; rfl
  · obtain ⟨x, y, w, v, rfl, hx, hy, hw, hv⟩ := h
    have b1 : (1 : Int) + (i : Int) = ((i + 1 : Nat) : Int) := by omega
    have s1 := at_map (f := fun i => PyData.int (s i)) (k := m + 1) (i := i + 1) (by omega)
    have f1 := at_map (f := fun i => PyData.int (f i)) (k := m + 1) (i := i + 1) (by omega)
    have hsi := hs (i + 1) (by omega)
    have l1 := ll_ok (s := s) (n := num s f M) (a := m + 1) (k := i + 1) (z := s (i + 1)) (by omega) hsi.1 hsi.2 (fun j hj => ⟨Int.le_of_lt (hs j (by omega)).1, (hs j (by omega)).2⟩)
    simp only [tr_bnd, tr_lft, tr_con, tr_op2, tr_op2r, tr_op2b, tr_asB, tr_trB, tr_trBp, tr_and, tr_or, tr_not, tr_if, tr_andV, tr_orV, tr_notV, tr_neg, tr_chain, tr_nil, tr_cons, tr_tup, tr_lst, tr_pn, tr_ps, tr_sl, tr_c1, tr_c1p, tr_seqI, tr_rng1, tr_rng2, tr_rng3, tr_zip, tr_enum, tr_rtV, tr_rtO, tr_aNil, tr_aV, tr_call, tr_callT, ts_next, ts_break, ts_cont, ts_seq, ts_ret, ts_retO, ts_retN, ts_expr, ts_assign, as_name, as_nil, as_cons, as_tup, ts_own, ts_if, ts_for, ts_store, varK_v, varK_o, leaf_l, leaf_d, tu_takeG, tr_rtG, rtg_o, getV_od, rtd_od, rto_od, tr_yes, wipe_n, wipe_c, unw_n, unw_c, unw1_v, unw1_e, unw1_n, getQ_0, getQ_s, isOS_v, isOS_e, nl_i, nl_b, nl_n, nl_s, nl_t, eq_self, ts_par, pev_n, pev_v, pev_o, sets_n, sets_c, tr_bor, bor_c, bor_n, sok_e, sok_vv, sok_int, sok_ss, sok_o, rtd_v, rtd_o, rto_o, tu_var, tu_op2l, tu_slp, getO_o, getS_s, getX_v, tu_aL, tu_aS, tu_take, tu_aug, tu_append, tu_pop, tu_lenS, tu_ixS, outA, scrA, isOA, isSA, outS_o, scrS_s, isO_o, isS_s, lok_gen, lix_nil, lix_v, lix_l, lix_s, sok_nil, sok_v, sok_l, sok_s, at_0, at_1, getV_v, getV_o, getL_o, add_ii, sub_ii, mul_ii, mul_ti, mul_li, fdiv_ii, mod_ii, pow_ii, neg_i, cmp_ii, addI_ii, mulI_ii, eq_ii, ne_ii, eq_ss, ne_ss, asB_b, truth_b, truth_i, truth_l, truth_t, truth_n, asI_i, item_l, item_t, len_l, len_t, abs_i, int_i, int_b, tuple_l, tuple_t, list_l, list_t, max2_ii, min2_ii, seq_l, seq_t, slice_l, slice_t, rng1_i, rng2_i, zip_l, zip_t, zip_tl, zip_lt, enum_l, add_tt, add_ll, add_ss, repr_i, atI_0, atI_1, atI_2, ixN_0, ixN_1, ixN_2, ite_some, map_some, ex_and, ex_eq, bind_some, List.set_cons_zero, List.set_cons_succ, List.length_cons, List.length_nil, Option.some.injEq, decide_eq_true_eq, Bool.not_true, Bool.not_false, Bool.and_eq_true, Bool.or_eq_true, fillA, wbA, entry, entrySls, entrySl, List.replicate, List.cons_append, List.nil_append, trF_ok, List.append_nil, List.map_nil, List.map_cons, ownIx, and_assoc, exists_and_left, exists_eq_left', exists_eq_left, Rt.v.injEq, Rt.o.injEq, List.cons.injEq, PyData.int.injEq, PyData.list.injEq, PyData.tuple.injEq, and_true, true_and, List.all_cons, List.all_nil, List.nodup_cons, List.nodup_nil, decide_true, decide_false, Bool.and_true, Bool.true_and, List.mem_cons, List.not_mem_nil, not_false_eq_true, Nat.sub_self, Nat.reduceSub, Nat.reduceAdd, if_true, if_false, Bool.false_eq_true, reduceCtorEq, false_and, and_false, or_false, false_or, and_self, Nat.zero_add, exists_eq', exists_eq, Sl.val.injEq, Sl.own.injEq, exists_const, tr_vnil, tr_vcons, tr_callX, pick_c, pick_n, List.getElem?_cons_zero, List.getElem?_cons_succ, Option.toList_some, tr_dict0, tr_dict1, ts_never, isi_tt, isi_ii, isi_bi, rev_t, rev_l, ts_dput, ts_update, getDc_o, asD_d, din_i, dnin_i, dget_i, key_i, Option.isSome_some, Option.isSome_none, b1, s1, l1, f1, last_map, cc_ok hsi.1 hsi.2, mx, len_map, ← num_s]
    refine ⟨sok_x hw, sok_x hv, fdOk_s hsi.1 (by omega), mulOk_l (by omega), lenOk_of (by omega), ?_⟩
    rw [List.range_succ (n := i + 1), List.map_append]
    rfl
  · obtain ⟨x, y, w, v, rfl, hx, hy, hw, hv⟩ := h
    simp only [tr_bnd, tr_lft, tr_con, tr_op2, tr_op2r, tr_op2b, tr_asB, tr_trB, tr_trBp, tr_and, tr_or, tr_not, tr_if, tr_andV, tr_orV, tr_notV, tr_neg, tr_chain, tr_nil, tr_cons, tr_tup, tr_lst, tr_pn, tr_ps, tr_sl, tr_c1, tr_c1p, tr_seqI, tr_rng1, tr_rng2, tr_rng3, tr_zip, tr_enum, tr_rtV, tr_rtO, tr_aNil, tr_aV, tr_call, tr_callT, ts_next, ts_break, ts_cont, ts_seq, ts_ret, ts_retO, ts_retN, ts_expr, ts_assign, as_name, as_nil, as_cons, as_tup, ts_own, ts_if, ts_for, ts_store, varK_v, varK_o, leaf_l, leaf_d, tu_takeG, tr_rtG, rtg_o, getV_od, rtd_od, rto_od, tr_yes, wipe_n, wipe_c, unw_n, unw_c, unw1_v, unw1_e, unw1_n, getQ_0, getQ_s, isOS_v, isOS_e, nl_i, nl_b, nl_n, nl_s, nl_t, eq_self, ts_par, pev_n, pev_v, pev_o, sets_n, sets_c, tr_bor, bor_c, bor_n, sok_e, sok_vv, sok_int, sok_ss, sok_o, rtd_v, rtd_o, rto_o, tu_var, tu_op2l, tu_slp, getO_o, getS_s, getX_v, tu_aL, tu_aS, tu_take, tu_aug, tu_append, tu_pop, tu_lenS, tu_ixS, outA, scrA, isOA, isSA, outS_o, scrS_s, isO_o, isS_s, lok_gen, lix_nil, lix_v, lix_l, lix_s, sok_nil, sok_v, sok_l, sok_s, at_0, at_1, getV_v, getV_o, getL_o, add_ii, sub_ii, mul_ii, mul_ti, mul_li, fdiv_ii, mod_ii, pow_ii, neg_i, cmp_ii, addI_ii, mulI_ii, eq_ii, ne_ii, eq_ss, ne_ss, asB_b, truth_b, truth_i, truth_l, truth_t, truth_n, asI_i, item_l, item_t, len_l, len_t, abs_i, int_i, int_b, tuple_l, tuple_t, list_l, list_t, max2_ii, min2_ii, seq_l, seq_t, slice_l, slice_t, rng1_i, rng2_i, zip_l, zip_t, zip_tl, zip_lt, enum_l, add_tt, add_ll, add_ss, repr_i, atI_0, atI_1, atI_2, ixN_0, ixN_1, ixN_2, ite_some, map_some, ex_and, ex_eq, bind_some, List.set_cons_zero, List.set_cons_succ, List.length_cons, List.length_nil, Option.some.injEq, decide_eq_true_eq, Bool.not_true, Bool.not_false, Bool.and_eq_true, Bool.or_eq_true, fillA, wbA, entry, entrySls, entrySl, List.replicate, List.cons_append, List.nil_append, trF_ok, List.append_nil, List.map_nil, List.map_cons, ownIx, and_assoc, exists_and_left, exists_eq_left', exists_eq_left, Rt.v.injEq, Rt.o.injEq, List.cons.injEq, PyData.int.injEq, PyData.list.injEq, PyData.tuple.injEq, and_true, true_and, List.all_cons, List.all_nil, List.nodup_cons, List.nodup_nil, decide_true, decide_false, Bool.and_true, Bool.true_and, List.mem_cons, List.not_mem_nil, not_false_eq_true, Nat.sub_self, Nat.reduceSub, Nat.reduceAdd, if_true, if_false, Bool.false_eq_true, reduceCtorEq, false_and, and_false, or_false, false_or, and_self, Nat.zero_add, exists_eq', exists_eq, Sl.val.injEq, Sl.own.injEq, exists_const, tr_vnil, tr_vcons, tr_callX, pick_c, pick_n, List.getElem?_cons_zero, List.getElem?_cons_succ, Option.toList_some, tr_dict0, tr_dict1, ts_never, isi_tt, isi_ii, isi_bi, rev_t, rev_l, ts_dput, ts_update, getDc_o, asD_d, din_i, dnin_i, dget_i, key_i, Option.isSome_some, Option.isSome_none]
theorem bounds_ok {s : Nat → Int} {M : Int} {m : Nat} (hm : m ≤ 900) (hs : ∀ i, i ≤ m → 0 < s i ∧ s i < 18446744073709551616) :
    f_bounds [tup (m + 1) s, .int M] = .ok (.v (tup (m + 1) (num s (fun _ => 0) M))) [] := by
  apply trF_eq
  unfold f_bounds m_bounds
  rw [trF_body]
  have z0 : (List.replicate ((m + 1 : Nat) : Int).toNat [PyData.int 0]).flatten = (List.range (m + 1)).map fun i => PyData.int ((fun _ => (0 : Int)) i) := by
    rw [Int.toNat_natCast, flat_one, List.map_const', List.length_range]
  have n1 := nums_ok (f := fun _ => 0) (M := M) (m := m) (by omega) hs
  simp only [tr_bnd, tr_lft, tr_con, tr_op2, tr_op2r, tr_op2b, tr_asB, tr_trB, tr_trBp, tr_and, tr_or, tr_not, tr_if, tr_andV, tr_orV, tr_notV, tr_neg, tr_chain, tr_nil, tr_cons, tr_tup, tr_lst, tr_pn, tr_ps, tr_sl, tr_c1, tr_c1p, tr_seqI, tr_rng1, tr_rng2, tr_rng3, tr_zip, tr_enum, tr_rtV, tr_rtO, tr_aNil, tr_aV, tr_call, tr_callT, ts_next, ts_break, ts_cont, ts_seq, ts_ret, ts_retO, ts_retN, ts_expr, ts_assign, as_name, as_nil, as_cons, as_tup, ts_own, ts_if, ts_for, ts_store, varK_v, varK_o, leaf_l, leaf_d, tu_takeG, tr_rtG, rtg_o, getV_od, rtd_od, rto_od, tr_yes, wipe_n, wipe_c, unw_n, unw_c, unw1_v, unw1_e, unw1_n, getQ_0, getQ_s, isOS_v, isOS_e, nl_i, nl_b, nl_n, nl_s, nl_t, eq_self, ts_par, pev_n, pev_v, pev_o, sets_n, sets_c, tr_bor, bor_c, bor_n, sok_e, sok_vv, sok_int, sok_ss, sok_o, rtd_v, rtd_o, rto_o, tu_var, tu_op2l, tu_slp, getO_o, getS_s, getX_v, tu_aL, tu_aS, tu_take, tu_aug, tu_append, tu_pop, tu_lenS, tu_ixS, outA, scrA, isOA, isSA, outS_o, scrS_s, isO_o, isS_s, lok_gen, lix_nil, lix_v, lix_l, lix_s, sok_nil, sok_v, sok_l, sok_s, at_0, at_1, getV_v, getV_o, getL_o, add_ii, sub_ii, mul_ii, mul_ti, mul_li, fdiv_ii, mod_ii, pow_ii, neg_i, cmp_ii, addI_ii, mulI_ii, eq_ii, ne_ii, eq_ss, ne_ss, asB_b, truth_b, truth_i, truth_l, truth_t, truth_n, asI_i, item_l, item_t, len_l, len_t, abs_i, int_i, int_b, tuple_l, tuple_t, list_l, list_t, max2_ii, min2_ii, seq_l, seq_t, slice_l, slice_t, rng1_i, rng2_i, zip_l, zip_t, zip_tl, zip_lt, enum_l, add_tt, add_ll, add_ss, repr_i, atI_0, atI_1, atI_2, ixN_0, ixN_1, ixN_2, ite_some, map_some, ex_and, ex_eq, bind_some, List.set_cons_zero, List.set_cons_succ, List.length_cons, List.length_nil, Option.some.injEq, decide_eq_true_eq, Bool.not_true, Bool.not_false, Bool.and_eq_true, Bool.or_eq_true, fillA, wbA, entry, entrySls, entrySl, List.replicate, List.cons_append, List.nil_append, trF_ok, List.append_nil, List.map_nil, List.map_cons, ownIx, and_assoc, exists_and_left, exists_eq_left', exists_eq_left, Rt.v.injEq, Rt.o.injEq, List.cons.injEq, PyData.int.injEq, PyData.list.injEq, PyData.tuple.injEq, and_true, true_and, List.all_cons, List.all_nil, List.nodup_cons, List.nodup_nil, decide_true, decide_false, Bool.and_true, Bool.true_and, List.mem_cons, List.not_mem_nil, not_false_eq_true, Nat.sub_self, Nat.reduceSub, Nat.reduceAdd, if_true, if_false, Bool.false_eq_true, reduceCtorEq, false_and, and_false, or_false, false_or, and_self, Nat.zero_add, exists_eq', exists_eq, Sl.val.injEq, Sl.own.injEq, exists_const, tr_vnil, tr_vcons, tr_callX, pick_c, pick_n, List.getElem?_cons_zero, List.getElem?_cons_succ, Option.toList_some, tr_dict0, tr_dict1, ts_never, isi_tt, isi_ii, isi_bi, rev_t, rev_l, ts_dput, ts_update, getDc_o, asD_d, din_i, dnin_i, dget_i, key_i, Option.isSome_some, Option.isSome_none, tup, len_map, z0] at n1 ⊢
  simp only [tr_bnd, tr_lft, tr_con, tr_op2, tr_op2r, tr_op2b, tr_asB, tr_trB, tr_trBp, tr_and, tr_or, tr_not, tr_if, tr_andV, tr_orV, tr_notV, tr_neg, tr_chain, tr_nil, tr_cons, tr_tup, tr_lst, tr_pn, tr_ps, tr_sl, tr_c1, tr_c1p, tr_seqI, tr_rng1, tr_rng2, tr_rng3, tr_zip, tr_enum, tr_rtV, tr_rtO, tr_aNil, tr_aV, tr_call, tr_callT, ts_next, ts_break, ts_cont, ts_seq, ts_ret, ts_retO, ts_retN, ts_expr, ts_assign, as_name, as_nil, as_cons, as_tup, ts_own, ts_if, ts_for, ts_store, varK_v, varK_o, leaf_l, leaf_d, tu_takeG, tr_rtG, rtg_o, getV_od, rtd_od, rto_od, tr_yes, wipe_n, wipe_c, unw_n, unw_c, unw1_v, unw1_e, unw1_n, getQ_0, getQ_s, isOS_v, isOS_e, nl_i, nl_b, nl_n, nl_s, nl_t, eq_self, ts_par, pev_n, pev_v, pev_o, sets_n, sets_c, tr_bor, bor_c, bor_n, sok_e, sok_vv, sok_int, sok_ss, sok_o, rtd_v, rtd_o, rto_o, tu_var, tu_op2l, tu_slp, getO_o, getS_s, getX_v, tu_aL, tu_aS, tu_take, tu_aug, tu_append, tu_pop, tu_lenS, tu_ixS, outA, scrA, isOA, isSA, outS_o, scrS_s, isO_o, isS_s, lok_gen, lix_nil, lix_v, lix_l, lix_s, sok_nil, sok_v, sok_l, sok_s, at_0, at_1, getV_v, getV_o, getL_o, add_ii, sub_ii, mul_ii, mul_ti, mul_li, fdiv_ii, mod_ii, pow_ii, neg_i, cmp_ii, addI_ii, mulI_ii, eq_ii, ne_ii, eq_ss, ne_ss, asB_b, truth_b, truth_i, truth_l, truth_t, truth_n, asI_i, item_l, item_t, len_l, len_t, abs_i, int_i, int_b, tuple_l, tuple_t, list_l, list_t, max2_ii, min2_ii, seq_l, seq_t, slice_l, slice_t, rng1_i, rng2_i, zip_l, zip_t, zip_tl, zip_lt, enum_l, add_tt, add_ll, add_ss, repr_i, atI_0, atI_1, atI_2, ixN_0, ixN_1, ixN_2, ite_some, map_some, ex_and, ex_eq, bind_some, List.set_cons_zero, List.set_cons_succ, List.length_cons, List.length_nil, Option.some.injEq, decide_eq_true_eq, Bool.not_true, Bool.not_false, Bool.and_eq_true, Bool.or_eq_true, fillA, wbA, entry, entrySls, entrySl, List.replicate, List.cons_append, List.nil_append, trF_ok, List.append_nil, List.map_nil, List.map_cons, ownIx, and_assoc, exists_and_left, exists_eq_left', exists_eq_left, Rt.v.injEq, Rt.o.injEq, List.cons.injEq, PyData.int.injEq, PyData.list.injEq, PyData.tuple.injEq, and_true, true_and, List.all_cons, List.all_nil, List.nodup_cons, List.nodup_nil, decide_true, decide_false, Bool.and_true, Bool.true_and, List.mem_cons, List.not_mem_nil, not_false_eq_true, Nat.sub_self, Nat.reduceSub, Nat.reduceAdd, if_true, if_false, Bool.false_eq_true, reduceCtorEq, false_and, and_false, or_false, false_or, and_self, Nat.zero_add, exists_eq', exists_eq, Sl.val.injEq, Sl.own.injEq, exists_const, tr_vnil, tr_vcons, tr_callX, pick_c, pick_n, List.getElem?_cons_zero, List.getElem?_cons_succ, Option.toList_some, tr_dict0, tr_dict1, ts_never, isi_tt, isi_ii, isi_bi, rev_t, rev_l, ts_dput, ts_update, getDc_o, asD_d, din_i, dnin_i, dget_i, key_i, Option.isSome_some, Option.isSome_none, n1]
  exact ⟨lenOk_of (by decide), by simp, by omega, by omega, by decide⟩
theorem pages_ok {s : Nat → Int} {M : Int} {m : Nat} (hm : m ≤ 900) (hs : ∀ i, i ≤ m → 0 < s i ∧ s i < 18446744073709551616) :
    f_pages_needed [tup (m + 1) s, .int M] = .ok (.v (.int (num s (fun _ => 0) M m / s m))) [] := by
  apply trF_eq
  unfold f_pages_needed m_pages_needed
  rw [trF_body]
  have b1 := bounds_ok (M := M) hm hs
  simp only [tr_bnd, tr_lft, tr_con, tr_op2, tr_op2r, tr_op2b, tr_asB, tr_trB, tr_trBp, tr_and, tr_or, tr_not, tr_if, tr_andV, tr_orV, tr_notV, tr_neg, tr_chain, tr_nil, tr_cons, tr_tup, tr_lst, tr_pn, tr_ps, tr_sl, tr_c1, tr_c1p, tr_seqI, tr_rng1, tr_rng2, tr_rng3, tr_zip, tr_enum, tr_rtV, tr_rtO, tr_aNil, tr_aV, tr_call, tr_callT, ts_next, ts_break, ts_cont, ts_seq, ts_ret, ts_retO, ts_retN, ts_expr, ts_assign, as_name, as_nil, as_cons, as_tup, ts_own, ts_if, ts_for, ts_store, varK_v, varK_o, leaf_l, leaf_d, tu_takeG, tr_rtG, rtg_o, getV_od, rtd_od, rto_od, tr_yes, wipe_n, wipe_c, unw_n, unw_c, unw1_v, unw1_e, unw1_n, getQ_0, getQ_s, isOS_v, isOS_e, nl_i, nl_b, nl_n, nl_s, nl_t, eq_self, ts_par, pev_n, pev_v, pev_o, sets_n, sets_c, tr_bor, bor_c, bor_n, sok_e, sok_vv, sok_int, sok_ss, sok_o, rtd_v, rtd_o, rto_o, tu_var, tu_op2l, tu_slp, getO_o, getS_s, getX_v, tu_aL, tu_aS, tu_take, tu_aug, tu_append, tu_pop, tu_lenS, tu_ixS, outA, scrA, isOA, isSA, outS_o, scrS_s, isO_o, isS_s, lok_gen, lix_nil, lix_v, lix_l, lix_s, sok_nil, sok_v, sok_l, sok_s, at_0, at_1, getV_v, getV_o, getL_o, add_ii, sub_ii, mul_ii, mul_ti, mul_li, fdiv_ii, mod_ii, pow_ii, neg_i, cmp_ii, addI_ii, mulI_ii, eq_ii, ne_ii, eq_ss, ne_ss, asB_b, truth_b, truth_i, truth_l, truth_t, truth_n, asI_i, item_l, item_t, len_l, len_t, abs_i, int_i, int_b, tuple_l, tuple_t, list_l, list_t, max2_ii, min2_ii, seq_l, seq_t, slice_l, slice_t, rng1_i, rng2_i, zip_l, zip_t, zip_tl, zip_lt, enum_l, add_tt, add_ll, add_ss, repr_i, atI_0, atI_1, atI_2, ixN_0, ixN_1, ixN_2, ite_some, map_some, ex_and, ex_eq, bind_some, List.set_cons_zero, List.set_cons_succ, List.length_cons, List.length_nil, Option.some.injEq, decide_eq_true_eq, Bool.not_true, Bool.not_false, Bool.and_eq_true, Bool.or_eq_true, fillA, wbA, entry, entrySls, entrySl, List.replicate, List.cons_append, List.nil_append, trF_ok, List.append_nil, List.map_nil, List.map_cons, ownIx, and_assoc, exists_and_left, exists_eq_left', exists_eq_left, Rt.v.injEq, Rt.o.injEq, List.cons.injEq, PyData.int.injEq, PyData.list.injEq, PyData.tuple.injEq, and_true, true_and, List.all_cons, List.all_nil, List.nodup_cons, List.nodup_nil, decide_true, decide_false, Bool.and_true, Bool.true_and, List.mem_cons, List.not_mem_nil, not_false_eq_true, Nat.sub_self, Nat.reduceSub, Nat.reduceAdd, if_true, if_false, Bool.false_eq_true, reduceCtorEq, false_and, and_false, or_false, false_or, and_self, Nat.zero_add, exists_eq', exists_eq, Sl.val.injEq, Sl.own.injEq, exists_const, tr_vnil, tr_vcons, tr_callX, pick_c, pick_n, List.getElem?_cons_zero, List.getElem?_cons_succ, Option.toList_some, tr_dict0, tr_dict1, ts_never, isi_tt, isi_ii, isi_bi, rev_t, rev_l, ts_dput, ts_update, getDc_o, asD_d, din_i, dnin_i, dget_i, key_i, Option.isSome_some, Option.isSome_none, tup] at b1 ⊢
  simp only [tr_bnd, tr_lft, tr_con, tr_op2, tr_op2r, tr_op2b, tr_asB, tr_trB, tr_trBp, tr_and, tr_or, tr_not, tr_if, tr_andV, tr_orV, tr_notV, tr_neg, tr_chain, tr_nil, tr_cons, tr_tup, tr_lst, tr_pn, tr_ps, tr_sl, tr_c1, tr_c1p, tr_seqI, tr_rng1, tr_rng2, tr_rng3, tr_zip, tr_enum, tr_rtV, tr_rtO, tr_aNil, tr_aV, tr_call, tr_callT, ts_next, ts_break, ts_cont, ts_seq, ts_ret, ts_retO, ts_retN, ts_expr, ts_assign, as_name, as_nil, as_cons, as_tup, ts_own, ts_if, ts_for, ts_store, varK_v, varK_o, leaf_l, leaf_d, tu_takeG, tr_rtG, rtg_o, getV_od, rtd_od, rto_od, tr_yes, wipe_n, wipe_c, unw_n, unw_c, unw1_v, unw1_e, unw1_n, getQ_0, getQ_s, isOS_v, isOS_e, nl_i, nl_b, nl_n, nl_s, nl_t, eq_self, ts_par, pev_n, pev_v, pev_o, sets_n, sets_c, tr_bor, bor_c, bor_n, sok_e, sok_vv, sok_int, sok_ss, sok_o, rtd_v, rtd_o, rto_o, tu_var, tu_op2l, tu_slp, getO_o, getS_s, getX_v, tu_aL, tu_aS, tu_take, tu_aug, tu_append, tu_pop, tu_lenS, tu_ixS, outA, scrA, isOA, isSA, outS_o, scrS_s, isO_o, isS_s, lok_gen, lix_nil, lix_v, lix_l, lix_s, sok_nil, sok_v, sok_l, sok_s, at_0, at_1, getV_v, getV_o, getL_o, add_ii, sub_ii, mul_ii, mul_ti, mul_li, fdiv_ii, mod_ii, pow_ii, neg_i, cmp_ii, addI_ii, mulI_ii, eq_ii, ne_ii, eq_ss, ne_ss, asB_b, truth_b, truth_i, truth_l, truth_t, truth_n, asI_i, item_l, item_t, len_l, len_t, abs_i, int_i, int_b, tuple_l, tuple_t, list_l, list_t, max2_ii, min2_ii, seq_l, seq_t, slice_l, slice_t, rng1_i, rng2_i, zip_l, zip_t, zip_tl, zip_lt, enum_l, add_tt, add_ll, add_ss, repr_i, atI_0, atI_1, atI_2, ixN_0, ixN_1, ixN_2, ite_some, map_some, ex_and, ex_eq, bind_some, List.set_cons_zero, List.set_cons_succ, List.length_cons, List.length_nil, Option.some.injEq, decide_eq_true_eq, Bool.not_true, Bool.not_false, Bool.and_eq_true, Bool.or_eq_true, fillA, wbA, entry, entrySls, entrySl, List.replicate, List.cons_append, List.nil_append, trF_ok, List.append_nil, List.map_nil, List.map_cons, ownIx, and_assoc, exists_and_left, exists_eq_left', exists_eq_left, Rt.v.injEq, Rt.o.injEq, List.cons.injEq, PyData.int.injEq, PyData.list.injEq, PyData.tuple.injEq, and_true, true_and, List.all_cons, List.all_nil, List.nodup_cons, List.nodup_nil, decide_true, decide_false, Bool.and_true, Bool.true_and, List.mem_cons, List.not_mem_nil, not_false_eq_true, Nat.sub_self, Nat.reduceSub, Nat.reduceAdd, if_true, if_false, Bool.false_eq_true, reduceCtorEq, false_and, and_false, or_false, false_or, and_self, Nat.zero_add, exists_eq', exists_eq, Sl.val.injEq, Sl.own.injEq, exists_const, tr_vnil, tr_vcons, tr_callX, pick_c, pick_n, List.getElem?_cons_zero, List.getElem?_cons_succ, Option.toList_some, tr_dict0, tr_dict1, ts_never, isi_tt, isi_ii, isi_bi, rev_t, rev_l, ts_dput, ts_update, getDc_o, asD_d, din_i, dnin_i, dget_i, key_i, Option.isSome_some, Option.isSome_none, b1, last_map]
  have := hs m (Nat.le_refl m)
  exact fdOk_s this.1 (by omega)
end Lk37

end
section
namespace Lk37
open PySem PySem.Spec L2 PL BT
theorem cut_but {f : Nat → PyData} {m : Nat} : cut ((List.range (m + 1)).map f) none (some (-1)) = (List.range m).map f := by
  unfold cut
  rw [List.length_map, List.length_range, sIx_m1]
  show (((List.range (m + 1)).map f).drop 0).take (m - 0) = _
  rw [List.drop_zero, Nat.sub_zero, ← List.map_take, List.take_range, Nat.min_eq_left (by omega)]
theorem cheap_ok {s : Nat → Int} {m : Nat} (hm : m ≤ 900) : f_cheapest_requests [tup (m + 1) s] = .ok (.v (.list ((List.range (m + 1)).map fun i => .int (ls s i)))) [] := by
  apply trF_eq
  unfold f_cheapest_requests m_cheapest_requests tup
  rw [trF_body]
  simp only [tr_bnd, tr_lft, tr_con, tr_op2, tr_op2r, tr_op2b, tr_asB, tr_trB, tr_trBp, tr_and, tr_or, tr_not, tr_if, tr_andV, tr_orV, tr_notV, tr_neg, tr_chain, tr_nil, tr_cons, tr_tup, tr_lst, tr_pn, tr_ps, tr_sl, tr_c1, tr_c1p, tr_seqI, tr_rng1, tr_rng2, tr_rng3, tr_zip, tr_enum, tr_rtV, tr_rtO, tr_aNil, tr_aV, tr_call, tr_callT, ts_next, ts_break, ts_cont, ts_seq, ts_ret, ts_retO, ts_retN, ts_expr, ts_assign, as_name, as_nil, as_cons, as_tup, ts_own, ts_if, ts_for, ts_store, varK_v, varK_o, leaf_l, leaf_d, tu_takeG, tr_rtG, rtg_o, getV_od, rtd_od, rto_od, tr_yes, wipe_n, wipe_c, unw_n, unw_c, unw1_v, unw1_e, unw1_n, getQ_0, getQ_s, isOS_v, isOS_e, nl_i, nl_b, nl_n, nl_s, nl_t, eq_self, ts_par, pev_n, pev_v, pev_o, sets_n, sets_c, tr_bor, bor_c, bor_n, sok_e, sok_vv, sok_int, sok_ss, sok_o, rtd_v, rtd_o, rto_o, tu_var, tu_op2l, tu_slp, getO_o, getS_s, getX_v, tu_aL, tu_aS, tu_take, tu_aug, tu_append, tu_pop, tu_lenS, tu_ixS, outA, scrA, isOA, isSA, outS_o, scrS_s, isO_o, isS_s, lok_gen, lix_nil, lix_v, lix_l, lix_s, sok_nil, sok_v, sok_l, sok_s, at_0, at_1, getV_v, getV_o, getL_o, add_ii, sub_ii, mul_ii, mul_ti, mul_li, fdiv_ii, mod_ii, pow_ii, neg_i, cmp_ii, addI_ii, mulI_ii, eq_ii, ne_ii, eq_ss, ne_ss, asB_b, truth_b, truth_i, truth_l, truth_t, truth_n, asI_i, item_l, item_t, len_l, len_t, abs_i, int_i, int_b, tuple_l, tuple_t, list_l, list_t, max2_ii, min2_ii, seq_l, seq_t, slice_l, slice_t, rng1_i, rng2_i, zip_l, zip_t, zip_tl, zip_lt, enum_l, add_tt, add_ll, add_ss, repr_i, atI_0, atI_1, atI_2, ixN_0, ixN_1, ixN_2, ite_some, map_some, ex_and, ex_eq, bind_some, List.set_cons_zero, List.set_cons_succ, List.length_cons, List.length_nil, Option.some.injEq, decide_eq_true_eq, Bool.not_true, Bool.not_false, Bool.and_eq_true, Bool.or_eq_true, fillA, wbA, entry, entrySls, entrySl, List.replicate, List.cons_append, List.nil_append, trF_ok, List.append_nil, List.map_nil, List.map_cons, ownIx, and_assoc, exists_and_left, exists_eq_left', exists_eq_left, Rt.v.injEq, Rt.o.injEq, List.cons.injEq, PyData.int.injEq, PyData.list.injEq, PyData.tuple.injEq, and_true, true_and, List.all_cons, List.all_nil, List.nodup_cons, List.nodup_nil, decide_true, decide_false, Bool.and_true, Bool.true_and, List.mem_cons, List.not_mem_nil, not_false_eq_true, Nat.sub_self, Nat.reduceSub, Nat.reduceAdd, if_true, if_false, Bool.false_eq_true, reduceCtorEq, false_and, and_false, or_false, false_or, and_self, Nat.zero_add, exists_eq', exists_eq, Sl.val.injEq, Sl.own.injEq, exists_const, tr_vnil, tr_vcons, tr_callX, pick_c, pick_n, List.getElem?_cons_zero, List.getElem?_cons_succ, Option.toList_some, tr_dict0, tr_dict1, ts_never, isi_tt, isi_ii, isi_bi, rev_t, rev_l, ts_dput, ts_update, getDc_o, asD_d, din_i, dnin_i, dget_i, key_i, Option.isSome_some, Option.isSome_none, tr_fld, tr_opF, tr_opFr, tr_c1F, ts_setF, ts_setFO, ts_addF, ts_addFO, ts_augF, ts_appF, tr_popF, tr_pop0F, tr_meth, tr_methT, tr_tagM, tr_fldT, tr_make, tr_leaf, getI_o, tagE_o, fV_0, fV_s, fA_0, fA_s, fO_0l, fO_0d, fO_s, fL_0, fL_s, gvS_v, qvar_at, qcon_at, qnil_at, qop_at, fldQ_at, tr_mq, ts_forO, len_map, cut_but]
  refine ⟨lenOk_of (by decide), ?_⟩
  refine tr_lcA (fun i => PyData.int (s i)) (List.range m) (fun i => PyData.int (s i + 1)) ?_
  simp only [tr_bnd, tr_lft, tr_con, tr_op2, tr_op2r, tr_op2b, tr_asB, tr_trB, tr_trBp, tr_and, tr_or, tr_not, tr_if, tr_andV, tr_orV, tr_notV, tr_neg, tr_chain, tr_nil, tr_cons, tr_tup, tr_lst, tr_pn, tr_ps, tr_sl, tr_c1, tr_c1p, tr_seqI, tr_rng1, tr_rng2, tr_rng3, tr_zip, tr_enum, tr_rtV, tr_rtO, tr_aNil, tr_aV, tr_call, tr_callT, ts_next, ts_break, ts_cont, ts_seq, ts_ret, ts_retO, ts_retN, ts_expr, ts_assign, as_name, as_nil, as_cons, as_tup, ts_own, ts_if, ts_for, ts_store, varK_v, varK_o, leaf_l, leaf_d, tu_takeG, tr_rtG, rtg_o, getV_od, rtd_od, rto_od, tr_yes, wipe_n, wipe_c, unw_n, unw_c, unw1_v, unw1_e, unw1_n, getQ_0, getQ_s, isOS_v, isOS_e, nl_i, nl_b, nl_n, nl_s, nl_t, eq_self, ts_par, pev_n, pev_v, pev_o, sets_n, sets_c, tr_bor, bor_c, bor_n, sok_e, sok_vv, sok_int, sok_ss, sok_o, rtd_v, rtd_o, rto_o, tu_var, tu_op2l, tu_slp, getO_o, getS_s, getX_v, tu_aL, tu_aS, tu_take, tu_aug, tu_append, tu_pop, tu_lenS, tu_ixS, outA, scrA, isOA, isSA, outS_o, scrS_s, isO_o, isS_s, lok_gen, lix_nil, lix_v, lix_l, lix_s, sok_nil, sok_v, sok_l, sok_s, at_0, at_1, getV_v, getV_o, getL_o, add_ii, sub_ii, mul_ii, mul_ti, mul_li, fdiv_ii, mod_ii, pow_ii, neg_i, cmp_ii, addI_ii, mulI_ii, eq_ii, ne_ii, eq_ss, ne_ss, asB_b, truth_b, truth_i, truth_l, truth_t, truth_n, asI_i, item_l, item_t, len_l, len_t, abs_i, int_i, int_b, tuple_l, tuple_t, list_l, list_t, max2_ii, min2_ii, seq_l, seq_t, slice_l, slice_t, rng1_i, rng2_i, zip_l, zip_t, zip_tl, zip_lt, enum_l, add_tt, add_ll, add_ss, repr_i, atI_0, atI_1, atI_2, ixN_0, ixN_1, ixN_2, ite_some, map_some, ex_and, ex_eq, bind_some, List.set_cons_zero, List.set_cons_succ, List.length_cons, List.length_nil, Option.some.injEq, decide_eq_true_eq, Bool.not_true, Bool.not_false, Bool.and_eq_true, Bool.or_eq_true, fillA, wbA, entry, entrySls, entrySl, List.replicate, List.cons_append, List.nil_append, trF_ok, List.append_nil, List.map_nil, List.map_cons, ownIx, and_assoc, exists_and_left, exists_eq_left', exists_eq_left, Rt.v.injEq, Rt.o.injEq, List.cons.injEq, PyData.int.injEq, PyData.list.injEq, PyData.tuple.injEq, and_true, true_and, List.all_cons, List.all_nil, List.nodup_cons, List.nodup_nil, decide_true, decide_false, Bool.and_true, Bool.true_and, List.mem_cons, List.not_mem_nil, not_false_eq_true, Nat.sub_self, Nat.reduceSub, Nat.reduceAdd, if_true, if_false, Bool.false_eq_true, reduceCtorEq, false_and, and_false, or_false, false_or, and_self, Nat.zero_add, exists_eq', exists_eq, Sl.val.injEq, Sl.own.injEq, exists_const, tr_vnil, tr_vcons, tr_callX, pick_c, pick_n, List.getElem?_cons_zero, List.getElem?_cons_succ, Option.toList_some, tr_dict0, tr_dict1, ts_never, isi_tt, isi_ii, isi_bi, rev_t, rev_l, ts_dput, ts_update, getDc_o, asD_d, din_i, dnin_i, dget_i, key_i, Option.isSome_some, Option.isSome_none, tr_fld, tr_opF, tr_opFr, tr_c1F, ts_setF, ts_setFO, ts_addF, ts_addFO, ts_augF, ts_appF, tr_popF, tr_pop0F, tr_meth, tr_methT, tr_tagM, tr_fldT, tr_make, tr_leaf, getI_o, tagE_o, fV_0, fV_s, fA_0, fA_s, fO_0l, fO_0d, fO_s, fL_0, fL_s, gvS_v, qvar_at, qcon_at, qnil_at, qop_at, fldQ_at, tr_mq, ts_forO, cut_but]
  refine ⟨fun _ _ => trivial, lenOk_of (by simp; omega), lenOk_of (by simp; omega), ?_⟩
  rw [List.range_succ_eq_map, List.map_cons, List.map_map]
  rfl
/-- what a Mixes holds -/
def mixD (s : Nat → Int) (m n : Nat) : PyData := .tuple [t_Mixes_2, .list [.list ((List.range (n + 1)).map fun k => .int (PM s m k))], .list [.list ((List.range (n + 1)).map fun k => .int (LM s m k))]]
theorem mix_ok {s : Nat → Int} {m n : Nat} (hm : m ≤ 900) (hn : n ≤ 100000) (h : Szs s) : f_MixesD_initD [.tuple [t_Mixes_0], tup (m + 1) s, .int n] = .ok (.v .none) [mixD s m n] := by
  have hc := cheap_ok (s := s) hm
  apply trF_eq
  unfold f_MixesD_initD m_MixesD_initD tup mixD at *
  rw [trF_body]
  simp only [tr_bnd, tr_lft, tr_con, tr_op2, tr_op2r, tr_op2b, tr_asB, tr_trB, tr_trBp, tr_and, tr_or, tr_not, tr_if, tr_andV, tr_orV, tr_notV, tr_neg, tr_chain, tr_nil, tr_cons, tr_tup, tr_lst, tr_pn, tr_ps, tr_sl, tr_c1, tr_c1p, tr_seqI, tr_rng1, tr_rng2, tr_rng3, tr_zip, tr_enum, tr_rtV, tr_rtO, tr_aNil, tr_aV, tr_call, tr_callT, ts_next, ts_break, ts_cont, ts_seq, ts_ret, ts_retO, ts_retN, ts_expr, ts_assign, as_name, as_nil, as_cons, as_tup, ts_own, ts_if, ts_for, ts_store, varK_v, varK_o, leaf_l, leaf_d, tu_takeG, tr_rtG, rtg_o, getV_od, rtd_od, rto_od, tr_yes, wipe_n, wipe_c, unw_n, unw_c, unw1_v, unw1_e, unw1_n, getQ_0, getQ_s, isOS_v, isOS_e, nl_i, nl_b, nl_n, nl_s, nl_t, eq_self, ts_par, pev_n, pev_v, pev_o, sets_n, sets_c, tr_bor, bor_c, bor_n, sok_e, sok_vv, sok_int, sok_ss, sok_o, rtd_v, rtd_o, rto_o, tu_var, tu_op2l, tu_slp, getO_o, getS_s, getX_v, tu_aL, tu_aS, tu_take, tu_aug, tu_append, tu_pop, tu_lenS, tu_ixS, outA, scrA, isOA, isSA, outS_o, scrS_s, isO_o, isS_s, lok_gen, lix_nil, lix_v, lix_l, lix_s, sok_nil, sok_v, sok_l, sok_s, at_0, at_1, getV_v, getV_o, getL_o, add_ii, sub_ii, mul_ii, mul_ti, mul_li, fdiv_ii, mod_ii, pow_ii, neg_i, cmp_ii, addI_ii, mulI_ii, eq_ii, ne_ii, eq_ss, ne_ss, asB_b, truth_b, truth_i, truth_l, truth_t, truth_n, asI_i, item_l, item_t, len_l, len_t, abs_i, int_i, int_b, tuple_l, tuple_t, list_l, list_t, max2_ii, min2_ii, seq_l, seq_t, slice_l, slice_t, rng1_i, rng2_i, zip_l, zip_t, zip_tl, zip_lt, enum_l, add_tt, add_ll, add_ss, repr_i, atI_0, atI_1, atI_2, ixN_0, ixN_1, ixN_2, ite_some, map_some, ex_and, ex_eq, bind_some, List.set_cons_zero, List.set_cons_succ, List.length_cons, List.length_nil, Option.some.injEq, decide_eq_true_eq, Bool.not_true, Bool.not_false, Bool.and_eq_true, Bool.or_eq_true, fillA, wbA, entry, entrySls, entrySl, List.replicate, List.cons_append, List.nil_append, trF_ok, List.append_nil, List.map_nil, List.map_cons, ownIx, and_assoc, exists_and_left, exists_eq_left', exists_eq_left, Rt.v.injEq, Rt.o.injEq, List.cons.injEq, PyData.int.injEq, PyData.list.injEq, PyData.tuple.injEq, and_true, true_and, List.all_cons, List.all_nil, List.nodup_cons, List.nodup_nil, decide_true, decide_false, Bool.and_true, Bool.true_and, List.mem_cons, List.not_mem_nil, not_false_eq_true, Nat.sub_self, Nat.reduceSub, Nat.reduceAdd, if_true, if_false, Bool.false_eq_true, reduceCtorEq, false_and, and_false, or_false, false_or, and_self, Nat.zero_add, exists_eq', exists_eq, Sl.val.injEq, Sl.own.injEq, exists_const, tr_vnil, tr_vcons, tr_callX, pick_c, pick_n, List.getElem?_cons_zero, List.getElem?_cons_succ, Option.toList_some, tr_dict0, tr_dict1, ts_never, isi_tt, isi_ii, isi_bi, rev_t, rev_l, ts_dput, ts_update, getDc_o, asD_d, din_i, dnin_i, dget_i, key_i, Option.isSome_some, Option.isSome_none, tr_fld, tr_opF, tr_opFr, tr_c1F, ts_setF, ts_setFO, ts_addF, ts_addFO, ts_augF, ts_appF, tr_popF, tr_pop0F, tr_meth, tr_methT, tr_tagM, tr_fldT, tr_make, tr_leaf, getI_o, tagE_o, fV_0, fV_s, fA_0, fA_s, fO_0l, fO_0d, fO_s, fL_0, fL_s, gvS_v, qvar_at, qcon_at, qnil_at, qop_at, fldQ_at, tr_mq, ts_forO, hc]
  refine ⟨lenOk_of (by decide), lenOk_of (by decide), rOk_of (by omega) (by omega), rOk_of (by omega) (by omega), ?_⟩
  have e1 : ((n : Int) + 1 - 1).toNat = n := by omega
  rw [e1]
  refine ts_range (fun t r => ∃ x4 x5 x6 x7 x8, r = [.own (.tuple [t_Mixes_2, .list [.list ((List.range (t + 1)).map fun k => .int (PM s m k))], .list [.list ((List.range (t + 1)).map fun k => .int (LM s m k))]]), .val (.tuple ((List.range (m + 1)).map fun i => .int (s i))), .val (.int n), .val (.list ((List.range (m + 1)).map fun i => .int (ls s i))), x4, x5, x6, x7, x8]) ⟨_, _, _, _, _, rfl⟩ (fun t r ht hr => ?_) (fun r hr => ?_)
  · obtain ⟨x4, x5, x6, x7, x8, rfl⟩ := hr
    have i1 : (1 : Int) + (t : Int) - 1 = (t : Int) := by omega
    have a1 := at_map (f := fun k => PyData.int (PM s m k)) (k := t + 1) (i := t) (by omega)
    simp only [tr_bnd, tr_lft, tr_con, tr_op2, tr_op2r, tr_op2b, tr_asB, tr_trB, tr_trBp, tr_and, tr_or, tr_not, tr_if, tr_andV, tr_orV, tr_notV, tr_neg, tr_chain, tr_nil, tr_cons, tr_tup, tr_lst, tr_pn, tr_ps, tr_sl, tr_c1, tr_c1p, tr_seqI, tr_rng1, tr_rng2, tr_rng3, tr_zip, tr_enum, tr_rtV, tr_rtO, tr_aNil, tr_aV, tr_call, tr_callT, ts_next, ts_break, ts_cont, ts_seq, ts_ret, ts_retO, ts_retN, ts_expr, ts_assign, as_name, as_nil, as_cons, as_tup, ts_own, ts_if, ts_for, ts_store, varK_v, varK_o, leaf_l, leaf_d, tu_takeG, tr_rtG, rtg_o, getV_od, rtd_od, rto_od, tr_yes, wipe_n, wipe_c, unw_n, unw_c, unw1_v, unw1_e, unw1_n, getQ_0, getQ_s, isOS_v, isOS_e, nl_i, nl_b, nl_n, nl_s, nl_t, eq_self, ts_par, pev_n, pev_v, pev_o, sets_n, sets_c, tr_bor, bor_c, bor_n, sok_e, sok_vv, sok_int, sok_ss, sok_o, rtd_v, rtd_o, rto_o, tu_var, tu_op2l, tu_slp, getO_o, getS_s, getX_v, tu_aL, tu_aS, tu_take, tu_aug, tu_append, tu_pop, tu_lenS, tu_ixS, outA, scrA, isOA, isSA, outS_o, scrS_s, isO_o, isS_s, lok_gen, lix_nil, lix_v, lix_l, lix_s, sok_nil, sok_v, sok_l, sok_s, at_0, at_1, getV_v, getV_o, getL_o, add_ii, sub_ii, mul_ii, mul_ti, mul_li, fdiv_ii, mod_ii, pow_ii, neg_i, cmp_ii, addI_ii, mulI_ii, eq_ii, ne_ii, eq_ss, ne_ss, asB_b, truth_b, truth_i, truth_l, truth_t, truth_n, asI_i, item_l, item_t, len_l, len_t, abs_i, int_i, int_b, tuple_l, tuple_t, list_l, list_t, max2_ii, min2_ii, seq_l, seq_t, slice_l, slice_t, rng1_i, rng2_i, zip_l, zip_t, zip_tl, zip_lt, enum_l, add_tt, add_ll, add_ss, repr_i, atI_0, atI_1, atI_2, ixN_0, ixN_1, ixN_2, ite_some, map_some, ex_and, ex_eq, bind_some, List.set_cons_zero, List.set_cons_succ, List.length_cons, List.length_nil, Option.some.injEq, decide_eq_true_eq, Bool.not_true, Bool.not_false, Bool.and_eq_true, Bool.or_eq_true, fillA, wbA, entry, entrySls, entrySl, List.replicate, List.cons_append, List.nil_append, trF_ok, List.append_nil, List.map_nil, List.map_cons, ownIx, and_assoc, exists_and_left, exists_eq_left', exists_eq_left, Rt.v.injEq, Rt.o.injEq, List.cons.injEq, PyData.int.injEq, PyData.list.injEq, PyData.tuple.injEq, and_true, true_and, List.all_cons, List.all_nil, List.nodup_cons, List.nodup_nil, decide_true, decide_false, Bool.and_true, Bool.true_and, List.mem_cons, List.not_mem_nil, not_false_eq_true, Nat.sub_self, Nat.reduceSub, Nat.reduceAdd, if_true, if_false, Bool.false_eq_true, reduceCtorEq, false_and, and_false, or_false, false_or, and_self, Nat.zero_add, exists_eq', exists_eq, Sl.val.injEq, Sl.own.injEq, exists_const, tr_vnil, tr_vcons, tr_callX, pick_c, pick_n, List.getElem?_cons_zero, List.getElem?_cons_succ, Option.toList_some, tr_dict0, tr_dict1, ts_never, isi_tt, isi_ii, isi_bi, rev_t, rev_l, ts_dput, ts_update, getDc_o, asD_d, din_i, dnin_i, dget_i, key_i, Option.isSome_some, Option.isSome_none, tr_fld, tr_opF, tr_opFr, tr_c1F, ts_setF, ts_setFO, ts_addF, ts_addFO, ts_augF, ts_appF, tr_popF, tr_pop0F, tr_meth, tr_methT, tr_tagM, tr_fldT, tr_make, tr_leaf, getI_o, tagE_o, fV_0, fV_s, fA_0, fA_s, fO_0l, fO_0d, fO_s, fL_0, fL_s, gvS_v, qvar_at, qcon_at, qnil_at, qop_at, fldQ_at, tr_mq, ts_forO, i1, a1, zip_rng (Nat.le_refl (m + 1))]
    refine ts_forM (fun i => PyData.tuple [.int (s i), .int (ls s i)]) (List.range (m + 1)) rfl (fun i r => ∃ x7 x8, r = [.own (.tuple [t_Mixes_2, .list [.list ((List.range (t + 1)).map fun k => .int (PM s m k))], .list [.list ((List.range (t + 1)).map fun k => .int (LM s m k))]]), .val (.tuple ((List.range (m + 1)).map fun i => .int (s i))), .val (.int n), .val (.list ((List.range (m + 1)).map fun i => .int (ls s i))), .val (.int (1 + t)), .val (.int (bq s (PM s m) (t + 1) i).1), .val (.int (bq s (PM s m) (t + 1) i).2), x7, x8]) ⟨_, _, rfl⟩ (fun i k r hi hr => ?_) (fun r hr => ?_)
    · obtain ⟨x7, x8, rfl⟩ := hr
      obtain ⟨him, rfl⟩ : i < m + 1 ∧ k = i := by
        have h1 := (List.getElem?_eq_some_iff.mp hi).1
        rw [List.length_range] at h1
        rw [List.getElem?_range h1] at hi
        exact ⟨h1, (Option.some.inj hi).symm⟩
      have hl := ls_pos h k
      simp only [tr_bnd, tr_lft, tr_con, tr_op2, tr_op2r, tr_op2b, tr_asB, tr_trB, tr_trBp, tr_and, tr_or, tr_not, tr_if, tr_andV, tr_orV, tr_notV, tr_neg, tr_chain, tr_nil, tr_cons, tr_tup, tr_lst, tr_pn, tr_ps, tr_sl, tr_c1, tr_c1p, tr_seqI, tr_rng1, tr_rng2, tr_rng3, tr_zip, tr_enum, tr_rtV, tr_rtO, tr_aNil, tr_aV, tr_call, tr_callT, ts_next, ts_break, ts_cont, ts_seq, ts_ret, ts_retO, ts_retN, ts_expr, ts_assign, as_name, as_nil, as_cons, as_tup, ts_own, ts_if, ts_for, ts_store, varK_v, varK_o, leaf_l, leaf_d, tu_takeG, tr_rtG, rtg_o, getV_od, rtd_od, rto_od, tr_yes, wipe_n, wipe_c, unw_n, unw_c, unw1_v, unw1_e, unw1_n, getQ_0, getQ_s, isOS_v, isOS_e, nl_i, nl_b, nl_n, nl_s, nl_t, eq_self, ts_par, pev_n, pev_v, pev_o, sets_n, sets_c, tr_bor, bor_c, bor_n, sok_e, sok_vv, sok_int, sok_ss, sok_o, rtd_v, rtd_o, rto_o, tu_var, tu_op2l, tu_slp, getO_o, getS_s, getX_v, tu_aL, tu_aS, tu_take, tu_aug, tu_append, tu_pop, tu_lenS, tu_ixS, outA, scrA, isOA, isSA, outS_o, scrS_s, isO_o, isS_s, lok_gen, lix_nil, lix_v, lix_l, lix_s, sok_nil, sok_v, sok_l, sok_s, at_0, at_1, getV_v, getV_o, getL_o, add_ii, sub_ii, mul_ii, mul_ti, mul_li, fdiv_ii, mod_ii, pow_ii, neg_i, cmp_ii, addI_ii, mulI_ii, eq_ii, ne_ii, eq_ss, ne_ss, asB_b, truth_b, truth_i, truth_l, truth_t, truth_n, asI_i, item_l, item_t, len_l, len_t, abs_i, int_i, int_b, tuple_l, tuple_t, list_l, list_t, max2_ii, min2_ii, seq_l, seq_t, slice_l, slice_t, rng1_i, rng2_i, zip_l, zip_t, zip_tl, zip_lt, enum_l, add_tt, add_ll, add_ss, repr_i, atI_0, atI_1, atI_2, ixN_0, ixN_1, ixN_2, ite_some, map_some, ex_and, ex_eq, bind_some, List.set_cons_zero, List.set_cons_succ, List.length_cons, List.length_nil, Option.some.injEq, decide_eq_true_eq, Bool.not_true, Bool.not_false, Bool.and_eq_true, Bool.or_eq_true, fillA, wbA, entry, entrySls, entrySl, List.replicate, List.cons_append, List.nil_append, trF_ok, List.append_nil, List.map_nil, List.map_cons, ownIx, and_assoc, exists_and_left, exists_eq_left', exists_eq_left, Rt.v.injEq, Rt.o.injEq, List.cons.injEq, PyData.int.injEq, PyData.list.injEq, PyData.tuple.injEq, and_true, true_and, List.all_cons, List.all_nil, List.nodup_cons, List.nodup_nil, decide_true, decide_false, Bool.and_true, Bool.true_and, List.mem_cons, List.not_mem_nil, not_false_eq_true, Nat.sub_self, Nat.reduceSub, Nat.reduceAdd, if_true, if_false, Bool.false_eq_true, reduceCtorEq, false_and, and_false, or_false, false_or, and_self, Nat.zero_add, exists_eq', exists_eq, Sl.val.injEq, Sl.own.injEq, exists_const, tr_vnil, tr_vcons, tr_callX, pick_c, pick_n, List.getElem?_cons_zero, List.getElem?_cons_succ, Option.toList_some, tr_dict0, tr_dict1, ts_never, isi_tt, isi_ii, isi_bi, rev_t, rev_l, ts_dput, ts_update, getDc_o, asD_d, din_i, dnin_i, dget_i, key_i, Option.isSome_some, Option.isSome_none, tr_fld, tr_opF, tr_opFr, tr_c1F, ts_setF, ts_setFO, ts_addF, ts_addFO, ts_augF, ts_appF, tr_popF, tr_pop0F, tr_meth, tr_methT, tr_tagM, tr_fldT, tr_make, tr_leaf, getI_o, tagE_o, fV_0, fV_s, fA_0, fA_s, fO_0l, fO_0d, fO_s, fL_0, fL_s, gvS_v, qvar_at, qcon_at, qnil_at, qop_at, fldQ_at, tr_mq, ts_forO]
      have e2 : ((1 : Int) + t) = ((t + 1 : Nat) : Int) := by omega
      by_cases h1 : ls s k ≤ 1 + (t : Int)
      · have a2 := at_map (f := fun k => PyData.int (PM s m k)) (k := t + 1) (i := t + 1 - (ls s k).toNat) (by omega)
        have e3 : ((t + 1 - (ls s k).toNat : Nat) : Int) = 1 + (t : Int) - ls s k := by omega
        rw [e3] at a2
        simp only [tr_bnd, tr_lft, tr_con, tr_op2, tr_op2r, tr_op2b, tr_asB, tr_trB, tr_trBp, tr_and, tr_or, tr_not, tr_if, tr_andV, tr_orV, tr_notV, tr_neg, tr_chain, tr_nil, tr_cons, tr_tup, tr_lst, tr_pn, tr_ps, tr_sl, tr_c1, tr_c1p, tr_seqI, tr_rng1, tr_rng2, tr_rng3, tr_zip, tr_enum, tr_rtV, tr_rtO, tr_aNil, tr_aV, tr_call, tr_callT, ts_next, ts_break, ts_cont, ts_seq, ts_ret, ts_retO, ts_retN, ts_expr, ts_assign, as_name, as_nil, as_cons, as_tup, ts_own, ts_if, ts_for, ts_store, varK_v, varK_o, leaf_l, leaf_d, tu_takeG, tr_rtG, rtg_o, getV_od, rtd_od, rto_od, tr_yes, wipe_n, wipe_c, unw_n, unw_c, unw1_v, unw1_e, unw1_n, getQ_0, getQ_s, isOS_v, isOS_e, nl_i, nl_b, nl_n, nl_s, nl_t, eq_self, ts_par, pev_n, pev_v, pev_o, sets_n, sets_c, tr_bor, bor_c, bor_n, sok_e, sok_vv, sok_int, sok_ss, sok_o, rtd_v, rtd_o, rto_o, tu_var, tu_op2l, tu_slp, getO_o, getS_s, getX_v, tu_aL, tu_aS, tu_take, tu_aug, tu_append, tu_pop, tu_lenS, tu_ixS, outA, scrA, isOA, isSA, outS_o, scrS_s, isO_o, isS_s, lok_gen, lix_nil, lix_v, lix_l, lix_s, sok_nil, sok_v, sok_l, sok_s, at_0, at_1, getV_v, getV_o, getL_o, add_ii, sub_ii, mul_ii, mul_ti, mul_li, fdiv_ii, mod_ii, pow_ii, neg_i, cmp_ii, addI_ii, mulI_ii, eq_ii, ne_ii, eq_ss, ne_ss, asB_b, truth_b, truth_i, truth_l, truth_t, truth_n, asI_i, item_l, item_t, len_l, len_t, abs_i, int_i, int_b, tuple_l, tuple_t, list_l, list_t, max2_ii, min2_ii, seq_l, seq_t, slice_l, slice_t, rng1_i, rng2_i, zip_l, zip_t, zip_tl, zip_lt, enum_l, add_tt, add_ll, add_ss, repr_i, atI_0, atI_1, atI_2, ixN_0, ixN_1, ixN_2, ite_some, map_some, ex_and, ex_eq, bind_some, List.set_cons_zero, List.set_cons_succ, List.length_cons, List.length_nil, Option.some.injEq, decide_eq_true_eq, Bool.not_true, Bool.not_false, Bool.and_eq_true, Bool.or_eq_true, fillA, wbA, entry, entrySls, entrySl, List.replicate, List.cons_append, List.nil_append, trF_ok, List.append_nil, List.map_nil, List.map_cons, ownIx, and_assoc, exists_and_left, exists_eq_left', exists_eq_left, Rt.v.injEq, Rt.o.injEq, List.cons.injEq, PyData.int.injEq, PyData.list.injEq, PyData.tuple.injEq, and_true, true_and, List.all_cons, List.all_nil, List.nodup_cons, List.nodup_nil, decide_true, decide_false, Bool.and_true, Bool.true_and, List.mem_cons, List.not_mem_nil, not_false_eq_true, Nat.sub_self, Nat.reduceSub, Nat.reduceAdd, if_true, if_false, Bool.false_eq_true, reduceCtorEq, false_and, and_false, or_false, false_or, and_self, Nat.zero_add, exists_eq', exists_eq, Sl.val.injEq, Sl.own.injEq, exists_const, tr_vnil, tr_vcons, tr_callX, pick_c, pick_n, List.getElem?_cons_zero, List.getElem?_cons_succ, Option.toList_some, tr_dict0, tr_dict1, ts_never, isi_tt, isi_ii, isi_bi, rev_t, rev_l, ts_dput, ts_update, getDc_o, asD_d, din_i, dnin_i, dget_i, key_i, Option.isSome_some, Option.isSome_none, tr_fld, tr_opF, tr_opFr, tr_c1F, ts_setF, ts_setFO, ts_addF, ts_addFO, ts_augF, ts_appF, tr_popF, tr_pop0F, tr_meth, tr_methT, tr_tagM, tr_fldT, tr_make, tr_leaf, getI_o, tagE_o, fV_0, fV_s, fA_0, fA_s, fO_0l, fO_0d, fO_s, fL_0, fL_s, gvS_v, qvar_at, qcon_at, qnil_at, qop_at, fldQ_at, tr_mq, ts_forO, h1, a2]
        have h2 : ls s k ≤ ((t + 1 : Nat) : Int) := by omega
        by_cases h3 : (bq s (PM s m) (t + 1) k).fst < PM s m (t + 1 - (ls s k).toNat) + s k
        · rw [if_pos h3, bq, if_pos ⟨h2, h3⟩]
          exact ⟨rfl, rfl⟩
        · rw [if_neg h3, bq, if_neg fun z => h3 z.2]
          exact ⟨rfl, rfl⟩
      · simp only [tr_bnd, tr_lft, tr_con, tr_op2, tr_op2r, tr_op2b, tr_asB, tr_trB, tr_trBp, tr_and, tr_or, tr_not, tr_if, tr_andV, tr_orV, tr_notV, tr_neg, tr_chain, tr_nil, tr_cons, tr_tup, tr_lst, tr_pn, tr_ps, tr_sl, tr_c1, tr_c1p, tr_seqI, tr_rng1, tr_rng2, tr_rng3, tr_zip, tr_enum, tr_rtV, tr_rtO, tr_aNil, tr_aV, tr_call, tr_callT, ts_next, ts_break, ts_cont, ts_seq, ts_ret, ts_retO, ts_retN, ts_expr, ts_assign, as_name, as_nil, as_cons, as_tup, ts_own, ts_if, ts_for, ts_store, varK_v, varK_o, leaf_l, leaf_d, tu_takeG, tr_rtG, rtg_o, getV_od, rtd_od, rto_od, tr_yes, wipe_n, wipe_c, unw_n, unw_c, unw1_v, unw1_e, unw1_n, getQ_0, getQ_s, isOS_v, isOS_e, nl_i, nl_b, nl_n, nl_s, nl_t, eq_self, ts_par, pev_n, pev_v, pev_o, sets_n, sets_c, tr_bor, bor_c, bor_n, sok_e, sok_vv, sok_int, sok_ss, sok_o, rtd_v, rtd_o, rto_o, tu_var, tu_op2l, tu_slp, getO_o, getS_s, getX_v, tu_aL, tu_aS, tu_take, tu_aug, tu_append, tu_pop, tu_lenS, tu_ixS, outA, scrA, isOA, isSA, outS_o, scrS_s, isO_o, isS_s, lok_gen, lix_nil, lix_v, lix_l, lix_s, sok_nil, sok_v, sok_l, sok_s, at_0, at_1, getV_v, getV_o, getL_o, add_ii, sub_ii, mul_ii, mul_ti, mul_li, fdiv_ii, mod_ii, pow_ii, neg_i, cmp_ii, addI_ii, mulI_ii, eq_ii, ne_ii, eq_ss, ne_ss, asB_b, truth_b, truth_i, truth_l, truth_t, truth_n, asI_i, item_l, item_t, len_l, len_t, abs_i, int_i, int_b, tuple_l, tuple_t, list_l, list_t, max2_ii, min2_ii, seq_l, seq_t, slice_l, slice_t, rng1_i, rng2_i, zip_l, zip_t, zip_tl, zip_lt, enum_l, add_tt, add_ll, add_ss, repr_i, atI_0, atI_1, atI_2, ixN_0, ixN_1, ixN_2, ite_some, map_some, ex_and, ex_eq, bind_some, List.set_cons_zero, List.set_cons_succ, List.length_cons, List.length_nil, Option.some.injEq, decide_eq_true_eq, Bool.not_true, Bool.not_false, Bool.and_eq_true, Bool.or_eq_true, fillA, wbA, entry, entrySls, entrySl, List.replicate, List.cons_append, List.nil_append, trF_ok, List.append_nil, List.map_nil, List.map_cons, ownIx, and_assoc, exists_and_left, exists_eq_left', exists_eq_left, Rt.v.injEq, Rt.o.injEq, List.cons.injEq, PyData.int.injEq, PyData.list.injEq, PyData.tuple.injEq, and_true, true_and, List.all_cons, List.all_nil, List.nodup_cons, List.nodup_nil, decide_true, decide_false, Bool.and_true, Bool.true_and, List.mem_cons, List.not_mem_nil, not_false_eq_true, Nat.sub_self, Nat.reduceSub, Nat.reduceAdd, if_true, if_false, Bool.false_eq_true, reduceCtorEq, false_and, and_false, or_false, false_or, and_self, Nat.zero_add, exists_eq', exists_eq, Sl.val.injEq, Sl.own.injEq, exists_const, tr_vnil, tr_vcons, tr_callX, pick_c, pick_n, List.getElem?_cons_zero, List.getElem?_cons_succ, Option.toList_some, tr_dict0, tr_dict1, ts_never, isi_tt, isi_ii, isi_bi, rev_t, rev_l, ts_dput, ts_update, getDc_o, asD_d, din_i, dnin_i, dget_i, key_i, Option.isSome_some, Option.isSome_none, tr_fld, tr_opF, tr_opFr, tr_c1F, ts_setF, ts_setFO, ts_addF, ts_addFO, ts_augF, ts_appF, tr_popF, tr_pop0F, tr_meth, tr_methT, tr_tagM, tr_fldT, tr_make, tr_leaf, getI_o, tagE_o, fV_0, fV_s, fA_0, fA_s, fO_0l, fO_0d, fO_s, fL_0, fL_s, gvS_v, qvar_at, qcon_at, qnil_at, qop_at, fldQ_at, tr_mq, ts_forO, h1]
        rw [bq, if_neg (fun z => h1 (by have := z.1; omega))]
        exact ⟨rfl, rfl⟩
    · obtain ⟨x7, x8, rfl⟩ := hr
      simp only [tr_bnd, tr_lft, tr_con, tr_op2, tr_op2r, tr_op2b, tr_asB, tr_trB, tr_trBp, tr_and, tr_or, tr_not, tr_if, tr_andV, tr_orV, tr_notV, tr_neg, tr_chain, tr_nil, tr_cons, tr_tup, tr_lst, tr_pn, tr_ps, tr_sl, tr_c1, tr_c1p, tr_seqI, tr_rng1, tr_rng2, tr_rng3, tr_zip, tr_enum, tr_rtV, tr_rtO, tr_aNil, tr_aV, tr_call, tr_callT, ts_next, ts_break, ts_cont, ts_seq, ts_ret, ts_retO, ts_retN, ts_expr, ts_assign, as_name, as_nil, as_cons, as_tup, ts_own, ts_if, ts_for, ts_store, varK_v, varK_o, leaf_l, leaf_d, tu_takeG, tr_rtG, rtg_o, getV_od, rtd_od, rto_od, tr_yes, wipe_n, wipe_c, unw_n, unw_c, unw1_v, unw1_e, unw1_n, getQ_0, getQ_s, isOS_v, isOS_e, nl_i, nl_b, nl_n, nl_s, nl_t, eq_self, ts_par, pev_n, pev_v, pev_o, sets_n, sets_c, tr_bor, bor_c, bor_n, sok_e, sok_vv, sok_int, sok_ss, sok_o, rtd_v, rtd_o, rto_o, tu_var, tu_op2l, tu_slp, getO_o, getS_s, getX_v, tu_aL, tu_aS, tu_take, tu_aug, tu_append, tu_pop, tu_lenS, tu_ixS, outA, scrA, isOA, isSA, outS_o, scrS_s, isO_o, isS_s, lok_gen, lix_nil, lix_v, lix_l, lix_s, sok_nil, sok_v, sok_l, sok_s, at_0, at_1, getV_v, getV_o, getL_o, add_ii, sub_ii, mul_ii, mul_ti, mul_li, fdiv_ii, mod_ii, pow_ii, neg_i, cmp_ii, addI_ii, mulI_ii, eq_ii, ne_ii, eq_ss, ne_ss, asB_b, truth_b, truth_i, truth_l, truth_t, truth_n, asI_i, item_l, item_t, len_l, len_t, abs_i, int_i, int_b, tuple_l, tuple_t, list_l, list_t, max2_ii, min2_ii, seq_l, seq_t, slice_l, slice_t, rng1_i, rng2_i, zip_l, zip_t, zip_tl, zip_lt, enum_l, add_tt, add_ll, add_ss, repr_i, atI_0, atI_1, atI_2, ixN_0, ixN_1, ixN_2, ite_some, map_some, ex_and, ex_eq, bind_some, List.set_cons_zero, List.set_cons_succ, List.length_cons, List.length_nil, Option.some.injEq, decide_eq_true_eq, Bool.not_true, Bool.not_false, Bool.and_eq_true, Bool.or_eq_true, fillA, wbA, entry, entrySls, entrySl, List.replicate, List.cons_append, List.nil_append, trF_ok, List.append_nil, List.map_nil, List.map_cons, ownIx, and_assoc, exists_and_left, exists_eq_left', exists_eq_left, Rt.v.injEq, Rt.o.injEq, List.cons.injEq, PyData.int.injEq, PyData.list.injEq, PyData.tuple.injEq, and_true, true_and, List.all_cons, List.all_nil, List.nodup_cons, List.nodup_nil, decide_true, decide_false, Bool.and_true, Bool.true_and, List.mem_cons, List.not_mem_nil, not_false_eq_true, Nat.sub_self, Nat.reduceSub, Nat.reduceAdd, if_true, if_false, Bool.false_eq_true, reduceCtorEq, false_and, and_false, or_false, false_or, and_self, Nat.zero_add, exists_eq', exists_eq, Sl.val.injEq, Sl.own.injEq, exists_const, tr_vnil, tr_vcons, tr_callX, pick_c, pick_n, List.getElem?_cons_zero, List.getElem?_cons_succ, Option.toList_some, tr_dict0, tr_dict1, ts_never, isi_tt, isi_ii, isi_bi, rev_t, rev_l, ts_dput, ts_update, getDc_o, asD_d, din_i, dnin_i, dget_i, key_i, Option.isSome_some, Option.isSome_none, tr_fld, tr_opF, tr_opFr, tr_c1F, ts_setF, ts_setFO, ts_addF, ts_addFO, ts_augF, ts_appF, tr_popF, tr_pop0F, tr_meth, tr_methT, tr_tagM, tr_fldT, tr_make, tr_leaf, getI_o, tagE_o, fV_0, fV_s, fA_0, fA_s, fO_0l, fO_0d, fO_s, fL_0, fL_s, gvS_v, qvar_at, qcon_at, qnil_at, qop_at, fldQ_at, tr_mq, ts_forO, List.length_range]
      rw [List.range_succ (n := t + 1), List.map_append, List.map_append, PM_s h t |>.symm]
      exact ⟨lenOk_of (by simp; omega), lenOk_of (by simp; omega), rfl, rfl⟩
  · obtain ⟨x4, x5, x6, x7, x8, rfl⟩ := hr
    simp only [tr_bnd, tr_lft, tr_con, tr_op2, tr_op2r, tr_op2b, tr_asB, tr_trB, tr_trBp, tr_and, tr_or, tr_not, tr_if, tr_andV, tr_orV, tr_notV, tr_neg, tr_chain, tr_nil, tr_cons, tr_tup, tr_lst, tr_pn, tr_ps, tr_sl, tr_c1, tr_c1p, tr_seqI, tr_rng1, tr_rng2, tr_rng3, tr_zip, tr_enum, tr_rtV, tr_rtO, tr_aNil, tr_aV, tr_call, tr_callT, ts_next, ts_break, ts_cont, ts_seq, ts_ret, ts_retO, ts_retN, ts_expr, ts_assign, as_name, as_nil, as_cons, as_tup, ts_own, ts_if, ts_for, ts_store, varK_v, varK_o, leaf_l, leaf_d, tu_takeG, tr_rtG, rtg_o, getV_od, rtd_od, rto_od, tr_yes, wipe_n, wipe_c, unw_n, unw_c, unw1_v, unw1_e, unw1_n, getQ_0, getQ_s, isOS_v, isOS_e, nl_i, nl_b, nl_n, nl_s, nl_t, eq_self, ts_par, pev_n, pev_v, pev_o, sets_n, sets_c, tr_bor, bor_c, bor_n, sok_e, sok_vv, sok_int, sok_ss, sok_o, rtd_v, rtd_o, rto_o, tu_var, tu_op2l, tu_slp, getO_o, getS_s, getX_v, tu_aL, tu_aS, tu_take, tu_aug, tu_append, tu_pop, tu_lenS, tu_ixS, outA, scrA, isOA, isSA, outS_o, scrS_s, isO_o, isS_s, lok_gen, lix_nil, lix_v, lix_l, lix_s, sok_nil, sok_v, sok_l, sok_s, at_0, at_1, getV_v, getV_o, getL_o, add_ii, sub_ii, mul_ii, mul_ti, mul_li, fdiv_ii, mod_ii, pow_ii, neg_i, cmp_ii, addI_ii, mulI_ii, eq_ii, ne_ii, eq_ss, ne_ss, asB_b, truth_b, truth_i, truth_l, truth_t, truth_n, asI_i, item_l, item_t, len_l, len_t, abs_i, int_i, int_b, tuple_l, tuple_t, list_l, list_t, max2_ii, min2_ii, seq_l, seq_t, slice_l, slice_t, rng1_i, rng2_i, zip_l, zip_t, zip_tl, zip_lt, enum_l, add_tt, add_ll, add_ss, repr_i, atI_0, atI_1, atI_2, ixN_0, ixN_1, ixN_2, ite_some, map_some, ex_and, ex_eq, bind_some, List.set_cons_zero, List.set_cons_succ, List.length_cons, List.length_nil, Option.some.injEq, decide_eq_true_eq, Bool.not_true, Bool.not_false, Bool.and_eq_true, Bool.or_eq_true, fillA, wbA, entry, entrySls, entrySl, List.replicate, List.cons_append, List.nil_append, trF_ok, List.append_nil, List.map_nil, List.map_cons, ownIx, and_assoc, exists_and_left, exists_eq_left', exists_eq_left, Rt.v.injEq, Rt.o.injEq, List.cons.injEq, PyData.int.injEq, PyData.list.injEq, PyData.tuple.injEq, and_true, true_and, List.all_cons, List.all_nil, List.nodup_cons, List.nodup_nil, decide_true, decide_false, Bool.and_true, Bool.true_and, List.mem_cons, List.not_mem_nil, not_false_eq_true, Nat.sub_self, Nat.reduceSub, Nat.reduceAdd, if_true, if_false, Bool.false_eq_true, reduceCtorEq, false_and, and_false, or_false, false_or, and_self, Nat.zero_add, exists_eq', exists_eq, Sl.val.injEq, Sl.own.injEq, exists_const, tr_vnil, tr_vcons, tr_callX, pick_c, pick_n, List.getElem?_cons_zero, List.getElem?_cons_succ, Option.toList_some, tr_dict0, tr_dict1, ts_never, isi_tt, isi_ii, isi_bi, rev_t, rev_l, ts_dput, ts_update, getDc_o, asD_d, din_i, dnin_i, dget_i, key_i, Option.isSome_some, Option.isSome_none, tr_fld, tr_opF, tr_opFr, tr_c1F, ts_setF, ts_setFO, ts_addF, ts_addFO, ts_augF, ts_appF, tr_popF, tr_pop0F, tr_meth, tr_methT, tr_tagM, tr_fldT, tr_make, tr_leaf, getI_o, tagE_o, fV_0, fV_s, fA_0, fA_s, fO_0l, fO_0d, fO_s, fL_0, fL_s, gvS_v, qvar_at, qcon_at, qnil_at, qop_at, fldQ_at, tr_mq, ts_forO]
theorem most_ok {s : Nat → Int} {m n : Nat} (hm : m ≤ 900) (hn : n ≤ 100000) (h : Szs s) : f_most_live [tup (m + 1) s, .int n] = .ok (.v (.int (PM s m n))) [] := by
  have hx := mix_ok (s := s) hm hn h
  apply trF_eq
  unfold f_most_live m_most_live mixD tup at *
  rw [trF_body]
  have a1 := at_map (f := fun k => PyData.int (PM s m k)) (k := n + 1) (i := n) (by omega)
  simp only [tr_bnd, tr_lft, tr_con, tr_op2, tr_op2r, tr_op2b, tr_asB, tr_trB, tr_trBp, tr_and, tr_or, tr_not, tr_if, tr_andV, tr_orV, tr_notV, tr_neg, tr_chain, tr_nil, tr_cons, tr_tup, tr_lst, tr_pn, tr_ps, tr_sl, tr_c1, tr_c1p, tr_seqI, tr_rng1, tr_rng2, tr_rng3, tr_zip, tr_enum, tr_rtV, tr_rtO, tr_aNil, tr_aV, tr_call, tr_callT, ts_next, ts_break, ts_cont, ts_seq, ts_ret, ts_retO, ts_retN, ts_expr, ts_assign, as_name, as_nil, as_cons, as_tup, ts_own, ts_if, ts_for, ts_store, varK_v, varK_o, leaf_l, leaf_d, tu_takeG, tr_rtG, rtg_o, getV_od, rtd_od, rto_od, tr_yes, wipe_n, wipe_c, unw_n, unw_c, unw1_v, unw1_e, unw1_n, getQ_0, getQ_s, isOS_v, isOS_e, nl_i, nl_b, nl_n, nl_s, nl_t, eq_self, ts_par, pev_n, pev_v, pev_o, sets_n, sets_c, tr_bor, bor_c, bor_n, sok_e, sok_vv, sok_int, sok_ss, sok_o, rtd_v, rtd_o, rto_o, tu_var, tu_op2l, tu_slp, getO_o, getS_s, getX_v, tu_aL, tu_aS, tu_take, tu_aug, tu_append, tu_pop, tu_lenS, tu_ixS, outA, scrA, isOA, isSA, outS_o, scrS_s, isO_o, isS_s, lok_gen, lix_nil, lix_v, lix_l, lix_s, sok_nil, sok_v, sok_l, sok_s, at_0, at_1, getV_v, getV_o, getL_o, add_ii, sub_ii, mul_ii, mul_ti, mul_li, fdiv_ii, mod_ii, pow_ii, neg_i, cmp_ii, addI_ii, mulI_ii, eq_ii, ne_ii, eq_ss, ne_ss, asB_b, truth_b, truth_i, truth_l, truth_t, truth_n, asI_i, item_l, item_t, len_l, len_t, abs_i, int_i, int_b, tuple_l, tuple_t, list_l, list_t, max2_ii, min2_ii, seq_l, seq_t, slice_l, slice_t, rng1_i, rng2_i, zip_l, zip_t, zip_tl, zip_lt, enum_l, add_tt, add_ll, add_ss, repr_i, atI_0, atI_1, atI_2, ixN_0, ixN_1, ixN_2, ite_some, map_some, ex_and, ex_eq, bind_some, List.set_cons_zero, List.set_cons_succ, List.length_cons, List.length_nil, Option.some.injEq, decide_eq_true_eq, Bool.not_true, Bool.not_false, Bool.and_eq_true, Bool.or_eq_true, fillA, wbA, entry, entrySls, entrySl, List.replicate, List.cons_append, List.nil_append, trF_ok, List.append_nil, List.map_nil, List.map_cons, ownIx, and_assoc, exists_and_left, exists_eq_left', exists_eq_left, Rt.v.injEq, Rt.o.injEq, List.cons.injEq, PyData.int.injEq, PyData.list.injEq, PyData.tuple.injEq, and_true, true_and, List.all_cons, List.all_nil, List.nodup_cons, List.nodup_nil, decide_true, decide_false, Bool.and_true, Bool.true_and, List.mem_cons, List.not_mem_nil, not_false_eq_true, Nat.sub_self, Nat.reduceSub, Nat.reduceAdd, if_true, if_false, Bool.false_eq_true, reduceCtorEq, false_and, and_false, or_false, false_or, and_self, Nat.zero_add, exists_eq', exists_eq, Sl.val.injEq, Sl.own.injEq, exists_const, tr_vnil, tr_vcons, tr_callX, pick_c, pick_n, List.getElem?_cons_zero, List.getElem?_cons_succ, Option.toList_some, tr_dict0, tr_dict1, ts_never, isi_tt, isi_ii, isi_bi, rev_t, rev_l, ts_dput, ts_update, getDc_o, asD_d, din_i, dnin_i, dget_i, key_i, Option.isSome_some, Option.isSome_none, tr_fld, tr_opF, tr_opFr, tr_c1F, ts_setF, ts_setFO, ts_addF, ts_addFO, ts_augF, ts_appF, tr_popF, tr_pop0F, tr_meth, tr_methT, tr_tagM, tr_fldT, tr_make, tr_leaf, getI_o, tagE_o, fV_0, fV_s, fA_0, fA_s, fO_0l, fO_0d, fO_s, fL_0, fL_s, gvS_v, qvar_at, qcon_at, qnil_at, qop_at, fldQ_at, tr_mq, ts_forO, hx, a1]
theorem enough_ok {s : Nat → Int} {m n : Nat} (hm : m ≤ 900) (hn : n ≤ 100000) (h : Szs s) (hb : s m < 18446744073709551616) : f_enough_pages [tup (m + 1) s, .int n] = .ok (.v (.int (num s (fun _ => 0) (PM s m n) m / s m))) [] := by
  have hx := most_ok (s := s) hm hn h
  have hp := pages_ok (s := s) (M := PM s m n) hm (szs_hs h hb)
  apply trF_eq
  unfold f_enough_pages m_enough_pages tup at *
  rw [trF_body]
  simp only [tr_bnd, tr_lft, tr_con, tr_op2, tr_op2r, tr_op2b, tr_asB, tr_trB, tr_trBp, tr_and, tr_or, tr_not, tr_if, tr_andV, tr_orV, tr_notV, tr_neg, tr_chain, tr_nil, tr_cons, tr_tup, tr_lst, tr_pn, tr_ps, tr_sl, tr_c1, tr_c1p, tr_seqI, tr_rng1, tr_rng2, tr_rng3, tr_zip, tr_enum, tr_rtV, tr_rtO, tr_aNil, tr_aV, tr_call, tr_callT, ts_next, ts_break, ts_cont, ts_seq, ts_ret, ts_retO, ts_retN, ts_expr, ts_assign, as_name, as_nil, as_cons, as_tup, ts_own, ts_if, ts_for, ts_store, varK_v, varK_o, leaf_l, leaf_d, tu_takeG, tr_rtG, rtg_o, getV_od, rtd_od, rto_od, tr_yes, wipe_n, wipe_c, unw_n, unw_c, unw1_v, unw1_e, unw1_n, getQ_0, getQ_s, isOS_v, isOS_e, nl_i, nl_b, nl_n, nl_s, nl_t, eq_self, ts_par, pev_n, pev_v, pev_o, sets_n, sets_c, tr_bor, bor_c, bor_n, sok_e, sok_vv, sok_int, sok_ss, sok_o, rtd_v, rtd_o, rto_o, tu_var, tu_op2l, tu_slp, getO_o, getS_s, getX_v, tu_aL, tu_aS, tu_take, tu_aug, tu_append, tu_pop, tu_lenS, tu_ixS, outA, scrA, isOA, isSA, outS_o, scrS_s, isO_o, isS_s, lok_gen, lix_nil, lix_v, lix_l, lix_s, sok_nil, sok_v, sok_l, sok_s, at_0, at_1, getV_v, getV_o, getL_o, add_ii, sub_ii, mul_ii, mul_ti, mul_li, fdiv_ii, mod_ii, pow_ii, neg_i, cmp_ii, addI_ii, mulI_ii, eq_ii, ne_ii, eq_ss, ne_ss, asB_b, truth_b, truth_i, truth_l, truth_t, truth_n, asI_i, item_l, item_t, len_l, len_t, abs_i, int_i, int_b, tuple_l, tuple_t, list_l, list_t, max2_ii, min2_ii, seq_l, seq_t, slice_l, slice_t, rng1_i, rng2_i, zip_l, zip_t, zip_tl, zip_lt, enum_l, add_tt, add_ll, add_ss, repr_i, atI_0, atI_1, atI_2, ixN_0, ixN_1, ixN_2, ite_some, map_some, ex_and, ex_eq, bind_some, List.set_cons_zero, List.set_cons_succ, List.length_cons, List.length_nil, Option.some.injEq, decide_eq_true_eq, Bool.not_true, Bool.not_false, Bool.and_eq_true, Bool.or_eq_true, fillA, wbA, entry, entrySls, entrySl, List.replicate, List.cons_append, List.nil_append, trF_ok, List.append_nil, List.map_nil, List.map_cons, ownIx, and_assoc, exists_and_left, exists_eq_left', exists_eq_left, Rt.v.injEq, Rt.o.injEq, List.cons.injEq, PyData.int.injEq, PyData.list.injEq, PyData.tuple.injEq, and_true, true_and, List.all_cons, List.all_nil, List.nodup_cons, List.nodup_nil, decide_true, decide_false, Bool.and_true, Bool.true_and, List.mem_cons, List.not_mem_nil, not_false_eq_true, Nat.sub_self, Nat.reduceSub, Nat.reduceAdd, if_true, if_false, Bool.false_eq_true, reduceCtorEq, false_and, and_false, or_false, false_or, and_self, Nat.zero_add, exists_eq', exists_eq, Sl.val.injEq, Sl.own.injEq, exists_const, tr_vnil, tr_vcons, tr_callX, pick_c, pick_n, List.getElem?_cons_zero, List.getElem?_cons_succ, Option.toList_some, tr_dict0, tr_dict1, ts_never, isi_tt, isi_ii, isi_bi, rev_t, rev_l, ts_dput, ts_update, getDc_o, asD_d, din_i, dnin_i, dget_i, key_i, Option.isSome_some, Option.isSome_none, tr_fld, tr_opF, tr_opFr, tr_c1F, ts_setF, ts_setFO, ts_addF, ts_addFO, ts_augF, ts_appF, tr_popF, tr_pop0F, tr_meth, tr_methT, tr_tagM, tr_fldT, tr_make, tr_leaf, getI_o, tagE_o, fV_0, fV_s, fA_0, fA_s, fO_0l, fO_0d, fO_s, fL_0, fL_s, gvS_v, qvar_at, qcon_at, qnil_at, qop_at, fldQ_at, tr_mq, ts_forO, hx, hp]
end Lk37

end
section
/-! SZ2: the requests that want the most live words. -/
namespace BT
open PySem PySem.Spec L2 PL
section
variable {s : Nat → Int} {m : Nat}
/-- the last request of t words -/
theorem LM_or (h : Szs s) (t : Nat) : (LM s m (t + 1) = 0 ∧ PM s m (t + 1) = PM s m t) ∨ ∃ j, j ≤ m ∧ ls s j ≤ (t + 1 : Nat) ∧ LM s m (t + 1) = ls s j ∧ PM s m (t + 1) = PM s m (t + 1 - (ls s j).toNat) + s j := by
  have e : LM s m (t + 1) = (bq s (PM s m) (t + 1) (m + 1)).2 := rfl
  rw [e, PM_s h]
  rcases bq_or (s := s) (g := PM s m) (t := t + 1) (m + 1) with q | ⟨j, h1, h2, q⟩
  · left
    rw [q]
    exact ⟨rfl, by rw [Nat.add_sub_cancel]⟩
  · right
    exact ⟨j, by omega, h2, by rw [q], by rw [q]⟩
/-- the requests, from the last one on -/
def rqs (s : Nat → Int) (m : Nat) : Nat → Nat → List Int
  | 0, _ => []
  | _ + 1, 0 => []
  | f + 1, t + 1 => if LM s m (t + 1) > 0 then LM s m (t + 1) :: rqs s m f (t + 1 - (LM s m (t + 1)).toNat) else rqs s m f t
theorem rqs_ok (h : Szs s) (hs : ∀ i, i < m → s i < s (i + 1)) : ∀ f t : Nat, t ≤ f → (rqs s m f t).sum ≤ t ∧ (∀ x ∈ rqs s m f t, 1 ≤ x ∧ x ≤ s m) ∧ ((rqs s m f t).map (rnd s m)).sum = PM s m t
  | 0, t, hf => by
    have : t = 0 := by omega
    subst this
    exact ⟨by simp [rqs], by simp [rqs], by simp [rqs, PM_0]⟩
  | f + 1, 0, _ => ⟨by simp [rqs], by simp [rqs], by simp [rqs, PM_0]⟩
  | f + 1, t + 1, hf => by
    unfold rqs
    rcases LM_or (m := m) h t with ⟨e1, e2⟩ | ⟨j, hj, hl, e1, e2⟩
    · rw [if_neg (by omega), e2]
      obtain ⟨h1, h2, h3⟩ := rqs_ok h hs f t (by omega)
      exact ⟨by omega, h2, h3⟩
    · have lp := ls_pos h j
      obtain ⟨r1, r2⟩ := rnd_ls h hs hj
      have hm := h.mono hj
      rw [e1, if_pos (by omega), e2]
      obtain ⟨h1, h2, h3⟩ := rqs_ok h hs f (t + 1 - (ls s j).toNat) (by omega)
      refine ⟨?_, fun x hx => ?_, ?_⟩
      · rw [List.sum_cons]; omega
      · rcases List.mem_cons.mp hx with rfl | hx
        · omega
        · exact h2 x hx
      · rw [List.map_cons, List.sum_cons, r1, h3]; omega
theorem PM_up (h : Szs s) (hs : ∀ i, i < m → s i < s (i + 1)) (t : Nat) : PM s m t ≤ PM s m (t + 1) ∧ PM s m (t + 1) ≤ PM s m t + s m := by
  have mono : ∀ {a b : Nat}, a ≤ b → PM s m a ≤ PM s m b := fun {a b} hab => by
    induction b with
    | zero => have : a = 0 := by omega
              subst this; exact Int.le_refl _
    | succ b ih =>
      by_cases e : a = b + 1
      · rw [e]; exact Int.le_refl _
      · have h1 := ih (by omega)
        obtain ⟨p1, q1, _⟩ := PM_FM h hs (b + 1)
        have p0 := (PM_FM h hs b).1
        have := q1 b (by omega)
        omega
  have hp := h.pos m
  refine ⟨mono (by omega), ?_⟩
  rcases LM_or (m := m) h t with ⟨_, e2⟩ | ⟨j, hj, hl, _, e2⟩
  · omega
  · have lp := ls_pos h j
    have h1 := mono (show t + 1 - (ls s j).toNat ≤ t by omega)
    have h2 := h.mono hj
    omega
end
end BT

end
section
namespace Lk37
open PySem PySem.Spec L2 PL BT
theorem requests_ok {s : Nat → Int} {m n : Nat} (hn : n ≤ 100000) (h : Szs s) : f_Mixes_requests [mixD s m n] = .ok (.v (.tuple ((isort (rqs s m n n)).map PyData.int))) [mixD s m n] := by
  apply trF_eq
  unfold f_Mixes_requests m_Mixes_requests mixD
  rw [trF_body]
  have hlen : ∀ f t : Nat, (rqs s m f t).length ≤ f := fun f => by
    induction f with
    | zero => intro t; simp [rqs]
    | succ f ih =>
      intro t
      cases t with
      | zero => simp [rqs]
      | succ t =>
        unfold rqs
        split
        · have := ih (t + 1 - (LM s m (t + 1)).toNat)
          rw [List.length_cons]; omega
        · have := ih t; omega
  simp only [tr_bnd, tr_lft, tr_con, tr_op2, tr_op2r, tr_op2b, tr_asB, tr_trB, tr_trBp, tr_and, tr_or, tr_not, tr_if, tr_andV, tr_orV, tr_notV, tr_neg, tr_chain, tr_nil, tr_cons, tr_tup, tr_lst, tr_pn, tr_ps, tr_sl, tr_c1, tr_c1p, tr_seqI, tr_rng1, tr_rng2, tr_rng3, tr_zip, tr_enum, tr_rtV, tr_rtO, tr_aNil, tr_aV, tr_call, tr_callT, ts_next, ts_break, ts_cont, ts_seq, ts_ret, ts_retO, ts_retN, ts_expr, ts_assign, as_name, as_nil, as_cons, as_tup, ts_own, ts_if, ts_for, ts_store, varK_v, varK_o, leaf_l, leaf_d, tu_takeG, tr_rtG, rtg_o, getV_od, rtd_od, rto_od, tr_yes, wipe_n, wipe_c, unw_n, unw_c, unw1_v, unw1_e, unw1_n, getQ_0, getQ_s, isOS_v, isOS_e, nl_i, nl_b, nl_n, nl_s, nl_t, eq_self, ts_par, pev_n, pev_v, pev_o, sets_n, sets_c, tr_bor, bor_c, bor_n, sok_e, sok_vv, sok_int, sok_ss, sok_o, rtd_v, rtd_o, rto_o, tu_var, tu_op2l, tu_slp, getO_o, getS_s, getX_v, tu_aL, tu_aS, tu_take, tu_aug, tu_append, tu_pop, tu_lenS, tu_ixS, outA, scrA, isOA, isSA, outS_o, scrS_s, isO_o, isS_s, lok_gen, lix_nil, lix_v, lix_l, lix_s, sok_nil, sok_v, sok_l, sok_s, at_0, at_1, getV_v, getV_o, getL_o, add_ii, sub_ii, mul_ii, mul_ti, mul_li, fdiv_ii, mod_ii, pow_ii, neg_i, cmp_ii, addI_ii, mulI_ii, eq_ii, ne_ii, eq_ss, ne_ss, asB_b, truth_b, truth_i, truth_l, truth_t, truth_n, asI_i, item_l, item_t, len_l, len_t, abs_i, int_i, int_b, tuple_l, tuple_t, list_l, list_t, max2_ii, min2_ii, seq_l, seq_t, slice_l, slice_t, rng1_i, rng2_i, zip_l, zip_t, zip_tl, zip_lt, enum_l, add_tt, add_ll, add_ss, repr_i, atI_0, atI_1, atI_2, ixN_0, ixN_1, ixN_2, ite_some, map_some, ex_and, ex_eq, bind_some, List.set_cons_zero, List.set_cons_succ, List.length_cons, List.length_nil, Option.some.injEq, decide_eq_true_eq, Bool.not_true, Bool.not_false, Bool.and_eq_true, Bool.or_eq_true, fillA, wbA, entry, entrySls, entrySl, List.replicate, List.cons_append, List.nil_append, trF_ok, List.append_nil, List.map_nil, List.map_cons, ownIx, and_assoc, exists_and_left, exists_eq_left', exists_eq_left, Rt.v.injEq, Rt.o.injEq, List.cons.injEq, PyData.int.injEq, PyData.list.injEq, PyData.tuple.injEq, and_true, true_and, List.all_cons, List.all_nil, List.nodup_cons, List.nodup_nil, decide_true, decide_false, Bool.and_true, Bool.true_and, List.mem_cons, List.not_mem_nil, not_false_eq_true, Nat.sub_self, Nat.reduceSub, Nat.reduceAdd, if_true, if_false, Bool.false_eq_true, reduceCtorEq, false_and, and_false, or_false, false_or, and_self, Nat.zero_add, exists_eq', exists_eq, Sl.val.injEq, Sl.own.injEq, exists_const, tr_vnil, tr_vcons, tr_callX, pick_c, pick_n, List.getElem?_cons_zero, List.getElem?_cons_succ, Option.toList_some, tr_dict0, tr_dict1, ts_never, isi_tt, isi_ii, isi_bi, rev_t, rev_l, ts_dput, ts_update, getDc_o, asD_d, din_i, dnin_i, dget_i, key_i, Option.isSome_some, Option.isSome_none, tr_fld, tr_opF, tr_opFr, tr_c1F, ts_setF, ts_setFO, ts_addF, ts_addFO, ts_augF, ts_appF, tr_popF, tr_pop0F, tr_meth, tr_methT, tr_tagM, tr_fldT, tr_make, tr_leaf, getI_o, tagE_o, fV_0, fV_s, fA_0, fA_s, fO_0l, fO_0d, fO_s, fL_0, fL_s, gvS_v, qvar_at, qcon_at, qnil_at, qop_at, fldQ_at, tr_mq, ts_forO, len_map]
  have e1 : (((n + 1 : Nat) : Int) - 1) = (n : Int) := by omega
  rw [e1]
  refine ⟨lenOk_of (by decide), ?_⟩
  refine ts_while (fun t r => ∃ f fs, t ≤ n ∧ t ≤ f ∧ fs ++ rqs s m f t = rqs s m n n ∧ r = [.own (.tuple [t_Mixes_2, .list [.list ((List.range (n + 1)).map fun k => .int (PM s m k))], .list [.list ((List.range (n + 1)).map fun k => .int (LM s m k))]]), .own (.list (fs.map PyData.int)), .val (.int t)]) (n := n) ⟨n, [], Nat.le_refl _, Nat.le_refl _, rfl, rfl⟩ (fun t r hr => ?_)
  obtain ⟨f, fs, ht, htf, hfs, rfl⟩ := hr
  simp only [tr_bnd, tr_lft, tr_con, tr_op2, tr_op2r, tr_op2b, tr_asB, tr_trB, tr_trBp, tr_and, tr_or, tr_not, tr_if, tr_andV, tr_orV, tr_notV, tr_neg, tr_chain, tr_nil, tr_cons, tr_tup, tr_lst, tr_pn, tr_ps, tr_sl, tr_c1, tr_c1p, tr_seqI, tr_rng1, tr_rng2, tr_rng3, tr_zip, tr_enum, tr_rtV, tr_rtO, tr_aNil, tr_aV, tr_call, tr_callT, ts_next, ts_break, ts_cont, ts_seq, ts_ret, ts_retO, ts_retN, ts_expr, ts_assign, as_name, as_nil, as_cons, as_tup, ts_own, ts_if, ts_for, ts_store, varK_v, varK_o, leaf_l, leaf_d, tu_takeG, tr_rtG, rtg_o, getV_od, rtd_od, rto_od, tr_yes, wipe_n, wipe_c, unw_n, unw_c, unw1_v, unw1_e, unw1_n, getQ_0, getQ_s, isOS_v, isOS_e, nl_i, nl_b, nl_n, nl_s, nl_t, eq_self, ts_par, pev_n, pev_v, pev_o, sets_n, sets_c, tr_bor, bor_c, bor_n, sok_e, sok_vv, sok_int, sok_ss, sok_o, rtd_v, rtd_o, rto_o, tu_var, tu_op2l, tu_slp, getO_o, getS_s, getX_v, tu_aL, tu_aS, tu_take, tu_aug, tu_append, tu_pop, tu_lenS, tu_ixS, outA, scrA, isOA, isSA, outS_o, scrS_s, isO_o, isS_s, lok_gen, lix_nil, lix_v, lix_l, lix_s, sok_nil, sok_v, sok_l, sok_s, at_0, at_1, getV_v, getV_o, getL_o, add_ii, sub_ii, mul_ii, mul_ti, mul_li, fdiv_ii, mod_ii, pow_ii, neg_i, cmp_ii, addI_ii, mulI_ii, eq_ii, ne_ii, eq_ss, ne_ss, asB_b, truth_b, truth_i, truth_l, truth_t, truth_n, asI_i, item_l, item_t, len_l, len_t, abs_i, int_i, int_b, tuple_l, tuple_t, list_l, list_t, max2_ii, min2_ii, seq_l, seq_t, slice_l, slice_t, rng1_i, rng2_i, zip_l, zip_t, zip_tl, zip_lt, enum_l, add_tt, add_ll, add_ss, repr_i, atI_0, atI_1, atI_2, ixN_0, ixN_1, ixN_2, ite_some, map_some, ex_and, ex_eq, bind_some, List.set_cons_zero, List.set_cons_succ, List.length_cons, List.length_nil, Option.some.injEq, decide_eq_true_eq, Bool.not_true, Bool.not_false, Bool.and_eq_true, Bool.or_eq_true, fillA, wbA, entry, entrySls, entrySl, List.replicate, List.cons_append, List.nil_append, trF_ok, List.append_nil, List.map_nil, List.map_cons, ownIx, and_assoc, exists_and_left, exists_eq_left', exists_eq_left, Rt.v.injEq, Rt.o.injEq, List.cons.injEq, PyData.int.injEq, PyData.list.injEq, PyData.tuple.injEq, and_true, true_and, List.all_cons, List.all_nil, List.nodup_cons, List.nodup_nil, decide_true, decide_false, Bool.and_true, Bool.true_and, List.mem_cons, List.not_mem_nil, not_false_eq_true, Nat.sub_self, Nat.reduceSub, Nat.reduceAdd, if_true, if_false, Bool.false_eq_true, reduceCtorEq, false_and, and_false, or_false, false_or, and_self, Nat.zero_add, exists_eq', exists_eq, Sl.val.injEq, Sl.own.injEq, exists_const, tr_vnil, tr_vcons, tr_callX, pick_c, pick_n, List.getElem?_cons_zero, List.getElem?_cons_succ, Option.toList_some, tr_dict0, tr_dict1, ts_never, isi_tt, isi_ii, isi_bi, rev_t, rev_l, ts_dput, ts_update, getDc_o, asD_d, din_i, dnin_i, dget_i, key_i, Option.isSome_some, Option.isSome_none, tr_fld, tr_opF, tr_opFr, tr_c1F, ts_setF, ts_setFO, ts_addF, ts_addFO, ts_augF, ts_appF, tr_popF, tr_pop0F, tr_meth, tr_methT, tr_tagM, tr_fldT, tr_make, tr_leaf, getI_o, tagE_o, fV_0, fV_s, fA_0, fA_s, fO_0l, fO_0d, fO_s, fL_0, fL_s, gvS_v, qvar_at, qcon_at, qnil_at, qop_at, fldQ_at, tr_mq, ts_forO]
  cases t with
  | zero =>
    have er : rqs s m f 0 = [] := by cases f <;> rfl
    rw [er, List.append_nil] at hfs
    subst hfs
    simp only [tr_bnd, tr_lft, tr_con, tr_op2, tr_op2r, tr_op2b, tr_asB, tr_trB, tr_trBp, tr_and, tr_or, tr_not, tr_if, tr_andV, tr_orV, tr_notV, tr_neg, tr_chain, tr_nil, tr_cons, tr_tup, tr_lst, tr_pn, tr_ps, tr_sl, tr_c1, tr_c1p, tr_seqI, tr_rng1, tr_rng2, tr_rng3, tr_zip, tr_enum, tr_rtV, tr_rtO, tr_aNil, tr_aV, tr_call, tr_callT, ts_next, ts_break, ts_cont, ts_seq, ts_ret, ts_retO, ts_retN, ts_expr, ts_assign, as_name, as_nil, as_cons, as_tup, ts_own, ts_if, ts_for, ts_store, varK_v, varK_o, leaf_l, leaf_d, tu_takeG, tr_rtG, rtg_o, getV_od, rtd_od, rto_od, tr_yes, wipe_n, wipe_c, unw_n, unw_c, unw1_v, unw1_e, unw1_n, getQ_0, getQ_s, isOS_v, isOS_e, nl_i, nl_b, nl_n, nl_s, nl_t, eq_self, ts_par, pev_n, pev_v, pev_o, sets_n, sets_c, tr_bor, bor_c, bor_n, sok_e, sok_vv, sok_int, sok_ss, sok_o, rtd_v, rtd_o, rto_o, tu_var, tu_op2l, tu_slp, getO_o, getS_s, getX_v, tu_aL, tu_aS, tu_take, tu_aug, tu_append, tu_pop, tu_lenS, tu_ixS, outA, scrA, isOA, isSA, outS_o, scrS_s, isO_o, isS_s, lok_gen, lix_nil, lix_v, lix_l, lix_s, sok_nil, sok_v, sok_l, sok_s, at_0, at_1, getV_v, getV_o, getL_o, add_ii, sub_ii, mul_ii, mul_ti, mul_li, fdiv_ii, mod_ii, pow_ii, neg_i, cmp_ii, addI_ii, mulI_ii, eq_ii, ne_ii, eq_ss, ne_ss, asB_b, truth_b, truth_i, truth_l, truth_t, truth_n, asI_i, item_l, item_t, len_l, len_t, abs_i, int_i, int_b, tuple_l, tuple_t, list_l, list_t, max2_ii, min2_ii, seq_l, seq_t, slice_l, slice_t, rng1_i, rng2_i, zip_l, zip_t, zip_tl, zip_lt, enum_l, add_tt, add_ll, add_ss, repr_i, atI_0, atI_1, atI_2, ixN_0, ixN_1, ixN_2, ite_some, map_some, ex_and, ex_eq, bind_some, List.set_cons_zero, List.set_cons_succ, List.length_cons, List.length_nil, Option.some.injEq, decide_eq_true_eq, Bool.not_true, Bool.not_false, Bool.and_eq_true, Bool.or_eq_true, fillA, wbA, entry, entrySls, entrySl, List.replicate, List.cons_append, List.nil_append, trF_ok, List.append_nil, List.map_nil, List.map_cons, ownIx, and_assoc, exists_and_left, exists_eq_left', exists_eq_left, Rt.v.injEq, Rt.o.injEq, List.cons.injEq, PyData.int.injEq, PyData.list.injEq, PyData.tuple.injEq, and_true, true_and, List.all_cons, List.all_nil, List.nodup_cons, List.nodup_nil, decide_true, decide_false, Bool.and_true, Bool.true_and, List.mem_cons, List.not_mem_nil, not_false_eq_true, Nat.sub_self, Nat.reduceSub, Nat.reduceAdd, if_true, if_false, Bool.false_eq_true, reduceCtorEq, false_and, and_false, or_false, false_or, and_self, Nat.zero_add, exists_eq', exists_eq, Sl.val.injEq, Sl.own.injEq, exists_const, tr_vnil, tr_vcons, tr_callX, pick_c, pick_n, List.getElem?_cons_zero, List.getElem?_cons_succ, Option.toList_some, tr_dict0, tr_dict1, ts_never, isi_tt, isi_ii, isi_bi, rev_t, rev_l, ts_dput, ts_update, getDc_o, asD_d, din_i, dnin_i, dget_i, key_i, Option.isSome_some, Option.isSome_none, tr_fld, tr_opF, tr_opFr, tr_c1F, ts_setF, ts_setFO, ts_addF, ts_addFO, ts_augF, ts_appF, tr_popF, tr_pop0F, tr_meth, tr_methT, tr_tagM, tr_fldT, tr_make, tr_leaf, getI_o, tagE_o, fV_0, fV_s, fA_0, fA_s, fO_0l, fO_0d, fO_s, fL_0, fL_s, gvS_v, qvar_at, qcon_at, qnil_at, qop_at, fldQ_at, tr_mq, ts_forO, sort_m, Int.natCast_zero, Int.lt_irrefl, gt_iff_lt]
  | succ t =>
    have a1 := at_map (f := fun k => PyData.int (LM s m k)) (k := n + 1) (i := t + 1) (by omega)
    have g0 : (((t + 1 : Nat) : Int) > 0) := by omega
    cases f with
    | zero => omega
    | succ f =>
      have hl2 : fs.length ≤ n := by
        have := congrArg List.length hfs
        rw [List.length_append] at this
        have := hlen n n
        omega
      have er : rqs s m (f + 1) (t + 1) = if LM s m (t + 1) > 0 then LM s m (t + 1) :: rqs s m f (t + 1 - (LM s m (t + 1)).toNat) else rqs s m f t := rfl
      rw [er] at hfs
      rcases LM_or (m := m) h t with ⟨q1, _⟩ | ⟨j, hj, hl, q1, _⟩
      · rw [if_neg (by omega)] at hfs
        simp only [tr_bnd, tr_lft, tr_con, tr_op2, tr_op2r, tr_op2b, tr_asB, tr_trB, tr_trBp, tr_and, tr_or, tr_not, tr_if, tr_andV, tr_orV, tr_notV, tr_neg, tr_chain, tr_nil, tr_cons, tr_tup, tr_lst, tr_pn, tr_ps, tr_sl, tr_c1, tr_c1p, tr_seqI, tr_rng1, tr_rng2, tr_rng3, tr_zip, tr_enum, tr_rtV, tr_rtO, tr_aNil, tr_aV, tr_call, tr_callT, ts_next, ts_break, ts_cont, ts_seq, ts_ret, ts_retO, ts_retN, ts_expr, ts_assign, as_name, as_nil, as_cons, as_tup, ts_own, ts_if, ts_for, ts_store, varK_v, varK_o, leaf_l, leaf_d, tu_takeG, tr_rtG, rtg_o, getV_od, rtd_od, rto_od, tr_yes, wipe_n, wipe_c, unw_n, unw_c, unw1_v, unw1_e, unw1_n, getQ_0, getQ_s, isOS_v, isOS_e, nl_i, nl_b, nl_n, nl_s, nl_t, eq_self, ts_par, pev_n, pev_v, pev_o, sets_n, sets_c, tr_bor, bor_c, bor_n, sok_e, sok_vv, sok_int, sok_ss, sok_o, rtd_v, rtd_o, rto_o, tu_var, tu_op2l, tu_slp, getO_o, getS_s, getX_v, tu_aL, tu_aS, tu_take, tu_aug, tu_append, tu_pop, tu_lenS, tu_ixS, outA, scrA, isOA, isSA, outS_o, scrS_s, isO_o, isS_s, lok_gen, lix_nil, lix_v, lix_l, lix_s, sok_nil, sok_v, sok_l, sok_s, at_0, at_1, getV_v, getV_o, getL_o, add_ii, sub_ii, mul_ii, mul_ti, mul_li, fdiv_ii, mod_ii, pow_ii, neg_i, cmp_ii, addI_ii, mulI_ii, eq_ii, ne_ii, eq_ss, ne_ss, asB_b, truth_b, truth_i, truth_l, truth_t, truth_n, asI_i, item_l, item_t, len_l, len_t, abs_i, int_i, int_b, tuple_l, tuple_t, list_l, list_t, max2_ii, min2_ii, seq_l, seq_t, slice_l, slice_t, rng1_i, rng2_i, zip_l, zip_t, zip_tl, zip_lt, enum_l, add_tt, add_ll, add_ss, repr_i, atI_0, atI_1, atI_2, ixN_0, ixN_1, ixN_2, ite_some, map_some, ex_and, ex_eq, bind_some, List.set_cons_zero, List.set_cons_succ, List.length_cons, List.length_nil, Option.some.injEq, decide_eq_true_eq, Bool.not_true, Bool.not_false, Bool.and_eq_true, Bool.or_eq_true, fillA, wbA, entry, entrySls, entrySl, List.replicate, List.cons_append, List.nil_append, trF_ok, List.append_nil, List.map_nil, List.map_cons, ownIx, and_assoc, exists_and_left, exists_eq_left', exists_eq_left, Rt.v.injEq, Rt.o.injEq, List.cons.injEq, PyData.int.injEq, PyData.list.injEq, PyData.tuple.injEq, and_true, true_and, List.all_cons, List.all_nil, List.nodup_cons, List.nodup_nil, decide_true, decide_false, Bool.and_true, Bool.true_and, List.mem_cons, List.not_mem_nil, not_false_eq_true, Nat.sub_self, Nat.reduceSub, Nat.reduceAdd, if_true, if_false, Bool.false_eq_true, reduceCtorEq, false_and, and_false, or_false, false_or, and_self, Nat.zero_add, exists_eq', exists_eq, Sl.val.injEq, Sl.own.injEq, exists_const, tr_vnil, tr_vcons, tr_callX, pick_c, pick_n, List.getElem?_cons_zero, List.getElem?_cons_succ, Option.toList_some, tr_dict0, tr_dict1, ts_never, isi_tt, isi_ii, isi_bi, rev_t, rev_l, ts_dput, ts_update, getDc_o, asD_d, din_i, dnin_i, dget_i, key_i, Option.isSome_some, Option.isSome_none, tr_fld, tr_opF, tr_opFr, tr_c1F, ts_setF, ts_setFO, ts_addF, ts_addFO, ts_augF, ts_appF, tr_popF, tr_pop0F, tr_meth, tr_methT, tr_tagM, tr_fldT, tr_make, tr_leaf, getI_o, tagE_o, fV_0, fV_s, fA_0, fA_s, fO_0l, fO_0d, fO_s, fL_0, fL_s, gvS_v, qvar_at, qcon_at, qnil_at, qop_at, fldQ_at, tr_mq, ts_forO, a1, q1, g0]
        rw [if_neg (by decide), if_neg (by decide)]
        exact ⟨t, by omega, by omega, f, by omega, fs, hfs, rfl, by omega⟩
      · have lp := ls_pos h j
        rw [if_pos (by omega)] at hfs
        simp only [tr_bnd, tr_lft, tr_con, tr_op2, tr_op2r, tr_op2b, tr_asB, tr_trB, tr_trBp, tr_and, tr_or, tr_not, tr_if, tr_andV, tr_orV, tr_notV, tr_neg, tr_chain, tr_nil, tr_cons, tr_tup, tr_lst, tr_pn, tr_ps, tr_sl, tr_c1, tr_c1p, tr_seqI, tr_rng1, tr_rng2, tr_rng3, tr_zip, tr_enum, tr_rtV, tr_rtO, tr_aNil, tr_aV, tr_call, tr_callT, ts_next, ts_break, ts_cont, ts_seq, ts_ret, ts_retO, ts_retN, ts_expr, ts_assign, as_name, as_nil, as_cons, as_tup, ts_own, ts_if, ts_for, ts_store, varK_v, varK_o, leaf_l, leaf_d, tu_takeG, tr_rtG, rtg_o, getV_od, rtd_od, rto_od, tr_yes, wipe_n, wipe_c, unw_n, unw_c, unw1_v, unw1_e, unw1_n, getQ_0, getQ_s, isOS_v, isOS_e, nl_i, nl_b, nl_n, nl_s, nl_t, eq_self, ts_par, pev_n, pev_v, pev_o, sets_n, sets_c, tr_bor, bor_c, bor_n, sok_e, sok_vv, sok_int, sok_ss, sok_o, rtd_v, rtd_o, rto_o, tu_var, tu_op2l, tu_slp, getO_o, getS_s, getX_v, tu_aL, tu_aS, tu_take, tu_aug, tu_append, tu_pop, tu_lenS, tu_ixS, outA, scrA, isOA, isSA, outS_o, scrS_s, isO_o, isS_s, lok_gen, lix_nil, lix_v, lix_l, lix_s, sok_nil, sok_v, sok_l, sok_s, at_0, at_1, getV_v, getV_o, getL_o, add_ii, sub_ii, mul_ii, mul_ti, mul_li, fdiv_ii, mod_ii, pow_ii, neg_i, cmp_ii, addI_ii, mulI_ii, eq_ii, ne_ii, eq_ss, ne_ss, asB_b, truth_b, truth_i, truth_l, truth_t, truth_n, asI_i, item_l, item_t, len_l, len_t, abs_i, int_i, int_b, tuple_l, tuple_t, list_l, list_t, max2_ii, min2_ii, seq_l, seq_t, slice_l, slice_t, rng1_i, rng2_i, zip_l, zip_t, zip_tl, zip_lt, enum_l, add_tt, add_ll, add_ss, repr_i, atI_0, atI_1, atI_2, ixN_0, ixN_1, ixN_2, ite_some, map_some, ex_and, ex_eq, bind_some, List.set_cons_zero, List.set_cons_succ, List.length_cons, List.length_nil, Option.some.injEq, decide_eq_true_eq, Bool.not_true, Bool.not_false, Bool.and_eq_true, Bool.or_eq_true, fillA, wbA, entry, entrySls, entrySl, List.replicate, List.cons_append, List.nil_append, trF_ok, List.append_nil, List.map_nil, List.map_cons, ownIx, and_assoc, exists_and_left, exists_eq_left', exists_eq_left, Rt.v.injEq, Rt.o.injEq, List.cons.injEq, PyData.int.injEq, PyData.list.injEq, PyData.tuple.injEq, and_true, true_and, List.all_cons, List.all_nil, List.nodup_cons, List.nodup_nil, decide_true, decide_false, Bool.and_true, Bool.true_and, List.mem_cons, List.not_mem_nil, not_false_eq_true, Nat.sub_self, Nat.reduceSub, Nat.reduceAdd, if_true, if_false, Bool.false_eq_true, reduceCtorEq, false_and, and_false, or_false, false_or, and_self, Nat.zero_add, exists_eq', exists_eq, Sl.val.injEq, Sl.own.injEq, exists_const, tr_vnil, tr_vcons, tr_callX, pick_c, pick_n, List.getElem?_cons_zero, List.getElem?_cons_succ, Option.toList_some, tr_dict0, tr_dict1, ts_never, isi_tt, isi_ii, isi_bi, rev_t, rev_l, ts_dput, ts_update, getDc_o, asD_d, din_i, dnin_i, dget_i, key_i, Option.isSome_some, Option.isSome_none, tr_fld, tr_opF, tr_opFr, tr_c1F, ts_setF, ts_setFO, ts_addF, ts_addFO, ts_augF, ts_appF, tr_popF, tr_pop0F, tr_meth, tr_methT, tr_tagM, tr_fldT, tr_make, tr_leaf, getI_o, tagE_o, fV_0, fV_s, fA_0, fA_s, fO_0l, fO_0d, fO_s, fL_0, fL_s, gvS_v, qvar_at, qcon_at, qnil_at, qop_at, fldQ_at, tr_mq, ts_forO, a1, g0]
        rw [if_pos (by omega)]
        refine ⟨lenOk_of (by rw [List.length_map]; omega), t + 1 - (LM s m (t + 1)).toNat, by omega, by omega, f, by omega, fs ++ [LM s m (t + 1)], by rw [List.append_assoc]; exact hfs, by simp, ?_⟩
        split <;> omega
end Lk37

end
section
namespace Lk37
open PySem PySem.Spec L2 PL BT
/-- the source of numbers: digits, a mixed number, a counter -/
def Drw (b : Int) (p : PyData) : Prop := ∃ g m c : Int, p = .list [.int g, .int m, .int c] ∧ 0 ≤ g ∧ 0 ≤ m ∧ m < 2305843009213693951 ∧ 0 ≤ c ∧ c ≤ b
theorem Drw.up {b b' : Int} {p : PyData} (h : Drw b p) (hb : b ≤ b') : Drw b' p := by
  obtain ⟨g, m, c, e, h1, h2, h3, h4, h5⟩ := h
  exact ⟨g, m, c, e, h1, h2, h3, h4, by omega⟩
theorem draw_ok {p : PyData} {u b : Int} (hp : Drw b p) (hb : b < 1000000000) (hu : 0 < u) (hu2 : u < 18446744073709551616) :
    ∃ d p', f_l_draw [p, .int u] = .ok (.v (.int d)) [p'] ∧ Drw (b + 1) p' ∧ 0 ≤ d ∧ d < u := by
  obtain ⟨g, m, c, rfl, hg, hm, hm2, hc, hc2⟩ := hp
  have h : TrF (f_l_draw [.list [.int g, .int m, .int c], .int u]) (fun r o => ∃ d p', r = .v (.int d) ∧ o = [p'] ∧ Drw (b + 1) p' ∧ 0 ≤ d ∧ d < u) noxF := by
    unfold f_l_draw m_l_draw
    rw [trF_body]
    simp only [tr_bnd, tr_lft, tr_con, tr_op2, tr_op2r, tr_op2b, tr_asB, tr_trB, tr_trBp, tr_and, tr_or, tr_not, tr_if, tr_andV, tr_orV, tr_notV, tr_neg, tr_chain, tr_nil, tr_cons, tr_tup, tr_lst, tr_pn, tr_ps, tr_sl, tr_c1, tr_c1p, tr_seqI, tr_rng1, tr_rng2, tr_rng3, tr_zip, tr_enum, tr_rtV, tr_rtO, tr_aNil, tr_aV, tr_call, tr_callT, ts_next, ts_break, ts_cont, ts_seq, ts_ret, ts_retO, ts_retN, ts_expr, ts_assign, as_name, as_nil, as_cons, as_tup, ts_own, ts_if, ts_for, ts_store, varK_v, varK_o, leaf_l, leaf_d, tu_takeG, tr_rtG, rtg_o, getV_od, rtd_od, rto_od, tr_yes, wipe_n, wipe_c, unw_n, unw_c, unw1_v, unw1_e, unw1_n, getQ_0, getQ_s, isOS_v, isOS_e, nl_i, nl_b, nl_n, nl_s, nl_t, eq_self, ts_par, pev_n, pev_v, pev_o, sets_n, sets_c, tr_bor, bor_c, bor_n, sok_e, sok_vv, sok_int, sok_ss, sok_o, rtd_v, rtd_o, rto_o, tu_var, tu_op2l, tu_slp, getO_o, getS_s, getX_v, tu_aL, tu_aS, tu_take, tu_aug, tu_append, tu_pop, tu_lenS, tu_ixS, outA, scrA, isOA, isSA, outS_o, scrS_s, isO_o, isS_s, lok_gen, lix_nil, lix_v, lix_l, lix_s, sok_nil, sok_v, sok_l, sok_s, at_0, at_1, getV_v, getV_o, getL_o, add_ii, sub_ii, mul_ii, mul_ti, mul_li, fdiv_ii, mod_ii, pow_ii, neg_i, cmp_ii, addI_ii, mulI_ii, eq_ii, ne_ii, eq_ss, ne_ss, asB_b, truth_b, truth_i, truth_l, truth_t, truth_n, asI_i, item_l, item_t, len_l, len_t, abs_i, int_i, int_b, tuple_l, tuple_t, list_l, list_t, max2_ii, min2_ii, seq_l, seq_t, slice_l, slice_t, rng1_i, rng2_i, zip_l, zip_t, zip_tl, zip_lt, enum_l, add_tt, add_ll, add_ss, repr_i, atI_0, atI_1, atI_2, ixN_0, ixN_1, ixN_2, ite_some, map_some, ex_and, ex_eq, bind_some, List.set_cons_zero, List.set_cons_succ, List.length_cons, List.length_nil, Option.some.injEq, decide_eq_true_eq, Bool.not_true, Bool.not_false, Bool.and_eq_true, Bool.or_eq_true, fillA, wbA, entry, entrySls, entrySl, List.replicate, List.cons_append, List.nil_append, trF_ok, List.append_nil, List.map_nil, List.map_cons, ownIx, and_assoc, exists_and_left, exists_eq_left', exists_eq_left, Rt.v.injEq, Rt.o.injEq, List.cons.injEq, PyData.int.injEq, PyData.list.injEq, PyData.tuple.injEq, and_true, true_and, List.all_cons, List.all_nil, List.nodup_cons, List.nodup_nil, decide_true, decide_false, Bool.and_true, Bool.true_and, List.mem_cons, List.not_mem_nil, not_false_eq_true, Nat.sub_self, Nat.reduceSub, Nat.reduceAdd, if_true, if_false, Bool.false_eq_true, reduceCtorEq, false_and, and_false, or_false, false_or, and_self, Nat.zero_add, exists_eq', exists_eq, Sl.val.injEq, Sl.own.injEq, exists_const, tr_vnil, tr_vcons, tr_callX, pick_c, pick_n, List.getElem?_cons_zero, List.getElem?_cons_succ, Option.toList_some, tr_dict0, tr_dict1, ts_never, isi_tt, isi_ii, isi_bi, rev_t, rev_l, ts_dput, ts_update, getDc_o, asD_d, din_i, dnin_i, dget_i, key_i, Option.isSome_some, Option.isSome_none]
    split
    · exact ⟨hu, fdOk_s hu (by omega), ⟨_, _, _, rfl, Int.ediv_nonneg hg (by omega), hm, hm2, hc, by omega⟩, Int.emod_nonneg _ (by omega), Int.emod_lt_of_pos _ hu⟩
    · have m0 := Int.emod_nonneg (m * 1181783497276652981 + 97531 * (c + 1) + 13) (b := 2305843009213693951) (by decide)
      have m1 := Int.emod_lt_of_pos (m * 1181783497276652981 + 97531 * (c + 1) + 13) (b := 2305843009213693951) (by decide)
      generalize (m * 1181783497276652981 + 97531 * (c + 1) + 13) % 2305843009213693951 = z at *
      refine ⟨mulOk_r (by decide), mulOk_l (by decide), by decide, fdOk_s (by decide) (by decide), by decide, mulOk_r (by omega), by decide, fdOk_s (by decide) (by decide), hu, ⟨_, _, _, rfl, hg, m0, m1, by omega, by omega⟩, Int.emod_nonneg _ (by omega), Int.emod_lt_of_pos _ hu⟩
  obtain ⟨r, o, e, d, p', rfl, rfl, h1, h2, h3⟩ := trF_ex h
  exact ⟨d, p', e, h1, h2, h3⟩
theorem pick_ok {p : PyData} {xs : List PyData} {b : Int} (hp : Drw b p) (hb : b < 1000000000) (h0 : 0 < xs.length) (h1 : xs.length < 1000000) :
    ∃ d p', f_l_pick [p, .list xs] = .ok (.v d) [p'] ∧ Drw (b + 1) p' ∧ d ∈ xs := by
  have h : TrF (f_l_pick [p, .list xs]) (fun r o => ∃ d p', r = .v d ∧ o = [p'] ∧ Drw (b + 1) p' ∧ d ∈ xs) noxF := by
    unfold f_l_pick m_l_pick
    rw [trF_body]
    simp only [tr_bnd, tr_lft, tr_con, tr_op2, tr_op2r, tr_op2b, tr_asB, tr_trB, tr_trBp, tr_and, tr_or, tr_not, tr_if, tr_andV, tr_orV, tr_notV, tr_neg, tr_chain, tr_nil, tr_cons, tr_tup, tr_lst, tr_pn, tr_ps, tr_sl, tr_c1, tr_c1p, tr_seqI, tr_rng1, tr_rng2, tr_rng3, tr_zip, tr_enum, tr_rtV, tr_rtO, tr_aNil, tr_aV, tr_call, tr_callT, ts_next, ts_break, ts_cont, ts_seq, ts_ret, ts_retO, ts_retN, ts_expr, ts_assign, as_name, as_nil, as_cons, as_tup, ts_own, ts_if, ts_for, ts_store, varK_v, varK_o, leaf_l, leaf_d, tu_takeG, tr_rtG, rtg_o, getV_od, rtd_od, rto_od, tr_yes, wipe_n, wipe_c, unw_n, unw_c, unw1_v, unw1_e, unw1_n, getQ_0, getQ_s, isOS_v, isOS_e, nl_i, nl_b, nl_n, nl_s, nl_t, eq_self, ts_par, pev_n, pev_v, pev_o, sets_n, sets_c, tr_bor, bor_c, bor_n, sok_e, sok_vv, sok_int, sok_ss, sok_o, rtd_v, rtd_o, rto_o, tu_var, tu_op2l, tu_slp, getO_o, getS_s, getX_v, tu_aL, tu_aS, tu_take, tu_aug, tu_append, tu_pop, tu_lenS, tu_ixS, outA, scrA, isOA, isSA, outS_o, scrS_s, isO_o, isS_s, lok_gen, lix_nil, lix_v, lix_l, lix_s, sok_nil, sok_v, sok_l, sok_s, at_0, at_1, getV_v, getV_o, getL_o, add_ii, sub_ii, mul_ii, mul_ti, mul_li, fdiv_ii, mod_ii, pow_ii, neg_i, cmp_ii, addI_ii, mulI_ii, eq_ii, ne_ii, eq_ss, ne_ss, asB_b, truth_b, truth_i, truth_l, truth_t, truth_n, asI_i, item_l, item_t, len_l, len_t, abs_i, int_i, int_b, tuple_l, tuple_t, list_l, list_t, max2_ii, min2_ii, seq_l, seq_t, slice_l, slice_t, rng1_i, rng2_i, zip_l, zip_t, zip_tl, zip_lt, enum_l, add_tt, add_ll, add_ss, repr_i, atI_0, atI_1, atI_2, ixN_0, ixN_1, ixN_2, ite_some, map_some, ex_and, ex_eq, bind_some, List.set_cons_zero, List.set_cons_succ, List.length_cons, List.length_nil, Option.some.injEq, decide_eq_true_eq, Bool.not_true, Bool.not_false, Bool.and_eq_true, Bool.or_eq_true, fillA, wbA, entry, entrySls, entrySl, List.replicate, List.cons_append, List.nil_append, trF_ok, List.append_nil, List.map_nil, List.map_cons, ownIx, and_assoc, exists_and_left, exists_eq_left', exists_eq_left, Rt.v.injEq, Rt.o.injEq, List.cons.injEq, PyData.int.injEq, PyData.list.injEq, PyData.tuple.injEq, and_true, true_and, List.all_cons, List.all_nil, List.nodup_cons, List.nodup_nil, decide_true, decide_false, Bool.and_true, Bool.true_and, List.mem_cons, List.not_mem_nil, not_false_eq_true, Nat.sub_self, Nat.reduceSub, Nat.reduceAdd, if_true, if_false, Bool.false_eq_true, reduceCtorEq, false_and, and_false, or_false, false_or, and_self, Nat.zero_add, exists_eq', exists_eq, Sl.val.injEq, Sl.own.injEq, exists_const, tr_vnil, tr_vcons, tr_callX, pick_c, pick_n, List.getElem?_cons_zero, List.getElem?_cons_succ, Option.toList_some, tr_dict0, tr_dict1, ts_never, isi_tt, isi_ii, isi_bi, rev_t, rev_l, ts_dput, ts_update, getDc_o, asD_d, din_i, dnin_i, dget_i, key_i, Option.isSome_some, Option.isSome_none]
    obtain ⟨d, p', e, h2, h3, h4⟩ := draw_ok (u := xs.length) hp hb (by omega) (by omega)
    have h5 : d.toNat < xs.length := by omega
    have e2 : atI xs d = some (xs[d.toNat]) := by
      have := atI_nat (xs := xs) (j := d.toNat) (v := xs[d.toNat]) (List.getElem?_eq_getElem h5)
      rwa [Int.toNat_of_nonneg h3] at this
    simp only [e, e2, tr_bnd, tr_lft, tr_con, tr_op2, tr_op2r, tr_op2b, tr_asB, tr_trB, tr_trBp, tr_and, tr_or, tr_not, tr_if, tr_andV, tr_orV, tr_notV, tr_neg, tr_chain, tr_nil, tr_cons, tr_tup, tr_lst, tr_pn, tr_ps, tr_sl, tr_c1, tr_c1p, tr_seqI, tr_rng1, tr_rng2, tr_rng3, tr_zip, tr_enum, tr_rtV, tr_rtO, tr_aNil, tr_aV, tr_call, tr_callT, ts_next, ts_break, ts_cont, ts_seq, ts_ret, ts_retO, ts_retN, ts_expr, ts_assign, as_name, as_nil, as_cons, as_tup, ts_own, ts_if, ts_for, ts_store, varK_v, varK_o, leaf_l, leaf_d, tu_takeG, tr_rtG, rtg_o, getV_od, rtd_od, rto_od, tr_yes, wipe_n, wipe_c, unw_n, unw_c, unw1_v, unw1_e, unw1_n, getQ_0, getQ_s, isOS_v, isOS_e, nl_i, nl_b, nl_n, nl_s, nl_t, eq_self, ts_par, pev_n, pev_v, pev_o, sets_n, sets_c, tr_bor, bor_c, bor_n, sok_e, sok_vv, sok_int, sok_ss, sok_o, rtd_v, rtd_o, rto_o, tu_var, tu_op2l, tu_slp, getO_o, getS_s, getX_v, tu_aL, tu_aS, tu_take, tu_aug, tu_append, tu_pop, tu_lenS, tu_ixS, outA, scrA, isOA, isSA, outS_o, scrS_s, isO_o, isS_s, lok_gen, lix_nil, lix_v, lix_l, lix_s, sok_nil, sok_v, sok_l, sok_s, at_0, at_1, getV_v, getV_o, getL_o, add_ii, sub_ii, mul_ii, mul_ti, mul_li, fdiv_ii, mod_ii, pow_ii, neg_i, cmp_ii, addI_ii, mulI_ii, eq_ii, ne_ii, eq_ss, ne_ss, asB_b, truth_b, truth_i, truth_l, truth_t, truth_n, asI_i, item_l, item_t, len_l, len_t, abs_i, int_i, int_b, tuple_l, tuple_t, list_l, list_t, max2_ii, min2_ii, seq_l, seq_t, slice_l, slice_t, rng1_i, rng2_i, zip_l, zip_t, zip_tl, zip_lt, enum_l, add_tt, add_ll, add_ss, repr_i, atI_0, atI_1, atI_2, ixN_0, ixN_1, ixN_2, ite_some, map_some, ex_and, ex_eq, bind_some, List.set_cons_zero, List.set_cons_succ, List.length_cons, List.length_nil, Option.some.injEq, decide_eq_true_eq, Bool.not_true, Bool.not_false, Bool.and_eq_true, Bool.or_eq_true, fillA, wbA, entry, entrySls, entrySl, List.replicate, List.cons_append, List.nil_append, trF_ok, List.append_nil, List.map_nil, List.map_cons, ownIx, and_assoc, exists_and_left, exists_eq_left', exists_eq_left, Rt.v.injEq, Rt.o.injEq, List.cons.injEq, PyData.int.injEq, PyData.list.injEq, PyData.tuple.injEq, and_true, true_and, List.all_cons, List.all_nil, List.nodup_cons, List.nodup_nil, decide_true, decide_false, Bool.and_true, Bool.true_and, List.mem_cons, List.not_mem_nil, not_false_eq_true, Nat.sub_self, Nat.reduceSub, Nat.reduceAdd, if_true, if_false, Bool.false_eq_true, reduceCtorEq, false_and, and_false, or_false, false_or, and_self, Nat.zero_add, exists_eq', exists_eq, Sl.val.injEq, Sl.own.injEq, exists_const, tr_vnil, tr_vcons, tr_callX, pick_c, pick_n, List.getElem?_cons_zero, List.getElem?_cons_succ, Option.toList_some, tr_dict0, tr_dict1, ts_never, isi_tt, isi_ii, isi_bi, rev_t, rev_l, ts_dput, ts_update, getDc_o, asD_d, din_i, dnin_i, dget_i, key_i, Option.isSome_some, Option.isSome_none]
    exact ⟨h2, List.getElem_mem h5⟩
  obtain ⟨r, o, e, d, p', rfl, rfl, h1, h2⟩ := trF_ex h
  exact ⟨d, p', e, h1, h2⟩
theorem pickU_ok {p : PyData} {xs : List PyData} {b : Int} (hp : Drw b p) (hb : b < 1000000000) (h0 : 0 < xs.length) (h1 : xs.length < 1000000) :
    ∃ d p', f_l_pick [p, .tuple xs] = .ok (.v d) [p'] ∧ Drw (b + 1) p' ∧ d ∈ xs := by
  have h : TrF (f_l_pick [p, .tuple xs]) (fun r o => ∃ d p', r = .v d ∧ o = [p'] ∧ Drw (b + 1) p' ∧ d ∈ xs) noxF := by
    unfold f_l_pick m_l_pick
    rw [trF_body]
    simp only [tr_bnd, tr_lft, tr_con, tr_op2, tr_op2r, tr_op2b, tr_asB, tr_trB, tr_trBp, tr_and, tr_or, tr_not, tr_if, tr_andV, tr_orV, tr_notV, tr_neg, tr_chain, tr_nil, tr_cons, tr_tup, tr_lst, tr_pn, tr_ps, tr_sl, tr_c1, tr_c1p, tr_seqI, tr_rng1, tr_rng2, tr_rng3, tr_zip, tr_enum, tr_rtV, tr_rtO, tr_aNil, tr_aV, tr_call, tr_callT, ts_next, ts_break, ts_cont, ts_seq, ts_ret, ts_retO, ts_retN, ts_expr, ts_assign, as_name, as_nil, as_cons, as_tup, ts_own, ts_if, ts_for, ts_store, varK_v, varK_o, leaf_l, leaf_d, tu_takeG, tr_rtG, rtg_o, getV_od, rtd_od, rto_od, tr_yes, wipe_n, wipe_c, unw_n, unw_c, unw1_v, unw1_e, unw1_n, getQ_0, getQ_s, isOS_v, isOS_e, nl_i, nl_b, nl_n, nl_s, nl_t, eq_self, ts_par, pev_n, pev_v, pev_o, sets_n, sets_c, tr_bor, bor_c, bor_n, sok_e, sok_vv, sok_int, sok_ss, sok_o, rtd_v, rtd_o, rto_o, tu_var, tu_op2l, tu_slp, getO_o, getS_s, getX_v, tu_aL, tu_aS, tu_take, tu_aug, tu_append, tu_pop, tu_lenS, tu_ixS, outA, scrA, isOA, isSA, outS_o, scrS_s, isO_o, isS_s, lok_gen, lix_nil, lix_v, lix_l, lix_s, sok_nil, sok_v, sok_l, sok_s, at_0, at_1, getV_v, getV_o, getL_o, add_ii, sub_ii, mul_ii, mul_ti, mul_li, fdiv_ii, mod_ii, pow_ii, neg_i, cmp_ii, addI_ii, mulI_ii, eq_ii, ne_ii, eq_ss, ne_ss, asB_b, truth_b, truth_i, truth_l, truth_t, truth_n, asI_i, item_l, item_t, len_l, len_t, abs_i, int_i, int_b, tuple_l, tuple_t, list_l, list_t, max2_ii, min2_ii, seq_l, seq_t, slice_l, slice_t, rng1_i, rng2_i, zip_l, zip_t, zip_tl, zip_lt, enum_l, add_tt, add_ll, add_ss, repr_i, atI_0, atI_1, atI_2, ixN_0, ixN_1, ixN_2, ite_some, map_some, ex_and, ex_eq, bind_some, List.set_cons_zero, List.set_cons_succ, List.length_cons, List.length_nil, Option.some.injEq, decide_eq_true_eq, Bool.not_true, Bool.not_false, Bool.and_eq_true, Bool.or_eq_true, fillA, wbA, entry, entrySls, entrySl, List.replicate, List.cons_append, List.nil_append, trF_ok, List.append_nil, List.map_nil, List.map_cons, ownIx, and_assoc, exists_and_left, exists_eq_left', exists_eq_left, Rt.v.injEq, Rt.o.injEq, List.cons.injEq, PyData.int.injEq, PyData.list.injEq, PyData.tuple.injEq, and_true, true_and, List.all_cons, List.all_nil, List.nodup_cons, List.nodup_nil, decide_true, decide_false, Bool.and_true, Bool.true_and, List.mem_cons, List.not_mem_nil, not_false_eq_true, Nat.sub_self, Nat.reduceSub, Nat.reduceAdd, if_true, if_false, Bool.false_eq_true, reduceCtorEq, false_and, and_false, or_false, false_or, and_self, Nat.zero_add, exists_eq', exists_eq, Sl.val.injEq, Sl.own.injEq, exists_const, tr_vnil, tr_vcons, tr_callX, pick_c, pick_n, List.getElem?_cons_zero, List.getElem?_cons_succ, Option.toList_some, tr_dict0, tr_dict1, ts_never, isi_tt, isi_ii, isi_bi, rev_t, rev_l, ts_dput, ts_update, getDc_o, asD_d, din_i, dnin_i, dget_i, key_i, Option.isSome_some, Option.isSome_none]
    obtain ⟨d, p', e, h2, h3, h4⟩ := draw_ok (u := xs.length) hp hb (by omega) (by omega)
    have h5 : d.toNat < xs.length := by omega
    have e2 : atI xs d = some (xs[d.toNat]) := by
      have := atI_nat (xs := xs) (j := d.toNat) (v := xs[d.toNat]) (List.getElem?_eq_getElem h5)
      rwa [Int.toNat_of_nonneg h3] at this
    simp only [e, e2, tr_bnd, tr_lft, tr_con, tr_op2, tr_op2r, tr_op2b, tr_asB, tr_trB, tr_trBp, tr_and, tr_or, tr_not, tr_if, tr_andV, tr_orV, tr_notV, tr_neg, tr_chain, tr_nil, tr_cons, tr_tup, tr_lst, tr_pn, tr_ps, tr_sl, tr_c1, tr_c1p, tr_seqI, tr_rng1, tr_rng2, tr_rng3, tr_zip, tr_enum, tr_rtV, tr_rtO, tr_aNil, tr_aV, tr_call, tr_callT, ts_next, ts_break, ts_cont, ts_seq, ts_ret, ts_retO, ts_retN, ts_expr, ts_assign, as_name, as_nil, as_cons, as_tup, ts_own, ts_if, ts_for, ts_store, varK_v, varK_o, leaf_l, leaf_d, tu_takeG, tr_rtG, rtg_o, getV_od, rtd_od, rto_od, tr_yes, wipe_n, wipe_c, unw_n, unw_c, unw1_v, unw1_e, unw1_n, getQ_0, getQ_s, isOS_v, isOS_e, nl_i, nl_b, nl_n, nl_s, nl_t, eq_self, ts_par, pev_n, pev_v, pev_o, sets_n, sets_c, tr_bor, bor_c, bor_n, sok_e, sok_vv, sok_int, sok_ss, sok_o, rtd_v, rtd_o, rto_o, tu_var, tu_op2l, tu_slp, getO_o, getS_s, getX_v, tu_aL, tu_aS, tu_take, tu_aug, tu_append, tu_pop, tu_lenS, tu_ixS, outA, scrA, isOA, isSA, outS_o, scrS_s, isO_o, isS_s, lok_gen, lix_nil, lix_v, lix_l, lix_s, sok_nil, sok_v, sok_l, sok_s, at_0, at_1, getV_v, getV_o, getL_o, add_ii, sub_ii, mul_ii, mul_ti, mul_li, fdiv_ii, mod_ii, pow_ii, neg_i, cmp_ii, addI_ii, mulI_ii, eq_ii, ne_ii, eq_ss, ne_ss, asB_b, truth_b, truth_i, truth_l, truth_t, truth_n, asI_i, item_l, item_t, len_l, len_t, abs_i, int_i, int_b, tuple_l, tuple_t, list_l, list_t, max2_ii, min2_ii, seq_l, seq_t, slice_l, slice_t, rng1_i, rng2_i, zip_l, zip_t, zip_tl, zip_lt, enum_l, add_tt, add_ll, add_ss, repr_i, atI_0, atI_1, atI_2, ixN_0, ixN_1, ixN_2, ite_some, map_some, ex_and, ex_eq, bind_some, List.set_cons_zero, List.set_cons_succ, List.length_cons, List.length_nil, Option.some.injEq, decide_eq_true_eq, Bool.not_true, Bool.not_false, Bool.and_eq_true, Bool.or_eq_true, fillA, wbA, entry, entrySls, entrySl, List.replicate, List.cons_append, List.nil_append, trF_ok, List.append_nil, List.map_nil, List.map_cons, ownIx, and_assoc, exists_and_left, exists_eq_left', exists_eq_left, Rt.v.injEq, Rt.o.injEq, List.cons.injEq, PyData.int.injEq, PyData.list.injEq, PyData.tuple.injEq, and_true, true_and, List.all_cons, List.all_nil, List.nodup_cons, List.nodup_nil, decide_true, decide_false, Bool.and_true, Bool.true_and, List.mem_cons, List.not_mem_nil, not_false_eq_true, Nat.sub_self, Nat.reduceSub, Nat.reduceAdd, if_true, if_false, Bool.false_eq_true, reduceCtorEq, false_and, and_false, or_false, false_or, and_self, Nat.zero_add, exists_eq', exists_eq, Sl.val.injEq, Sl.own.injEq, exists_const, tr_vnil, tr_vcons, tr_callX, pick_c, pick_n, List.getElem?_cons_zero, List.getElem?_cons_succ, Option.toList_some, tr_dict0, tr_dict1, ts_never, isi_tt, isi_ii, isi_bi, rev_t, rev_l, ts_dput, ts_update, getDc_o, asD_d, din_i, dnin_i, dget_i, key_i, Option.isSome_some, Option.isSome_none]
    exact ⟨h2, List.getElem_mem h5⟩
  obtain ⟨r, o, e, d, p', rfl, rfl, h1, h2⟩ := trF_ex h
  exact ⟨d, p', e, h1, h2⟩
theorem pot_ok {ns : List Int} {k : Int} (h0 : 0 ≤ k) (h1 : k < 1000) (hn : ns.length ≤ 63) :
    ∃ p, f_l_pot [.list (ns.map PyData.int), .int k] = .ok (.o p) [] ∧ Drw 0 p := by
  have h : TrF (f_l_pot [.list (ns.map PyData.int), .int k]) (fun r o => ∃ p, r = .o p ∧ o = [] ∧ Drw 0 p) noxF := by
    unfold f_l_pot m_l_pot
    rw [trF_body]
    simp only [tr_bnd, tr_lft, tr_con, tr_op2, tr_op2r, tr_op2b, tr_asB, tr_trB, tr_trBp, tr_and, tr_or, tr_not, tr_if, tr_andV, tr_orV, tr_notV, tr_neg, tr_chain, tr_nil, tr_cons, tr_tup, tr_lst, tr_pn, tr_ps, tr_sl, tr_c1, tr_c1p, tr_seqI, tr_rng1, tr_rng2, tr_rng3, tr_zip, tr_enum, tr_rtV, tr_rtO, tr_aNil, tr_aV, tr_call, tr_callT, ts_next, ts_break, ts_cont, ts_seq, ts_ret, ts_retO, ts_retN, ts_expr, ts_assign, as_name, as_nil, as_cons, as_tup, ts_own, ts_if, ts_for, ts_store, varK_v, varK_o, leaf_l, leaf_d, tu_takeG, tr_rtG, rtg_o, getV_od, rtd_od, rto_od, tr_yes, wipe_n, wipe_c, unw_n, unw_c, unw1_v, unw1_e, unw1_n, getQ_0, getQ_s, isOS_v, isOS_e, nl_i, nl_b, nl_n, nl_s, nl_t, eq_self, ts_par, pev_n, pev_v, pev_o, sets_n, sets_c, tr_bor, bor_c, bor_n, sok_e, sok_vv, sok_int, sok_ss, sok_o, rtd_v, rtd_o, rto_o, tu_var, tu_op2l, tu_slp, getO_o, getS_s, getX_v, tu_aL, tu_aS, tu_take, tu_aug, tu_append, tu_pop, tu_lenS, tu_ixS, outA, scrA, isOA, isSA, outS_o, scrS_s, isO_o, isS_s, lok_gen, lix_nil, lix_v, lix_l, lix_s, sok_nil, sok_v, sok_l, sok_s, at_0, at_1, getV_v, getV_o, getL_o, add_ii, sub_ii, mul_ii, mul_ti, mul_li, fdiv_ii, mod_ii, pow_ii, neg_i, cmp_ii, addI_ii, mulI_ii, eq_ii, ne_ii, eq_ss, ne_ss, asB_b, truth_b, truth_i, truth_l, truth_t, truth_n, asI_i, item_l, item_t, len_l, len_t, abs_i, int_i, int_b, tuple_l, tuple_t, list_l, list_t, max2_ii, min2_ii, seq_l, seq_t, slice_l, slice_t, rng1_i, rng2_i, zip_l, zip_t, zip_tl, zip_lt, enum_l, add_tt, add_ll, add_ss, repr_i, atI_0, atI_1, atI_2, ixN_0, ixN_1, ixN_2, ite_some, map_some, ex_and, ex_eq, bind_some, List.set_cons_zero, List.set_cons_succ, List.length_cons, List.length_nil, Option.some.injEq, decide_eq_true_eq, Bool.not_true, Bool.not_false, Bool.and_eq_true, Bool.or_eq_true, fillA, wbA, entry, entrySls, entrySl, List.replicate, List.cons_append, List.nil_append, trF_ok, List.append_nil, List.map_nil, List.map_cons, ownIx, and_assoc, exists_and_left, exists_eq_left', exists_eq_left, Rt.v.injEq, Rt.o.injEq, List.cons.injEq, PyData.int.injEq, PyData.list.injEq, PyData.tuple.injEq, and_true, true_and, List.all_cons, List.all_nil, List.nodup_cons, List.nodup_nil, decide_true, decide_false, Bool.and_true, Bool.true_and, List.mem_cons, List.not_mem_nil, not_false_eq_true, Nat.sub_self, Nat.reduceSub, Nat.reduceAdd, if_true, if_false, Bool.false_eq_true, reduceCtorEq, false_and, and_false, or_false, false_or, and_self, Nat.zero_add, exists_eq', exists_eq, Sl.val.injEq, Sl.own.injEq, exists_const, tr_vnil, tr_vcons, tr_callX, pick_c, pick_n, List.getElem?_cons_zero, List.getElem?_cons_succ, Option.toList_some, tr_dict0, tr_dict1, ts_never, isi_tt, isi_ii, isi_bi, rev_t, rev_l, ts_dput, ts_update, getDc_o, asD_d, din_i, dnin_i, dget_i, key_i, Option.isSome_some, Option.isSome_none, scr_ints, pow18]
    have pw : powOk 10 60 = true := by decide +kernel
    have pw2 : powOk (10 ^ Int.toNat 60) 5 = true := by decide +kernel
    have hD : (0 : Int) < (10 ^ Int.toNat 60) ^ Int.toNat 5 := Int.pow_pos (Int.pow_pos (by decide))
    generalize ((10 : Int) ^ Int.toNat 60) ^ Int.toNat 5 = D at *
    have mk : ∀ (a : Int) (c : Prop) [Decidable c], 0 ≤ a % D * (if c then 1 else 0) := fun a c _ => by
      have := Int.emod_nonneg a (Int.ne_of_gt hD)
      split <;> omega
    have hk : (7331 * k).natAbs < 2 ^ 64 := by omega
    have fin : ∀ (a n : Int) (c : Prop) [Decidable c], Drw 0 (.list [.int (a % D * (if c then 1 else 0)), .int (n % 2305843009213693951), .int 0]) := fun a n c _ =>
      ⟨_, _, _, rfl, mk _ _, Int.emod_nonneg _ (by decide), Int.emod_lt_of_pos _ (by decide), by decide, by decide⟩
    split
    · rename_i hlt
      have e2 : atI ns k = some (ns[k.toNat]'(by omega)) := by
        have := atI_nat (xs := ns) (j := k.toNat) (v := ns[k.toNat]'(by omega)) (List.getElem?_eq_getElem (by omega))
        rwa [Int.toNat_of_nonneg h0] at this
      simp only [e2, tr_bnd, tr_lft, tr_con, tr_op2, tr_op2r, tr_op2b, tr_asB, tr_trB, tr_trBp, tr_and, tr_or, tr_not, tr_if, tr_andV, tr_orV, tr_notV, tr_neg, tr_chain, tr_nil, tr_cons, tr_tup, tr_lst, tr_pn, tr_ps, tr_sl, tr_c1, tr_c1p, tr_seqI, tr_rng1, tr_rng2, tr_rng3, tr_zip, tr_enum, tr_rtV, tr_rtO, tr_aNil, tr_aV, tr_call, tr_callT, ts_next, ts_break, ts_cont, ts_seq, ts_ret, ts_retO, ts_retN, ts_expr, ts_assign, as_name, as_nil, as_cons, as_tup, ts_own, ts_if, ts_for, ts_store, varK_v, varK_o, leaf_l, leaf_d, tu_takeG, tr_rtG, rtg_o, getV_od, rtd_od, rto_od, tr_yes, wipe_n, wipe_c, unw_n, unw_c, unw1_v, unw1_e, unw1_n, getQ_0, getQ_s, isOS_v, isOS_e, nl_i, nl_b, nl_n, nl_s, nl_t, eq_self, ts_par, pev_n, pev_v, pev_o, sets_n, sets_c, tr_bor, bor_c, bor_n, sok_e, sok_vv, sok_int, sok_ss, sok_o, rtd_v, rtd_o, rto_o, tu_var, tu_op2l, tu_slp, getO_o, getS_s, getX_v, tu_aL, tu_aS, tu_take, tu_aug, tu_append, tu_pop, tu_lenS, tu_ixS, outA, scrA, isOA, isSA, outS_o, scrS_s, isO_o, isS_s, lok_gen, lix_nil, lix_v, lix_l, lix_s, sok_nil, sok_v, sok_l, sok_s, at_0, at_1, getV_v, getV_o, getL_o, add_ii, sub_ii, mul_ii, mul_ti, mul_li, fdiv_ii, mod_ii, pow_ii, neg_i, cmp_ii, addI_ii, mulI_ii, eq_ii, ne_ii, eq_ss, ne_ss, asB_b, truth_b, truth_i, truth_l, truth_t, truth_n, asI_i, item_l, item_t, len_l, len_t, abs_i, int_i, int_b, tuple_l, tuple_t, list_l, list_t, max2_ii, min2_ii, seq_l, seq_t, slice_l, slice_t, rng1_i, rng2_i, zip_l, zip_t, zip_tl, zip_lt, enum_l, add_tt, add_ll, add_ss, repr_i, atI_0, atI_1, atI_2, ixN_0, ixN_1, ixN_2, ite_some, map_some, ex_and, ex_eq, bind_some, List.set_cons_zero, List.set_cons_succ, List.length_cons, List.length_nil, Option.some.injEq, decide_eq_true_eq, Bool.not_true, Bool.not_false, Bool.and_eq_true, Bool.or_eq_true, fillA, wbA, entry, entrySls, entrySl, List.replicate, List.cons_append, List.nil_append, trF_ok, List.append_nil, List.map_nil, List.map_cons, ownIx, and_assoc, exists_and_left, exists_eq_left', exists_eq_left, Rt.v.injEq, Rt.o.injEq, List.cons.injEq, PyData.int.injEq, PyData.list.injEq, PyData.tuple.injEq, and_true, true_and, List.all_cons, List.all_nil, List.nodup_cons, List.nodup_nil, decide_true, decide_false, Bool.and_true, Bool.true_and, List.mem_cons, List.not_mem_nil, not_false_eq_true, Nat.sub_self, Nat.reduceSub, Nat.reduceAdd, if_true, if_false, Bool.false_eq_true, reduceCtorEq, false_and, and_false, or_false, false_or, and_self, Nat.zero_add, exists_eq', exists_eq, Sl.val.injEq, Sl.own.injEq, exists_const, tr_vnil, tr_vcons, tr_callX, pick_c, pick_n, List.getElem?_cons_zero, List.getElem?_cons_succ, Option.toList_some, tr_dict0, tr_dict1, ts_never, isi_tt, isi_ii, isi_bi, rev_t, rev_l, ts_dput, ts_update, getDc_o, asD_d, din_i, dnin_i, dget_i, key_i, Option.isSome_some, Option.isSome_none]
      and_intros
      all_goals first | assumption | exact fin _ _ _ | exact mulOk_l hk | (first | assumption | decide | omega | exact mulOk_if | exact mulOk_l (by first | decide | omega) | exact mulOk_r (by first | decide | omega) | exact fdOk_s (by first | decide | omega) (by first | decide | omega) | exact lenOk_of (by first | decide | omega) | exact rOk_of (by first | decide | omega) (by first | decide | omega))
    · and_intros
      all_goals first | assumption | exact fin _ _ _ | exact mulOk_l hk | (first | assumption | decide | omega | exact mulOk_if | exact mulOk_l (by first | decide | omega) | exact mulOk_r (by first | decide | omega) | exact fdOk_s (by first | decide | omega) (by first | decide | omega) | exact lenOk_of (by first | decide | omega) | exact rOk_of (by first | decide | omega) (by first | decide | omega))
  obtain ⟨r, o, e, p, rfl, rfl, h1⟩ := trF_ex h
  exact ⟨p, e, h1⟩
theorem chain_ok {p : PyData} {most b : Int} (hp : Drw b p) (hb : b < 100000000) (h1 : 1 ≤ most) (h2 : most ≤ 1000000000) :
    ∃ qs p', f_l_chain [p, .int most] = .ok (.v (.tuple ((chn qs).map PyData.int))) [p'] ∧ Drw (b + 5) p' ∧ (∀ q ∈ qs, 2 ≤ q) ∧ (prodQ qs : Int) ≤ most ∧ qs.length ≤ 4 := by
  have h : TrF (f_l_chain [p, .int most]) (fun r o => ∃ qs p', r = .v (.tuple ((chn qs).map PyData.int)) ∧ o = [p'] ∧ Drw (b + 5) p' ∧ (∀ q ∈ qs, 2 ≤ q) ∧ (prodQ qs : Int) ≤ most ∧ qs.length ≤ 4) noxF := by
    unfold f_l_chain m_l_chain
    rw [trF_body]
    simp only [tr_bnd, tr_lft, tr_con, tr_op2, tr_op2r, tr_op2b, tr_asB, tr_trB, tr_trBp, tr_and, tr_or, tr_not, tr_if, tr_andV, tr_orV, tr_notV, tr_neg, tr_chain, tr_nil, tr_cons, tr_tup, tr_lst, tr_pn, tr_ps, tr_sl, tr_c1, tr_c1p, tr_seqI, tr_rng1, tr_rng2, tr_rng3, tr_zip, tr_enum, tr_rtV, tr_rtO, tr_aNil, tr_aV, tr_call, tr_callT, ts_next, ts_break, ts_cont, ts_seq, ts_ret, ts_retO, ts_retN, ts_expr, ts_assign, as_name, as_nil, as_cons, as_tup, ts_own, ts_if, ts_for, ts_store, varK_v, varK_o, leaf_l, leaf_d, tu_takeG, tr_rtG, rtg_o, getV_od, rtd_od, rto_od, tr_yes, wipe_n, wipe_c, unw_n, unw_c, unw1_v, unw1_e, unw1_n, getQ_0, getQ_s, isOS_v, isOS_e, nl_i, nl_b, nl_n, nl_s, nl_t, eq_self, ts_par, pev_n, pev_v, pev_o, sets_n, sets_c, tr_bor, bor_c, bor_n, sok_e, sok_vv, sok_int, sok_ss, sok_o, rtd_v, rtd_o, rto_o, tu_var, tu_op2l, tu_slp, getO_o, getS_s, getX_v, tu_aL, tu_aS, tu_take, tu_aug, tu_append, tu_pop, tu_lenS, tu_ixS, outA, scrA, isOA, isSA, outS_o, scrS_s, isO_o, isS_s, lok_gen, lix_nil, lix_v, lix_l, lix_s, sok_nil, sok_v, sok_l, sok_s, at_0, at_1, getV_v, getV_o, getL_o, add_ii, sub_ii, mul_ii, mul_ti, mul_li, fdiv_ii, mod_ii, pow_ii, neg_i, cmp_ii, addI_ii, mulI_ii, eq_ii, ne_ii, eq_ss, ne_ss, asB_b, truth_b, truth_i, truth_l, truth_t, truth_n, asI_i, item_l, item_t, len_l, len_t, abs_i, int_i, int_b, tuple_l, tuple_t, list_l, list_t, max2_ii, min2_ii, seq_l, seq_t, slice_l, slice_t, rng1_i, rng2_i, zip_l, zip_t, zip_tl, zip_lt, enum_l, add_tt, add_ll, add_ss, repr_i, atI_0, atI_1, atI_2, ixN_0, ixN_1, ixN_2, ite_some, map_some, ex_and, ex_eq, bind_some, List.set_cons_zero, List.set_cons_succ, List.length_cons, List.length_nil, Option.some.injEq, decide_eq_true_eq, Bool.not_true, Bool.not_false, Bool.and_eq_true, Bool.or_eq_true, fillA, wbA, entry, entrySls, entrySl, List.replicate, List.cons_append, List.nil_append, trF_ok, List.append_nil, List.map_nil, List.map_cons, ownIx, and_assoc, exists_and_left, exists_eq_left', exists_eq_left, Rt.v.injEq, Rt.o.injEq, List.cons.injEq, PyData.int.injEq, PyData.list.injEq, PyData.tuple.injEq, and_true, true_and, List.all_cons, List.all_nil, List.nodup_cons, List.nodup_nil, decide_true, decide_false, Bool.and_true, Bool.true_and, List.mem_cons, List.not_mem_nil, not_false_eq_true, Nat.sub_self, Nat.reduceSub, Nat.reduceAdd, if_true, if_false, Bool.false_eq_true, reduceCtorEq, false_and, and_false, or_false, false_or, and_self, Nat.zero_add, exists_eq', exists_eq, Sl.val.injEq, Sl.own.injEq, exists_const, tr_vnil, tr_vcons, tr_callX, pick_c, pick_n, List.getElem?_cons_zero, List.getElem?_cons_succ, Option.toList_some, tr_dict0, tr_dict1, ts_never, isi_tt, isi_ii, isi_bi, rev_t, rev_l, ts_dput, ts_update, getDc_o, asD_d, din_i, dnin_i, dget_i, key_i, Option.isSome_some, Option.isSome_none]
    obtain ⟨d, p1, e1, hp1, hd0, hd1⟩ := draw_ok (u := 5) hp (by omega) (by decide) (by decide)
    simp only [tr_bnd, tr_lft, tr_con, tr_op2, tr_op2r, tr_op2b, tr_asB, tr_trB, tr_trBp, tr_and, tr_or, tr_not, tr_if, tr_andV, tr_orV, tr_notV, tr_neg, tr_chain, tr_nil, tr_cons, tr_tup, tr_lst, tr_pn, tr_ps, tr_sl, tr_c1, tr_c1p, tr_seqI, tr_rng1, tr_rng2, tr_rng3, tr_zip, tr_enum, tr_rtV, tr_rtO, tr_aNil, tr_aV, tr_call, tr_callT, ts_next, ts_break, ts_cont, ts_seq, ts_ret, ts_retO, ts_retN, ts_expr, ts_assign, as_name, as_nil, as_cons, as_tup, ts_own, ts_if, ts_for, ts_store, varK_v, varK_o, leaf_l, leaf_d, tu_takeG, tr_rtG, rtg_o, getV_od, rtd_od, rto_od, tr_yes, wipe_n, wipe_c, unw_n, unw_c, unw1_v, unw1_e, unw1_n, getQ_0, getQ_s, isOS_v, isOS_e, nl_i, nl_b, nl_n, nl_s, nl_t, eq_self, ts_par, pev_n, pev_v, pev_o, sets_n, sets_c, tr_bor, bor_c, bor_n, sok_e, sok_vv, sok_int, sok_ss, sok_o, rtd_v, rtd_o, rto_o, tu_var, tu_op2l, tu_slp, getO_o, getS_s, getX_v, tu_aL, tu_aS, tu_take, tu_aug, tu_append, tu_pop, tu_lenS, tu_ixS, outA, scrA, isOA, isSA, outS_o, scrS_s, isO_o, isS_s, lok_gen, lix_nil, lix_v, lix_l, lix_s, sok_nil, sok_v, sok_l, sok_s, at_0, at_1, getV_v, getV_o, getL_o, add_ii, sub_ii, mul_ii, mul_ti, mul_li, fdiv_ii, mod_ii, pow_ii, neg_i, cmp_ii, addI_ii, mulI_ii, eq_ii, ne_ii, eq_ss, ne_ss, asB_b, truth_b, truth_i, truth_l, truth_t, truth_n, asI_i, item_l, item_t, len_l, len_t, abs_i, int_i, int_b, tuple_l, tuple_t, list_l, list_t, max2_ii, min2_ii, seq_l, seq_t, slice_l, slice_t, rng1_i, rng2_i, zip_l, zip_t, zip_tl, zip_lt, enum_l, add_tt, add_ll, add_ss, repr_i, atI_0, atI_1, atI_2, ixN_0, ixN_1, ixN_2, ite_some, map_some, ex_and, ex_eq, bind_some, List.set_cons_zero, List.set_cons_succ, List.length_cons, List.length_nil, Option.some.injEq, decide_eq_true_eq, Bool.not_true, Bool.not_false, Bool.and_eq_true, Bool.or_eq_true, fillA, wbA, entry, entrySls, entrySl, List.replicate, List.cons_append, List.nil_append, trF_ok, List.append_nil, List.map_nil, List.map_cons, ownIx, and_assoc, exists_and_left, exists_eq_left', exists_eq_left, Rt.v.injEq, Rt.o.injEq, List.cons.injEq, PyData.int.injEq, PyData.list.injEq, PyData.tuple.injEq, and_true, true_and, List.all_cons, List.all_nil, List.nodup_cons, List.nodup_nil, decide_true, decide_false, Bool.and_true, Bool.true_and, List.mem_cons, List.not_mem_nil, not_false_eq_true, Nat.sub_self, Nat.reduceSub, Nat.reduceAdd, if_true, if_false, Bool.false_eq_true, reduceCtorEq, false_and, and_false, or_false, false_or, and_self, Nat.zero_add, exists_eq', exists_eq, Sl.val.injEq, Sl.own.injEq, exists_const, tr_vnil, tr_vcons, tr_callX, pick_c, pick_n, List.getElem?_cons_zero, List.getElem?_cons_succ, Option.toList_some, tr_dict0, tr_dict1, ts_never, isi_tt, isi_ii, isi_bi, rev_t, rev_l, ts_dput, ts_update, getDc_o, asD_d, din_i, dnin_i, dget_i, key_i, Option.isSome_some, Option.isSome_none, e1]
    refine ⟨lenOk_of (by decide), rOk_of (by omega) (by omega), ?_⟩
    refine ts_range (fun i r => ∃ p qs x y, Drw (b + 1 + i) p ∧ (∀ q ∈ qs, 2 ≤ q) ∧ (prodQ qs : Int) ≤ most ∧ qs.length ≤ i ∧ r = [.own p, .val (.int most), .own (.list ((chn qs).map PyData.int)), x, y]) ⟨p1, [], _, _, hp1.up (by omega), by simp, by simpa [prodQ] using h1, by decide, rfl⟩ (fun i r hi h4 => ?_) (fun r h4 => ?_)
    · obtain ⟨p, qs, x, y, hp, hq, hm, hl, rfl⟩ := h4
      obtain ⟨d4, p4, e4, hp4, hd4⟩ := pick_ok (xs := [.int 2, .int 2, .int 3, .int 2, .int 4, .int 5, .int 6]) hp (by omega) (by simp) (by simp)
      obtain ⟨k, hk, hk2, rfl⟩ : ∃ k : Nat, 2 ≤ k ∧ k ≤ 6 ∧ d4 = .int k := by
        simp only [List.mem_cons, List.not_mem_nil, or_false] at hd4
        rcases hd4 with rfl | rfl | rfl | rfl | rfl | rfl | rfl
        · exact ⟨2, by decide, by decide, rfl⟩
        · exact ⟨2, by decide, by decide, rfl⟩
        · exact ⟨3, by decide, by decide, rfl⟩
        · exact ⟨2, by decide, by decide, rfl⟩
        · exact ⟨4, by decide, by decide, rfl⟩
        · exact ⟨5, by decide, by decide, rfl⟩
        · exact ⟨6, by decide, by decide, rfl⟩
      simp only [tr_bnd, tr_lft, tr_con, tr_op2, tr_op2r, tr_op2b, tr_asB, tr_trB, tr_trBp, tr_and, tr_or, tr_not, tr_if, tr_andV, tr_orV, tr_notV, tr_neg, tr_chain, tr_nil, tr_cons, tr_tup, tr_lst, tr_pn, tr_ps, tr_sl, tr_c1, tr_c1p, tr_seqI, tr_rng1, tr_rng2, tr_rng3, tr_zip, tr_enum, tr_rtV, tr_rtO, tr_aNil, tr_aV, tr_call, tr_callT, ts_next, ts_break, ts_cont, ts_seq, ts_ret, ts_retO, ts_retN, ts_expr, ts_assign, as_name, as_nil, as_cons, as_tup, ts_own, ts_if, ts_for, ts_store, varK_v, varK_o, leaf_l, leaf_d, tu_takeG, tr_rtG, rtg_o, getV_od, rtd_od, rto_od, tr_yes, wipe_n, wipe_c, unw_n, unw_c, unw1_v, unw1_e, unw1_n, getQ_0, getQ_s, isOS_v, isOS_e, nl_i, nl_b, nl_n, nl_s, nl_t, eq_self, ts_par, pev_n, pev_v, pev_o, sets_n, sets_c, tr_bor, bor_c, bor_n, sok_e, sok_vv, sok_int, sok_ss, sok_o, rtd_v, rtd_o, rto_o, tu_var, tu_op2l, tu_slp, getO_o, getS_s, getX_v, tu_aL, tu_aS, tu_take, tu_aug, tu_append, tu_pop, tu_lenS, tu_ixS, outA, scrA, isOA, isSA, outS_o, scrS_s, isO_o, isS_s, lok_gen, lix_nil, lix_v, lix_l, lix_s, sok_nil, sok_v, sok_l, sok_s, at_0, at_1, getV_v, getV_o, getL_o, add_ii, sub_ii, mul_ii, mul_ti, mul_li, fdiv_ii, mod_ii, pow_ii, neg_i, cmp_ii, addI_ii, mulI_ii, eq_ii, ne_ii, eq_ss, ne_ss, asB_b, truth_b, truth_i, truth_l, truth_t, truth_n, asI_i, item_l, item_t, len_l, len_t, abs_i, int_i, int_b, tuple_l, tuple_t, list_l, list_t, max2_ii, min2_ii, seq_l, seq_t, slice_l, slice_t, rng1_i, rng2_i, zip_l, zip_t, zip_tl, zip_lt, enum_l, add_tt, add_ll, add_ss, repr_i, atI_0, atI_1, atI_2, ixN_0, ixN_1, ixN_2, ite_some, map_some, ex_and, ex_eq, bind_some, List.set_cons_zero, List.set_cons_succ, List.length_cons, List.length_nil, Option.some.injEq, decide_eq_true_eq, Bool.not_true, Bool.not_false, Bool.and_eq_true, Bool.or_eq_true, fillA, wbA, entry, entrySls, entrySl, List.replicate, List.cons_append, List.nil_append, trF_ok, List.append_nil, List.map_nil, List.map_cons, ownIx, and_assoc, exists_and_left, exists_eq_left', exists_eq_left, Rt.v.injEq, Rt.o.injEq, List.cons.injEq, PyData.int.injEq, PyData.list.injEq, PyData.tuple.injEq, and_true, true_and, List.all_cons, List.all_nil, List.nodup_cons, List.nodup_nil, decide_true, decide_false, Bool.and_true, Bool.true_and, List.mem_cons, List.not_mem_nil, not_false_eq_true, Nat.sub_self, Nat.reduceSub, Nat.reduceAdd, if_true, if_false, Bool.false_eq_true, reduceCtorEq, false_and, and_false, or_false, false_or, and_self, Nat.zero_add, exists_eq', exists_eq, Sl.val.injEq, Sl.own.injEq, exists_const, tr_vnil, tr_vcons, tr_callX, pick_c, pick_n, List.getElem?_cons_zero, List.getElem?_cons_succ, Option.toList_some, tr_dict0, tr_dict1, ts_never, isi_tt, isi_ii, isi_bi, rev_t, rev_l, ts_dput, ts_update, getDc_o, asD_d, din_i, dnin_i, dget_i, key_i, Option.isSome_some, Option.isSome_none, e4, chn_last]
      have ha : (prodQ qs : Int) * (k : Int) = ((prodQ qs * k : Nat) : Int) := by rw [Int.natCast_mul]
      refine ⟨lenOk_of (by decide), mulOk_r (by omega), ?_⟩
      have hp5 : Drw (b + 1 + ((i + 1 : Nat) : Int)) p4 := hp4.up (by omega)
      have stay : ∃ p, Drw (b + 1 + ((i + 1 : Nat) : Int)) p ∧ ∃ x : List Nat, (∀ q ∈ x, 2 ≤ q) ∧ (prodQ x : Int) ≤ most ∧ x.length ≤ i + 1 ∧ p4 = p ∧ List.map PyData.int (chn qs) = List.map PyData.int (chn x) := ⟨p4, hp5, qs, hq, hm, by omega, rfl, rfl⟩
      split
      · rename_i h5
        rw [ha] at h5
        refine ⟨mulOk_r (by omega), lenOk_of (by rw [List.length_map, chn_len]; omega), p4, hp5, qs ++ [k], ?_, ?_, ?_, rfl, ?_⟩
        · intro q hq2
          rcases List.mem_append.mp hq2 with z | z
          · exact hq q z
          · rw [List.mem_singleton.mp z]; exact hk
        · rw [prodQ_snoc]; exact h5
        · simp; omega
        · rw [chn_snoc, sz_page]; simp
      · exact stay
    · obtain ⟨p, qs, x, y, hp, hq, hm, hl, rfl⟩ := h4
      simp only [tr_bnd, tr_lft, tr_con, tr_op2, tr_op2r, tr_op2b, tr_asB, tr_trB, tr_trBp, tr_and, tr_or, tr_not, tr_if, tr_andV, tr_orV, tr_notV, tr_neg, tr_chain, tr_nil, tr_cons, tr_tup, tr_lst, tr_pn, tr_ps, tr_sl, tr_c1, tr_c1p, tr_seqI, tr_rng1, tr_rng2, tr_rng3, tr_zip, tr_enum, tr_rtV, tr_rtO, tr_aNil, tr_aV, tr_call, tr_callT, ts_next, ts_break, ts_cont, ts_seq, ts_ret, ts_retO, ts_retN, ts_expr, ts_assign, as_name, as_nil, as_cons, as_tup, ts_own, ts_if, ts_for, ts_store, varK_v, varK_o, leaf_l, leaf_d, tu_takeG, tr_rtG, rtg_o, getV_od, rtd_od, rto_od, tr_yes, wipe_n, wipe_c, unw_n, unw_c, unw1_v, unw1_e, unw1_n, getQ_0, getQ_s, isOS_v, isOS_e, nl_i, nl_b, nl_n, nl_s, nl_t, eq_self, ts_par, pev_n, pev_v, pev_o, sets_n, sets_c, tr_bor, bor_c, bor_n, sok_e, sok_vv, sok_int, sok_ss, sok_o, rtd_v, rtd_o, rto_o, tu_var, tu_op2l, tu_slp, getO_o, getS_s, getX_v, tu_aL, tu_aS, tu_take, tu_aug, tu_append, tu_pop, tu_lenS, tu_ixS, outA, scrA, isOA, isSA, outS_o, scrS_s, isO_o, isS_s, lok_gen, lix_nil, lix_v, lix_l, lix_s, sok_nil, sok_v, sok_l, sok_s, at_0, at_1, getV_v, getV_o, getL_o, add_ii, sub_ii, mul_ii, mul_ti, mul_li, fdiv_ii, mod_ii, pow_ii, neg_i, cmp_ii, addI_ii, mulI_ii, eq_ii, ne_ii, eq_ss, ne_ss, asB_b, truth_b, truth_i, truth_l, truth_t, truth_n, asI_i, item_l, item_t, len_l, len_t, abs_i, int_i, int_b, tuple_l, tuple_t, list_l, list_t, max2_ii, min2_ii, seq_l, seq_t, slice_l, slice_t, rng1_i, rng2_i, zip_l, zip_t, zip_tl, zip_lt, enum_l, add_tt, add_ll, add_ss, repr_i, atI_0, atI_1, atI_2, ixN_0, ixN_1, ixN_2, ite_some, map_some, ex_and, ex_eq, bind_some, List.set_cons_zero, List.set_cons_succ, List.length_cons, List.length_nil, Option.some.injEq, decide_eq_true_eq, Bool.not_true, Bool.not_false, Bool.and_eq_true, Bool.or_eq_true, fillA, wbA, entry, entrySls, entrySl, List.replicate, List.cons_append, List.nil_append, trF_ok, List.append_nil, List.map_nil, List.map_cons, ownIx, and_assoc, exists_and_left, exists_eq_left', exists_eq_left, Rt.v.injEq, Rt.o.injEq, List.cons.injEq, PyData.int.injEq, PyData.list.injEq, PyData.tuple.injEq, and_true, true_and, List.all_cons, List.all_nil, List.nodup_cons, List.nodup_nil, decide_true, decide_false, Bool.and_true, Bool.true_and, List.mem_cons, List.not_mem_nil, not_false_eq_true, Nat.sub_self, Nat.reduceSub, Nat.reduceAdd, if_true, if_false, Bool.false_eq_true, reduceCtorEq, false_and, and_false, or_false, false_or, and_self, Nat.zero_add, exists_eq', exists_eq, Sl.val.injEq, Sl.own.injEq, exists_const, tr_vnil, tr_vcons, tr_callX, pick_c, pick_n, List.getElem?_cons_zero, List.getElem?_cons_succ, Option.toList_some, tr_dict0, tr_dict1, ts_never, isi_tt, isi_ii, isi_bi, rev_t, rev_l, ts_dput, ts_update, getDc_o, asD_d, din_i, dnin_i, dget_i, key_i, Option.isSome_some, Option.isSome_none]
      exact ⟨qs, rfl, hp.up (by omega), hq, hm, by omega⟩
  obtain ⟨r, o, e, qs, p', rfl, rfl, h1⟩ := trF_ex h
  exact ⟨qs, p', e, h1⟩
end Lk37

end
section
namespace BT
open PySem PySem.Spec L2 PL
theorem all_b {α : Type} {xs : List α} {f : α → Bool} : all? (.list (xs.map fun x => PyData.bool (f x))) = some (.bool (xs.all f)) := by
  have e := all_m (ns := xs.map f)
  rw [List.map_map] at e
  have e2 : (xs.map fun x => PyData.bool (f x)) = xs.map (PyData.bool ∘ f) := rfl
  rw [e2, e, List.all_map]
  rfl
theorem any_b {α : Type} {xs : List α} {f : α → Bool} : any? (.list (xs.map fun x => PyData.bool (f x))) = some (.bool (xs.any f)) := by
  have e := any_m (ns := xs.map f)
  rw [List.map_map] at e
  have e2 : (xs.map fun x => PyData.bool (f x)) = xs.map (PyData.bool ∘ f) := rfl
  rw [e2, e, List.any_map]
  rfl
def nbs {α : Type} (ns : List α) : List (α × α) := ns.zip (ns.drop 1)
theorem zip_nbs {α : Type} {ns : List α} {D : α → PyData} : zipP (ns.map D) ((ns.map D).drop 1) = (nbs ns).map fun p => PyData.tuple [D p.1, D p.2] := by
  unfold zipP nbs
  rw [← List.map_drop]
  apply List.ext_getElem (by simp)
  intro i h1 h2
  simp
theorem nbs_mem {α : Type} {ns : List α} {p : α × α} (h : p ∈ nbs ns) : p.1 ∈ ns ∧ p.2 ∈ ns := by
  have := List.of_mem_zip (show (p.1, p.2) ∈ ns.zip (ns.drop 1) from h)
  exact ⟨this.1, List.mem_of_mem_drop this.2⟩
theorem nbs_len {α : Type} {ns : List α} : (nbs ns).length ≤ ns.length := by unfold nbs; simp
theorem nbs_two {α : Type} {a b : α} {r : List α} : nbs (a :: b :: r) = (a, b) :: nbs (b :: r) := rfl
theorem nbs_snoc {α : Type} {b c : α} : ∀ {r : List α}, nbs (r ++ [b] ++ [c]) = nbs (r ++ [b]) ++ [(b, c)]
  | [] => rfl
  | [a] => rfl
  | a :: a' :: r => by
    show nbs (a :: a' :: (r ++ [b] ++ [c])) = nbs (a :: a' :: (r ++ [b])) ++ _
    rw [nbs_two, nbs_two]
    have h : nbs (a' :: (r ++ [b] ++ [c])) = nbs (a' :: (r ++ [b])) ++ [(b, c)] := nbs_snoc (b := b) (c := c) (r := a' :: r)
    rw [h]; rfl
theorem rep_b (b : Bool) : ∃ x, repr? (.bool b) = some (.str x) := by
  cases b
  · exact ⟨_, rfl⟩
  · exact ⟨_, rfl⟩
theorem cut_len {α : Type} {xs : List α} {lo hi : Option Int} : (cut xs lo hi).length ≤ xs.length := by
  unfold cut
  simp; omega
theorem cut_map {α β : Type} {f : α → β} {xs : List α} {lo hi : Option Int} : cut (xs.map f) lo hi = (cut xs lo hi).map f := by
  unfold cut
  rw [List.length_map, List.map_take, List.map_drop]
theorem prs_lay : ∀ ps : List (Int × Int), PyData.canLayAll0 (ps.map prI) = true
  | [] => rfl
  | p :: ps => by simp [PyData.canLayAll0, PyData.canLay0, prI, prs_lay ps]
theorem prs_dep : ∀ ps : List (Int × Int), PyData.depthAll (ps.map prI) ≤ 1
  | [] => by decide
  | p :: ps => by
    have h := prs_dep ps
    have e : PyData.depthAll ((p :: ps).map prI) = max (prI p).depth (PyData.depthAll (ps.map prI)) := by simp [PyData.depthAll]
    have e2 : (prI p).depth = 1 := by simp [prI, PyData.depth, PyData.depthAll]
    rw [e, e2]
    omega
theorem shp_prs {ps : List (Int × Int)} : SeqAt.shaped (.tuple (ps.map prI)) = true := by
  have h := prs_dep ps
  show (PyData.canLayAll0 (ps.map prI) && decide (PyData.depthAll (ps.map prI) + 1 ≤ 64)) = true
  rw [prs_lay, decide_eq_true (by omega)]; rfl
theorem eqv_prs : ∀ xs ys : List (Int × Int), PyData.eqvAll (xs.map prI) (ys.map prI) = decide (xs = ys)
  | [], [] => rfl
  | [], y :: ys => rfl
  | x :: xs, [] => rfl
  | x :: xs, y :: ys => by
    have ih := eqv_prs xs ys
    rw [List.map_cons, List.map_cons]
    simp only [PyData.eqvAll, ih, List.cons.injEq]
    obtain ⟨a, b⟩ := x
    obtain ⟨c, d⟩ := y
    by_cases h1 : a = c <;> by_cases h2 : b = d <;> simp [h1, h2, prI, PyData.eqv, PyData.eqvAll]
theorem eq_prs {xs ys : List (Int × Int)} : eq? (.tuple (xs.map prI)) (.tuple (ys.map prI)) = some (.bool (decide (xs = ys))) := by
  unfold eq? cmpOk
  rw [shp_prs, shp_prs, if_pos (by simp)]
  simp only [PyData.eqv, eqv_prs]
theorem flat_i {i : Int} : flatD (.int i) = true := rfl
theorem flat_is : ∀ {ns : List Int}, (ns.map PyData.int).all flatD = true
  | [] => rfl
  | n :: ns => by rw [List.map_cons, List.all_cons, flat_is, flat_i]; rfl
theorem any_eqv {n : Int} : ∀ {ns : List Int}, ((ns.map PyData.int).any fun z => PyData.eqv z (.int n)) = decide (n ∈ ns)
  | [] => rfl
  | m :: ns => by
    rw [List.map_cons, List.any_cons, any_eqv]
    simp only [PyData.eqv]
    by_cases h : m = n
    · subst h; simp
    · have : ¬ n = m := fun z => h z.symm
      by_cases h2 : n ∈ ns <;> simp [h, this, h2]
theorem in_tup {n : Int} {ns : List Int} : in? (.int n) (.tuple (ns.map PyData.int)) = some (.bool (decide (n ∈ ns))) := by
  unfold in?
  dsimp only
  rw [flat_i, flat_is, if_pos (by rfl), any_eqv]
theorem in_tupS {n : Int} {k : Nat} {s : Nat → Int} : in? (.int n) (tup k s) = some (.bool (decide (n ∈ (List.range k).map s))) := by rw [tup_ints]; exact in_tup
theorem nin_tupS {n : Int} {k : Nat} {s : Nat → Int} : notIn? (.int n) (tup k s) = some (.bool (!decide (n ∈ (List.range k).map s))) := by
  unfold notIn?; rw [in_tupS]; rfl
end BT

end
section
namespace Lk37
open PySem PySem.Spec L2 PL BT
theorem isort_mem {ns : List Int} {x : Int} : x ∈ isort ns ↔ x ∈ ns := (isort_perm ns).mem_iff
theorem perm_sum {a b : List Int} (p : a.Perm b) : a.sum = b.sum := by
  induction p with
  | nil => rfl
  | cons x _ ih => rw [List.sum_cons, List.sum_cons, ih]
  | swap x y l => rw [List.sum_cons, List.sum_cons, List.sum_cons, List.sum_cons]; omega
  | trans _ _ h1 h2 => exact h1.trans h2
theorem rqs_len {s : Nat → Int} {m : Nat} : ∀ f t : Nat, (rqs s m f t).length ≤ f := fun f => by
  induction f with
  | zero => intro t; simp [rqs]
  | succ f ih =>
    intro t
    cases t with
    | zero => simp [rqs]
    | succ t =>
      unfold rqs
      split
      · have := ih (t + 1 - (LM s m (t + 1)).toNat)
        rw [List.length_cons]; omega
      · have := ih t; omega
theorem iscount {i : Int} : f_l_is_count [.int i] = .ok (.v (.bool (decide (0 ≤ i)))) [] := by
  apply trF_eq
  unfold f_l_is_count m_l_is_count
  rw [trF_body]
  simp only [tr_bnd, tr_lft, tr_con, tr_op2, tr_op2r, tr_op2b, tr_asB, tr_trB, tr_trBp, tr_and, tr_or, tr_not, tr_if, tr_andV, tr_orV, tr_notV, tr_neg, tr_chain, tr_nil, tr_cons, tr_tup, tr_lst, tr_pn, tr_ps, tr_sl, tr_c1, tr_c1p, tr_seqI, tr_rng1, tr_rng2, tr_rng3, tr_zip, tr_enum, tr_rtV, tr_rtO, tr_aNil, tr_aV, tr_call, tr_callT, ts_next, ts_break, ts_cont, ts_seq, ts_ret, ts_retO, ts_retN, ts_expr, ts_assign, as_name, as_nil, as_cons, as_tup, ts_own, ts_if, ts_for, ts_store, varK_v, varK_o, leaf_l, leaf_d, tu_takeG, tr_rtG, rtg_o, getV_od, rtd_od, rto_od, tr_yes, wipe_n, wipe_c, unw_n, unw_c, unw1_v, unw1_e, unw1_n, getQ_0, getQ_s, isOS_v, isOS_e, nl_i, nl_b, nl_n, nl_s, nl_t, eq_self, ts_par, pev_n, pev_v, pev_o, sets_n, sets_c, tr_bor, bor_c, bor_n, sok_e, sok_vv, sok_int, sok_ss, sok_o, rtd_v, rtd_o, rto_o, tu_var, tu_op2l, tu_slp, getO_o, getS_s, getX_v, tu_aL, tu_aS, tu_take, tu_aug, tu_append, tu_pop, tu_lenS, tu_ixS, outA, scrA, isOA, isSA, outS_o, scrS_s, isO_o, isS_s, lok_gen, lix_nil, lix_v, lix_l, lix_s, sok_nil, sok_v, sok_l, sok_s, at_0, at_1, getV_v, getV_o, getL_o, add_ii, sub_ii, mul_ii, mul_ti, mul_li, fdiv_ii, mod_ii, pow_ii, neg_i, cmp_ii, addI_ii, mulI_ii, eq_ii, ne_ii, eq_ss, ne_ss, asB_b, truth_b, truth_i, truth_l, truth_t, truth_n, asI_i, item_l, item_t, len_l, len_t, abs_i, int_i, int_b, tuple_l, tuple_t, list_l, list_t, max2_ii, min2_ii, seq_l, seq_t, slice_l, slice_t, rng1_i, rng2_i, zip_l, zip_t, zip_tl, zip_lt, enum_l, add_tt, add_ll, add_ss, repr_i, atI_0, atI_1, atI_2, ixN_0, ixN_1, ixN_2, ite_some, map_some, ex_and, ex_eq, bind_some, List.set_cons_zero, List.set_cons_succ, List.length_cons, List.length_nil, Option.some.injEq, decide_eq_true_eq, Bool.not_true, Bool.not_false, Bool.and_eq_true, Bool.or_eq_true, fillA, wbA, entry, entrySls, entrySl, List.replicate, List.cons_append, List.nil_append, trF_ok, List.append_nil, List.map_nil, List.map_cons, ownIx, and_assoc, exists_and_left, exists_eq_left', exists_eq_left, Rt.v.injEq, Rt.o.injEq, List.cons.injEq, PyData.int.injEq, PyData.list.injEq, PyData.tuple.injEq, and_true, true_and, List.all_cons, List.all_nil, List.nodup_cons, List.nodup_nil, decide_true, decide_false, Bool.and_true, Bool.true_and, List.mem_cons, List.not_mem_nil, not_false_eq_true, Nat.sub_self, Nat.reduceSub, Nat.reduceAdd, if_true, if_false, Bool.false_eq_true, reduceCtorEq, false_and, and_false, or_false, false_or, and_self, Nat.zero_add, exists_eq', exists_eq, Sl.val.injEq, Sl.own.injEq, exists_const, tr_vnil, tr_vcons, tr_callX, pick_c, pick_n, List.getElem?_cons_zero, List.getElem?_cons_succ, Option.toList_some, tr_dict0, tr_dict1, ts_never, isi_tt, isi_ii, isi_bi, rev_t, rev_l, ts_dput, ts_update, getDc_o, asD_d, din_i, dnin_i, dget_i, key_i, Option.isSome_some, Option.isSome_none]
theorem reqm_ok {s : Nat → Int} {m n : Nat} (hm : m ≤ 900) (hn : n ≤ 100000) (h : Szs s) : f_request_mix [tup (m + 1) s, .int n] = .ok (.v (.tuple ((isort (rqs s m n n)).map PyData.int))) [] := by
  have hq := requests_ok (m := m) (n := n) hn h
  have hx := mix_ok (s := s) hm hn h
  apply trF_eq
  unfold f_request_mix m_request_mix mixD at *
  rw [trF_body]
  simp only [tr_bnd, tr_lft, tr_con, tr_op2, tr_op2r, tr_op2b, tr_asB, tr_trB, tr_trBp, tr_and, tr_or, tr_not, tr_if, tr_andV, tr_orV, tr_notV, tr_neg, tr_chain, tr_nil, tr_cons, tr_tup, tr_lst, tr_pn, tr_ps, tr_sl, tr_c1, tr_c1p, tr_seqI, tr_rng1, tr_rng2, tr_rng3, tr_zip, tr_enum, tr_rtV, tr_rtO, tr_aNil, tr_aV, tr_call, tr_callT, ts_next, ts_break, ts_cont, ts_seq, ts_ret, ts_retO, ts_retN, ts_expr, ts_assign, as_name, as_nil, as_cons, as_tup, ts_own, ts_if, ts_for, ts_store, varK_v, varK_o, leaf_l, leaf_d, tu_takeG, tr_rtG, rtg_o, getV_od, rtd_od, rto_od, tr_yes, wipe_n, wipe_c, unw_n, unw_c, unw1_v, unw1_e, unw1_n, getQ_0, getQ_s, isOS_v, isOS_e, nl_i, nl_b, nl_n, nl_s, nl_t, eq_self, ts_par, pev_n, pev_v, pev_o, sets_n, sets_c, tr_bor, bor_c, bor_n, sok_e, sok_vv, sok_int, sok_ss, sok_o, rtd_v, rtd_o, rto_o, tu_var, tu_op2l, tu_slp, getO_o, getS_s, getX_v, tu_aL, tu_aS, tu_take, tu_aug, tu_append, tu_pop, tu_lenS, tu_ixS, outA, scrA, isOA, isSA, outS_o, scrS_s, isO_o, isS_s, lok_gen, lix_nil, lix_v, lix_l, lix_s, sok_nil, sok_v, sok_l, sok_s, at_0, at_1, getV_v, getV_o, getL_o, add_ii, sub_ii, mul_ii, mul_ti, mul_li, fdiv_ii, mod_ii, pow_ii, neg_i, cmp_ii, addI_ii, mulI_ii, eq_ii, ne_ii, eq_ss, ne_ss, asB_b, truth_b, truth_i, truth_l, truth_t, truth_n, asI_i, item_l, item_t, len_l, len_t, abs_i, int_i, int_b, tuple_l, tuple_t, list_l, list_t, max2_ii, min2_ii, seq_l, seq_t, slice_l, slice_t, rng1_i, rng2_i, zip_l, zip_t, zip_tl, zip_lt, enum_l, add_tt, add_ll, add_ss, repr_i, atI_0, atI_1, atI_2, ixN_0, ixN_1, ixN_2, ite_some, map_some, ex_and, ex_eq, bind_some, List.set_cons_zero, List.set_cons_succ, List.length_cons, List.length_nil, Option.some.injEq, decide_eq_true_eq, Bool.not_true, Bool.not_false, Bool.and_eq_true, Bool.or_eq_true, fillA, wbA, entry, entrySls, entrySl, List.replicate, List.cons_append, List.nil_append, trF_ok, List.append_nil, List.map_nil, List.map_cons, ownIx, and_assoc, exists_and_left, exists_eq_left', exists_eq_left, Rt.v.injEq, Rt.o.injEq, List.cons.injEq, PyData.int.injEq, PyData.list.injEq, PyData.tuple.injEq, and_true, true_and, List.all_cons, List.all_nil, List.nodup_cons, List.nodup_nil, decide_true, decide_false, Bool.and_true, Bool.true_and, List.mem_cons, List.not_mem_nil, not_false_eq_true, Nat.sub_self, Nat.reduceSub, Nat.reduceAdd, if_true, if_false, Bool.false_eq_true, reduceCtorEq, false_and, and_false, or_false, false_or, and_self, Nat.zero_add, exists_eq', exists_eq, Sl.val.injEq, Sl.own.injEq, exists_const, tr_vnil, tr_vcons, tr_callX, pick_c, pick_n, List.getElem?_cons_zero, List.getElem?_cons_succ, Option.toList_some, tr_dict0, tr_dict1, ts_never, isi_tt, isi_ii, isi_bi, rev_t, rev_l, ts_dput, ts_update, getDc_o, asD_d, din_i, dnin_i, dget_i, key_i, Option.isSome_some, Option.isSome_none, tr_fld, tr_opF, tr_opFr, tr_c1F, ts_setF, ts_setFO, ts_addF, ts_addFO, ts_augF, ts_appF, tr_popF, tr_pop0F, tr_meth, tr_methT, tr_tagM, tr_fldT, tr_make, tr_leaf, getI_o, tagE_o, fV_0, fV_s, fA_0, fA_s, fO_0l, fO_0d, fO_s, fL_0, fL_s, gvS_v, qvar_at, qcon_at, qnil_at, qop_at, fldQ_at, tr_mq, ts_forO, hx, hq]
theorem mixr_ok {s : Nat → Int} {m n : Nat} (hm : m ≤ 900) (hn : n ≤ 100000) (h : Szs s) (hs : ∀ i, i < m → s i < s (i + 1)) (hb : s m < 18446744073709551616) : f_l_mix_right [tup (m + 1) s, .int n] = .ok (.v (.bool true)) [] := by
  have hq := requests_ok (m := m) (n := n) hn h
  have hx := mix_ok (s := s) hm hn h
  have hy : f_request_mix [tup (m + 1) s, .int n] = .ok (.v (.tuple ((isort (rqs s m n n)).map PyData.int))) [] := by
    apply trF_eq
    unfold f_request_mix m_request_mix mixD at *
    rw [trF_body]
    simp only [tr_bnd, tr_lft, tr_con, tr_op2, tr_op2r, tr_op2b, tr_asB, tr_trB, tr_trBp, tr_and, tr_or, tr_not, tr_if, tr_andV, tr_orV, tr_notV, tr_neg, tr_chain, tr_nil, tr_cons, tr_tup, tr_lst, tr_pn, tr_ps, tr_sl, tr_c1, tr_c1p, tr_seqI, tr_rng1, tr_rng2, tr_rng3, tr_zip, tr_enum, tr_rtV, tr_rtO, tr_aNil, tr_aV, tr_call, tr_callT, ts_next, ts_break, ts_cont, ts_seq, ts_ret, ts_retO, ts_retN, ts_expr, ts_assign, as_name, as_nil, as_cons, as_tup, ts_own, ts_if, ts_for, ts_store, varK_v, varK_o, leaf_l, leaf_d, tu_takeG, tr_rtG, rtg_o, getV_od, rtd_od, rto_od, tr_yes, wipe_n, wipe_c, unw_n, unw_c, unw1_v, unw1_e, unw1_n, getQ_0, getQ_s, isOS_v, isOS_e, nl_i, nl_b, nl_n, nl_s, nl_t, eq_self, ts_par, pev_n, pev_v, pev_o, sets_n, sets_c, tr_bor, bor_c, bor_n, sok_e, sok_vv, sok_int, sok_ss, sok_o, rtd_v, rtd_o, rto_o, tu_var, tu_op2l, tu_slp, getO_o, getS_s, getX_v, tu_aL, tu_aS, tu_take, tu_aug, tu_append, tu_pop, tu_lenS, tu_ixS, outA, scrA, isOA, isSA, outS_o, scrS_s, isO_o, isS_s, lok_gen, lix_nil, lix_v, lix_l, lix_s, sok_nil, sok_v, sok_l, sok_s, at_0, at_1, getV_v, getV_o, getL_o, add_ii, sub_ii, mul_ii, mul_ti, mul_li, fdiv_ii, mod_ii, pow_ii, neg_i, cmp_ii, addI_ii, mulI_ii, eq_ii, ne_ii, eq_ss, ne_ss, asB_b, truth_b, truth_i, truth_l, truth_t, truth_n, asI_i, item_l, item_t, len_l, len_t, abs_i, int_i, int_b, tuple_l, tuple_t, list_l, list_t, max2_ii, min2_ii, seq_l, seq_t, slice_l, slice_t, rng1_i, rng2_i, zip_l, zip_t, zip_tl, zip_lt, enum_l, add_tt, add_ll, add_ss, repr_i, atI_0, atI_1, atI_2, ixN_0, ixN_1, ixN_2, ite_some, map_some, ex_and, ex_eq, bind_some, List.set_cons_zero, List.set_cons_succ, List.length_cons, List.length_nil, Option.some.injEq, decide_eq_true_eq, Bool.not_true, Bool.not_false, Bool.and_eq_true, Bool.or_eq_true, fillA, wbA, entry, entrySls, entrySl, List.replicate, List.cons_append, List.nil_append, trF_ok, List.append_nil, List.map_nil, List.map_cons, ownIx, and_assoc, exists_and_left, exists_eq_left', exists_eq_left, Rt.v.injEq, Rt.o.injEq, List.cons.injEq, PyData.int.injEq, PyData.list.injEq, PyData.tuple.injEq, and_true, true_and, List.all_cons, List.all_nil, List.nodup_cons, List.nodup_nil, decide_true, decide_false, Bool.and_true, Bool.true_and, List.mem_cons, List.not_mem_nil, not_false_eq_true, Nat.sub_self, Nat.reduceSub, Nat.reduceAdd, if_true, if_false, Bool.false_eq_true, reduceCtorEq, false_and, and_false, or_false, false_or, and_self, Nat.zero_add, exists_eq', exists_eq, Sl.val.injEq, Sl.own.injEq, exists_const, tr_vnil, tr_vcons, tr_callX, pick_c, pick_n, List.getElem?_cons_zero, List.getElem?_cons_succ, Option.toList_some, tr_dict0, tr_dict1, ts_never, isi_tt, isi_ii, isi_bi, rev_t, rev_l, ts_dput, ts_update, getDc_o, asD_d, din_i, dnin_i, dget_i, key_i, Option.isSome_some, Option.isSome_none, tr_fld, tr_opF, tr_opFr, tr_c1F, ts_setF, ts_setFO, ts_addF, ts_addFO, ts_augF, ts_appF, tr_popF, tr_pop0F, tr_meth, tr_methT, tr_tagM, tr_fldT, tr_make, tr_leaf, getI_o, tagE_o, fV_0, fV_s, fA_0, fA_s, fO_0l, fO_0d, fO_s, fL_0, fL_s, gvS_v, qvar_at, qcon_at, qnil_at, qop_at, fldQ_at, tr_mq, ts_forO, hx, hq]
  have v1 := most_ok (s := s) (m := m) (n := n) hm hn h
  have v2 := lmost_ok (s := s) (m := m) (n := n) hm hn h
  have v3 := enough_ok (s := s) (m := m) (n := n) hm hn h hb
  have p0 := (PM_le h (m := m) n).1
  have v4 := lbounds_ok (s := s) (m := m) (M := PM s m n) hm h hb p0
  have l2 : atI ((List.range (m + 1)).map fun k => PyData.int (num s (fun _ => 0) (PM s m n) k)) (-1) = some (.int (num s (fun _ => 0) (PM s m n) m)) := last_map
  obtain ⟨r1, r2, r3⟩ := rqs_ok (m := m) h hs n n (Nat.le_refl n)
  have hp := isort_perm (rqs s m n n)
  have r1' : (isort (rqs s m n n)).sum = (rqs s m n n).sum := perm_sum hp
  have r3' : ((isort (rqs s m n n)).map (rnd s m)).sum = PM s m n := by rw [perm_sum (hp.map _), r3]
  have r2' : ∀ x ∈ isort (rqs s m n n), 1 ≤ x ∧ x ≤ s m := fun x hx => r2 x (isort_mem.mp hx)
  have hps := h.pos m
  have hw1 := isort_id (isort_sorted (rqs s m n n))
  have hl : (isort (rqs s m n n)).length ≤ 100000 := by
    rw [hp.length_eq]
    have := rqs_len (s := s) (m := m) n n
    omega
  generalize isort (rqs s m n n) = R at *
  apply trF_eq
  unfold f_l_mix_right m_l_mix_right
  rw [trF_body]
  simp only [tr_bnd, tr_lft, tr_con, tr_op2, tr_op2r, tr_op2b, tr_asB, tr_trB, tr_trBp, tr_and, tr_or, tr_not, tr_if, tr_andV, tr_orV, tr_notV, tr_neg, tr_chain, tr_nil, tr_cons, tr_tup, tr_lst, tr_pn, tr_ps, tr_sl, tr_c1, tr_c1p, tr_seqI, tr_rng1, tr_rng2, tr_rng3, tr_zip, tr_enum, tr_rtV, tr_rtO, tr_aNil, tr_aV, tr_call, tr_callT, ts_next, ts_break, ts_cont, ts_seq, ts_ret, ts_retO, ts_retN, ts_expr, ts_assign, as_name, as_nil, as_cons, as_tup, ts_own, ts_if, ts_for, ts_store, varK_v, varK_o, leaf_l, leaf_d, tu_takeG, tr_rtG, rtg_o, getV_od, rtd_od, rto_od, tr_yes, wipe_n, wipe_c, unw_n, unw_c, unw1_v, unw1_e, unw1_n, getQ_0, getQ_s, isOS_v, isOS_e, nl_i, nl_b, nl_n, nl_s, nl_t, eq_self, ts_par, pev_n, pev_v, pev_o, sets_n, sets_c, tr_bor, bor_c, bor_n, sok_e, sok_vv, sok_int, sok_ss, sok_o, rtd_v, rtd_o, rto_o, tu_var, tu_op2l, tu_slp, getO_o, getS_s, getX_v, tu_aL, tu_aS, tu_take, tu_aug, tu_append, tu_pop, tu_lenS, tu_ixS, outA, scrA, isOA, isSA, outS_o, scrS_s, isO_o, isS_s, lok_gen, lix_nil, lix_v, lix_l, lix_s, sok_nil, sok_v, sok_l, sok_s, at_0, at_1, getV_v, getV_o, getL_o, add_ii, sub_ii, mul_ii, mul_ti, mul_li, fdiv_ii, mod_ii, pow_ii, neg_i, cmp_ii, addI_ii, mulI_ii, eq_ii, ne_ii, eq_ss, ne_ss, asB_b, truth_b, truth_i, truth_l, truth_t, truth_n, asI_i, item_l, item_t, len_l, len_t, abs_i, int_i, int_b, tuple_l, tuple_t, list_l, list_t, max2_ii, min2_ii, seq_l, seq_t, slice_l, slice_t, rng1_i, rng2_i, zip_l, zip_t, zip_tl, zip_lt, enum_l, add_tt, add_ll, add_ss, repr_i, atI_0, atI_1, atI_2, ixN_0, ixN_1, ixN_2, ite_some, map_some, ex_and, ex_eq, bind_some, List.set_cons_zero, List.set_cons_succ, List.length_cons, List.length_nil, Option.some.injEq, decide_eq_true_eq, Bool.not_true, Bool.not_false, Bool.and_eq_true, Bool.or_eq_true, fillA, wbA, entry, entrySls, entrySl, List.replicate, List.cons_append, List.nil_append, trF_ok, List.append_nil, List.map_nil, List.map_cons, ownIx, and_assoc, exists_and_left, exists_eq_left', exists_eq_left, Rt.v.injEq, Rt.o.injEq, List.cons.injEq, PyData.int.injEq, PyData.list.injEq, PyData.tuple.injEq, and_true, true_and, List.all_cons, List.all_nil, List.nodup_cons, List.nodup_nil, decide_true, decide_false, Bool.and_true, Bool.true_and, List.mem_cons, List.not_mem_nil, not_false_eq_true, Nat.sub_self, Nat.reduceSub, Nat.reduceAdd, if_true, if_false, Bool.false_eq_true, reduceCtorEq, false_and, and_false, or_false, false_or, and_self, Nat.zero_add, exists_eq', exists_eq, Sl.val.injEq, Sl.own.injEq, exists_const, tr_vnil, tr_vcons, tr_callX, pick_c, pick_n, List.getElem?_cons_zero, List.getElem?_cons_succ, Option.toList_some, tr_dict0, tr_dict1, ts_never, isi_tt, isi_ii, isi_bi, rev_t, rev_l, ts_dput, ts_update, getDc_o, asD_d, din_i, dnin_i, dget_i, key_i, Option.isSome_some, Option.isSome_none, tr_fld, tr_opF, tr_opFr, tr_c1F, ts_setF, ts_setFO, ts_addF, ts_addFO, ts_augF, ts_appF, tr_popF, tr_pop0F, tr_meth, tr_methT, tr_tagM, tr_fldT, tr_make, tr_leaf, getI_o, tagE_o, fV_0, fV_s, fA_0, fA_s, fO_0l, fO_0d, fO_s, fL_0, fL_s, gvS_v, qvar_at, qcon_at, qnil_at, qop_at, fldQ_at, tr_mq, ts_forO, hy, v1, v2, v3, v4, l2, tup_last, sort_t, hw1, ne_lst, sumA_t, isi_tt]
  refine ⟨fdOk_s hps (by omega), ?_⟩
  rw [if_neg (by omega)]
  refine tr_lcA PyData.int R (fun _ => .bool true) ?_
  have seqR : seq? (.tuple (R.map PyData.int)) = some (R.map PyData.int) := rfl
  have hall : all? (.list (R.map fun _ => PyData.bool true)) = some (.bool true) := by
    have := all_b (xs := R) (f := fun _ => true)
    rw [this]
    simp
  simp only [tr_bnd, tr_lft, tr_con, tr_op2, tr_op2r, tr_op2b, tr_asB, tr_trB, tr_trBp, tr_and, tr_or, tr_not, tr_if, tr_andV, tr_orV, tr_notV, tr_neg, tr_chain, tr_nil, tr_cons, tr_tup, tr_lst, tr_pn, tr_ps, tr_sl, tr_c1, tr_c1p, tr_seqI, tr_rng1, tr_rng2, tr_rng3, tr_zip, tr_enum, tr_rtV, tr_rtO, tr_aNil, tr_aV, tr_call, tr_callT, ts_next, ts_break, ts_cont, ts_seq, ts_ret, ts_retO, ts_retN, ts_expr, ts_assign, as_name, as_nil, as_cons, as_tup, ts_own, ts_if, ts_for, ts_store, varK_v, varK_o, leaf_l, leaf_d, tu_takeG, tr_rtG, rtg_o, getV_od, rtd_od, rto_od, tr_yes, wipe_n, wipe_c, unw_n, unw_c, unw1_v, unw1_e, unw1_n, getQ_0, getQ_s, isOS_v, isOS_e, nl_i, nl_b, nl_n, nl_s, nl_t, eq_self, ts_par, pev_n, pev_v, pev_o, sets_n, sets_c, tr_bor, bor_c, bor_n, sok_e, sok_vv, sok_int, sok_ss, sok_o, rtd_v, rtd_o, rto_o, tu_var, tu_op2l, tu_slp, getO_o, getS_s, getX_v, tu_aL, tu_aS, tu_take, tu_aug, tu_append, tu_pop, tu_lenS, tu_ixS, outA, scrA, isOA, isSA, outS_o, scrS_s, isO_o, isS_s, lok_gen, lix_nil, lix_v, lix_l, lix_s, sok_nil, sok_v, sok_l, sok_s, at_0, at_1, getV_v, getV_o, getL_o, add_ii, sub_ii, mul_ii, mul_ti, mul_li, fdiv_ii, mod_ii, pow_ii, neg_i, cmp_ii, addI_ii, mulI_ii, eq_ii, ne_ii, eq_ss, ne_ss, asB_b, truth_b, truth_i, truth_l, truth_t, truth_n, asI_i, item_l, item_t, len_l, len_t, abs_i, int_i, int_b, tuple_l, tuple_t, list_l, list_t, max2_ii, min2_ii, seq_l, seq_t, slice_l, slice_t, rng1_i, rng2_i, zip_l, zip_t, zip_tl, zip_lt, enum_l, add_tt, add_ll, add_ss, repr_i, atI_0, atI_1, atI_2, ixN_0, ixN_1, ixN_2, ite_some, map_some, ex_and, ex_eq, bind_some, List.set_cons_zero, List.set_cons_succ, List.length_cons, List.length_nil, Option.some.injEq, decide_eq_true_eq, Bool.not_true, Bool.not_false, Bool.and_eq_true, Bool.or_eq_true, fillA, wbA, entry, entrySls, entrySl, List.replicate, List.cons_append, List.nil_append, trF_ok, List.append_nil, List.map_nil, List.map_cons, ownIx, and_assoc, exists_and_left, exists_eq_left', exists_eq_left, Rt.v.injEq, Rt.o.injEq, List.cons.injEq, PyData.int.injEq, PyData.list.injEq, PyData.tuple.injEq, and_true, true_and, List.all_cons, List.all_nil, List.nodup_cons, List.nodup_nil, decide_true, decide_false, Bool.and_true, Bool.true_and, List.mem_cons, List.not_mem_nil, not_false_eq_true, Nat.sub_self, Nat.reduceSub, Nat.reduceAdd, if_true, if_false, Bool.false_eq_true, reduceCtorEq, false_and, and_false, or_false, false_or, and_self, Nat.zero_add, exists_eq', exists_eq, Sl.val.injEq, Sl.own.injEq, exists_const, tr_vnil, tr_vcons, tr_callX, pick_c, pick_n, List.getElem?_cons_zero, List.getElem?_cons_succ, Option.toList_some, tr_dict0, tr_dict1, ts_never, isi_tt, isi_ii, isi_bi, rev_t, rev_l, ts_dput, ts_update, getDc_o, asD_d, din_i, dnin_i, dget_i, key_i, Option.isSome_some, Option.isSome_none, tr_fld, tr_opF, tr_opFr, tr_c1F, ts_setF, ts_setFO, ts_addF, ts_addFO, ts_augF, ts_appF, tr_popF, tr_pop0F, tr_meth, tr_methT, tr_tagM, tr_fldT, tr_make, tr_leaf, getI_o, tagE_o, fV_0, fV_s, fA_0, fA_s, fO_0l, fO_0d, fO_s, fL_0, fL_s, gvS_v, qvar_at, qcon_at, qnil_at, qop_at, fldQ_at, tr_mq, ts_forO, seqR, iscount, tup_last, hall]
  refine ⟨fun x hx => ?_, lenOk_of (by omega), ?_⟩
  · have := r2' x hx
    simp [show 0 ≤ x by omega, this.1, this.2]
  · refine tr_lcA PyData.int R (fun x => .int (rnd s m x)) ?_
    have em : (R.map fun x => PyData.int (rnd s m x)) = (R.map (rnd s m)).map PyData.int := by rw [List.map_map]; rfl
    simp only [tr_bnd, tr_lft, tr_con, tr_op2, tr_op2r, tr_op2b, tr_asB, tr_trB, tr_trBp, tr_and, tr_or, tr_not, tr_if, tr_andV, tr_orV, tr_notV, tr_neg, tr_chain, tr_nil, tr_cons, tr_tup, tr_lst, tr_pn, tr_ps, tr_sl, tr_c1, tr_c1p, tr_seqI, tr_rng1, tr_rng2, tr_rng3, tr_zip, tr_enum, tr_rtV, tr_rtO, tr_aNil, tr_aV, tr_call, tr_callT, ts_next, ts_break, ts_cont, ts_seq, ts_ret, ts_retO, ts_retN, ts_expr, ts_assign, as_name, as_nil, as_cons, as_tup, ts_own, ts_if, ts_for, ts_store, varK_v, varK_o, leaf_l, leaf_d, tu_takeG, tr_rtG, rtg_o, getV_od, rtd_od, rto_od, tr_yes, wipe_n, wipe_c, unw_n, unw_c, unw1_v, unw1_e, unw1_n, getQ_0, getQ_s, isOS_v, isOS_e, nl_i, nl_b, nl_n, nl_s, nl_t, eq_self, ts_par, pev_n, pev_v, pev_o, sets_n, sets_c, tr_bor, bor_c, bor_n, sok_e, sok_vv, sok_int, sok_ss, sok_o, rtd_v, rtd_o, rto_o, tu_var, tu_op2l, tu_slp, getO_o, getS_s, getX_v, tu_aL, tu_aS, tu_take, tu_aug, tu_append, tu_pop, tu_lenS, tu_ixS, outA, scrA, isOA, isSA, outS_o, scrS_s, isO_o, isS_s, lok_gen, lix_nil, lix_v, lix_l, lix_s, sok_nil, sok_v, sok_l, sok_s, at_0, at_1, getV_v, getV_o, getL_o, add_ii, sub_ii, mul_ii, mul_ti, mul_li, fdiv_ii, mod_ii, pow_ii, neg_i, cmp_ii, addI_ii, mulI_ii, eq_ii, ne_ii, eq_ss, ne_ss, asB_b, truth_b, truth_i, truth_l, truth_t, truth_n, asI_i, item_l, item_t, len_l, len_t, abs_i, int_i, int_b, tuple_l, tuple_t, list_l, list_t, max2_ii, min2_ii, seq_l, seq_t, slice_l, slice_t, rng1_i, rng2_i, zip_l, zip_t, zip_tl, zip_lt, enum_l, add_tt, add_ll, add_ss, repr_i, atI_0, atI_1, atI_2, ixN_0, ixN_1, ixN_2, ite_some, map_some, ex_and, ex_eq, bind_some, List.set_cons_zero, List.set_cons_succ, List.length_cons, List.length_nil, Option.some.injEq, decide_eq_true_eq, Bool.not_true, Bool.not_false, Bool.and_eq_true, Bool.or_eq_true, fillA, wbA, entry, entrySls, entrySl, List.replicate, List.cons_append, List.nil_append, trF_ok, List.append_nil, List.map_nil, List.map_cons, ownIx, and_assoc, exists_and_left, exists_eq_left', exists_eq_left, Rt.v.injEq, Rt.o.injEq, List.cons.injEq, PyData.int.injEq, PyData.list.injEq, PyData.tuple.injEq, and_true, true_and, List.all_cons, List.all_nil, List.nodup_cons, List.nodup_nil, decide_true, decide_false, Bool.and_true, Bool.true_and, List.mem_cons, List.not_mem_nil, not_false_eq_true, Nat.sub_self, Nat.reduceSub, Nat.reduceAdd, if_true, if_false, Bool.false_eq_true, reduceCtorEq, false_and, and_false, or_false, false_or, and_self, Nat.zero_add, exists_eq', exists_eq, Sl.val.injEq, Sl.own.injEq, exists_const, tr_vnil, tr_vcons, tr_callX, pick_c, pick_n, List.getElem?_cons_zero, List.getElem?_cons_succ, Option.toList_some, tr_dict0, tr_dict1, ts_never, isi_tt, isi_ii, isi_bi, rev_t, rev_l, ts_dput, ts_update, getDc_o, asD_d, din_i, dnin_i, dget_i, key_i, Option.isSome_some, Option.isSome_none, tr_fld, tr_opF, tr_opFr, tr_c1F, ts_setF, ts_setFO, ts_addF, ts_addFO, ts_augF, ts_appF, tr_popF, tr_pop0F, tr_meth, tr_methT, tr_tagM, tr_fldT, tr_make, tr_leaf, getI_o, tagE_o, fV_0, fV_s, fA_0, fA_s, fO_0l, fO_0d, fO_s, fL_0, fL_s, gvS_v, qvar_at, qcon_at, qnil_at, qop_at, fldQ_at, tr_mq, ts_forO, seqR, em, sumA_l, r3']
    refine ⟨fun x hx => ?_, lenOk_of (by omega)⟩
    have hx := r2' x hx
    have v := rounded_ok (s := s) (m := m) (q := x) hm h hx.1 hx.2
    simp only [tr_bnd, tr_lft, tr_con, tr_op2, tr_op2r, tr_op2b, tr_asB, tr_trB, tr_trBp, tr_and, tr_or, tr_not, tr_if, tr_andV, tr_orV, tr_notV, tr_neg, tr_chain, tr_nil, tr_cons, tr_tup, tr_lst, tr_pn, tr_ps, tr_sl, tr_c1, tr_c1p, tr_seqI, tr_rng1, tr_rng2, tr_rng3, tr_zip, tr_enum, tr_rtV, tr_rtO, tr_aNil, tr_aV, tr_call, tr_callT, ts_next, ts_break, ts_cont, ts_seq, ts_ret, ts_retO, ts_retN, ts_expr, ts_assign, as_name, as_nil, as_cons, as_tup, ts_own, ts_if, ts_for, ts_store, varK_v, varK_o, leaf_l, leaf_d, tu_takeG, tr_rtG, rtg_o, getV_od, rtd_od, rto_od, tr_yes, wipe_n, wipe_c, unw_n, unw_c, unw1_v, unw1_e, unw1_n, getQ_0, getQ_s, isOS_v, isOS_e, nl_i, nl_b, nl_n, nl_s, nl_t, eq_self, ts_par, pev_n, pev_v, pev_o, sets_n, sets_c, tr_bor, bor_c, bor_n, sok_e, sok_vv, sok_int, sok_ss, sok_o, rtd_v, rtd_o, rto_o, tu_var, tu_op2l, tu_slp, getO_o, getS_s, getX_v, tu_aL, tu_aS, tu_take, tu_aug, tu_append, tu_pop, tu_lenS, tu_ixS, outA, scrA, isOA, isSA, outS_o, scrS_s, isO_o, isS_s, lok_gen, lix_nil, lix_v, lix_l, lix_s, sok_nil, sok_v, sok_l, sok_s, at_0, at_1, getV_v, getV_o, getL_o, add_ii, sub_ii, mul_ii, mul_ti, mul_li, fdiv_ii, mod_ii, pow_ii, neg_i, cmp_ii, addI_ii, mulI_ii, eq_ii, ne_ii, eq_ss, ne_ss, asB_b, truth_b, truth_i, truth_l, truth_t, truth_n, asI_i, item_l, item_t, len_l, len_t, abs_i, int_i, int_b, tuple_l, tuple_t, list_l, list_t, max2_ii, min2_ii, seq_l, seq_t, slice_l, slice_t, rng1_i, rng2_i, zip_l, zip_t, zip_tl, zip_lt, enum_l, add_tt, add_ll, add_ss, repr_i, atI_0, atI_1, atI_2, ixN_0, ixN_1, ixN_2, ite_some, map_some, ex_and, ex_eq, bind_some, List.set_cons_zero, List.set_cons_succ, List.length_cons, List.length_nil, Option.some.injEq, decide_eq_true_eq, Bool.not_true, Bool.not_false, Bool.and_eq_true, Bool.or_eq_true, fillA, wbA, entry, entrySls, entrySl, List.replicate, List.cons_append, List.nil_append, trF_ok, List.append_nil, List.map_nil, List.map_cons, ownIx, and_assoc, exists_and_left, exists_eq_left', exists_eq_left, Rt.v.injEq, Rt.o.injEq, List.cons.injEq, PyData.int.injEq, PyData.list.injEq, PyData.tuple.injEq, and_true, true_and, List.all_cons, List.all_nil, List.nodup_cons, List.nodup_nil, decide_true, decide_false, Bool.and_true, Bool.true_and, List.mem_cons, List.not_mem_nil, not_false_eq_true, Nat.sub_self, Nat.reduceSub, Nat.reduceAdd, if_true, if_false, Bool.false_eq_true, reduceCtorEq, false_and, and_false, or_false, false_or, and_self, Nat.zero_add, exists_eq', exists_eq, Sl.val.injEq, Sl.own.injEq, exists_const, tr_vnil, tr_vcons, tr_callX, pick_c, pick_n, List.getElem?_cons_zero, List.getElem?_cons_succ, Option.toList_some, tr_dict0, tr_dict1, ts_never, isi_tt, isi_ii, isi_bi, rev_t, rev_l, ts_dput, ts_update, getDc_o, asD_d, din_i, dnin_i, dget_i, key_i, Option.isSome_some, Option.isSome_none, tr_fld, tr_opF, tr_opFr, tr_c1F, ts_setF, ts_setFO, ts_addF, ts_addFO, ts_augF, ts_appF, tr_popF, tr_pop0F, tr_meth, tr_methT, tr_tagM, tr_fldT, tr_make, tr_leaf, getI_o, tagE_o, fV_0, fV_s, fA_0, fA_s, fO_0l, fO_0d, fO_s, fL_0, fL_s, gvS_v, qvar_at, qcon_at, qnil_at, qop_at, fldQ_at, tr_mq, ts_forO, v]
theorem law_true (ns : List Int) (hn : ns.length ≤ 63) : f_law [.list (ns.map PyData.int)] = .ok (.v (.bool true)) [] := by
  apply trF_eq
  unfold f_law m_law
  rw [trF_body]
  simp only [tr_bnd, tr_lft, tr_con, tr_op2, tr_op2r, tr_op2b, tr_asB, tr_trB, tr_trBp, tr_and, tr_or, tr_not, tr_if, tr_andV, tr_orV, tr_notV, tr_neg, tr_chain, tr_nil, tr_cons, tr_tup, tr_lst, tr_pn, tr_ps, tr_sl, tr_c1, tr_c1p, tr_seqI, tr_rng1, tr_rng2, tr_rng3, tr_zip, tr_enum, tr_rtV, tr_rtO, tr_aNil, tr_aV, tr_call, tr_callT, ts_next, ts_break, ts_cont, ts_seq, ts_ret, ts_retO, ts_retN, ts_expr, ts_assign, as_name, as_nil, as_cons, as_tup, ts_own, ts_if, ts_for, ts_store, varK_v, varK_o, leaf_l, leaf_d, tu_takeG, tr_rtG, rtg_o, getV_od, rtd_od, rto_od, tr_yes, wipe_n, wipe_c, unw_n, unw_c, unw1_v, unw1_e, unw1_n, getQ_0, getQ_s, isOS_v, isOS_e, nl_i, nl_b, nl_n, nl_s, nl_t, eq_self, ts_par, pev_n, pev_v, pev_o, sets_n, sets_c, tr_bor, bor_c, bor_n, sok_e, sok_vv, sok_int, sok_ss, sok_o, rtd_v, rtd_o, rto_o, tu_var, tu_op2l, tu_slp, getO_o, getS_s, getX_v, tu_aL, tu_aS, tu_take, tu_aug, tu_append, tu_pop, tu_lenS, tu_ixS, outA, scrA, isOA, isSA, outS_o, scrS_s, isO_o, isS_s, lok_gen, lix_nil, lix_v, lix_l, lix_s, sok_nil, sok_v, sok_l, sok_s, at_0, at_1, getV_v, getV_o, getL_o, add_ii, sub_ii, mul_ii, mul_ti, mul_li, fdiv_ii, mod_ii, pow_ii, neg_i, cmp_ii, addI_ii, mulI_ii, eq_ii, ne_ii, eq_ss, ne_ss, asB_b, truth_b, truth_i, truth_l, truth_t, truth_n, asI_i, item_l, item_t, len_l, len_t, abs_i, int_i, int_b, tuple_l, tuple_t, list_l, list_t, max2_ii, min2_ii, seq_l, seq_t, slice_l, slice_t, rng1_i, rng2_i, zip_l, zip_t, zip_tl, zip_lt, enum_l, add_tt, add_ll, add_ss, repr_i, atI_0, atI_1, atI_2, ixN_0, ixN_1, ixN_2, ite_some, map_some, ex_and, ex_eq, bind_some, List.set_cons_zero, List.set_cons_succ, List.length_cons, List.length_nil, Option.some.injEq, decide_eq_true_eq, Bool.not_true, Bool.not_false, Bool.and_eq_true, Bool.or_eq_true, fillA, wbA, entry, entrySls, entrySl, List.replicate, List.cons_append, List.nil_append, trF_ok, List.append_nil, List.map_nil, List.map_cons, ownIx, and_assoc, exists_and_left, exists_eq_left', exists_eq_left, Rt.v.injEq, Rt.o.injEq, List.cons.injEq, PyData.int.injEq, PyData.list.injEq, PyData.tuple.injEq, and_true, true_and, List.all_cons, List.all_nil, List.nodup_cons, List.nodup_nil, decide_true, decide_false, Bool.and_true, Bool.true_and, List.mem_cons, List.not_mem_nil, not_false_eq_true, Nat.sub_self, Nat.reduceSub, Nat.reduceAdd, if_true, if_false, Bool.false_eq_true, reduceCtorEq, false_and, and_false, or_false, false_or, and_self, Nat.zero_add, exists_eq', exists_eq, Sl.val.injEq, Sl.own.injEq, exists_const, tr_vnil, tr_vcons, tr_callX, pick_c, pick_n, List.getElem?_cons_zero, List.getElem?_cons_succ, Option.toList_some, tr_dict0, tr_dict1, ts_never, isi_tt, isi_ii, isi_bi, rev_t, rev_l, ts_dput, ts_update, getDc_o, asD_d, din_i, dnin_i, dget_i, key_i, Option.isSome_some, Option.isSome_none, tr_fld, tr_opF, tr_opFr, tr_c1F, ts_setF, ts_setFO, ts_addF, ts_addFO, ts_augF, ts_appF, tr_popF, tr_pop0F, tr_meth, tr_methT, tr_tagM, tr_fldT, tr_make, tr_leaf, getI_o, tagE_o, fV_0, fV_s, fA_0, fA_s, fO_0l, fO_0d, fO_s, fL_0, fL_s, gvS_v, qvar_at, qcon_at, qnil_at, qop_at, fldQ_at, tr_mq, ts_forO, scr_ints]
  refine ⟨rOk_of (by split <;> split <;> omega) (by split <;> split <;> omega), ?_⟩
  generalize hK : (if (if (ns.length : Int) < 3 then (ns.length : Int) else 3) > 1 then (if (ns.length : Int) < 3 then (ns.length : Int) else 3) else 1).toNat = K
  have hK3 : K ≤ 3 := by rw [← hK]; split <;> split <;> omega
  refine ts_range (fun i r => ∃ a b x3 x4 x5 x6, r = [.scr ns, a, b, x3, x4, x5, x6]) ⟨_, _, _, _, _, _, rfl⟩ (fun i r hi h4 => ?_) (fun r h4 => ?_)
  · obtain ⟨a, b, x3, x4, x5, x6, rfl⟩ := h4
    obtain ⟨p, ep, hp⟩ := pot_ok (ns := ns) (k := 0 + (i : Int)) (by omega) (by omega) hn
    simp only [tr_bnd, tr_lft, tr_con, tr_op2, tr_op2r, tr_op2b, tr_asB, tr_trB, tr_trBp, tr_and, tr_or, tr_not, tr_if, tr_andV, tr_orV, tr_notV, tr_neg, tr_chain, tr_nil, tr_cons, tr_tup, tr_lst, tr_pn, tr_ps, tr_sl, tr_c1, tr_c1p, tr_seqI, tr_rng1, tr_rng2, tr_rng3, tr_zip, tr_enum, tr_rtV, tr_rtO, tr_aNil, tr_aV, tr_call, tr_callT, ts_next, ts_break, ts_cont, ts_seq, ts_ret, ts_retO, ts_retN, ts_expr, ts_assign, as_name, as_nil, as_cons, as_tup, ts_own, ts_if, ts_for, ts_store, varK_v, varK_o, leaf_l, leaf_d, tu_takeG, tr_rtG, rtg_o, getV_od, rtd_od, rto_od, tr_yes, wipe_n, wipe_c, unw_n, unw_c, unw1_v, unw1_e, unw1_n, getQ_0, getQ_s, isOS_v, isOS_e, nl_i, nl_b, nl_n, nl_s, nl_t, eq_self, ts_par, pev_n, pev_v, pev_o, sets_n, sets_c, tr_bor, bor_c, bor_n, sok_e, sok_vv, sok_int, sok_ss, sok_o, rtd_v, rtd_o, rto_o, tu_var, tu_op2l, tu_slp, getO_o, getS_s, getX_v, tu_aL, tu_aS, tu_take, tu_aug, tu_append, tu_pop, tu_lenS, tu_ixS, outA, scrA, isOA, isSA, outS_o, scrS_s, isO_o, isS_s, lok_gen, lix_nil, lix_v, lix_l, lix_s, sok_nil, sok_v, sok_l, sok_s, at_0, at_1, getV_v, getV_o, getL_o, add_ii, sub_ii, mul_ii, mul_ti, mul_li, fdiv_ii, mod_ii, pow_ii, neg_i, cmp_ii, addI_ii, mulI_ii, eq_ii, ne_ii, eq_ss, ne_ss, asB_b, truth_b, truth_i, truth_l, truth_t, truth_n, asI_i, item_l, item_t, len_l, len_t, abs_i, int_i, int_b, tuple_l, tuple_t, list_l, list_t, max2_ii, min2_ii, seq_l, seq_t, slice_l, slice_t, rng1_i, rng2_i, zip_l, zip_t, zip_tl, zip_lt, enum_l, add_tt, add_ll, add_ss, repr_i, atI_0, atI_1, atI_2, ixN_0, ixN_1, ixN_2, ite_some, map_some, ex_and, ex_eq, bind_some, List.set_cons_zero, List.set_cons_succ, List.length_cons, List.length_nil, Option.some.injEq, decide_eq_true_eq, Bool.not_true, Bool.not_false, Bool.and_eq_true, Bool.or_eq_true, fillA, wbA, entry, entrySls, entrySl, List.replicate, List.cons_append, List.nil_append, trF_ok, List.append_nil, List.map_nil, List.map_cons, ownIx, and_assoc, exists_and_left, exists_eq_left', exists_eq_left, Rt.v.injEq, Rt.o.injEq, List.cons.injEq, PyData.int.injEq, PyData.list.injEq, PyData.tuple.injEq, and_true, true_and, List.all_cons, List.all_nil, List.nodup_cons, List.nodup_nil, decide_true, decide_false, Bool.and_true, Bool.true_and, List.mem_cons, List.not_mem_nil, not_false_eq_true, Nat.sub_self, Nat.reduceSub, Nat.reduceAdd, if_true, if_false, Bool.false_eq_true, reduceCtorEq, false_and, and_false, or_false, false_or, and_self, Nat.zero_add, exists_eq', exists_eq, Sl.val.injEq, Sl.own.injEq, exists_const, tr_vnil, tr_vcons, tr_callX, pick_c, pick_n, List.getElem?_cons_zero, List.getElem?_cons_succ, Option.toList_some, tr_dict0, tr_dict1, ts_never, isi_tt, isi_ii, isi_bi, rev_t, rev_l, ts_dput, ts_update, getDc_o, asD_d, din_i, dnin_i, dget_i, key_i, Option.isSome_some, Option.isSome_none, tr_fld, tr_opF, tr_opFr, tr_c1F, ts_setF, ts_setFO, ts_addF, ts_addFO, ts_augF, ts_appF, tr_popF, tr_pop0F, tr_meth, tr_methT, tr_tagM, tr_fldT, tr_make, tr_leaf, getI_o, tagE_o, fV_0, fV_s, fA_0, fA_s, fO_0l, fO_0d, fO_s, fL_0, fL_s, gvS_v, qvar_at, qcon_at, qnil_at, qop_at, fldQ_at, tr_mq, ts_forO, ep]
    refine ⟨rOk_of (by decide) (by decide), ?_⟩
    refine ts_range (fun j r => ∃ p x3 x4 x5 x6, Drw (20 * j) p ∧ r = [.scr ns, .val (.int (0 + i)), .own p, x3, x4, x5, x6]) ⟨p, _, _, _, _, by simpa using hp, rfl⟩ (fun j r hj hr => ?_) (fun r hr => ?_)
    · obtain ⟨p, x3, x4, x5, x6, hp, rfl⟩ := hr
      obtain ⟨qs, p1, e1, hp1, hq, hpr, hl⟩ := chain_ok (most := 200) hp (by omega) (by decide) (by decide)
      obtain ⟨a1, p2, e2, hp2, ha0, ha1⟩ := draw_ok (u := 100) hp1 (by omega) (by decide) (by decide)
      obtain ⟨a2, p3, e3, hp3, hb0, hb1⟩ := draw_ok (u := 100) hp2 (by omega) (by decide) (by decide)
      have hq1 : ∀ q ∈ qs, 1 ≤ q := fun q h => by have := hq q h; omega
      have hs : Szs (sz qs) := sz_szs hq1
      have hpg := sz_page qs
      have hpos := hs.pos qs.length
      have hb : sz qs qs.length < 18446744073709551616 := by rw [hpg]; omega
      have hst := chn_step hq
      obtain ⟨w, p4, e4, hp4, hw⟩ := pick_ok (xs := [.int 0, .int 1, .int (sz qs qs.length), .int a1, .int a2]) hp3 (by omega) (by simp) (by simp)
      obtain ⟨n0, rfl, hn0⟩ : ∃ n : Nat, w = .int n ∧ n ≤ 2000 := by
        simp only [List.mem_cons, List.not_mem_nil, or_false] at hw
        rcases hw with rfl | rfl | rfl | rfl | rfl
        · exact ⟨0, rfl, by decide⟩
        · exact ⟨1, rfl, by decide⟩
        · exact ⟨(sz qs qs.length).toNat, by rw [Int.toNat_of_nonneg (by omega)], by omega⟩
        · exact ⟨a1.toNat, by rw [Int.toNat_of_nonneg (by omega)], by omega⟩
        · exact ⟨a2.toNat, by rw [Int.toNat_of_nonneg (by omega)], by omega⟩
      obtain ⟨a3, p5, e5, hp5, hc0, hc1⟩ := draw_ok (u := 300) hp4 (by omega) (by decide) (by decide)
      generalize hS : sz qs = S at *
      generalize hM : qs.length = m at *
      have et : PyData.tuple ((chn qs).map PyData.int) = tup (m + 1) S := by rw [tup_chn, hM, hS]
      have go : ∀ n : Nat, n ≤ 2000 → f_l_mix_right [tup (m + 1) S, .int n] = .ok (.v (.bool true)) [] ∧ f_most_live [tup (m + 1) S, .int n] = .ok (.v (.int (PM S m n))) [] ∧
          f_most_live [tup (m + 1) S, .int (if (n : Int) - 1 > 0 then (n : Int) - 1 else 0)] = .ok (.v (.int (PM S m (n - 1)))) [] ∧ 0 ≤ PM S m n - PM S m (n - 1) ∧ PM S m n - PM S m (n - 1) ≤ S m := fun n hn => by
        have e0 : (if (n : Int) - 1 > 0 then (n : Int) - 1 else 0) = ((n - 1 : Nat) : Int) := by split <;> omega
        refine ⟨mixr_ok (by omega) (by omega) hs hst hb, most_ok (by omega) (by omega) hs, by rw [e0]; exact most_ok (by omega) (by omega) hs, ?_⟩
        cases n with
        | zero => simp; omega
        | succ n =>
          have := PM_up hs hst n
          rw [Nat.add_sub_cancel]
          omega
      by_cases h5 : (0 + (j : Int)) = 5
      · obtain ⟨n, hn⟩ : ∃ n : Nat, (2000 - a3 : Int) = n := ⟨(2000 - a3).toNat, by omega⟩
        obtain ⟨g1, g2, g3, g4, g5⟩ := go n (by omega)
        simp only [tr_bnd, tr_lft, tr_con, tr_op2, tr_op2r, tr_op2b, tr_asB, tr_trB, tr_trBp, tr_and, tr_or, tr_not, tr_if, tr_andV, tr_orV, tr_notV, tr_neg, tr_chain, tr_nil, tr_cons, tr_tup, tr_lst, tr_pn, tr_ps, tr_sl, tr_c1, tr_c1p, tr_seqI, tr_rng1, tr_rng2, tr_rng3, tr_zip, tr_enum, tr_rtV, tr_rtO, tr_aNil, tr_aV, tr_call, tr_callT, ts_next, ts_break, ts_cont, ts_seq, ts_ret, ts_retO, ts_retN, ts_expr, ts_assign, as_name, as_nil, as_cons, as_tup, ts_own, ts_if, ts_for, ts_store, varK_v, varK_o, leaf_l, leaf_d, tu_takeG, tr_rtG, rtg_o, getV_od, rtd_od, rto_od, tr_yes, wipe_n, wipe_c, unw_n, unw_c, unw1_v, unw1_e, unw1_n, getQ_0, getQ_s, isOS_v, isOS_e, nl_i, nl_b, nl_n, nl_s, nl_t, eq_self, ts_par, pev_n, pev_v, pev_o, sets_n, sets_c, tr_bor, bor_c, bor_n, sok_e, sok_vv, sok_int, sok_ss, sok_o, rtd_v, rtd_o, rto_o, tu_var, tu_op2l, tu_slp, getO_o, getS_s, getX_v, tu_aL, tu_aS, tu_take, tu_aug, tu_append, tu_pop, tu_lenS, tu_ixS, outA, scrA, isOA, isSA, outS_o, scrS_s, isO_o, isS_s, lok_gen, lix_nil, lix_v, lix_l, lix_s, sok_nil, sok_v, sok_l, sok_s, at_0, at_1, getV_v, getV_o, getL_o, add_ii, sub_ii, mul_ii, mul_ti, mul_li, fdiv_ii, mod_ii, pow_ii, neg_i, cmp_ii, addI_ii, mulI_ii, eq_ii, ne_ii, eq_ss, ne_ss, asB_b, truth_b, truth_i, truth_l, truth_t, truth_n, asI_i, item_l, item_t, len_l, len_t, abs_i, int_i, int_b, tuple_l, tuple_t, list_l, list_t, max2_ii, min2_ii, seq_l, seq_t, slice_l, slice_t, rng1_i, rng2_i, zip_l, zip_t, zip_tl, zip_lt, enum_l, add_tt, add_ll, add_ss, repr_i, atI_0, atI_1, atI_2, ixN_0, ixN_1, ixN_2, ite_some, map_some, ex_and, ex_eq, bind_some, List.set_cons_zero, List.set_cons_succ, List.length_cons, List.length_nil, Option.some.injEq, decide_eq_true_eq, Bool.not_true, Bool.not_false, Bool.and_eq_true, Bool.or_eq_true, fillA, wbA, entry, entrySls, entrySl, List.replicate, List.cons_append, List.nil_append, trF_ok, List.append_nil, List.map_nil, List.map_cons, ownIx, and_assoc, exists_and_left, exists_eq_left', exists_eq_left, Rt.v.injEq, Rt.o.injEq, List.cons.injEq, PyData.int.injEq, PyData.list.injEq, PyData.tuple.injEq, and_true, true_and, List.all_cons, List.all_nil, List.nodup_cons, List.nodup_nil, decide_true, decide_false, Bool.and_true, Bool.true_and, List.mem_cons, List.not_mem_nil, not_false_eq_true, Nat.sub_self, Nat.reduceSub, Nat.reduceAdd, if_true, if_false, Bool.false_eq_true, reduceCtorEq, false_and, and_false, or_false, false_or, and_self, Nat.zero_add, exists_eq', exists_eq, Sl.val.injEq, Sl.own.injEq, exists_const, tr_vnil, tr_vcons, tr_callX, pick_c, pick_n, List.getElem?_cons_zero, List.getElem?_cons_succ, Option.toList_some, tr_dict0, tr_dict1, ts_never, isi_tt, isi_ii, isi_bi, rev_t, rev_l, ts_dput, ts_update, getDc_o, asD_d, din_i, dnin_i, dget_i, key_i, Option.isSome_some, Option.isSome_none, tr_fld, tr_opF, tr_opFr, tr_c1F, ts_setF, ts_setFO, ts_addF, ts_addFO, ts_augF, ts_appF, tr_popF, tr_pop0F, tr_meth, tr_methT, tr_tagM, tr_fldT, tr_make, tr_leaf, getI_o, tagE_o, fV_0, fV_s, fA_0, fA_s, fO_0l, fO_0d, fO_s, fL_0, fL_s, gvS_v, qvar_at, qcon_at, qnil_at, qop_at, fldQ_at, tr_mq, ts_forO, e1, et, tup_last, e2, e3, e4, h5, e5, hn, g1, g2, g3, g4, g5]
        refine ⟨lenOk_of (by decide), p5, hp5.up (by omega), rfl⟩
      · obtain ⟨g1, g2, g3, g4, g5⟩ := go n0 (by omega)
        simp only [tr_bnd, tr_lft, tr_con, tr_op2, tr_op2r, tr_op2b, tr_asB, tr_trB, tr_trBp, tr_and, tr_or, tr_not, tr_if, tr_andV, tr_orV, tr_notV, tr_neg, tr_chain, tr_nil, tr_cons, tr_tup, tr_lst, tr_pn, tr_ps, tr_sl, tr_c1, tr_c1p, tr_seqI, tr_rng1, tr_rng2, tr_rng3, tr_zip, tr_enum, tr_rtV, tr_rtO, tr_aNil, tr_aV, tr_call, tr_callT, ts_next, ts_break, ts_cont, ts_seq, ts_ret, ts_retO, ts_retN, ts_expr, ts_assign, as_name, as_nil, as_cons, as_tup, ts_own, ts_if, ts_for, ts_store, varK_v, varK_o, leaf_l, leaf_d, tu_takeG, tr_rtG, rtg_o, getV_od, rtd_od, rto_od, tr_yes, wipe_n, wipe_c, unw_n, unw_c, unw1_v, unw1_e, unw1_n, getQ_0, getQ_s, isOS_v, isOS_e, nl_i, nl_b, nl_n, nl_s, nl_t, eq_self, ts_par, pev_n, pev_v, pev_o, sets_n, sets_c, tr_bor, bor_c, bor_n, sok_e, sok_vv, sok_int, sok_ss, sok_o, rtd_v, rtd_o, rto_o, tu_var, tu_op2l, tu_slp, getO_o, getS_s, getX_v, tu_aL, tu_aS, tu_take, tu_aug, tu_append, tu_pop, tu_lenS, tu_ixS, outA, scrA, isOA, isSA, outS_o, scrS_s, isO_o, isS_s, lok_gen, lix_nil, lix_v, lix_l, lix_s, sok_nil, sok_v, sok_l, sok_s, at_0, at_1, getV_v, getV_o, getL_o, add_ii, sub_ii, mul_ii, mul_ti, mul_li, fdiv_ii, mod_ii, pow_ii, neg_i, cmp_ii, addI_ii, mulI_ii, eq_ii, ne_ii, eq_ss, ne_ss, asB_b, truth_b, truth_i, truth_l, truth_t, truth_n, asI_i, item_l, item_t, len_l, len_t, abs_i, int_i, int_b, tuple_l, tuple_t, list_l, list_t, max2_ii, min2_ii, seq_l, seq_t, slice_l, slice_t, rng1_i, rng2_i, zip_l, zip_t, zip_tl, zip_lt, enum_l, add_tt, add_ll, add_ss, repr_i, atI_0, atI_1, atI_2, ixN_0, ixN_1, ixN_2, ite_some, map_some, ex_and, ex_eq, bind_some, List.set_cons_zero, List.set_cons_succ, List.length_cons, List.length_nil, Option.some.injEq, decide_eq_true_eq, Bool.not_true, Bool.not_false, Bool.and_eq_true, Bool.or_eq_true, fillA, wbA, entry, entrySls, entrySl, List.replicate, List.cons_append, List.nil_append, trF_ok, List.append_nil, List.map_nil, List.map_cons, ownIx, and_assoc, exists_and_left, exists_eq_left', exists_eq_left, Rt.v.injEq, Rt.o.injEq, List.cons.injEq, PyData.int.injEq, PyData.list.injEq, PyData.tuple.injEq, and_true, true_and, List.all_cons, List.all_nil, List.nodup_cons, List.nodup_nil, decide_true, decide_false, Bool.and_true, Bool.true_and, List.mem_cons, List.not_mem_nil, not_false_eq_true, Nat.sub_self, Nat.reduceSub, Nat.reduceAdd, if_true, if_false, Bool.false_eq_true, reduceCtorEq, false_and, and_false, or_false, false_or, and_self, Nat.zero_add, exists_eq', exists_eq, Sl.val.injEq, Sl.own.injEq, exists_const, tr_vnil, tr_vcons, tr_callX, pick_c, pick_n, List.getElem?_cons_zero, List.getElem?_cons_succ, Option.toList_some, tr_dict0, tr_dict1, ts_never, isi_tt, isi_ii, isi_bi, rev_t, rev_l, ts_dput, ts_update, getDc_o, asD_d, din_i, dnin_i, dget_i, key_i, Option.isSome_some, Option.isSome_none, tr_fld, tr_opF, tr_opFr, tr_c1F, ts_setF, ts_setFO, ts_addF, ts_addFO, ts_augF, ts_appF, tr_popF, tr_pop0F, tr_meth, tr_methT, tr_tagM, tr_fldT, tr_make, tr_leaf, getI_o, tagE_o, fV_0, fV_s, fA_0, fA_s, fO_0l, fO_0d, fO_s, fL_0, fL_s, gvS_v, qvar_at, qcon_at, qnil_at, qop_at, fldQ_at, tr_mq, ts_forO, e1, et, tup_last, e2, e3, e4, h5, g1, g2, g3, g4, g5]
        refine ⟨lenOk_of (by decide), p4, hp4.up (by omega), rfl⟩
    · obtain ⟨p, x3, x4, x5, x6, hp, rfl⟩ := hr
      exact ⟨_, _, _, _, _, _, rfl⟩
  · obtain ⟨a, b, x3, x4, x5, x6, rfl⟩ := h4
    have hs : Szs (sz [2]) := sz_szs (by decide)
    have hr := reqm_ok (s := sz [2]) (m := 1) (n := 0) (by decide) (by decide) hs
    have e1 : tup (1 + 1) (sz [2]) = .tuple [.int 1, .int 2] := rfl
    have e2 : isort (rqs (sz [2]) 1 0 0) = [] := List.length_eq_zero_iff.mp (by rw [(isort_perm _).length_eq]; rfl)
    have e3 : eq? (.tuple []) (.tuple []) = some (.bool true) := by
      have := eq_prs (xs := []) (ys := [])
      simpa using this
    rw [e1, e2, show ((0 : Nat) : Int) = 0 from rfl, List.map_nil] at hr
    simp only [tr_bnd, tr_lft, tr_con, tr_op2, tr_op2r, tr_op2b, tr_asB, tr_trB, tr_trBp, tr_and, tr_or, tr_not, tr_if, tr_andV, tr_orV, tr_notV, tr_neg, tr_chain, tr_nil, tr_cons, tr_tup, tr_lst, tr_pn, tr_ps, tr_sl, tr_c1, tr_c1p, tr_seqI, tr_rng1, tr_rng2, tr_rng3, tr_zip, tr_enum, tr_rtV, tr_rtO, tr_aNil, tr_aV, tr_call, tr_callT, ts_next, ts_break, ts_cont, ts_seq, ts_ret, ts_retO, ts_retN, ts_expr, ts_assign, as_name, as_nil, as_cons, as_tup, ts_own, ts_if, ts_for, ts_store, varK_v, varK_o, leaf_l, leaf_d, tu_takeG, tr_rtG, rtg_o, getV_od, rtd_od, rto_od, tr_yes, wipe_n, wipe_c, unw_n, unw_c, unw1_v, unw1_e, unw1_n, getQ_0, getQ_s, isOS_v, isOS_e, nl_i, nl_b, nl_n, nl_s, nl_t, eq_self, ts_par, pev_n, pev_v, pev_o, sets_n, sets_c, tr_bor, bor_c, bor_n, sok_e, sok_vv, sok_int, sok_ss, sok_o, rtd_v, rtd_o, rto_o, tu_var, tu_op2l, tu_slp, getO_o, getS_s, getX_v, tu_aL, tu_aS, tu_take, tu_aug, tu_append, tu_pop, tu_lenS, tu_ixS, outA, scrA, isOA, isSA, outS_o, scrS_s, isO_o, isS_s, lok_gen, lix_nil, lix_v, lix_l, lix_s, sok_nil, sok_v, sok_l, sok_s, at_0, at_1, getV_v, getV_o, getL_o, add_ii, sub_ii, mul_ii, mul_ti, mul_li, fdiv_ii, mod_ii, pow_ii, neg_i, cmp_ii, addI_ii, mulI_ii, eq_ii, ne_ii, eq_ss, ne_ss, asB_b, truth_b, truth_i, truth_l, truth_t, truth_n, asI_i, item_l, item_t, len_l, len_t, abs_i, int_i, int_b, tuple_l, tuple_t, list_l, list_t, max2_ii, min2_ii, seq_l, seq_t, slice_l, slice_t, rng1_i, rng2_i, zip_l, zip_t, zip_tl, zip_lt, enum_l, add_tt, add_ll, add_ss, repr_i, atI_0, atI_1, atI_2, ixN_0, ixN_1, ixN_2, ite_some, map_some, ex_and, ex_eq, bind_some, List.set_cons_zero, List.set_cons_succ, List.length_cons, List.length_nil, Option.some.injEq, decide_eq_true_eq, Bool.not_true, Bool.not_false, Bool.and_eq_true, Bool.or_eq_true, fillA, wbA, entry, entrySls, entrySl, List.replicate, List.cons_append, List.nil_append, trF_ok, List.append_nil, List.map_nil, List.map_cons, ownIx, and_assoc, exists_and_left, exists_eq_left', exists_eq_left, Rt.v.injEq, Rt.o.injEq, List.cons.injEq, PyData.int.injEq, PyData.list.injEq, PyData.tuple.injEq, and_true, true_and, List.all_cons, List.all_nil, List.nodup_cons, List.nodup_nil, decide_true, decide_false, Bool.and_true, Bool.true_and, List.mem_cons, List.not_mem_nil, not_false_eq_true, Nat.sub_self, Nat.reduceSub, Nat.reduceAdd, if_true, if_false, Bool.false_eq_true, reduceCtorEq, false_and, and_false, or_false, false_or, and_self, Nat.zero_add, exists_eq', exists_eq, Sl.val.injEq, Sl.own.injEq, exists_const, tr_vnil, tr_vcons, tr_callX, pick_c, pick_n, List.getElem?_cons_zero, List.getElem?_cons_succ, Option.toList_some, tr_dict0, tr_dict1, ts_never, isi_tt, isi_ii, isi_bi, rev_t, rev_l, ts_dput, ts_update, getDc_o, asD_d, din_i, dnin_i, dget_i, key_i, Option.isSome_some, Option.isSome_none, tr_fld, tr_opF, tr_opFr, tr_c1F, ts_setF, ts_setFO, ts_addF, ts_addFO, ts_augF, ts_appF, tr_popF, tr_pop0F, tr_meth, tr_methT, tr_tagM, tr_fldT, tr_make, tr_leaf, getI_o, tagE_o, fV_0, fV_s, fA_0, fA_s, fO_0l, fO_0d, fO_s, fL_0, fL_s, gvS_v, qvar_at, qcon_at, qnil_at, qop_at, fldQ_at, tr_mq, ts_forO, hr, e3]
    refine ⟨lenOk_of (by decide), lenOk_of (by decide)⟩
end Lk37

end
section
set_option maxHeartbeats 0 in
theorem PySem.Challenge.cw_pinnedheap_k37_request_mixes_holds : PySem.Challenge.rw_pinnedheap_k37_request_mixes.Holds := by
  w_on; o_law; k_head; (case hw => w_witness2)
  k_fill
  refine PL.walk_ofG (l := PySem.Challenge.rw_pinnedheap_k37_request_mixes) (n := 63) (k := 8) (x := "_law_script") (sp := fun w => PL.spF _ (fun _ _ _ _ _ => False) [.s] Lk37.f_law) rfl (by decide) rfl ⟨rfl, by decide, by decide⟩ (fun w h Y => PySem.W.kIn_of Y) ?F (fun w H a ns hl hS => PL.law_end (Lk37.law_true ns hl) hS)
  case F =>
    intro w mg fa h KX G hmg
    refine' Lk37.all_mk KX G hmg ?k1_Mixes ?k2_Mixes ?k3_Mixes ?k4_Mixes ?k5_Mixes ?n_Mixes_most ?n_Mixes_last ?a0 ?l0 ?c0 ?k0 ?a1 ?i1 ?l1 ?c1 ?k1 ?a2 ?l2 ?c2 ?k2 ?a3 ?i3 ?l3 ?c3 ?k3 ?x3 ?y3 ?a4 ?l4 ?c4 ?k4 ?a5 ?l5 ?c5 ?k5 ?a6 ?l6 ?c6 ?k6 ?a7 ?l7 ?c7 ?k7 ?a8 ?l8 ?c8 ?k8 ?a9 ?l9 ?c9 ?k9 ?a10 ?l10 ?c10 ?k10 ?a11 ?l11 ?c11 ?k11 ?a12 ?l12 ?c12 ?k12 ?a13 ?l13 ?c13 ?k13 ?a14 ?l14 ?c14 ?k14 ?a15 ?l15 ?c15 ?k15 ?a16 ?l16 ?c16 ?k16 ?a17 ?l17 ?c17 ?k17 ?a18 ?l18 ?c18 ?k18 ?a19 ?l19 ?c19 ?k19 ?a20 ?l20 ?c20 ?k20 ?a21 ?l21 ?c21 ?k21 ?z_abs ?z_all ?z_bool ?z_enumerate ?z_int ?z_isinstance ?z_len ?z_list ?z_max ?z_min ?z_range ?z_sorted ?z_sum ?z_tuple ?z_zip ?z_nd
    (case k1_Mixes => k_is); (case k2_Mixes => k_is); (case k3_Mixes => k_is); (case k4_Mixes => k_is); (case k5_Mixes => k_is); (case n_Mixes_most => k_is); (case n_Mixes_last => k_is); (case a0 => k_is); (case l0 => k_is); (case c0 => k_is); (case k0 => k_is); (case a1 => k_is); (case i1 => k_is); (case l1 => k_is); (case c1 => k_is); (case k1 => k_is); (case a2 => k_is); (case l2 => k_is); (case c2 => k_is); (case k2 => k_is); (case a3 => k_is); (case i3 => k_is); (case l3 => k_is); (case c3 => k_is); (case k3 => k_is); (case x3 => k_is); (case y3 => k_is); (case a4 => k_is); (case l4 => k_is); (case c4 => k_is); (case k4 => k_is); (case a5 => k_is); (case l5 => k_is); (case c5 => k_is); (case k5 => k_is); (case a6 => k_is); (case l6 => k_is); (case c6 => k_is); (case k6 => k_is); (case a7 => k_is); (case l7 => k_is); (case c7 => k_is); (case k7 => k_is); (case a8 => k_is); (case l8 => k_is); (case c8 => k_is); (case k8 => k_is); (case a9 => k_is); (case l9 => k_is); (case c9 => k_is); (case k9 => k_is); (case a10 => k_is); (case l10 => k_is); (case c10 => k_is); (case k10 => k_is); (case a11 => k_is); (case l11 => k_is); (case c11 => k_is); (case k11 => k_is); (case a12 => k_is); (case l12 => k_is); (case c12 => k_is); (case k12 => k_is); (case a13 => k_is); (case l13 => k_is); (case c13 => k_is); (case k13 => k_is); (case a14 => k_is); (case l14 => k_is); (case c14 => k_is); (case k14 => k_is); (case a15 => k_is); (case l15 => k_is); (case c15 => k_is); (case k15 => k_is); (case a16 => k_is); (case l16 => k_is); (case c16 => k_is); (case k16 => k_is); (case a17 => k_is); (case l17 => k_is); (case c17 => k_is); (case k17 => k_is); (case a18 => k_is); (case l18 => k_is); (case c18 => k_is); (case k18 => k_is); (case a19 => k_is); (case l19 => k_is); (case c19 => k_is); (case k19 => k_is); (case a20 => k_is); (case l20 => k_is); (case c20 => k_is); (case k20 => k_is); (case a21 => k_is); (case l21 => k_is); (case c21 => k_is); (case k21 => k_is); (case z_abs => k_is); (case z_all => k_is); (case z_bool => k_is); (case z_enumerate => k_is); (case z_int => k_is); (case z_isinstance => k_is); (case z_len => k_is); (case z_list => k_is); (case z_max => k_is); (case z_min => k_is); (case z_range => k_is); (case z_sorted => k_is); (case z_sum => k_is); (case z_tuple => k_is); (case z_zip => k_is); (case z_nd => k_is)

end
