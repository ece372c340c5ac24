import PyProof.Rows.All
import Wide.All
import OpenK.AllK
import Wide.FinOn
import HandS.ForMost
import HandS.Exc
import HandS.Flow
import HandS.IsInst
import HandS.Wide
import HandS.TupAny
import HandS.StrMore
import HandS.Deep
import HandS.RaiseMore
import HandS.TupLe
import HandS.WordsExc
import HandS.Style
import HandS.Dict
import PyProof.RulesMatch
import HandS.Star
import PySem.Challenge.RW_globhouse_k30_words_read
set_option Elab.async false
set_option linter.all false
set_option maxRecDepth 100000
set_option maxHeartbeats 8000000

/-! G, part A: what a def promises where no repr is under way (guards are empty): FnG. -/
namespace G
open PySem PySem.Spec PyProof.Rows L2

structure FnG (P : Program) (w : World) (K : PySem.W.Frag) (mg : Str → Option Value) (base : Heap) (T : CXT) (k : Nat) (f : Addr) (fd : FuncData) (ps : List Str) (sp : Sp) : Prop where
  len : ∀ vs H Q E, sp vs H Q E → vs.length = ps.length
  run : ∀ (A : Around) (outer : List Env) (s : Shared) (H : Hp) (args : Args) (us : List Value) (vs : List V) (Q : VK) (E : XK), Room k A → A.guards = some [] →
    Env0 P w K mg base A outer s H → BindsTo s fd args (ps.zip us) → Vals vs us → sp vs H Q E → codeAny (model P w) A (.call (.ref f) args) (CR T outer P w H s Q E) s

theorem FnG.mono {P : Program} {w : World} {K : PySem.W.Frag} {mg : Str → Option Value} {base : Heap} {T : CXT} {i j : Nat} {f : Addr} {fd : FuncData} {ps : List Str} {sp : Sp}
    (F : FnG P w K mg base T i f fd ps sp) (h : i ≤ j) : FnG P w K mg base T j f fd ps sp :=
  ⟨F.len, fun A o s H as us vs Q E r => F.run A o s H as us vs Q E (r.mono h)⟩

/-- a def of the text, by its body: the library's rule for a def that binds (StX.run_bnd), with nothing made while it binds -/
theorem fnG_of {P : Program} {w : World} {K : PySem.W.Frag} {mg : Str → Option Value} {base : Heap} {x qual : Str} {st : Stmt} {f : Addr} {fd : FuncData} {N ps : List Str} {k : Nat} {sp : Sp}
    (F : Fun K x qual st f fd) (S : FnScope N ps (defScope st)) (len : ∀ vs H Q E, sp vs H Q E → vs.length = ps.length)
    (body : ∀ (cdv : Value) (A : Around) (outer : List Env) (s : Shared) (H : Hp) (vs : List V) (Q : VK) (E : XK), Room k (A.deeper (envOfC qual (defScope st) s.heap.objs.size f cdv)) → A.guards = some [] → sp vs H Q E →
      ∃ t, PSs (cxOf (L2.CX P w) P w K mg base N qual (defScope st) f cdv A outer s H E) (defBody st) t ∧ t { nx := fun _ H' => Q .non H', rt := Q } (start N vs) H) :
    FnG P w K mg base (L2.CX P w) (k + 1) f fd ps sp where
  len := len
  run := by
    obtain ⟨_, _, _, _, _, _, cdv, _, _, rfl, lk, hcd⟩ := F.ex
    intro A outer s H args us vs Q E room quiet env binds vals prom
    refine StX.run_bnd lk hcd S room env (G := fun v' H' => v' = vs ∧ H' = H) (fun A' Ex Q' go => binds _ A' Ex Q' (go s H vs us env .refl rfl (fun _ _ c => c) vals (len _ _ _ _ prom) ⟨rfl, rfl⟩)) fun s2 H2 v2 same room2 => ?_
    rw [same.1, same.2]
    exact body cdv A outer s2 H vs Q E room2 quiet prom
section
variable {X : Cx} {T : CXT} {k : Nat} {f C : Addr} {fd : FuncData} {ps : List Str} {sp : Sp} {dvs : List V} {ds : List Value} {E : XK} {x m : Str} {p pos apos : Pos} {e o : Expr} {es : List Expr} {ta : TE} {t : TA}
/-- what a caller has when the called def is done -/
def Back (X : Cx) (pins : List (Addr × Obj)) (σ : L2.St) (Q : VK) : Result → Shared → Prop
  | .ok (.ret v), s' => EP X pins σ Q v s'
  | .ok _, _ => False
  | .error e, s' => X.xe e s'
theorem back_of {pins : List (Addr × Obj)} {σ : L2.St} {H : Hp} {s : Shared} {Q : VK} (pass : Passes T X E) (I : Inv X pins σ H s) : ∀ r s', CR T X.stack X.prog X.w H s Q E r s' → Back X pins σ Q r s'
  | .ok (.ret _), _, q => I.after q
  | .ok .next, _, q | .ok .brk, _, q | .ok .cont, _, q => q
  | .error e, s', q => pass pins σ H s e s' I q
theorem runG {pins : List (Addr × Obj)} {σ : L2.St} {H : Hp} {s : Shared} {Q : VK} {us : List Value} {vs : List V} (F : FnG X.prog X.w X.K X.mg X.base T k f fd ps sp) (hr : Room k X.A) (hA : X.A.guards = some [])
    (hb : Binds X.K fd ps ds) (hd : Vals dvs ds) (hx : Passes T X E) (I : Inv X pins σ H s) (r : Vals vs us) (h : sp (vs ++ dvs) H Q E) : wpAny (model X.prog X.w) X.A (call (.ref f) us) (EP X pins σ Q) X.xe s := by
  have all := r.append hd
  have ran := F.run X.A X.stack s H ⟨us, []⟩ (us ++ ds) (vs ++ dvs) Q E hr hA I.env0 (hb s us I.kIn (by rw [← all.length, F.len _ _ _ _ h])) all h
  exact wpAny_call (codeAny_mono ran fun r s' q => by
    have z := back_of hx I r s' q
    match r, z with
    | .ok (.ret _), z => exact z
    | .error _, z => exact z
    | .ok .next, z | .ok .brk, z | .ok .cont, z => exact z.elim)
/-- f(e, ..), f a global name: the arguments' values, then the def -/
theorem peG_call (F : FnG X.prog X.w X.K X.mg X.base T k f fd ps sp) (hr : Room k X.A) (hA : X.A.guards = some []) (hg : Gl X x) (hm : X.mg x = some (.ref f)) (hk : PySem.W.keepIn X.K (.ref f) = true)
    (hb : Binds X.K fd ps ds) (hd : Vals dvs ds) (hx : Passes T X E) (ha : PA X (e :: es) t)
    (hdb : (x == ("__debug__" : Str)) = false := by decide) (he : starEach (e :: es) X.env = (false, eval e X.env) :: starEach es X.env := by rfl) (hpl : (backTo pos (starEach es X.env)).any (·.1) = false := by rfl) :
    PE X (.Call (.Name x p) (e :: es) [] pos) (tCall sp dvs E t) where
  run := fun pins s σ H Q I h =>
    have args := thn (ha.run pos pins s σ H _ I h) fun us s1 ⟨_, _, I1, r, q⟩ => (⟨I1.kIn, runG F hr hA hb hd hx I1 r q⟩ : X.K.In s1.heap ∧ wpAny (model X.prog X.w) X.A (call (.ref f) us) (EP X pins σ Q) X.xe s1)
    wpAny_Call_Name_kw (ld_glob I hg hm (PySem.W.callWith_K (h₀ := X.base) I.ok.mod.kin hk args he hpl) hdb)
theorem peG_call0 (F : FnG X.prog X.w X.K X.mg X.base T k f fd ps sp) (hr : Room k X.A) (hA : X.A.guards = some []) (hg : Gl X x) (hm : X.mg x = some (.ref f)) (hk : PySem.W.keepIn X.K (.ref f) = true)
    (hb : Binds X.K fd ps ds) (hd : Vals dvs ds) (hx : Passes T X E) (hdb : (x == ("__debug__" : Str)) = false := by decide) : PE X (.Call (.Name x p) [] [] pos) (tCall sp dvs E tNil) where
  run := fun _ _ _ _ _ I h => wpAny_Call_Name_kw (ld_glob I hg hm (PySem.W.callWith_K0 I.kIn hk (runG (us := []) F hr hA hb hd hx I .nil h)) hdb)
end

/-! the law's own call: what stands on the heap when the top is done, and what the call leaves of it -/
section
variable {K : PySem.W.Frag} {mg mb : Str → Option Value} {s : Shared} {H : Hp} {a : Addr} {oa : Obj}
/-- the base of the law's run is the heap without the script: all that the top made is still there -/
theorem base_of (KX : K.In s.heap) (hns : s.heap.Ns mainGlobals mg) (hb : s.heap.Ns builtinsNs mb) (hbb : ∀ x : Str, x ≠ "__name__" → mb x = bootBuiltins x) (hlim : s.heap.NoLimit)
    (ha : s.heap.get? a = some oa) (nod : ∀ es ep, oa.data ≠ .dict es ep) (only : ∀ b, H b ≠ none → b = a ∧ K.lookup b = none) : Mod K mg (hidT s.heap H) := by
  have free : ∀ b, b ≠ a ∨ K.lookup b ≠ none → H b = none := fun b h => Classical.byContradiction fun n => h.elim (fun z => z (only b n).1) fun z => z (only b n).2
  have dict : ∀ {b : Addr} {m : Str → Option Value}, s.heap.Ns b m → (hidT s.heap H).Ns b m := by
    rintro b m ⟨o, es, ep, e, d, more⟩
    have nb : b ≠ a := by
      intro z
      subst z
      rw [ha] at e
      exact nod es ep (by cases e; exact d)
    exact ⟨o, es, ep, hidT_get e (free b (.inl nb)), d, more⟩
  obtain ⟨mc, l1, l2⟩ := hlim
  exact { kin := fun b o e => hidT_get (KX b o e) (free b (.inr (by rw [e]; exact nofun))), glob := dict hns, blt := ⟨mb, dict hb, hbb⟩, nolimit := ⟨mc, dict l1, l2⟩ }
/-- what is read only stays -/
theorem old_of {P : Program} {w : World} {fs : List Addr} {H' : Hp} {h h' : Heap} (nofs : ∀ b, b ∉ fs) (un : Un fs [] H H' h h') (hok : HOk P w H h) (hok' : HOk P w H' h') (only : Only H) : OldK h h' := by
  refine OldK.of_keep fun b o e => ?_
  rcases only b with z | ⟨ob, xs, z⟩
  · exact un.keep b o e z (nofs b) nofun
  · have was := (hok b _ z).1
    rw [e] at was
    have is := (hok' b _ (un.frzs b ob _ z)).1
    rw [is, Option.some.inj was]
end
section
variable {P : Program} {w : World} {K : PySem.W.Frag} {mg mb : Str → Option Value} {T : CXT} {k : Nat} {fa a : Addr} {fd : FuncData} {x : Str} {sp : Sp} {s₁ : Shared}
/-- one call of the law's def over a tracked heap in which all is frozen -/
theorem law_run {H : Hp} (hr : Room k callerA) (hg : s₁.gens = #[]) (md : Mod K mg (hidT s₁.heap H)) (hok : HOk P w H s₁.heap) (only : Only H) (F : FnG P w K mg (hidT s₁.heap H) T k fa fd [x] sp)
    (hbind : ∀ (s : Shared) (u : Value), BindsTo s fd ⟨[u], []⟩ [(x, u)]) (h : sp [.ref a] H (fun v _ => v = .bl true) fun _ _ _ => False) (hT : ∀ e s', T [] H s₁ (fun _ _ _ => False) e s' → False) :
    codeAny (model P w) callerA (.call (.ref fa) ⟨[.ref a], []⟩) (fun r s' => r = .ok (.ret (.bool true)) ∧ OldK s₁.heap s'.heap ∧ s'.os = s₁.os ∧ AllBare s'.gens) s₁ := by
  have env : Env0 P w K mg (hidT s₁.heap H) callerA [] s₁ H := ⟨rfl, md, fun _ _ => of_hidT, by rw [hidT_size]; exact Nat.le_refl _, trivial, fun _ z => (List.not_mem_nil z).elim, hok, .of_eq hg⟩
  refine codeAny_mono (F.run callerA [] s₁ H ⟨[.ref a], []⟩ [.ref a] [.ref a] _ _ hr rfl env (hbind s₁ (.ref a)) (.cons rfl .nil) h) ?_
  rintro (e | (_ | _ | _ | u)) s' q
  · exact (hT e s' q).elim
  · exact False.elim q
  · exact False.elim q
  · exact False.elim q
  · obtain ⟨v, H', os, bare, un, hok', r', v'⟩ := q
    have tt : v = .bl true := v'
    subst tt
    have ut : u = Value.bool true := r'
    exact ⟨by rw [ut], old_of (fun _ z => List.not_mem_nil z) un hok hok' only, os, bare⟩
/-- the law's own head, for FnG: the script is of the module's fixed part, or is tracked -/
theorem lawG {vs : List Value} {ns : List Int}
    (KX : K.In s₁.heap) (hns : s₁.heap.Ns mainGlobals mg) (hb : s₁.heap.Ns builtinsNs mb) (hbb : ∀ x : Str, x ≠ "__name__" → mb x = bootBuiltins x) (hlim : s₁.heap.NoLimit) (hg : s₁.gens = #[])
    (ha : s₁.heap.get? a = some { cls := .type "list", data := .seq vs.toArray }) (hi : IntsAre vs ns) (hl : ns.length ≤ sizeLine) (hr : Room k callerA)
    (F : ∀ base : Heap, K.In base → base.Ns mainGlobals mg → FnG P w K mg base T k fa fd [x] sp) (hbind : ∀ (s : Shared) (u : Value), BindsTo s fd ⟨[u], []⟩ [(x, u)])
    (hsp : ∀ H : Hp, Only H → SqL K H a (ns.map V.int) → sp [.ref a] H (fun v _ => v = .bl true) fun _ _ _ => False)
    (hT : ∀ H e s', T [] H s₁ (fun _ _ _ => False) e s' → False) :
    codeAny (model P w) callerA (.call (.ref fa) ⟨[.ref a], []⟩) (fun r s' => r = .ok (.ret (.bool true)) ∧ OldK s₁.heap s'.heap ∧ s'.os = s₁.os ∧ AllBare s'.gens) s₁ := by
  have go : ∀ H : Hp, Only H → SqL K H a (ns.map V.int) → HOk P w H s₁.heap → (∀ b, H b ≠ none → b = a ∧ K.lookup b = none) → _ := fun H only sq hok tr =>
    let md := base_of (mb := mb) KX hns hb hbb hlim ha (by intro es ep z; cases z) tr
    law_run (a := a) hr hg md hok only (F _ md.kin md.glob) hbind (hsp H only sq) (hT H)
  by_cases fixed : K.lookup a = none
  · refine go (upd (fun _ => none) a (.frz { cls := .type "list", data := .seq vs.toArray } (.lst (ns.map V.int)))) (fun b => ?_) (.inl (.inr ⟨_, upd_same⟩)) (fun b u e => ?_) fun b n => ?_
    · by_cases z : b = a
      · exact .inr ⟨_, _, by rw [z, upd_same]⟩
      · exact .inl (upd_ne z)
    · by_cases z : b = a
      · rw [z, upd_same] at e
        rw [z, ← Option.some.inj e]
        exact ⟨ha, by rw [List.length_map]; exact hl, vs, _, vals_ints hi, ha⟩
      · rw [upd_ne z] at e
        cases e
    · by_cases z : b = a
      · exact ⟨z, by rw [z]; exact fixed⟩
      · exact absurd (upd_ne z) n
  · obtain ⟨o, e⟩ := Option.ne_none_iff_exists'.mp fixed
    have same := KX a o e
    rw [ha] at same
    refine go (fun _ => none) (fun _ => .inl rfl) (.inr ⟨_, vs.toArray, 0, e, ?_⟩) (fun _ _ z => absurd z nofun) fun _ z => absurd rfl z
    rw [← Option.some.inj same]
    exact ⟨rfl, rfl, rfl, by rw [List.size_toArray, hi.length]; exact hl, by rw [List.toList_toArray]; exact vals_ints hi⟩
end
theorem walkG {l : PySem.W.OpenLaw} {n k : Nat} {q : Program} {loose : List Str} {XP : (Str → Option Value) → Heap → Prop} {YP : World → Heap → Prop} {d : DefRec} {K : Params → PySem.W.Frag} {T : World → CXT} {sp : World → Sp} {x : Str}
    (hn : l.most = some n) (hn2 : n ≤ sizeLine) (hdf : d.params.defaults = []) (hr : Room k callerA) (hY : ∀ (w : World) (h : Heap), YP w h → (K w.params).In h)
    (F : ∀ (w : World) (mg : Str → Option Value) (fa : Addr) (h : Heap), (K w.params).In h → h.Ns mainGlobals mg → mg d.name = some (.ref fa) →
      ∃ fd : FuncData, (∀ (s : Shared) (u : Value), BindsTo s fd ⟨[u], []⟩ [(x, u)]) ∧ ∀ base : Heap, (K w.params).In base → base.Ns mainGlobals mg → FnG l.prog w (K w.params) mg base (T w) k fa fd [x] (sp w))
    (hsp : ∀ (w : World) (H : Hp) (a : Addr) (ns : List Int), ns.length ≤ n → Only H → SqL (K w.params) H a (ns.map V.int) → sp w [.ref a] H (fun v _ => v = .bl true) fun _ _ _ => False)
    (hT : ∀ (w : World) (H : Hp) (s : Shared) (e : Value) (s' : Shared), T w [] H s (fun _ _ _ => False) e s' → False) : PySem.W.WalkO q loose XP YP l.row.toRowW d [] (fun f vs => PySem.call f vs) :=
  Att.attach_call hn hdf fun w s₀ s₁ mg mb fa o pm cd doc a vs ns G Y ho hd hcd hmg hobj hints hlen hg =>
    let base := hY w _ Y
    let ⟨_, binds, ran⟩ := F w mg fa _ base G.T.g hmg
    lawG base G.T.g G.T.b G.T.builtins G.T.nolimit hg hobj hints (Nat.le_trans hlen hn2) hr ran binds (fun H only sq => hsp w H a ns hlen only sq) fun H e s' => hT w H s₁ e s'
end G

/-! G, part B: values, the store, outcomes; the relation to the layer's heap; readings by semantic functions. -/
namespace G
open PySem PySem.Spec PyProof.Rows L2

/-- a value: tuples are pure data; fl: a list that is never changed (the script); loc: an object of the store -/
inductive PV where
  | non | bl (b : Bool) | int (i : Int) | str (x : Str) | ty (n : String) | ref (a : Addr)
  | tup (xs : List PV) | fl (xs : List PV) | loc (n : Nat)
instance : Inhabited PV := ⟨.non⟩
inductive PO where
  | lst (xs : List PV)
  | dk (kvs : List (Key × PV))
  | dt (kvs : List (List Key × PV))
  | ins (C : Addr) (fs : List (Str × PV))
  | xd (fs : List (Str × PV))
abbrev Store := List PO
inductive Out (α : Type) where
  | ok (a : α) (S : Store)
  | exc (C : Addr) (fs : List (Str × PV)) (S : Store)
  | bad
def Out.bind {α β : Type} (o : Out α) (k : α → Store → Out β) : Out β := match o with
  | .ok a S => k a S
  | .exc C fs S => .exc C fs S
  | .bad => .bad
theorem Out.bind_ok {α β : Type} (a : α) (S : Store) (k : α → Store → Out β) : (Out.ok a S).bind k = k a S := rfl
theorem Out.bind_bad {α β : Type} (k : α → Store → Out β) : (Out.bad : Out α).bind k = .bad := rfl
theorem Out.bind_exc {α β : Type} (C : Addr) (fs : List (Str × PV)) (S : Store) (k : α → Store → Out β) : (Out.exc C fs S : Out α).bind k = .exc C fs S := rfl
theorem Out.bind_bind {α β γ : Type} (o : Out α) (k : α → Store → Out β) (l : β → Store → Out γ) : (o.bind k).bind l = o.bind fun a S => (k a S).bind l := by
  cases o <;> rfl

/-- a list object of the written part -/
def WrL (K : PySem.W.Frag) (a : Addr) (vs : List V) : Prop :=
  ∃ (o : Obj) (its : Array Value) (n : Nat), K.lookup a = some o ∧ o.cls = .type "list" ∧ o.dict = none ∧ o.data = .seq its n ∧ its.size ≤ sizeLine ∧ Vals vs its.toList
def FzL (K : PySem.W.Frag) (H : Hp) (a : Addr) (vs : List V) : Prop := (∃ o, H a = some (.frz o (.lst vs))) ∨ WrL K a vs
theorem FzL.sq {K : PySem.W.Frag} {H : Hp} {a : Addr} {vs : List V} (h : FzL K H a vs) : SqL K H a vs := by
  rcases h with ⟨o, h⟩ | h
  · exact .inl (.inr ⟨o, h⟩)
  · exact .inr h

mutual
inductive Rl (K : PySem.W.Frag) (m : List Addr) (H : Hp) : PV → V → Prop
  | non : Rl K m H .non .non
  | bl (b : Bool) : Rl K m H (.bl b) (.bl b)
  | int (i : Int) : Rl K m H (.int i) (.int i)
  | str (x : Str) : Rl K m H (.str x) (.str x)
  | ty (n : String) : Rl K m H (.ty n) (.ty n)
  | ref (a : Addr) : Rl K m H (.ref a) (.ref a)
  | tup {xs : List PV} {vs : List V} {a : Addr} (h : SqT K H a vs) (r : Rls K m H xs vs) : Rl K m H (.tup xs) (.ref a)
  | fl {xs : List PV} {vs : List V} {a : Addr} (h : FzL K H a vs) (r : Rls K m H xs vs) : Rl K m H (.fl xs) (.ref a)
  | loc {n : Nat} {a : Addr} (h : m[n]? = some a) : Rl K m H (.loc n) (.ref a)
inductive Rls (K : PySem.W.Frag) (m : List Addr) (H : Hp) : List PV → List V → Prop
  | nil : Rls K m H [] []
  | cons {x : PV} {v : V} {xs : List PV} {vs : List V} (h : Rl K m H x v) (r : Rls K m H xs vs) : Rls K m H (x :: xs) (v :: vs)
end

/-- tuples and known things stay -/
def Ext (H H' : Hp) : Prop := (∀ b xs, H b = some (.tup xs) → H' b = some (.tup xs)) ∧ ∀ b o u, H b = some (.frz o u) → H' b = some (.frz o u)
theorem Ext.refl (H : Hp) : Ext H H := ⟨fun _ _ h => h, fun _ _ _ h => h⟩
theorem Ext.trans {H H1 H2 : Hp} (a : Ext H H1) (b : Ext H1 H2) : Ext H H2 := ⟨fun p xs h => b.1 p xs (a.1 p xs h), fun p o u h => b.2 p o u (a.2 p o u h)⟩
theorem Ext.new {H : Hp} {p : Addr} {o : HO} (h : H p = none) : Ext H (upd H p o) :=
  ⟨fun b xs e => by rw [upd_ne (ne_of_none e h)]; exact e, fun b o u e => by rw [upd_ne (ne_of_none e h)]; exact e⟩
/-- what is neither a tuple nor known may be written -/
theorem Ext.write {H : Hp} {p : Addr} {o u : HO} (h : H p = some u) (h1 : ∀ xs, u ≠ .tup xs) (h2 : ∀ ob v, u ≠ .frz ob v) : Ext H (upd H p o) := by
  refine ⟨fun b xs e => ?_, fun b ob v e => ?_⟩
  · rw [upd_ne (ne_of e h fun z => h1 xs z.symm)]; exact e
  · rw [upd_ne (ne_of e h fun z => h2 ob v z.symm)]; exact e
theorem Ext.sqT {K : PySem.W.Frag} {H H' : Hp} {a : Addr} {xs : List V} (e : Ext H H') (h : SqT K H a xs) : SqT K H' a xs := by
  rcases h with (h | ⟨o, h⟩) | h
  · exact .inl (.inl (e.1 _ _ h))
  · exact .inl (.inr ⟨o, e.2 _ _ _ h⟩)
  · exact .inr h
theorem Ext.fz {K : PySem.W.Frag} {H H' : Hp} {a : Addr} {xs : List V} (e : Ext H H') (h : FzL K H a xs) : FzL K H' a xs := by
  rcases h with ⟨o, h⟩ | h
  · exact .inl ⟨o, e.2 _ _ _ h⟩
  · exact .inr h
abbrev Pre (m m' : List Addr) : Prop := ∀ (n : Nat) (a : Addr), m[n]? = some a → m'[n]? = some a
theorem Pre.refl (m : List Addr) : Pre m m := fun _ _ h => h
theorem Pre.trans {m m1 m2 : List Addr} (a : Pre m m1) (b : Pre m1 m2) : Pre m m2 := fun n x h => b n x (a n x h)
theorem Pre.snoc (m : List Addr) (p : Addr) : Pre m (m ++ [p]) := fun n a h => by
  rw [List.getElem?_append_left (List.getElem?_eq_some_iff.mp h).1]; exact h

section
variable {K : PySem.W.Frag} {m m' : List Addr} {H H' : Hp}
mutual
theorem Rl.mono (l : Pre m m') (e : Ext H H') : ∀ {x : PV} {v : V}, Rl K m H x v → Rl K m' H' x v
  | _, _, .non => .non
  | _, _, .bl b => .bl b
  | _, _, .int i => .int i
  | _, _, .str x => .str x
  | _, _, .ty n => .ty n
  | _, _, .ref a => .ref a
  | _, _, .tup h r => .tup (e.sqT h) (Rls.mono l e r)
  | _, _, .fl h r => .fl (e.fz h) (Rls.mono l e r)
  | _, _, .loc h => .loc (l _ _ h)
theorem Rls.mono (l : Pre m m') (e : Ext H H') : ∀ {xs : List PV} {vs : List V}, Rls K m H xs vs → Rls K m' H' xs vs
  | _, _, .nil => .nil
  | _, _, .cons h r => .cons (Rl.mono l e h) (Rls.mono l e r)
end
theorem Rls.length : ∀ {xs : List PV} {vs : List V}, Rls K m H xs vs → xs.length = vs.length
  | _, _, .nil => rfl
  | _, _, .cons _ r => congrArg (· + 1) r.length
theorem Rls.get : ∀ {xs : List PV} {vs : List V} {i : Nat} {x : PV}, Rls K m H xs vs → xs[i]? = some x → ∃ v, vs[i]? = some v ∧ Rl K m H x v
  | _, _, 0, _, .cons h _, e => by cases e; exact ⟨_, rfl, h⟩
  | _, _, i + 1, _, .cons _ r, e => Rls.get (i := i) r e
  | _, _, _, _, .nil, e => by cases e
theorem Rls.get' : ∀ {xs : List PV} {vs : List V} {i : Nat} {v : V}, Rls K m H xs vs → vs[i]? = some v → ∃ x, xs[i]? = some x ∧ Rl K m H x v
  | _, _, 0, _, .cons h _, e => by cases e; exact ⟨_, rfl, h⟩
  | _, _, i + 1, _, .cons _ r, e => Rls.get' (i := i) r e
  | _, _, _, _, .nil, e => by cases e
theorem Rls.append : ∀ {xs ys : List PV} {us vs : List V}, Rls K m H xs us → Rls K m H ys vs → Rls K m H (xs ++ ys) (us ++ vs)
  | _, _, _, _, .nil, s => s
  | _, _, _, _, .cons h r, s => .cons h (Rls.append r s)
theorem Rls.one {x : PV} {v : V} (h : Rl K m H x v) : Rls K m H [x] [v] := .cons h .nil
theorem Rls.take : ∀ {xs : List PV} {vs : List V} (n : Nat), Rls K m H xs vs → Rls K m H (xs.take n) (vs.take n)
  | _, _, 0, _ => .nil
  | _, _, _ + 1, .nil => .nil
  | _, _, n + 1, .cons h r => .cons h (Rls.take n r)
theorem Rls.drop : ∀ {xs : List PV} {vs : List V} (n : Nat), Rls K m H xs vs → Rls K m H (xs.drop n) (vs.drop n)
  | _, _, 0, r => r
  | _, _, _ + 1, .nil => .nil
  | _, _, n + 1, .cons _ r => Rls.drop n r
theorem Rls.set : ∀ {xs : List PV} {vs : List V} (n : Nat) {x : PV} {v : V}, Rl K m H x v → Rls K m H xs vs → Rls K m H (xs.set n x) (vs.set n v)
  | _, _, _, _, _, _, .nil => .nil
  | _, _, 0, _, _, h, .cons _ r => .cons h r
  | _, _, n + 1, _, _, h, .cons g r => .cons g (Rls.set n h r)
theorem Rls.reverse : ∀ {xs : List PV} {vs : List V}, Rls K m H xs vs → Rls K m H xs.reverse vs.reverse
  | _, _, .nil => .nil
  | _, _, .cons h r => by rw [List.reverse_cons, List.reverse_cons]; exact (Rls.reverse r).append (.one h)
theorem Rls.dropLast {xs : List PV} {vs : List V} (r : Rls K m H xs vs) : Rls K m H xs.dropLast vs.dropLast := by
  rw [List.dropLast_eq_take, List.dropLast_eq_take, r.length]; exact r.take _
theorem Rls.erase : ∀ {xs : List PV} {vs : List V} (n : Nat), Rls K m H xs vs → Rls K m H (xs.eraseIdx n) (vs.eraseIdx n)
  | _, _, _, .nil => .nil
  | _, _, 0, .cons _ r => r
  | _, _, n + 1, .cons g r => .cons g (Rls.erase n r)
end

/-- attributes, by name -/
def RF (K : PySem.W.Frag) (m : List Addr) (H : Hp) (fs : List (Str × PV)) (us : List (Str × V)) : Prop := fs.map (·.1) = us.map (·.1) ∧ Rls K m H (fs.map (·.2)) (us.map (·.2))
theorem RF.mono {K : PySem.W.Frag} {m m' : List Addr} {H H' : Hp} {fs : List (Str × PV)} {us : List (Str × V)} (l : Pre m m') (e : Ext H H') (h : RF K m H fs us) : RF K m' H' fs us := ⟨h.1, h.2.mono l e⟩
def RD {κ : Type} (K : PySem.W.Frag) (m : List Addr) (H : Hp) (fs : List (κ × PV)) (us : List (κ × V)) : Prop := fs.map (·.1) = us.map (·.1) ∧ Rls K m H (fs.map (·.2)) (us.map (·.2))
theorem RD.mono {κ : Type} {K : PySem.W.Frag} {m m' : List Addr} {H H' : Hp} {fs : List (κ × PV)} {us : List (κ × V)} (l : Pre m m') (e : Ext H H') (h : RD K m H fs us) : RD K m' H' fs us := ⟨h.1, h.2.mono l e⟩

def RO (K : PySem.W.Frag) (m : List Addr) (H : Hp) (a : Addr) : PO → Prop
  | .lst xs => ∃ vs, H a = some (.lst vs) ∧ Rls K m H xs vs
  | .dk kvs => ∃ us, H a = some (.dK us) ∧ RD K m H kvs us
  | .dt kvs => ∃ us, H a = some (.dT us) ∧ RD K m H kvs us
  | .ins C fs => ∃ dx us, H a = some (.ins C dx us) ∧ RF K m H fs us
  | .xd fs => ∃ us, H a = some (.xd us) ∧ RF K m H fs us
structure RS (K : PySem.W.Frag) (m : List Addr) (S : Store) (H : Hp) : Prop where
  len : m.length = S.length
  inj : ∀ (i j : Nat) (a : Addr), m[i]? = some a → m[j]? = some a → i = j
  at_ : ∀ (i : Nat) (o : PO) (a : Addr), S[i]? = some o → m[i]? = some a → RO K m H a o
section
variable {K : PySem.W.Frag} {m m' : List Addr} {H H' : Hp} {S : Store}
theorem RO.there {a : Addr} {o : PO} (h : RO K m H a o) : ∃ u, H a = some u ∧ (∀ xs, u ≠ .tup xs) ∧ ∀ ob v, u ≠ .frz ob v := by
  cases o with
  | lst xs => obtain ⟨vs, e, _⟩ := h; exact ⟨_, e, (fun _ z => by cases z), (fun _ _ z => by cases z)⟩
  | dk xs => obtain ⟨vs, e, _⟩ := h; exact ⟨_, e, (fun _ z => by cases z), (fun _ _ z => by cases z)⟩
  | dt xs => obtain ⟨vs, e, _⟩ := h; exact ⟨_, e, (fun _ z => by cases z), (fun _ _ z => by cases z)⟩
  | ins C xs => obtain ⟨dx, vs, e, _⟩ := h; exact ⟨_, e, (fun _ z => by cases z), (fun _ _ z => by cases z)⟩
  | xd xs => obtain ⟨vs, e, _⟩ := h; exact ⟨_, e, (fun _ z => by cases z), (fun _ _ z => by cases z)⟩
/-- the relation of an object hangs on its own place, the map and the tuples -/
theorem RO.keep {a : Addr} {o : PO} (l : Pre m m') (e : Ext H H') (q : H' a = H a) (h : RO K m H a o) : RO K m' H' a o := by
  cases o with
  | lst xs => obtain ⟨vs, x, r⟩ := h; exact ⟨vs, q.trans x, r.mono l e⟩
  | dk xs => obtain ⟨vs, x, r⟩ := h; exact ⟨vs, q.trans x, r.mono l e⟩
  | dt xs => obtain ⟨vs, x, r⟩ := h; exact ⟨vs, q.trans x, r.mono l e⟩
  | ins C xs => obtain ⟨dx, vs, x, r⟩ := h; exact ⟨dx, vs, q.trans x, r.mono l e⟩
  | xd xs => obtain ⟨vs, x, r⟩ := h; exact ⟨vs, q.trans x, r.mono l e⟩
theorem RS.get {i : Nat} {o : PO} (r : RS K m S H) (h : S[i]? = some o) : ∃ a, m[i]? = some a ∧ RO K m H a o := by
  have hi : i < m.length := by rw [r.len]; exact (List.getElem?_eq_some_iff.mp h).1
  exact ⟨m[i], List.getElem?_eq_getElem hi, r.at_ i o _ h (List.getElem?_eq_getElem hi)⟩
theorem RS.mem {i : Nat} {a : Addr} (r : RS K m S H) (h : m[i]? = some a) : ∃ o, S[i]? = some o ∧ RO K m H a o := by
  have hi : i < S.length := by rw [← r.len]; exact (List.getElem?_eq_some_iff.mp h).1
  exact ⟨S[i], List.getElem?_eq_getElem hi, r.at_ i _ a (List.getElem?_eq_getElem hi) h⟩
/-- nothing of the store is touched -/
theorem RS.keep (r : RS K m S H) (e : Ext H H') (k : ∀ (i : Nat) (a : Addr), m[i]? = some a → H' a = H a) : RS K m S H' :=
  ⟨r.len, r.inj, fun i o a h1 h2 => (r.at_ i o a h1 h2).keep (.refl m) e (k i a h2)⟩
theorem RS.tup (r : RS K m S H) {p : Addr} {u : HO} (h : H p = none) : RS K m S (upd H p u) :=
  r.keep (.new h) fun i a q => by
    obtain ⟨o, _, ro⟩ := r.mem q
    obtain ⟨u, e, _⟩ := ro.there
    exact upd_ne (ne_of_none e h)
/-- a new object -/
theorem RS.alloc (r : RS K m S H) {p : Addr} {u : HO} {o : PO} (h : H p = none) (ro : RO K (m ++ [p]) (upd H p u) p o) : RS K (m ++ [p]) (S ++ [o]) (upd H p u) := by
  have nm : ∀ (i : Nat) (a : Addr), m[i]? = some a → a ≠ p := fun i a q => by
    obtain ⟨o, _, ro⟩ := r.mem q
    obtain ⟨u, e, _⟩ := ro.there
    exact ne_of_none e h
  have cs : ∀ (i : Nat) (a : Addr), (m ++ [p])[i]? = some a → m[i]? = some a ∨ (i = m.length ∧ a = p) := fun i a q => by
    by_cases hi : i < m.length
    · rw [List.getElem?_append_left hi] at q; exact .inl q
    · rw [List.getElem?_append_right (Nat.le_of_not_lt hi)] at q
      have hi2 := (List.getElem?_eq_some_iff.mp q).1
      simp at hi2
      have e : i = m.length := by omega
      subst e
      simp at q
      exact .inr ⟨rfl, q.symm⟩
  refine ⟨by simp [r.len], fun i j a q1 q2 => ?_, fun i ob a q1 q2 => ?_⟩
  · rcases cs i a q1 with c1 | ⟨c1, c1'⟩ <;> rcases cs j a q2 with c2 | ⟨c2, c2'⟩
    · exact r.inj i j a c1 c2
    · exact absurd c2' (nm i a c1)
    · exact absurd c1' (nm j a c2)
    · rw [c1, c2]
  · rcases cs i a q2 with c | ⟨c, c'⟩
    · have hi : i < S.length := by rw [← r.len]; exact (List.getElem?_eq_some_iff.mp c).1
      rw [List.getElem?_append_left hi] at q1
      exact (r.at_ i ob a q1 c).keep (.snoc m p) (.new h) (upd_ne (nm i a c))
    · subst c; subst c'
      rw [r.len, List.getElem?_append_right (Nat.le_refl _)] at q1
      simp at q1
      subst q1
      exact ro
/-- an object is written -/
theorem RS.write (r : RS K m S H) {i : Nat} {a : Addr} {u : HO} {o o' : PO} (h : S[i]? = some o) (h2 : m[i]? = some a) (e : Ext H (upd H a u)) (ro : RO K m (upd H a u) a o') : RS K m (S.set i o') (upd H a u) := by
  refine ⟨by simp [r.len], r.inj, fun j ob b q1 q2 => ?_⟩
  by_cases hj : j = i
  · subst hj
    rw [h2] at q2; cases q2
    rw [List.getElem?_set_self (List.getElem?_eq_some_iff.mp h).1] at q1
    cases q1
    exact ro
  · rw [List.getElem?_set_ne (Ne.symm hj)] at q1
    exact (r.at_ j ob b q1 q2).keep (.refl m) e (upd_ne fun z => hj (r.inj j i b q2 (z ▸ h2)))
end

/-! ### slots -/
abbrev En := List (Option PV)
def RE (K : PySem.W.Frag) (m : List Addr) (H : Hp) (τ : En) (σ : L2.St) : Prop := τ.length = σ.length ∧ ∀ (i : Nat) (x : PV), τ[i]? = some (some x) → ∃ v, σ[i]? = some (some v) ∧ Rl K m H x v
section
variable {K : PySem.W.Frag} {m m' : List Addr} {H H' : Hp} {τ : En} {σ : L2.St}
theorem RE.mono (l : Pre m m') (e : Ext H H') (h : RE K m H τ σ) : RE K m' H' τ σ := ⟨h.1, fun i x q => let ⟨v, a, b⟩ := h.2 i x q; ⟨v, a, b.mono l e⟩⟩
theorem RE.set (h : RE K m H τ σ) (i : Nat) {x : PV} {v : V} (r : Rl K m H x v) : RE K m H (τ.set i (some x)) (σ.set i (some v)) := by
  refine ⟨by simp [h.1], fun j y q => ?_⟩
  by_cases hj : j = i
  · subst hj
    have hi : j < τ.length := by
      have := (List.getElem?_eq_some_iff.mp q).1
      simpa using this
    rw [List.getElem?_set_self hi] at q
    cases q
    exact ⟨v, List.getElem?_set_self (h.1 ▸ hi), r⟩
  · rw [List.getElem?_set_ne (Ne.symm hj)] at q
    rw [List.getElem?_set_ne (Ne.symm hj)]
    exact h.2 j y q
def startP (n : Nat) (xs : List PV) : En := xs.map some ++ List.replicate (n - xs.length) none
theorem RE.start {N : List Str} {xs : List PV} {vs : List V} (r : Rls K m H xs vs) : RE K m H (startP N.length xs) (L2.start N vs) := by
  have hl := r.length
  refine ⟨by unfold startP L2.start; simp [hl], fun i x q => ?_⟩
  unfold startP at q
  unfold L2.start
  by_cases hi : i < xs.length
  · rw [List.getElem?_append_left (by simpa using hi), List.getElem?_map] at q
    cases e : xs[i]? with
    | none => rw [e] at q; cases q
    | some y =>
      rw [e] at q
      cases q
      obtain ⟨v, h1, h2⟩ := r.get e
      exact ⟨v, by rw [List.getElem?_append_left (by simpa [← hl] using hi), List.getElem?_map, h1]; rfl, h2⟩
  · rw [List.getElem?_append_right (by simpa using Nat.le_of_not_lt hi)] at q
    exact absurd (List.mem_replicate.mp (List.mem_of_getElem? q)).2 (by simp)
def wipeP (τ : En) : List Nat → En
  | [] => τ
  | i :: r => (wipeP τ r).set i none
theorem RE.wipe1 (h : RE K m H τ σ) (i : Nat) : RE K m H (τ.set i none) (σ.set i none) := by
  refine ⟨by simp [h.1], fun j y q => ?_⟩
  by_cases hj : j = i
  · subst hj
    have hi : j < τ.length := by
      have := (List.getElem?_eq_some_iff.mp q).1
      simpa using this
    rw [List.getElem?_set_self hi] at q
    cases q
  · rw [List.getElem?_set_ne (Ne.symm hj)] at q
    rw [List.getElem?_set_ne (Ne.symm hj)]
    exact h.2 j y q
end

theorem RE.wipe {K : PySem.W.Frag} {m : List Addr} {H : Hp} {τ : En} {σ : L2.St} (h : RE K m H τ σ) : ∀ vs : List Nat, RE K m H (wipeP τ vs) (L2.wipe σ vs)
  | [] => h
  | v :: vs => (RE.wipe h vs).wipe1 v

/-! ### outcomes and readings -/
def Fin {α β : Type} (K : PySem.W.Frag) (R : List Addr → Hp → α → β → Prop) (E : XK) (m : List Addr) (H : Hp) (Q : β → Hp → Prop) : Out α → Prop
  | .ok a S => ∀ m' H' b, Pre m m' → Ext H H' → RS K m' S H' → R m' H' a b → Q b H'
  | .exc C fs S => ∀ m' H' d us, Pre m m' → Ext H H' → RS K m' S H' → H' d = some (.xd us) → RF K m' H' fs us → E (.ref C) (some d) H'
  | .bad => False
section
variable {α β γ δ : Type} {K : PySem.W.Frag} {m m' : List Addr} {H H' : Hp} {E : XK} {R : List Addr → Hp → α → β → Prop} {R' : List Addr → Hp → γ → δ → Prop} {Q Q1 : β → Hp → Prop} {Q' : δ → Hp → Prop} {o : Out α} {k : α → Store → Out γ} {S : Store}
theorem Fin.base (l : Pre m m') (e : Ext H H') (h : Fin K R E m H Q o) : Fin K R E m' H' Q o := by
  cases o with
  | ok a S => exact fun m1 H1 b l1 e1 => h m1 H1 b (l.trans l1) (e.trans e1)
  | exc C fs S => exact fun m1 H1 d us l1 e1 => h m1 H1 d us (l.trans l1) (e.trans e1)
  | bad => exact h
theorem Fin.imp (h : Fin K R E m H Q o) (i : ∀ b H', Q b H' → Q1 b H') : Fin K R E m H Q1 o := by
  cases o with
  | ok a S => exact fun m1 H1 b l1 e1 r x => i _ _ (h m1 H1 b l1 e1 r x)
  | exc C fs S => exact h
  | bad => exact h
theorem Fin.bind (h : Fin K R' E m H Q' (o.bind k)) (i : ∀ m1 H1 S1 a b, Pre m m1 → Ext H H1 → RS K m1 S1 H1 → R m1 H1 a b → Fin K R' E m1 H1 Q' (k a S1) → Q b H1) : Fin K R E m H Q o := by
  cases o with
  | ok a S => exact fun m1 H1 b l1 e1 r x => i m1 H1 S a b l1 e1 r x (Fin.base l1 e1 (show Fin K R' E m H Q' (k a S) from h))
  | exc C fs S => exact h
  | bad => exact h
/-- at an end that is reached now -/
theorem Fin.now {a : α} {b : β} (h : Fin K R E m H Q (.ok a S)) (r : RS K m S H) (x : R m H a b) : Q b H := h m H b (.refl m) (.refl H) r x
end
abbrev SE := En → Store → Out PV
abbrev SB := En → Store → Out Bool
abbrev SA := En → Store → Out (List PV)
abbrev SO := En → Store → Out (Option Int)
def tE (K : PySem.W.Frag) (E : XK) (f : SE) : TE := fun σ H Q => ∃ m S τ, RS K m S H ∧ RE K m H τ σ ∧ Fin K (Rl K) E m H Q (f τ S)
def tT (K : PySem.W.Frag) (E : XK) (f : SB) : TT := fun σ H Q => ∃ m S τ, RS K m S H ∧ RE K m H τ σ ∧ Fin K (fun _ _ a b => a = b) E m H Q (f τ S)
def tA (K : PySem.W.Frag) (E : XK) (f : SA) : TA := fun σ H Q => ∃ m S τ, RS K m S H ∧ RE K m H τ σ ∧ Fin K (Rls K) E m H Q (f τ S)
def tO (K : PySem.W.Frag) (E : XK) (f : SO) : TO := fun σ H Q => ∃ m S τ, RS K m S H ∧ RE K m H τ σ ∧ Fin K (fun _ _ a b => a = b) E m H Q (f τ S)
inductive Fl where | nx (τ : En) | rt (v : PV) | bk (τ : En) | ct (τ : En)
inductive FV where | nx (σ : L2.St) | rt (v : V) | bk (σ : L2.St) | ct (σ : L2.St)
def RFl (K : PySem.W.Frag) (m : List Addr) (H : Hp) : Fl → FV → Prop
  | .nx τ, .nx σ => RE K m H τ σ
  | .rt x, .rt v => Rl K m H x v
  | .bk τ, .bk σ => RE K m H τ σ
  | .ct τ, .ct σ => RE K m H τ σ
  | _, _ => False
def qD (D : Ends) : FV → Hp → Prop
  | .nx σ, H => D.nx σ H
  | .rt v, H => D.rt v H
  | .bk σ, H => D.bk σ H
  | .ct σ, H => D.ct σ H
abbrev SS := En → Store → Out Fl
def tS (K : PySem.W.Frag) (E : XK) (f : SS) : TS := fun D σ H => ∃ m S τ, RS K m S H ∧ RE K m H τ σ ∧ Fin K (RFl K) E m H (qD D) (f τ S)
theorem peI {X : Cx} {e : Expr} {t t' : TE} (h : PE X e t) (i : ∀ σ H Q, t' σ H Q → t σ H Q) : PE X e t' := ⟨fun pins s σ H Q I w => h.run pins s σ H Q I (i _ _ _ w)⟩
theorem ptI {X : Cx} {e : Expr} {t t' : TT} (h : PT X e t) (i : ∀ σ H Q, t' σ H Q → t σ H Q) : PT X e t' := ⟨fun pins s σ H Q I w => h.run pins s σ H Q I (i _ _ _ w)⟩
theorem pwI {X : Cx} {e : Expr} {t t' : TT} (h : PW X e t) (i : ∀ σ H Q, t' σ H Q → t σ H Q) : PW X e t' := ⟨fun wh pins s σ H Q I w => h.run wh pins s σ H Q I (i _ _ _ w)⟩
theorem paI {X : Cx} {es : List Expr} {t t' : TA} (h : PA X es t) (i : ∀ σ H Q, t' σ H Q → t σ H Q) : PA X es t' := ⟨fun pos pins s σ H Q I w => h.run pos pins s σ H Q I (i _ _ _ w)⟩
theorem psI {X : Cx} {st : Stmt} {t t' : TS} (h : PS X st t) (i : ∀ D σ H, t' D σ H → t D σ H) : PS X st t' := ⟨fun pins s σ H D I w => h.run pins s σ H D I (i _ _ _ w)⟩
theorem pssI {X : Cx} {st : List Stmt} {t t' : TS} (h : PSs X st t) (i : ∀ D σ H, t' D σ H → t D σ H) : PSs X st t' := ⟨fun pins s σ H D I w => h.run pins s σ H D I (i _ _ _ w)⟩
end G

/-! G, part C: expressions. -/
namespace G
open PySem PySem.Spec PyProof.Rows L2

/-- the greatest length that is made here -/
abbrev LN : Nat := 1000000
theorem ln_ok {n : Nat} (h : n ≤ LN) : n ≤ sizeLine := Nat.le_trans h (by decide)
theorem ln_lt {n : Nat} (h : n ≤ LN) : n < sizeLine := Nat.lt_of_le_of_lt h (by decide)
def newL (xs : List PV) (S : Store) : Out PV := if xs.length ≤ LN then .ok (.loc S.length) (S ++ [.lst xs]) else .bad

section
variable {K : PySem.W.Frag} {m : List Addr} {H : Hp} {S : Store} {E : XK} {Q : VK}
theorem RS.snoc_get (r : RS K m S H) (p : Addr) : (m ++ [p])[S.length]? = some p := by rw [← r.len]; simp
theorem fin_newL {xs : List PV} {vs : List V} (r : RS K m S H) (rx : Rls K m H xs vs) (h : Fin K (Rl K) E m H Q (newL xs S)) : vs.length ≤ sizeLine ∧ ∀ p, H p = none → Q (.ref p) (upd H p (.lst vs)) := by
  unfold newL at h
  split at h
  · rename_i hl
    refine ⟨ln_ok (rx.length ▸ hl), fun p hp => ?_⟩
    exact h (m ++ [p]) _ _ (.snoc m p) (.new hp) (r.alloc hp ⟨vs, upd_same, rx.mono (.snoc m p) (.new hp)⟩) (.loc (r.snoc_get p))
  · exact h.elim
theorem fin_tup {xs : List PV} {vs : List V} (r : RS K m S H) (rx : Rls K m H xs vs) (h : Fin K (Rl K) E m H Q (.ok (.tup xs) S)) {p : Addr} (hp : H p = none) : Q (.ref p) (upd H p (.tup vs)) :=
  h m _ _ (.refl m) (.new hp) (r.tup hp) (.tup (.inl (.inl upd_same)) (rx.mono (.refl m) (.new hp)))
theorem fin_val {x : PV} {v : V} (r : RS K m S H) (rx : Rl K m H x v) (h : Fin K (Rl K) E m H Q (.ok x S)) : Q v H := h.now r rx
theorem RS.lst {n : Nat} {a : Addr} {xs : List PV} (r : RS K m S H) (h : S[n]? = some (.lst xs)) (ha : m[n]? = some a) : ∃ vs, H a = some (.lst vs) ∧ Rls K m H xs vs := r.at_ n _ a h ha
end

/-! ### what is in a sequence -/
def seqP (S : Store) : PV → Option (List PV)
  | .tup xs => some xs
  | .fl xs => some xs
  | .loc n => match S[n]? with
    | some (.lst xs) => some xs
    | _ => none
  | _ => none
section
variable {K : PySem.W.Frag} {m : List Addr} {H : Hp} {S : Store}
theorem RS.seq {x : PV} {v : V} {xs : List PV} (r : RS K m S H) (rx : Rl K m H x v) (h : seqP S x = some xs) : ∃ a vs, v = .ref a ∧ (SqL K H a vs ∨ SqT K H a vs) ∧ Rls K m H xs vs := by
  cases rx with
  | tup ht rs => cases h; exact ⟨_, _, rfl, .inr ht, rs⟩
  | fl ht rs => cases h; exact ⟨_, _, rfl, .inl ht.sq, rs⟩
  | @loc n a hn =>
    have h' : (match S[n]? with | some (.lst xs) => some xs | _ => none) = some xs := h
    split at h'
    · rename_i xs' e
      cases h'
      obtain ⟨vs, h1, h2⟩ := r.lst e hn
      exact ⟨a, vs, rfl, .inl (SqL.of h1), h2⟩
    · cases h'
  | _ => cases h
end

/-! ### values as data -/
def dAll (f : PV → Option PyData) : List PV → Option (List PyData)
  | [] => some []
  | x :: xs => match f x, dAll f xs with
    | some d, some ds => some (d :: ds)
    | _, _ => none
def dOf (S : Store) : Nat → PV → Option PyData
  | 0, _ => none
  | _ + 1, .non => some .none
  | _ + 1, .bl b => some (.bool b)
  | _ + 1, .int i => some (.int i)
  | _ + 1, .str x => some (.str x)
  | n + 1, .tup xs => (dAll (dOf S n) xs).map .tuple
  | n + 1, .fl xs => (dAll (dOf S n) xs).map .list
  | n + 1, .loc l => match S[l]? with
    | some (.lst xs) => (dAll (dOf S n) xs).map .list
    | _ => none
  | _, _ => none
section
variable {K : PySem.W.Frag} {m : List Addr} {H : Hp} {S : Store}
theorem dp_all {n : Nat} (f : ∀ x v d, Rl K m H x v → dOf S n x = some d → Dp K H v d) : ∀ {xs : List PV} {vs : List V} {ds : List PyData}, Rls K m H xs vs → dAll (dOf S n) xs = some ds → DpAll K H vs ds
  | _, _, _, .nil, h => by cases h; exact .nil
  | _, _, _, .cons (x := x) (xs := xs) h r, e => by
    unfold dAll at e
    split at e
    · rename_i d ds e1 e2
      cases e
      exact .cons (f _ _ _ h e1) (dp_all f r e2)
    · cases e
theorem dp_of (r : RS K m S H) : ∀ (n : Nat) (x : PV) (v : V) (d : PyData), Rl K m H x v → dOf S n x = some d → Dp K H v d := by
  intro n
  induction n with
  | zero => intro x v d _ e; cases e
  | succ n ih =>
    intro x v d rx e
    cases rx with
    | non => cases e; exact .non
    | bl b => cases e; exact .bl b
    | int i => cases e; exact .int i
    | str x => cases e; exact .str x
    | ty n => cases e
    | ref a => cases e
    | @tup xs vs a ht rs =>
      have e' : (dAll (dOf S n) xs).map PyData.tuple = some d := e
      cases q : dAll (dOf S n) xs with
      | none => rw [q] at e'; cases e'
      | some ds => rw [q] at e'; cases e'; exact .tup ht (dp_all ih rs q)
    | @fl xs vs a ht rs =>
      have e' : (dAll (dOf S n) xs).map PyData.list = some d := e
      cases q : dAll (dOf S n) xs with
      | none => rw [q] at e'; cases e'
      | some ds => rw [q] at e'; cases e'; exact .lst ht.sq (dp_all ih rs q)
    | @loc l a hl =>
      have e' : (match S[l]? with | some (.lst xs) => (dAll (dOf S n) xs).map PyData.list | _ => none) = some d := e
      split at e'
      · rename_i xs q0
        obtain ⟨vs, h1, rs⟩ := r.lst q0 hl
        cases q : dAll (dOf S n) xs with
        | none => rw [q] at e'; cases e'
        | some ds => rw [q] at e'; cases e'; exact .lst (SqL.of h1) (dp_all ih rs q)
      · cases e'
end

/-! ### rules by values -/
def r1 (K : PySem.W.Frag) (E : XK) (g : PV → Store → Out PV) : V → Hp → VK → Prop := fun v H Q => ∃ m S x, RS K m S H ∧ Rl K m H x v ∧ Fin K (Rl K) E m H Q (g x S)
def r2 (K : PySem.W.Frag) (E : XK) (g : PV → PV → Store → Out PV) : R2 := fun v u H Q => ∃ m S x y, RS K m S H ∧ Rl K m H x v ∧ Rl K m H y u ∧ Fin K (Rl K) E m H Q (g x y S)
def rL (K : PySem.W.Frag) (E : XK) (g : List PV → Store → Out PV) : List V → Hp → VK → Prop := fun vs H Q => ∃ m S xs, RS K m S H ∧ Rls K m H xs vs ∧ Fin K (Rl K) E m H Q (g xs S)
def rM (K : PySem.W.Frag) (E : XK) (g : PV → List PV → Store → Out PV) : V → List V → Hp → VK → Prop := fun v vs H Q => ∃ m S x xs, RS K m S H ∧ Rl K m H x v ∧ Rls K m H xs vs ∧ Fin K (Rl K) E m H Q (g x xs S)

def eVar (i : Nat) : SE := fun τ S => match τ[i]? with
  | some (some x) => .ok x S
  | _ => .bad
def eC (x : PV) : SE := fun _ S => .ok x S
def eUn (g : PV → Store → Out PV) (f : SE) : SE := fun τ S => (f τ S).bind g
def eBin (g : PV → PV → Store → Out PV) (f f' : SE) : SE := fun τ S => (f τ S).bind fun x S1 => (f' τ S1).bind fun y S2 => g x y S2
def aNil : SA := fun _ S => .ok [] S
def aCons (f : SE) (fs : SA) : SA := fun τ S => (f τ S).bind fun x S1 => (fs τ S1).bind fun xs S2 => .ok (x :: xs) S2
def eArg (g : List PV → Store → Out PV) (fs : SA) : SE := fun τ S => (fs τ S).bind g
def eMt (g : PV → List PV → Store → Out PV) (f : SE) (fs : SA) : SE := fun τ S => (f τ S).bind fun x S1 => (fs τ S1).bind fun xs S2 => g x xs S2
def newT (xs : List PV) (S : Store) : Out PV := if xs.length ≤ LN then .ok (.tup xs) S else .bad
def eTup (fs : SA) : SE := fun τ S => (fs τ S).bind newT
def eLst (fs : SA) : SE := fun τ S => (fs τ S).bind newL

section
variable {X : Cx} {e a b : Expr} {es : List Expr} {E : XK} {f f' : SE} {fs : SA} {pos : Pos} {g : PV → PV → Store → Out PV} {g1 : PV → Store → Out PV} {gl : List PV → Store → Out PV} {gm : PV → List PV → Store → Out PV}
theorem g_var {i : Nat} (h : PE X e (tVar i)) : PE X e (tE X.K E (eVar i)) := peI h fun σ H Q ⟨m, S, τ, rs, re, fin⟩ => by
  unfold eVar at fin
  split at fin
  · rename_i x q
    obtain ⟨v, h1, h2⟩ := re.2 i x q
    exact ⟨v, h1, fin.now rs h2⟩
  · exact fin.elim
theorem g_c {v : V} {x : PV} (h : PE X e (tC v)) (r : ∀ m H, Rl X.K m H x v) : PE X e (tE X.K E (eC x)) := peI h fun σ H Q ⟨m, S, τ, rs, re, fin⟩ => fin.now rs (r m H)
theorem g_int {i : Int} {j pos} : PE X (.Constant (.int i) j pos) (tE X.K E (eC (.int i))) := g_c pe_int fun _ _ => .int i
theorem g_bl {i : Bool} {j pos} : PE X (.Constant (.bool i) j pos) (tE X.K E (eC (.bl i))) := g_c pe_bl fun _ _ => .bl i
theorem g_str {i : Str} {j pos} : PE X (.Constant (.str i) j pos) (tE X.K E (eC (.str i))) := g_c pe_str fun _ _ => .str i
theorem g_non {j pos} : PE X (.Constant .none j pos) (tE X.K E (eC .non)) := g_c pe_non fun _ _ => .non
theorem g_un {op : UnaryOp} (ho : UnR X (unaryOp op) (r1 X.K E g1)) (ha : PE X a (tE X.K E f)) : PE X (.UnaryOp op a pos) (tE X.K E (eUn g1 f)) := peI (pe_un ho ha) fun σ H Q ⟨m, S, τ, rs, re, fin⟩ =>
  ⟨m, S, τ, rs, re, Fin.bind fin fun m1 H1 S1 x v l e rs1 rx fin1 => ⟨m1, S1, x, rs1, rx, fin1⟩⟩
theorem binI {t : TE} {r : R2} (i : ∀ σ H Q, tOp r (tE X.K E f) (tE X.K E f') σ H Q → t σ H Q) (hr : ∀ x y H Q, r2 X.K E g x y H Q → r x y H Q) : ∀ σ H Q, tE X.K E (eBin g f f') σ H Q → t σ H Q := fun σ H Q ⟨m, S, τ, rs, re, fin⟩ => i σ H Q
  ⟨m, S, τ, rs, re, Fin.bind fin fun m1 H1 S1 x v l e rs1 rx fin1 => ⟨m1, S1, τ, rs1, re.mono l e, Fin.bind fin1 fun m2 H2 S2 y u l2 e2 rs2 ry fin2 => hr _ _ _ _ ⟨m2, S2, x, y, rs2, rx.mono l2 e2, ry, fin2⟩⟩⟩
theorem g_op {op : Operator} (ho : OpR X (binaryOp op) (r2 X.K E g)) (ha : PE X a (tE X.K E f)) (hb : PE X b (tE X.K E f')) : PE X (.BinOp a op b pos) (tE X.K E (eBin g f f')) :=
  peI (pe_op ho ha hb) (binI (fun _ _ _ h => h) fun _ _ _ _ h => h)
theorem g_cmp {op : CmpOp} (ho : OpR X (compareOp op) (r2 X.K E g)) (ha : PE X a (tE X.K E f)) (hb : PE X b (tE X.K E f')) (hm : behindInMarks op b = false) : PE X (.Compare a [op] [b] pos) (tE X.K E (eBin g f f')) :=
  peI (pe_cmpR ho ha hb hm) (binI (fun _ _ _ h => h) fun _ _ _ _ h => h)
theorem ga_nil : PA X [] (tA X.K E aNil) := paI pa_nil fun σ H Q ⟨m, S, τ, rs, re, fin⟩ => fin.now rs .nil
theorem ga_cons (ha : PE X a (tE X.K E f)) (hr : PA X es (tA X.K E fs)) (hs : starEach (a :: es) X.env = (false, eval a X.env) :: starEach es X.env := by rfl) : PA X (a :: es) (tA X.K E (aCons f fs)) :=
  paI (pa_cons ha hr hs) fun σ H Q ⟨m, S, τ, rs, re, fin⟩ =>
  ⟨m, S, τ, rs, re, Fin.bind fin fun m1 H1 S1 x v l e rs1 rx fin1 => ⟨m1, S1, τ, rs1, re.mono l e, Fin.bind fin1 fun m2 H2 S2 xs vs l2 e2 rs2 rxs fin2 => fin2.now rs2 (.cons (rx.mono l2 e2) rxs)⟩⟩
theorem argI {t : TE} {r : List V → Hp → VK → Prop} (i : ∀ σ H Q, tA X.K E fs σ H (fun vs H1 => r vs H1 Q) → t σ H Q) (hr : ∀ vs H Q, rL X.K E gl vs H Q → r vs H Q) : ∀ σ H Q, tE X.K E (eArg gl fs) σ H Q → t σ H Q := fun σ H Q ⟨m, S, τ, rs, re, fin⟩ =>
  i σ H Q ⟨m, S, τ, rs, re, Fin.bind fin fun m1 H1 S1 xs vs l e rs1 rx fin1 => hr _ _ _ ⟨m1, S1, xs, rs1, rx, fin1⟩⟩
theorem g_tup {k} (h : PA X es (tA X.K E fs)) : PE X (.Tuple es k pos) (tE X.K E (eTup fs)) := peI (pe_tup h) (argI (fun _ _ _ h => h) fun vs H Q ⟨m, S, xs, rs, rx, fin⟩ => by
  unfold newT at fin
  split at fin
  · rename_i hl
    exact ⟨ln_ok (rx.length ▸ hl), fun p hp => fin_tup rs rx fin hp⟩
  · exact fin.elim)
theorem g_lst (h : PA X es (tA X.K E fs)) : PE X (.List es pos) (tE X.K E (eLst fs)) := peI (pe_lst h) (argI (fun _ _ _ h => h) fun vs H Q ⟨m, S, xs, rs, rx, fin⟩ => fin_newL rs rx fin)
theorem g_callB {x : Str} {p : Pos} {id : String} (hc : CallR X (.builtin id) (rL X.K E gl)) (hg : Gl X x) (hm : X.mg x = none) (hv : bootBuiltins x = some (.builtin id)) (ha : PA X (a :: es) (tA X.K E fs)) (hn : x ≠ "__name__" := by decide) (hdb : (x == ("__debug__" : Str)) = false := by decide)
    (he : starEach (a :: es) X.env = (false, eval a X.env) :: starEach es X.env := by rfl) (hpl : (backTo pos (starEach es X.env)).any (·.1) = false := by rfl) : PE X (.Call (.Name x p) (a :: es) [] pos) (tE X.K E (eArg gl fs)) :=
  peI (pe_callB hc hg hm hv ha hn hdb he hpl) (argI (fun _ _ _ h => h) fun _ _ _ h => h)
theorem g_callTy {x : Str} {p : Pos} {T : String} (hc : CallR X (.type T) (rL X.K E gl)) (hg : Gl X x) (hm : X.mg x = none) (hv : bootBuiltins x = some (.type T)) (ha : PA X (a :: es) (tA X.K E fs)) (hn : x ≠ "__name__" := by decide) (hdb : (x == ("__debug__" : Str)) = false := by decide)
    (he : starEach (a :: es) X.env = (false, eval a X.env) :: starEach es X.env := by rfl) (hpl : (backTo pos (starEach es X.env)).any (·.1) = false := by rfl) : PE X (.Call (.Name x p) (a :: es) [] pos) (tE X.K E (eArg gl fs)) :=
  peI (pe_callTy hc hg hm hv ha hn hdb he hpl) (argI (fun _ _ _ h => h) fun _ _ _ h => h)
end

/-! ### calls of defs -/
def spF (K : PySem.W.Frag) (n : Nat) (F : List PV → Store → Out PV) : Sp := fun vs H Q E => vs.length = n ∧ ∃ m S xs, RS K m S H ∧ Rls K m H xs vs ∧ Fin K (Rl K) E m H Q (F xs S)
/-- a call with n arguments; ds: the defaults that fill up -/
def callF (n : Nat) (F : List PV → Store → Out PV) (ds : List PV) (xs : List PV) (S : Store) : Out PV := if (xs ++ ds).length = n then F (xs ++ ds) S else .bad
def eCall (n : Nat) (F : List PV → Store → Out PV) (ds : List PV) (fs : SA) : SE := fun τ S => (fs τ S).bind (callF n F ds)
section
variable {X : Cx} {e a b : Expr} {es : List Expr} {E : XK} {fs : SA} {pos p : Pos} {k n : Nat} {f : Addr} {fd : FuncData} {ps : List Str} {F : List PV → Store → Out PV} {x : Str} {T : CXT} {ds : List Value} {dvs : List V} {dps : List PV}
theorem g_call (FG : FnG X.prog X.w X.K X.mg X.base T k f fd ps (spF X.K n F)) (hr : Room k X.A) (hA : X.A.guards = some []) (hg : Gl X x) (hm : X.mg x = some (.ref f)) (hk : PySem.W.keepIn X.K (.ref f) = true)
    (hb : Binds X.K fd ps ds) (hd : Vals dvs ds) (rd : ∀ m H, Rls X.K m H dps dvs) (hx : Passes T X E) (ha : PA X (a :: es) (tA X.K E fs))
    (hdb : (x == ("__debug__" : Str)) = false := by decide) (he : starEach (a :: es) X.env = (false, eval a X.env) :: starEach es X.env := by rfl) (hpl : (backTo pos (starEach es X.env)).any (·.1) = false := by rfl) :
    PE X (.Call (.Name x p) (a :: es) [] pos) (tE X.K E (eCall n F dps fs)) :=
  peI (peG_call FG hr hA hg hm hk hb hd hx ha hdb he hpl) (argI (r := fun vs H Q => spF X.K n F (vs ++ dvs) H Q E) (fun _ _ _ h => h) fun vs H Q ⟨m, S, xs, rs, rx, fin⟩ => by
    unfold callF at fin
    split at fin
    · rename_i hl
      have rr := rx.append (rd m H)
      exact ⟨rr.length ▸ hl, m, S, _, rs, rr, fin⟩
    · exact fin.elim)
def eCall0 (n : Nat) (F : List PV → Store → Out PV) (ds : List PV) : SE := fun _ S => callF n F ds [] S
theorem g_call0 (FG : FnG X.prog X.w X.K X.mg X.base T k f fd ps (spF X.K n F)) (hr : Room k X.A) (hA : X.A.guards = some []) (hg : Gl X x) (hm : X.mg x = some (.ref f)) (hk : PySem.W.keepIn X.K (.ref f) = true)
    (hb : Binds X.K fd ps ds) (hd : Vals dvs ds) (rd : ∀ m H, Rls X.K m H dps dvs) (hx : Passes T X E) (hdb : (x == ("__debug__" : Str)) = false := by decide) : PE X (.Call (.Name x p) [] [] pos) (tE X.K E (eCall0 n F dps)) :=
  peI (peG_call0 FG hr hA hg hm hk hb hd hx hdb) fun σ H Q ⟨m, S, τ, rs, re, fin⟩ => by
    unfold eCall0 callF at fin
    rw [List.nil_append] at fin
    split at fin
    · rename_i hl
      exact ⟨(rd m H).length ▸ hl, m, S, _, rs, rd m H, fin⟩
    · exact fin.elim
end
end G

/-! G, part D: operations by values. -/
namespace G
open PySem PySem.Spec PyProof.Rows L2

/-! ### arithmetic -/
def vAdd (x y : PV) (S : Store) : Out PV := match x, y with
  | .int i, .int j => .ok (.int (i + j)) S
  | .int i, .bl k => .ok (.int (i + b2i k)) S
  | .str a, .str b => if a.length + b.length ≤ LN then .ok (.str (a ++ b)) S else .bad
  | .tup xs, .tup ys => if xs.length + ys.length ≤ LN then .ok (.tup (xs ++ ys)) S else .bad
  | .loc i, .loc j => match S[i]?, S[j]? with
    | some (.lst xs), some (.lst ys) => newL (xs ++ ys) S
    | _, _ => .bad
  | _, _ => .bad
def vSub (x y : PV) (S : Store) : Out PV := match x, y with
  | .int i, .int j => .ok (.int (i - j)) S
  | _, _ => .bad
def mulOk (i j : Int) : Bool := decide ((-(2 ^ 64) < i ∧ i < 2 ^ 64) ∨ (-(2 ^ 64) < j ∧ j < 2 ^ 64))
theorem mulOk_ok {i j : Int} (h : mulOk i j = true) : CMul i j := of_decide_eq_true (p := (-(2 ^ 64) < i ∧ i < 2 ^ 64) ∨ (-(2 ^ 64) < j ∧ j < 2 ^ 64)) h
def vMul (x y : PV) (S : Store) : Out PV := match x, y with
  | .int i, .int j => if mulOk i j then .ok (.int (i * j)) S else .bad
  | .str a, .int j => if j ≤ 100000 ∧ -100000 ≤ j ∧ a.length * j.toNat ≤ LN then .ok (.str (Txt.mul a j)) S else .bad
  | _, _ => .bad
def vDiv (x y : PV) (S : Store) : Out PV := match x, y with
  | .int i, .int j => if j ≠ 0 ∧ -1073741824 < j ∧ j < 1073741824 then .ok (.int (i.fdiv j)) S else .bad
  | _, _ => .bad
def vMod (x y : PV) (S : Store) : Out PV := match x, y with
  | .int i, .int j => if j ≠ 0 then .ok (.int (i.fmod j)) S else .bad
  | _, _ => .bad
def vPow (x y : PV) (S : Store) : Out PV := match x, y with
  | .int i, .int j => if 0 ≤ j ∧ j ≤ 1000 ∧ -340282366920938463463374607431768211456 < i ∧ i < 340282366920938463463374607431768211456 then .ok (.int (i ^ j.toNat)) S else .bad
  | _, _ => .bad
def vNeg (x : PV) (S : Store) : Out PV := match x with
  | .int i => .ok (.int (-i)) S
  | _ => .bad
section
variable {X : Cx} {E : XK}
theorem o_add : OpR X (binaryOp .Add) (r2 X.K E vAdd) := by
  intro pins s σ H v u v' u' Q I rv ru ⟨m, S, x, y, rs, rx, ry, fin⟩
  unfold vAdd at fin
  split at fin
  · cases rx; cases ry; exact op_add pins s σ H _ _ v' u' Q I rv ru ⟨_, _, rfl, rfl, fin.now rs (.int _)⟩
  · cases rx; cases ry; exact op_add_ib pins s σ H _ _ v' u' Q I rv ru ⟨_, _, rfl, rfl, fin.now rs (.int _)⟩
  · split at fin
    · rename_i hl
      cases rx; cases ry; exact op_add_str pins s σ H _ _ v' u' Q I rv ru ⟨_, _, rfl, rfl, ln_ok hl, fin.now rs (.str _)⟩
    · exact fin.elim
  · split at fin
    · rename_i xs ys hl
      cases rx with
      | tup ha ra =>
        cases ry with
        | tup hb rb =>
          refine op_catA pins s σ H _ _ v' u' Q I rv ru ⟨_, _, _, _, rfl, rfl, ha, hb, ln_ok (by rw [← ra.length, ← rb.length]; exact hl), fun e => ?_, fun _ e => ?_, fun _ _ p hp => ?_⟩
          · subst e
            have e0 : xs = [] := List.length_eq_zero_iff.mp ra.length
            subst e0
            exact fin.now rs (.tup hb rb)
          · subst e
            have e0 : ys = [] := List.length_eq_zero_iff.mp rb.length
            subst e0
            rw [List.append_nil] at fin
            exact fin.now rs (.tup ha ra)
          · exact fin_tup rs (ra.append rb) fin hp
    · exact fin.elim
  · split at fin
    · rename_i i j xs ys e1 e2
      cases rx with
      | loc h1 =>
        cases ry with
        | loc h2 =>
          obtain ⟨vs, q1, ra⟩ := rs.lst e1 h1
          obtain ⟨us, q2, rb⟩ := rs.lst e2 h2
          have z := fin_newL rs (ra.append rb) fin
          exact op_cat pins s σ H _ _ v' u' Q I rv ru ⟨_, _, _, _, rfl, rfl, q1, q2, by rw [← List.length_append]; exact z.1, z.2⟩
    · exact fin.elim
  · exact fin.elim
theorem o_sub : OpR X (binaryOp .Sub) (r2 X.K E vSub) := by
  intro pins s σ H v u v' u' Q I rv ru ⟨m, S, x, y, rs, rx, ry, fin⟩
  unfold vSub at fin
  split at fin
  · cases rx; cases ry; exact op_sub pins s σ H _ _ v' u' Q I rv ru ⟨_, _, rfl, rfl, fin.now rs (.int _)⟩
  · exact fin.elim
theorem o_mul : OpR X (binaryOp .Mult) (r2 X.K E vMul) := by
  intro pins s σ H v u v' u' Q I rv ru ⟨m, S, x, y, rs, rx, ry, fin⟩
  unfold vMul at fin
  split at fin
  · split at fin
    · rename_i hc
      cases rx; cases ry; exact op_mul pins s σ H _ _ v' u' Q I rv ru ⟨_, _, rfl, rfl, mulOk_ok hc, fin.now rs (.int _)⟩
    · exact fin.elim
  · split at fin
    · rename_i a j hc
      obtain ⟨h1, h2, h3⟩ := hc
      cases rx; cases ry
      obtain ⟨t, rfl⟩ := rv
      obtain ⟨t', rfl⟩ := ru
      refine PySem.SB.mul ⟨?_, fun hj hl => ?_, fun _ _ => ?_⟩ fun t'' k => ⟨.str _, H, I.tok _, ⟨_, rfl⟩, fin.now rs (.str _)⟩
      · rw [decide_eq_false (by omega), decide_eq_false (by omega)]; rfl
      · have h3' : a.length * j.toNat ≤ 1000000 := h3
        have hj : ((j.toNat : Nat) : Int) = j := Int.toNat_of_nonneg (by omega)
        have h4 : (a.length : Int) * j ≤ 1000000 := by
          rw [← hj]
          rw [← Int.natCast_mul]
          exact Int.ofNat_le.mpr h3'
        have h5 : (a.length : Int) ≤ (2 ^ 63 - 1) / j := Int.le_ediv_of_mul_le (by omega) (by omega)
        omega
      · exact decide_eq_false (Nat.not_lt.mpr (ln_ok h3))
    · exact fin.elim
  · exact fin.elim
theorem o_div : OpR X (binaryOp .FloorDiv) (r2 X.K E vDiv) := by
  intro pins s σ H v u v' u' Q I rv ru ⟨m, S, x, y, rs, rx, ry, fin⟩
  unfold vDiv at fin
  split at fin
  · split at fin
    · rename_i hc
      cases rx; cases ry; exact op_fdivN pins s σ H _ _ v' u' Q I rv ru ⟨_, _, rfl, rfl, ⟨hc.1, by omega⟩, fin.now rs (.int _)⟩
    · exact fin.elim
  · exact fin.elim
theorem o_mod : OpR X (binaryOp .Mod) (r2 X.K E vMod) := by
  intro pins s σ H v u v' u' Q I rv ru ⟨m, S, x, y, rs, rx, ry, fin⟩
  unfold vMod at fin
  split at fin
  · split at fin
    · rename_i hc
      cases rx; cases ry; exact op_modN pins s σ H _ _ v' u' Q I rv ru ⟨_, _, rfl, rfl, hc, fin.now rs (.int _)⟩
    · exact fin.elim
  · exact fin.elim
theorem op_powB : OpR X (binaryOp .Pow) (rI (fun i j => 0 ≤ j ∧ j ≤ 1000 ∧ i.natAbs < 2 ^ 128) fun i j => .int (i ^ j.toNat)) := opI fun i j _ _ _ _ _ hc q => pow_int hc.1 (by
  have hb : Builtin.Int.intBits i ≤ 128 := intBits_le hc.2.2
  have h1 : (Builtin.Int.intBits i : Int) * j ≤ 128 * j := Int.mul_le_mul_of_nonneg_right (by omega) hc.1
  have h2 := hc.2.1
  omega) q
theorem o_pow : OpR X (binaryOp .Pow) (r2 X.K E vPow) := by
  intro pins s σ H v u v' u' Q I rv ru ⟨m, S, x, y, rs, rx, ry, fin⟩
  unfold vPow at fin
  split at fin
  · split at fin
    · rename_i hc
      cases rx; cases ry; exact op_powB pins s σ H _ _ v' u' Q I rv ru ⟨_, _, rfl, rfl, ⟨hc.1, by omega, by omega⟩, fin.now rs (.int _)⟩
    · exact fin.elim
  · exact fin.elim
theorem o_neg : UnR X (unaryOp .USub) (r1 X.K E vNeg) := by
  intro pins s σ H v v' Q I rv ⟨m, S, x, rs, rx, fin⟩
  unfold vNeg at fin
  split at fin
  · cases rx; exact un_neg pins s σ H _ v' Q I rv ⟨_, rfl, fin.now rs (.int _)⟩
  · exact fin.elim
end
/-- name += e: ints and texts -/
def vIAdd (x y : PV) (S : Store) : Out PV := match x, y with
  | .int i, .int j => .ok (.int (i + j)) S
  | .str a, .str b => if a.length + b.length ≤ LN then .ok (.str (a ++ b)) S else .bad
  | _, _ => .bad
def vIMul (x y : PV) (S : Store) : Out PV := match x, y with
  | .int i, .int j => if mulOk i j then .ok (.int (i * j)) S else .bad
  | _, _ => .bad
section
variable {X : Cx} {E : XK}
theorem o_iadd : OpR X (inplaceOp .Add) (r2 X.K E vIAdd) := by
  intro pins s σ H v u v' u' Q I rv ru ⟨m, S, x, y, rs, rx, ry, fin⟩
  unfold vIAdd at fin
  split at fin
  · cases rx; cases ry; exact iop_add pins s σ H _ _ v' u' Q I rv ru ⟨_, _, rfl, rfl, fin.now rs (.int _)⟩
  · split at fin
    · rename_i hl
      cases rx; cases ry; exact iop_add_str pins s σ H _ _ v' u' Q I rv ru ⟨_, _, rfl, rfl, ln_ok hl, fin.now rs (.str _)⟩
    · exact fin.elim
  · exact fin.elim
theorem o_isub : OpR X (inplaceOp .Sub) (r2 X.K E vSub) := by
  intro pins s σ H v u v' u' Q I rv ru ⟨m, S, x, y, rs, rx, ry, fin⟩
  unfold vSub at fin
  split at fin
  · cases rx; cases ry; exact iop_sub pins s σ H _ _ v' u' Q I rv ru ⟨_, _, rfl, rfl, fin.now rs (.int _)⟩
  · exact fin.elim
theorem o_imul : OpR X (inplaceOp .Mult) (r2 X.K E vIMul) := by
  intro pins s σ H v u v' u' Q I rv ru ⟨m, S, x, y, rs, rx, ry, fin⟩
  unfold vIMul at fin
  split at fin
  · split at fin
    · rename_i hc
      cases rx; cases ry; exact iop_mul pins s σ H _ _ v' u' Q I rv ru ⟨_, _, rfl, rfl, mulOk_ok hc, fin.now rs (.int _)⟩
    · exact fin.elim
  · exact fin.elim
end

/-! ### comparisons -/
def eqD (x y : PV) (S : Store) : Option Bool := match dOf S 20 x, dOf S 20 y with
  | some d, some e => if SeqAt.shaped d && SeqAt.shaped e then some (PyData.eqv d e) else none
  | _, _ => none
/-- == of values: scalars at once, the rest as data -/
def eqP (x y : PV) (S : Store) : Option Bool := match x, y with
  | .int i, .int j => some (i == j)
  | .str a, .str b => some (a == b)
  | .bl a, .bl b => some (a == b)
  | .non, .non => some true
  | x, y => eqD x y S
def oB (o : Option Bool) (S : Store) : Out PV := match o with
  | some b => .ok (.bl b) S
  | none => .bad
def vEq (x y : PV) (S : Store) : Out PV := oB (eqP x y S) S
def vNe (x y : PV) (S : Store) : Out PV := oB ((eqP x y S).map (!·)) S
section
variable {X : Cx} {E : XK}
theorem fin_oB {K : PySem.W.Frag} {m : List Addr} {H : Hp} {Q : VK} {o : Option Bool} {S : Store} (rs : RS K m S H) (fin : Fin K (Rl K) E m H Q (oB o S)) : ∃ b, o = some b ∧ Q (.bl b) H := by
  cases o with
  | none => exact fin.elim
  | some b => exact ⟨b, rfl, Fin.now (S := S) fin rs (.bl b)⟩
theorem eqD_dp {K : PySem.W.Frag} {m : List Addr} {H : Hp} {x y : PV} {v u : V} {S : Store} {b : Bool} (rs : RS K m S H) (rx : Rl K m H x v) (ry : Rl K m H y u) (h : eqD x y S = some b) :
    ∃ d e, Dp K H v d ∧ Dp K H u e ∧ SeqAt.shaped d = true ∧ SeqAt.shaped e = true ∧ PyData.eqv d e = b := by
  unfold eqD at h
  split at h
  · rename_i d e h1 h2
    split at h
    · rename_i h3
      cases h
      exact ⟨d, e, dp_of rs 20 x v d rx h1, dp_of rs 20 y u e ry h2, (Bool.and_eq_true_iff.mp h3).1, (Bool.and_eq_true_iff.mp h3).2, rfl⟩
    · cases h
  · cases h
theorem dec_of {α : Type} [DecidableEq α] {x y : V} {a b : α} [BEq α] [LawfulBEq α] (h : x = y ↔ a = b) : decide (x = y) = (a == b) := by
  by_cases e : a = b
  · rw [decide_eq_true (h.mpr e), e, beq_self_eq_true]
  · rw [decide_eq_false (fun z => e (h.mp z))]
    exact (beq_eq_false_iff_ne.mpr e).symm
theorem o_eq (hu : X.A.units + 64 < cLine) : OpR X (compareOp .Eq) (r2 X.K E vEq) := by
  intro pins s σ H v u v' u' Q I rv ru ⟨m, S, x, y, rs, rx, ry, fin⟩
  obtain ⟨b, hb, q⟩ := fin_oB rs fin
  unfold eqP at hb
  split at hb
  · cases hb; cases rx; cases ry; exact op_eq pins s σ H _ _ v' u' Q I rv ru ⟨rfl, by rw [dec_int]; exact q⟩
  · cases hb; cases rx; cases ry; exact op_eq pins s σ H _ _ v' u' Q I rv ru ⟨rfl, by rw [dec_str]; exact q⟩
  · cases hb; cases rx; cases ry; exact op_eq pins s σ H _ _ v' u' Q I rv ru ⟨rfl, by rw [dec_bl]; exact q⟩
  · cases hb; cases rx; cases ry; exact op_eq pins s σ H _ _ v' u' Q I rv ru ⟨rfl, by exact q⟩
  · obtain ⟨d, e, h1, h2, h3, h4, h5⟩ := eqD_dp rs rx ry hb
    exact op_eqD hu pins s σ H _ _ v' u' Q I rv ru ⟨d, e, h1, h2, h3, h4, by rw [h5]; exact q⟩
theorem o_ne (hu : X.A.units + 64 < cLine) : OpR X (compareOp .NotEq) (r2 X.K E vNe) := by
  intro pins s σ H v u v' u' Q I rv ru ⟨m, S, x, y, rs, rx, ry, fin⟩
  obtain ⟨b', hb', q⟩ := fin_oB rs fin
  obtain ⟨b, hb, rfl⟩ := Option.map_eq_some_iff.mp hb'
  unfold eqP at hb
  split at hb
  · cases hb; cases rx; cases ry; exact op_ne pins s σ H _ _ v' u' Q I rv ru ⟨rfl, by rw [dec_int]; exact q⟩
  · cases hb; cases rx; cases ry; exact op_ne pins s σ H _ _ v' u' Q I rv ru ⟨rfl, by rw [dec_str]; exact q⟩
  · cases hb; cases rx; cases ry; exact op_ne pins s σ H _ _ v' u' Q I rv ru ⟨rfl, by rw [dec_bl]; exact q⟩
  · cases hb; cases rx; cases ry; exact op_ne pins s σ H _ _ v' u' Q I rv ru ⟨rfl, by exact q⟩
  · obtain ⟨d, e, h1, h2, h3, h4, h5⟩ := eqD_dp rs rx ry hb
    exact op_neD hu pins s σ H _ _ v' u' Q I rv ru ⟨d, e, h1, h2, h3, h4, by rw [h5]; exact q⟩
end
/-- < on ints, texts, tuples of ints -/
def intsP : List PV → Option (List Int)
  | [] => some []
  | .int i :: r => (intsP r).map (i :: ·)
  | _ => none
theorem ints_of {K : PySem.W.Frag} {m : List Addr} {H : Hp} : ∀ {xs : List PV} {vs : List V} {ns : List Int}, Rls K m H xs vs → intsP xs = some ns → vs = ns.map V.int
  | _, _, _, .nil, h => by cases h; rfl
  | _, _, _, .cons (x := x) (xs := xs) h r, e => by
    cases h with
    | int i =>
      have e' : (intsP xs).map (i :: ·) = some _ := e
      obtain ⟨ns, h1, h2⟩ := Option.map_eq_some_iff.mp e'
      subst h2
      rw [ints_of r h1]; rfl
    | _ => cases e
def ltP (x y : PV) : Option Bool := match x, y with
  | .int i, .int j => some (decide (i < j))
  | .str a, .str b => some (decide (a.cps.toList < b.cps.toList))
  | .tup xs, .tup ys => match intsP xs, intsP ys with
    | some ns, some ms => some (HT.lexLt ns ms)
    | _, _ => none
  | _, _ => none
def lt2 (x y : PV) : Option Bool := match x, y with
  | .int i, .int j => some (decide (i < j))
  | .str a, .str b => some (decide (a.cps.toList < b.cps.toList))
  | _, _ => none
def vLt (x y : PV) (S : Store) : Out PV := oB (ltP x y) S
def vGt (x y : PV) (S : Store) : Out PV := oB (lt2 y x) S
def vLe (x y : PV) (S : Store) : Out PV := oB ((lt2 y x).map (!·)) S
def vGe (x y : PV) (S : Store) : Out PV := oB ((lt2 x y).map (!·)) S
section
variable {X : Cx} {E : XK}
theorem not_lt_dec {i j : Int} : (!decide (i < j)) = decide (j ≤ i) := by
  by_cases h : i < j
  · rw [decide_eq_true h, decide_eq_false (by omega)]; rfl
  · rw [decide_eq_false h, decide_eq_true (by omega)]; rfl
theorem o_lt (hu : X.A.units < cLine) : OpR X (compareOp .Lt) (r2 X.K E vLt) := by
  intro pins s σ H v u v' u' Q I rv ru ⟨m, S, x, y, rs, rx, ry, fin⟩
  obtain ⟨b, hb, q⟩ := fin_oB rs fin
  unfold ltP at hb
  split at hb
  · cases hb; cases rx; cases ry; exact op_lt pins s σ H _ _ v' u' Q I rv ru ⟨_, _, rfl, rfl, q⟩
  · cases hb; cases rx; cases ry; exact op_lt_str pins s σ H _ _ v' u' Q I rv ru ⟨_, _, rfl, rfl, q⟩
  · split at hb
    · rename_i h1 h2
      cases hb
      cases rx with
      | tup ha ra =>
        cases ry with
        | tup hb rb =>
          rw [ints_of ra h1] at ha
          rw [ints_of rb h2] at hb
          exact op_ltT hu pins s σ H _ _ v' u' Q I rv ru ⟨_, _, _, _, rfl, rfl, ha, hb, q⟩
    · cases hb
  · cases hb
theorem o_gt : OpR X (compareOp .Gt) (r2 X.K E vGt) := by
  intro pins s σ H v u v' u' Q I rv ru ⟨m, S, x, y, rs, rx, ry, fin⟩
  obtain ⟨b, hb, q⟩ := fin_oB rs fin
  unfold lt2 at hb
  split at hb
  · cases hb; cases rx; cases ry; exact op_gt pins s σ H _ _ v' u' Q I rv ru ⟨_, _, rfl, rfl, q⟩
  · cases hb; cases rx; cases ry; exact op_gt_str pins s σ H _ _ v' u' Q I rv ru ⟨_, _, rfl, rfl, q⟩
  · cases hb
theorem o_le : OpR X (compareOp .LtE) (r2 X.K E vLe) := by
  intro pins s σ H v u v' u' Q I rv ru ⟨m, S, x, y, rs, rx, ry, fin⟩
  obtain ⟨b', hb', q⟩ := fin_oB rs fin
  obtain ⟨b, hb, rfl⟩ := Option.map_eq_some_iff.mp hb'
  unfold lt2 at hb
  split at hb
  · cases hb; cases rx; cases ry; exact op_le pins s σ H _ _ v' u' Q I rv ru ⟨_, _, rfl, rfl, by show Q (.bl (decide _)) H; rw [← not_lt_dec]; exact q⟩
  · cases hb; cases rx; cases ry; exact op_le_str pins s σ H _ _ v' u' Q I rv ru ⟨_, _, rfl, rfl, q⟩
  · cases hb
theorem o_ge : OpR X (compareOp .GtE) (r2 X.K E vGe) := by
  intro pins s σ H v u v' u' Q I rv ru ⟨m, S, x, y, rs, rx, ry, fin⟩
  obtain ⟨b', hb', q⟩ := fin_oB rs fin
  obtain ⟨b, hb, rfl⟩ := Option.map_eq_some_iff.mp hb'
  unfold lt2 at hb
  split at hb
  · cases hb; cases rx; cases ry; exact op_ge pins s σ H _ _ v' u' Q I rv ru ⟨_, _, rfl, rfl, by show Q (.bl (decide _)) H; rw [← not_lt_dec]; exact q⟩
  · cases hb; cases rx; cases ry; exact op_ge_str pins s σ H _ _ v' u' Q I rv ru ⟨_, _, rfl, rfl, q⟩
  · cases hb
end
/-! ### is -/
def vIs (x y : PV) (S : Store) : Out PV := match x, y with
  | .bl a, .bl b => .ok (.bl (decide (a = b))) S
  | .non, .non => .ok (.bl true) S
  | .ref _, .non => .bad
  | _, .non => .ok (.bl false) S
  | _, _ => .bad
def vIsNot (x y : PV) (S : Store) : Out PV := match x, y with
  | .bl a, .bl b => .ok (.bl (!decide (a = b))) S
  | .non, .non => .ok (.bl false) S
  | .ref _, .non => .bad
  | _, .non => .ok (.bl true) S
  | _, _ => .bad
end G

/-! G, part E: membership, is, subscripts, slices, built-in functions and methods. -/
namespace G
open PySem PySem.Spec PyProof.Rows L2

section
variable {X : Cx} {E : XK}
theorem isN_rl {K : PySem.W.Frag} {m : List Addr} {H : Hp} {x : PV} {v : V} (r : Rl K m H x v) : decide (v = .non) = match x with | .non => true | _ => false := by
  cases r <;> rfl
theorem o_is : OpR X (compareOp .Is) (r2 X.K E vIs) := by
  intro pins s σ H v u v' u' Q I rv ru ⟨m, S, x, y, rs, rx, ry, fin⟩
  unfold vIs at fin
  split at fin
  · cases rx; cases ry
    refine op_is_bl pins s σ H _ _ v' u' Q I rv ru ⟨_, _, rfl, rfl, fin.now rs (.bl _)⟩
  · cases ry; refine op_isN pins s σ H _ _ v' u' Q I rv ru ⟨rfl, ?_⟩; rw [isN_rl rx]; exact fin.now rs (.bl _)
  · exact fin.elim
  · rename_i h1 h2
    cases ry
    refine op_isN pins s σ H _ _ v' u' Q I rv ru ⟨rfl, ?_⟩
    rw [isN_rl rx]
    cases x with
    | non => exact (h1 rfl).elim
    | _ => exact fin.now rs (.bl _)
  · exact fin.elim
theorem o_isNot : OpR X (compareOp .IsNot) (r2 X.K E vIsNot) := by
  intro pins s σ H v u v' u' Q I rv ru ⟨m, S, x, y, rs, rx, ry, fin⟩
  unfold vIsNot at fin
  split at fin
  · cases rx; cases ry
    refine op_isnot_bl pins s σ H _ _ v' u' Q I rv ru ⟨_, _, rfl, rfl, fin.now rs (.bl _)⟩
  · cases ry; refine op_notN pins s σ H _ _ v' u' Q I rv ru ⟨rfl, ?_⟩; rw [isN_rl rx]; exact fin.now rs (.bl _)
  · exact fin.elim
  · rename_i h1 h2
    cases ry
    refine op_notN pins s σ H _ _ v' u' Q I rv ru ⟨rfl, ?_⟩
    rw [isN_rl rx]
    cases x with
    | non => exact (h1 rfl).elim
    | _ => exact fin.now rs (.bl _)
  · exact fin.elim
end

/-! ### in -/
def inS (a b : Str) : Bool := match a.cps.toList with
  | [c] => decide (c ∈ b.cps.toList)
  | _ => !(Builtin.Str.occurrences b a 0 b.length 1).isEmpty
def inD (x y : PV) (S : Store) : Option Bool := match dOf S 20 x, dOf S 20 y with
  | some d, some (.list ds) => if SeqAt.shaped d && SeqAt.shaped (.list ds) then some (ds.any fun z => PyData.eqv z d) else none
  | some d, some (.tuple ds) => if SeqAt.shaped d && SeqAt.shaped (.tuple ds) then some (ds.any fun z => PyData.eqv z d) else none
  | _, _ => none
def inP (x y : PV) (S : Store) : Option Bool := match x, y with
  | .str a, .str b => some (inS a b)
  | x, y => inD x y S
def vIn (x y : PV) (S : Store) : Out PV := oB (inP x y S) S
def vNotIn (x y : PV) (S : Store) : Out PV := oB ((inP x y S).map (!·)) S
theorem one_sign {a : Str} {c : Nat} (h : a.cps.toList = [c]) : a = ⟨#[c]⟩ := by
  cases a with
  | mk cps =>
    have : cps = #[c] := by
      apply Array.ext'
      exact h
    rw [this]
section
variable {X : Cx} {E : XK}
theorem inD_dp {K : PySem.W.Frag} {m : List Addr} {H : Hp} {x y : PV} {v u : V} {S : Store} {b : Bool} (rs : RS K m S H) (rx : Rl K m H x v) (ry : Rl K m H y u) (h : inD x y S = some b) :
    ∃ d ds, Dp K H v d ∧ SeqAt.shaped d = true ∧ (ds.any fun z => PyData.eqv z d) = b ∧ ((Dp K H u (.list ds) ∧ SeqAt.shaped (.list ds) = true) ∨ (Dp K H u (.tuple ds) ∧ SeqAt.shaped (.tuple ds) = true)) := by
  unfold inD at h
  split at h
  · rename_i d ds h1 h2
    split at h
    · rename_i h3
      cases h
      exact ⟨d, ds, dp_of rs 20 x v d rx h1, (Bool.and_eq_true_iff.mp h3).1, rfl, .inl ⟨dp_of rs 20 y u _ ry h2, (Bool.and_eq_true_iff.mp h3).2⟩⟩
    · cases h
  · rename_i d ds h1 h2
    split at h
    · rename_i h3
      cases h
      exact ⟨d, ds, dp_of rs 20 x v d rx h1, (Bool.and_eq_true_iff.mp h3).1, rfl, .inr ⟨dp_of rs 20 y u _ ry h2, (Bool.and_eq_true_iff.mp h3).2⟩⟩
    · cases h
  · cases h
theorem o_in (hu : X.A.units + 70 < cLine) : OpR X (compareOp .In) (r2 X.K E vIn) := by
  intro pins s σ H v u v' u' Q I rv ru ⟨m, S, x, y, rs, rx, ry, fin⟩
  obtain ⟨b, hb, q⟩ := fin_oB rs fin
  unfold inP at hb
  split at hb
  · cases hb; cases rx; cases ry
    unfold inS at q
    split at q
    · rename_i c e
      rw [one_sign e] at rv
      exact op_in_sign pins s σ H _ _ v' u' Q I rv ru ⟨c, _, rfl, rfl, q⟩
    · exact op_in_str pins s σ H _ _ v' u' Q I rv ru ⟨_, _, rfl, rfl, q⟩
  · obtain ⟨d, ds, h1, h2, h3, ⟨h4, h5⟩ | ⟨h4, h5⟩⟩ := inD_dp rs rx ry hb
    · exact op_inD (by omega) pins s σ H _ _ v' u' Q I rv ru ⟨d, ds, h1, h4, h2, h5, by rw [h3]; exact q⟩
    · obtain ⟨as, p1⟩ := Dp.reads I d v v' h1 rv
      obtain ⟨bs, p2⟩ := Dp.reads I (.tuple ds) u u' h4 ru
      refine SeqAt.in_tuple_reads p2 p1 (SeqAt.canLay_of_shaped h5) (SeqAt.canLay_of_shaped h2) ?_ ⟨.bl b, H, I, by rw [h3]; rfl, q⟩
      have l1 := SeqAt.depth_of_shaped h2
      have l2 := Nat.min_le_right (PyData.depthAll ds) d.depth
      omega
theorem o_notIn (hu : X.A.units + 70 < cLine) : OpR X (compareOp .NotIn) (r2 X.K E vNotIn) := by
  intro pins s σ H v u v' u' Q I rv ru ⟨m, S, x, y, rs, rx, ry, fin⟩
  obtain ⟨b', hb', q⟩ := fin_oB rs fin
  obtain ⟨b, hb, rfl⟩ := Option.map_eq_some_iff.mp hb'
  unfold inP at hb
  split at hb
  · cases hb; cases rx; cases ry
    unfold inS at q
    split at q
    · rename_i c e
      rw [one_sign e] at rv
      exact op_notIn_sign pins s σ H _ _ v' u' Q I rv ru ⟨c, _, rfl, rfl, q⟩
    · exact op_notIn_str pins s σ H _ _ v' u' Q I rv ru ⟨_, _, rfl, rfl, q⟩
  · obtain ⟨d, ds, h1, h2, h3, ⟨h4, h5⟩ | ⟨h4, h5⟩⟩ := inD_dp rs rx ry hb
    · exact op_notInD (by omega) pins s σ H _ _ v' u' Q I rv ru ⟨d, ds, h1, h4, h2, h5, by rw [h3]; exact q⟩
    · obtain ⟨as, p1⟩ := Dp.reads I d v v' h1 rv
      obtain ⟨bs, p2⟩ := Dp.reads I (.tuple ds) u u' h4 ru
      refine SeqAt.notIn_tuple_reads p2 p1 (SeqAt.canLay_of_shaped h5) (SeqAt.canLay_of_shaped h2) ?_ ⟨.bl (!b), H, I, by rw [h3]; rfl, q⟩
      have l1 := SeqAt.depth_of_shaped h2
      have l2 := Nat.min_le_right (PyData.depthAll ds) d.depth
      omega
end

/-! ### subscripts, slices -/
def vIx (x y : PV) (S : Store) : Out PV := match x, y with
  | .str a, .int i => if a.length ≤ LN then (match atI a.cps.toList i with | some c => .ok (.str ⟨#[c]⟩) S | none => .bad) else .bad
  | x, .int i => match seqP S x with
    | some xs => match atI xs i with
      | some z => .ok z S
      | none => .bad
    | none => .bad
  | _, _ => .bad
theorem Rls.atI {K : PySem.W.Frag} {m : List Addr} {H : Hp} {xs : List PV} {vs : List V} {i : Int} {x : PV} (r : Rls K m H xs vs) (h : L2.atI xs i = some x) : ∃ v, L2.atI vs i = some v ∧ Rl K m H x v := by
  unfold L2.atI at h ⊢
  rw [← r.length]
  cases e : ixN xs.length i with
  | none => rw [e] at h; cases h
  | some j =>
    rw [e] at h
    exact r.get h
def sIxP (xs : List PV) (lo hi : Option Int) : List PV := (xs.drop (HT.sIx xs.length 0 lo)).take (HT.sIx xs.length xs.length hi - HT.sIx xs.length 0 lo)
def vSl (x : PV) (lo hi : Option Int) (S : Store) : Out PV := match x with
  | .str a => if a.length ≤ LN then .ok (.str (cutS a lo hi)) S else .bad
  | .tup xs => .ok (.tup (sIxP xs lo hi)) S
  | .fl xs => newL (sIxP xs lo hi) S
  | .loc n => match S[n]? with
    | some (.lst xs) => newL (sIxP xs lo hi) S
    | _ => .bad
  | _ => .bad
theorem Rls.cut {K : PySem.W.Frag} {m : List Addr} {H : Hp} {xs : List PV} {vs : List V} (r : Rls K m H xs vs) (lo hi : Option Int) : Rls K m H (sIxP xs lo hi) (cutV vs lo hi) := by
  unfold sIxP cutV
  rw [r.length]
  exact (r.drop _).take _
def oNone : SO := fun _ S => .ok none S
def oSome (f : SE) : SO := fun τ S => (f τ S).bind fun x S1 => match x with
  | .int i => .ok (some i) S1
  | _ => .bad
def eSl (f : SE) (lo hi : SO) : SE := fun τ S => (f τ S).bind fun x S1 => (lo τ S1).bind fun l S2 => (hi τ S2).bind fun u S3 => vSl x l u S3
section
variable {X : Cx} {e a b : Expr} {E : XK} {f f' : SE} {fo fo' : SO} {pos p2 : Pos} {lo hi : Option Expr}
theorem ix_all : IxR X (r2 X.K E vIx) := by
  intro eV eS pins s σ H v u v' u' Q I rv ru ⟨m, S, x, y, rs, rx, ry, fin⟩ hss
  unfold vIx at fin
  split at fin
  · split at fin
    · rename_i hl
      split at fin
      · rename_i c hc
        cases rx; cases ry
        exact ix_str eV eS pins s σ H _ _ v' u' Q I rv ru ⟨_, _, c, rfl, rfl, ln_ok hl, hc, fin.now rs (.str _)⟩ hss
      · exact fin.elim
    · exact fin.elim
  · split at fin
    · rename_i xs hs
      split at fin
      · rename_i z hz
        cases ry
        obtain ⟨a, vs, rfl, h, rr⟩ := rs.seq rx hs
        obtain ⟨w, hw, rw'⟩ := rr.atI hz
        rcases h with h | h
        · exact ix_list eV eS pins s σ H _ _ v' u' Q I rv ru ⟨a, vs, _, w, rfl, rfl, h, hw, fin.now rs rw'⟩ hss
        · exact ix_tup eV eS pins s σ H _ _ v' u' Q I rv ru ⟨a, vs, _, w, rfl, rfl, h, hw, fin.now rs rw'⟩ hss
      · exact fin.elim
    · exact fin.elim
  · exact fin.elim
theorem g_ix (ha : PE X a (tE X.K E f)) (hb : PE X b (tE X.K E f')) (hs : PlainIx b) : PE X (.Subscript a b pos) (tE X.K E (eBin vIx f f')) := peI (pe_ix ix_all ha hb hs) (binI (fun _ _ _ h => h) fun _ _ _ _ h => h)
theorem go_none : L2.PO X none (tO X.K E oNone) := ⟨fun pins s σ H Q I h => (po_none (X := X)).run pins s σ H Q I (by
  obtain ⟨m, S, τ, rs, re, fin⟩ := h
  exact fin.now rs rfl)⟩
theorem go_some (h : PE X e (tE X.K E f)) : L2.PO X (some e) (tO X.K E (oSome f)) := ⟨fun pins s σ H Q I hq => (po_some h).run pins s σ H Q I (by
  obtain ⟨m, S, τ, rs, re, fin⟩ := hq
  refine ⟨m, S, τ, rs, re, Fin.bind fin fun m1 H1 S1 x v l e rs1 rx fin1 => ?_⟩
  split at fin1
  · cases rx; exact ⟨_, rfl, fin1.now rs1 rfl⟩
  · exact fin1.elim)⟩
def rSlG (K : PySem.W.Frag) (E : XK) : V → Option Int → Option Int → Hp → VK → Prop := fun v lo hi H Q => ∃ m S x, RS K m S H ∧ Rl K m H x v ∧ Fin K (Rl K) E m H Q (vSl x lo hi S)
theorem sl_all : SlR X (rSlG X.K E) := by
  intro pins s σ H v v' vl vu lo hi sl Q I rv hs pl pu ⟨m, S, x, rs, rx, fin⟩
  unfold vSl at fin
  split at fin
  · split at fin
    · rename_i hl
      cases rx; exact sl_str pins s σ H _ v' vl vu lo hi sl Q I rv hs pl pu ⟨_, rfl, ln_ok hl, fin.now rs (.str _)⟩
    · exact fin.elim
  · rename_i xs
    cases rx with
    | @tup _ vs a ht rr =>
      refine sl_tupA pins s σ H _ v' vl vu lo hi sl Q I rv hs pl pu ⟨_, _, rfl, ht, fun hw => ?_, fun _ p hp => fin_tup rs (rr.cut lo hi) fin hp⟩
      have e : sIxP xs lo hi = xs := by
        unfold sIxP
        rw [rr.length, hw.1, hw.2, List.drop_zero, Nat.sub_zero, ← rr.length, List.take_length]
      rw [e] at fin
      exact fin.now rs (.tup ht rr)
  · cases rx with
    | fl ht rr => exact sl_list pins s σ H _ v' vl vu lo hi sl Q I rv hs pl pu ⟨_, _, rfl, ht.sq, (fin_newL rs (rr.cut lo hi) fin).2⟩
  · split at fin
    · rename_i h
      cases rx with
      | loc hn =>
        obtain ⟨vs, h1, rr⟩ := rs.lst h hn
        exact sl_list pins s σ H _ v' vl vu lo hi sl Q I rv hs pl pu ⟨_, _, rfl, SqL.of h1, (fin_newL rs (rr.cut lo hi) fin).2⟩
    · exact fin.elim
  · exact fin.elim
theorem g_sl (he : PE X e (tE X.K E f)) (hl : L2.PO X lo (tO X.K E fo)) (hh : L2.PO X hi (tO X.K E fo')) : PE X (.Subscript e (.Slice lo hi none p2) pos) (tE X.K E (eSl f fo fo')) :=
  peI (pe_slice sl_all he hl hh) fun σ H Q ⟨m, S, τ, rs, re, fin⟩ =>
  ⟨m, S, τ, rs, re, Fin.bind fin fun m1 H1 S1 x v l e rs1 rx fin1 => ⟨m1, S1, τ, rs1, re.mono l e, Fin.bind fin1 fun m2 H2 S2 y u l2 e2 rs2 ry fin2 =>
    ⟨m2, S2, τ, rs2, (re.mono l e).mono l2 e2, Fin.bind fin2 fun m3 H3 S3 z w l3 e3 rs3 rz fin3 => by
      cases ry; cases rz
      exact ⟨m3, S3, x, rs3, (rx.mono l2 e2).mono l3 e3, fin3⟩⟩⟩⟩
end

/-! ### built-in functions -/
def lenP (S : Store) : PV → Option Nat
  | .str a => if a.length ≤ LN then some a.length else none
  | x => (seqP S x).map (·.length)
def vLen (xs : List PV) (S : Store) : Out PV := match xs with
  | [x] => match lenP S x with
    | some n => .ok (.int n) S
    | none => .bad
  | _ => .bad
def vAbs (xs : List PV) (S : Store) : Out PV := match xs with
  | [.int i] => .ok (.int (if i < 0 then -i else i)) S
  | _ => .bad
def vMax (xs : List PV) (S : Store) : Out PV := match xs with
  | [.int i, .int j] => .ok (.int (if j > i then j else i)) S
  | _ => .bad
def vMin (xs : List PV) (S : Store) : Out PV := match xs with
  | [.int i, .int j] => .ok (.int (if j < i then j else i)) S
  | _ => .bad
def cInt (xs : List PV) (S : Store) : Out PV := match xs with
  | [.int i] => .ok (.int i) S
  | [.bl k] => .ok (.int (if k then 1 else 0)) S
  | _ => .bad
def blsP : List PV → Option (List Bool)
  | [] => some []
  | .bl b :: r => (blsP r).map (b :: ·)
  | _ => none
theorem bls_of {K : PySem.W.Frag} {m : List Addr} {H : Hp} : ∀ {xs : List PV} {vs : List V} {bs : List Bool}, Rls K m H xs vs → blsP xs = some bs → vs = bs.map V.bl
  | _, _, _, .nil, h => by cases h; rfl
  | _, _, _, .cons (x := x) (xs := xs) h r, e => by
    cases h with
    | bl i =>
      have e' : (blsP xs).map (i :: ·) = some _ := e
      obtain ⟨ns, h1, h2⟩ := Option.map_eq_some_iff.mp e'
      subst h2
      rw [bls_of r h1]; rfl
    | _ => cases e
/-- a list (not a tuple) of the store or known -/
def lstP (S : Store) : PV → Option (List PV)
  | .fl xs => some xs
  | .loc n => match S[n]? with
    | some (.lst xs) => some xs
    | _ => none
  | _ => none
theorem RS.lstP {K : PySem.W.Frag} {m : List Addr} {H : Hp} {S : Store} {x : PV} {v : V} {xs : List PV} (r : RS K m S H) (rx : Rl K m H x v) (h : lstP S x = some xs) : ∃ a vs, v = .ref a ∧ SqL K H a vs ∧ Rls K m H xs vs := by
  cases rx with
  | fl ht rs => cases h; exact ⟨_, _, rfl, ht.sq, rs⟩
  | @loc n a hn =>
    have h' : (match S[n]? with | some (.lst xs) => some xs | _ => none) = some xs := h
    split at h'
    · rename_i xs' e
      cases h'
      obtain ⟨vs, h1, h2⟩ := r.lst e hn
      exact ⟨a, vs, rfl, SqL.of h1, h2⟩
    · cases h'
  | _ => cases h
def vAll (xs : List PV) (S : Store) : Out PV := match xs with
  | [x] => match (lstP S x).bind blsP with
    | some bs => .ok (.bl (bs.all id)) S
    | none => .bad
  | _ => .bad
def vAny (xs : List PV) (S : Store) : Out PV := match xs with
  | [x] => match (lstP S x).bind blsP with
    | some bs => .ok (.bl (bs.any id)) S
    | none => .bad
  | _ => .bad
def tyP (S : Store) : PV → Option String
  | .non => some "NoneType"
  | .bl _ => some "bool"
  | .int _ => some "int"
  | .str _ => some "str"
  | .tup _ => some "tuple"
  | .fl _ => some "list"
  | .loc n => match S[n]? with
    | some (.lst _) => some "list"
    | some (.dk _) => some "dict"
    | some (.dt _) => some "dict"
    | _ => none
  | _ => none
def vIsi (xs : List PV) (S : Store) : Out PV := match xs with
  | [x, .ty n] => match tyP S x with
    | some t => match kitB t n with
      | some b => .ok (.bl b) S
      | none => .bad
    | none => .bad
  | _ => .bad
def reprP (S : Store) (x : PV) : Option Str := match dOf S 20 x with
  | some d => if d.showable && !d.hasDict && decide (d.shown.length ≤ LN) && decide (d.depth ≤ 64) then some d.shown else none
  | none => none
def vRepr (xs : List PV) (S : Store) : Out PV := match xs with
  | [x] => match reprP S x with
    | some z => .ok (.str z) S
    | none => .bad
  | _ => .bad
theorem tyX_of {K : PySem.W.Frag} {m : List Addr} {H : Hp} {S : Store} {x : PV} {v : V} {t : String} (r : RS K m S H) (rx : Rl K m H x v) (h : tyP S x = some t) : TyX K H v (.type t) := by
  cases rx with
  | non => cases h; exact .base .non
  | bl b => cases h; exact .base (.bl b)
  | int i => cases h; exact .base (.int i)
  | str x => cases h; exact .base (.str x)
  | ty n => cases h
  | ref a => cases h
  | tup ht rs =>
    cases h
    rcases ht with (h | ⟨o, h⟩) | ⟨o, its, n, h1, h2, _⟩
    · exact .base (.tup h)
    · exact .fTuple h
    · exact .kTuple h1 h2
  | fl ht rs =>
    cases h
    rcases ht with ⟨o, h⟩ | ⟨o, its, n, h1, h2, _⟩
    · exact .base (.frz h)
    · exact .kList h1 h2
  | @loc n a hn =>
    have h' : (match S[n]? with | some (.lst _) => some "list" | some (.dk _) => some "dict" | some (.dt _) => some "dict" | _ => none) = some t := h
    split at h'
    · rename_i e; cases h'; obtain ⟨vs, h1, _⟩ := r.at_ n _ a e hn; exact .base (.lst h1)
    · rename_i e; cases h'; obtain ⟨vs, h1, _⟩ := r.at_ n _ a e hn; exact .base (.dK h1)
    · rename_i e; cases h'; obtain ⟨vs, h1, _⟩ := r.at_ n _ a e hn; exact .base (.dT h1)
    · cases h'
section
variable {X : Cx} {E : XK}
theorem c_len : CallR X (.builtin "len") (rL X.K E vLen) := by
  intro pins s σ H vs us Q I rv ⟨m, S, xs, rs, rx, fin⟩
  unfold vLen at fin
  split at fin
  · rename_i x
    split at fin
    · rename_i n hn
      cases rx with
      | cons rx rn =>
        cases rn
        have q := fin.now rs (.int n)
        unfold lenP at hn
        split at hn
        · split at hn
          · rename_i hl
            cases hn; cases rx
            exact call_len_str pins s σ H _ us Q I rv ⟨_, rfl, ln_ok hl, q⟩
          · cases hn
        · obtain ⟨ys, h1, rfl⟩ := Option.map_eq_some_iff.mp hn
          obtain ⟨a, vs, rfl, h2, rr⟩ := rs.seq rx h1
          exact call_len_seq pins s σ H _ us Q I rv ⟨a, vs, rfl, h2, by rw [← rr.length]; exact q⟩
    · exact fin.elim
  · exact fin.elim
theorem c_abs : CallR X (.builtin "abs") (rL X.K E vAbs) := by
  intro pins s σ H vs us Q I rv ⟨m, S, xs, rs, rx, fin⟩
  unfold vAbs at fin
  split at fin
  · cases rx with
    | cons rx rn => cases rn; cases rx; exact call_abs pins s σ H _ us Q I rv ⟨_, rfl, fin.now rs (.int _)⟩
  · exact fin.elim
theorem c_max (hc : X.calm = true) : CallR X (.builtin "max") (rL X.K E vMax) := by
  intro pins s σ H vs us Q I rv ⟨m, S, xs, rs, rx, fin⟩
  unfold vMax at fin
  split at fin
  · cases rx with
    | cons rx rn => cases rn with
      | cons ry rn => cases rn; cases rx; cases ry; exact call_max2 hc pins s σ H _ us Q I rv ⟨_, _, rfl, fin.now rs (.int _)⟩
  · exact fin.elim
theorem c_min (hc : X.calm = true) : CallR X (.builtin "min") (rL X.K E vMin) := by
  intro pins s σ H vs us Q I rv ⟨m, S, xs, rs, rx, fin⟩
  unfold vMin at fin
  split at fin
  · cases rx with
    | cons rx rn => cases rn with
      | cons ry rn => cases rn; cases rx; cases ry; exact call_min2 hc pins s σ H _ us Q I rv ⟨_, _, rfl, fin.now rs (.int _)⟩
  · exact fin.elim
theorem c_int : CallR X (.type "int") (rL X.K E cInt) := by
  intro pins s σ H vs us Q I rv ⟨m, S, xs, rs, rx, fin⟩
  unfold cInt at fin
  split at fin
  · cases rx with
    | cons rx rn => cases rn; cases rx; exact call_int1 pins s σ H _ us Q I rv (.inl ⟨_, rfl, fin.now rs (.int _)⟩)
  · cases rx with
    | cons rx rn => cases rn; cases rx; exact call_int1 pins s σ H _ us Q I rv (.inr ⟨_, rfl, fin.now rs (.int _)⟩)
  · exact fin.elim
theorem c_all (hc : X.calm = true) : CallR X (.builtin "all") (rL X.K E vAll) := by
  intro pins s σ H vs us Q I rv ⟨m, S, xs, rs, rx, fin⟩
  unfold vAll at fin
  split at fin
  · split at fin
    · rename_i bs hb
      cases rx with
      | cons rx rn =>
        cases rn
        obtain ⟨ys, h1, h2⟩ := Option.bind_eq_some_iff.mp hb
        obtain ⟨a, ws, rfl, h3, rr⟩ := rs.lstP rx h1
        rw [bls_of rr h2] at h3
        exact cr_all hc pins s σ H _ us Q I rv ⟨a, bs, rfl, h3, fin.now rs (.bl _)⟩
    · exact fin.elim
  · exact fin.elim
theorem c_any (hc : X.calm = true) : CallR X (.builtin "any") (rL X.K E vAny) := by
  intro pins s σ H vs us Q I rv ⟨m, S, xs, rs, rx, fin⟩
  unfold vAny at fin
  split at fin
  · split at fin
    · rename_i bs hb
      cases rx with
      | cons rx rn =>
        cases rn
        obtain ⟨ys, h1, h2⟩ := Option.bind_eq_some_iff.mp hb
        obtain ⟨a, ws, rfl, h3, rr⟩ := rs.lstP rx h1
        rw [bls_of rr h2] at h3
        exact cr_any hc pins s σ H _ us Q I rv ⟨a, bs, rfl, h3, fin.now rs (.bl _)⟩
    · exact fin.elim
  · exact fin.elim
theorem c_isi : CallR X (.builtin "isinstance") (rL X.K E vIsi) := by
  intro pins s σ H vs us Q I rv ⟨m, S, xs, rs, rx, fin⟩
  unfold vIsi at fin
  split at fin
  · rename_i x n
    split at fin
    · rename_i t ht
      split at fin
      · rename_i b hb
        cases rx with
        | cons rx rn => cases rn with
          | cons ry rn =>
            cases rn; cases ry
            exact call_isi pins s σ H _ us Q I rv ⟨_, _, .type t, .type n, b, rfl, .ty n, tyX_of rs rx ht, kit_ty hb, fin.now rs (.bl b)⟩
      · exact fin.elim
    · exact fin.elim
  · exact fin.elim
theorem c_repr (hA : X.A.guards = some []) (hu : X.A.units + 70 < cLine) : CallR X (.builtin "repr") (rL X.K E vRepr) := by
  intro pins s σ H vs us Q I rv ⟨m, S, xs, rs, rx, fin⟩
  unfold vRepr at fin
  split at fin
  · rename_i x
    split at fin
    · rename_i z hz
      cases rx with
      | @cons _ v _ _ rx rn =>
        cases rn
        have q := fin.now rs (.str z)
        unfold reprP at hz
        split at hz
        · rename_i d hd
          split at hz
          · rename_i hc
            cases hz
            rw [Bool.and_eq_true_iff, Bool.and_eq_true_iff, Bool.and_eq_true_iff] at hc
            obtain ⟨⟨⟨c1, c2⟩, c3⟩, c4⟩ := hc
            have c2' : d.hasDict = false := by simpa using c2
            have hsz : d.shown.length ≤ sizeLine := ln_ok (of_decide_eq_true c3)
            have hdep : d.depth ≤ 64 := of_decide_eq_true c4
            obtain ⟨u, rfl, ru⟩ := vals1 rv
            have dp := dp_of rs 20 x v d rx hd
            obtain ⟨as, rd⟩ := Dp.reads I d v u dp ru
            have tail : ∀ (a : Addr), v = .ref a → wpAny (model X.prog X.w) X.A (call (.builtin "repr") [u]) (EP X pins σ Q) X.xe s := by
              intro a e
              subst e
              obtain rfl : u = Value.ref a := ru
              exact repr_of_reads' rd c1 (fun z => by rw [c2'] at z; cases z) hA (by omega) (fun _ _ h => h) (fun h' u tk k => ⟨.str _, H, I.kept (t' := tk) k, ⟨u, rfl⟩, q⟩) hsz
            cases dp with
            | non => obtain rfl : u = Value.none := ru; exact PySem.P.repr_of_none ⟨.str _, H, I.tok _, ⟨_, rfl⟩, q⟩
            | bl b => obtain rfl : u = Value.bool b := ru; exact PySem.P.repr_of_bool ⟨.str _, H, I.tok _, ⟨_, rfl⟩, q⟩
            | int i =>
              obtain ⟨t, rfl⟩ := ru
              exact PySem.P.repr_of_int (of_decide_eq_true c1) ⟨.str _, H, I.tok _, ⟨_, rfl⟩, q⟩
            | str y =>
              obtain ⟨t, rfl⟩ := ru
              exact PySem.P.repr_of_str ⟨.str _, H, I.tok _, ⟨_, rfl⟩, q⟩ hsz
            | lst _ _ => exact tail _ rfl
            | tup _ _ => exact tail _ rfl
          · cases hz
        · cases hz
    · exact fin.elim
  · exact fin.elim
end
end G

/-! G, part F: tests, statements, targets, loops, comprehensions. -/
namespace G
open PySem PySem.Spec PyProof.Rows L2

/-! ### truth, tests -/
def truP (S : Store) : PV → Option Bool
  | .non => some false
  | .bl b => some b
  | .int i => some (i != 0)
  | .str y => if y.length ≤ LN then some ((y.length : Int) != 0) else none
  | .tup xs => some (!xs.isEmpty)
  | .fl xs => some (!xs.isEmpty)
  | .loc n => match S[n]? with
    | some (.lst xs) => some (!xs.isEmpty)
    | some (.dk kvs) => some (!kvs.isEmpty)
    | _ => none
  | _ => none
theorem Rls.isEmpty {K : PySem.W.Frag} {m : List Addr} {H : Hp} {xs : List PV} {vs : List V} (r : Rls K m H xs vs) : xs.isEmpty = vs.isEmpty := by
  cases r <;> rfl
theorem tru_of {K : PySem.W.Frag} {m : List Addr} {H : Hp} {S : Store} {x : PV} {v : V} {k : Bool} (r : RS K m S H) (rx : Rl K m H x v) (h : truP S x = some k) : TruV K v H k := by
  cases rx with
  | non => cases h; rfl
  | bl b => cases h; rfl
  | int i => cases h; rfl
  | str y =>
    have h' : (if y.length ≤ LN then some ((y.length : Int) != 0) else none) = some k := h
    split at h'
    · rename_i hl; cases h'; exact ⟨ln_ok hl, rfl⟩
    · cases h'
  | ty n => cases h
  | ref a => cases h
  | tup ht rs => cases h; exact .inr (.inl ⟨_, ht, by rw [rs.isEmpty]⟩)
  | fl ht rs => cases h; exact .inl ⟨_, ht.sq, by rw [rs.isEmpty]⟩
  | @loc n a hn =>
    have h' : (match S[n]? with | some (.lst xs) => some (!xs.isEmpty) | some (.dk kvs) => some (!kvs.isEmpty) | _ => none) = some k := h
    split at h'
    · rename_i e; cases h'; obtain ⟨vs, h1, h2⟩ := r.at_ n _ a e hn; exact .inl ⟨vs, SqL.of h1, by rw [h2.isEmpty]⟩
    · rename_i kvs e
      cases h'
      obtain ⟨us, h1, h2⟩ := r.at_ n _ a e hn
      refine .inr (.inr ⟨us, h1, ?_⟩)
      have e1 := congrArg List.length h2.1
      rw [List.length_map, List.length_map] at e1
      cases kvs <;> cases us <;> first | rfl | cases e1
    · cases h'
def oT (S : Store) (x : PV) : Out Bool := match truP S x with
  | some b => .ok b S
  | none => .bad
def oBl (x : PV) (S : Store) : Out Bool := match x with
  | .bl b => .ok b S
  | _ => .bad
def bVal (f : SE) : SB := fun τ S => (f τ S).bind fun x S1 => oT S1 x
def bCmp (g : PV → PV → Store → Out PV) (f f' : SE) : SB := fun τ S => (eBin g f f' τ S).bind oBl
def bNot (f : SB) : SB := fun τ S => (f τ S).bind fun b S1 => .ok (!b) S1
def bAnd (f f' : SB) : SB := fun τ S => (f τ S).bind fun b S1 => if b then f' τ S1 else .ok false S1
def bOr (f f' : SB) : SB := fun τ S => (f τ S).bind fun b S1 => if b then .ok true S1 else f' τ S1
def bConst (b : Bool) : SB := fun _ S => .ok b S
def eAnd (f f' : SE) : SE := fun τ S => (f τ S).bind fun x S1 => match truP S1 x with
  | some true => f' τ S1
  | some false => .ok x S1
  | none => .bad
def eOr (f f' : SE) : SE := fun τ S => (f τ S).bind fun x S1 => match truP S1 x with
  | some true => .ok x S1
  | some false => f' τ S1
  | none => .bad
def eNot (f : SE) : SE := fun τ S => (f τ S).bind fun x S1 => match truP S1 x with
  | some b => .ok (.bl (!b)) S1
  | none => .bad
def eIf (c : SB) (f f' : SE) : SE := fun τ S => (c τ S).bind fun b S1 => if b then f τ S1 else f' τ S1
def eChain (g g' : PV → PV → Store → Out PV) (f f' f'' : SE) : SE := fun τ S => (f τ S).bind fun x S1 => (f' τ S1).bind fun y S2 => (g x y S2).bind fun z S3 => (oBl z S3).bind fun b S4 =>
  if b then (f'' τ S4).bind fun w S5 => g' y w S5 else .ok (.bl false) S4
section
variable {X : Cx} {e a b c : Expr} {rest : List Expr} {E : XK} {f f' f'' : SE} {t t' : SB} {pos : Pos} {g g' : PV → PV → Store → Out PV}
theorem fin_oT {K : PySem.W.Frag} {m : List Addr} {H : Hp} {S : Store} {x : PV} {v : V} {R : List Addr → Hp → Bool → Bool → Prop} {Q : Bool → Hp → Prop} (hR : ∀ b, R m H b b) (rs : RS K m S H) (rx : Rl K m H x v) (fin : Fin K R E m H Q (oT S x)) : ∃ k, TruV K v H k ∧ Q k H := by
  unfold oT at fin
  split at fin
  · rename_i k hk
    exact ⟨k, tru_of rs rx hk, fin.now rs (hR k)⟩
  · exact fin.elim
theorem t_val (h : PE X e (tE X.K E f)) (he : ∀ whole, isTrue e X.env whole = (do let v ← whole; standAt e.pos; holding [v] (truthy v))) : PT X e (tT X.K E (bVal f)) :=
  ptI (pt_truth h he) fun σ H Q ⟨m, S, τ, rs, re, fin⟩ => ⟨m, S, τ, rs, re, Fin.bind fin fun m1 H1 S1 x v l e rs1 rx fin1 => fin_oT (fun _ => rfl) rs1 rx fin1⟩
theorem fin_oBl {K : PySem.W.Frag} {m : List Addr} {H : Hp} {S : Store} {x : PV} {v : V} {Q : Bool → Hp → Prop} (rs : RS K m S H) (rx : Rl K m H x v) (fin : Fin K (fun _ _ a b => a = b) E m H Q (oBl x S)) : ∃ k, v = .bl k ∧ Q k H := by
  unfold oBl at fin
  split at fin
  · cases rx; exact ⟨_, rfl, fin.now rs rfl⟩
  · exact fin.elim
theorem t_cmp {op : CmpOp} (ho : OpR X (compareOp op) (r2 X.K E g)) (ha : PE X a (tE X.K E f)) (hb : PE X b (tE X.K E f')) (hm : behindInMarks op b = false) : PT X (.Compare a [op] [b] pos) (tT X.K E (bCmp g f f')) :=
  ptI (pt_cmpR ho ha hb hm) fun σ H Q ⟨m, S, τ, rs, re, fin⟩ => binI (f := f) (f' := f') (g := g) (t := tOp (r2 X.K E g) (tE X.K E f) (tE X.K E f')) (fun _ _ _ h => h) (fun _ _ _ _ h => h) σ H _
    ⟨m, S, τ, rs, re, Fin.bind fin fun m1 H1 S1 x v l e rs1 rx fin1 => fin_oBl rs1 rx fin1⟩
theorem t_not (h : PT X a (tT X.K E t)) : PT X (.UnaryOp .Not a pos) (tT X.K E (bNot t)) := ptI (pt_not h) fun σ H Q ⟨m, S, τ, rs, re, fin⟩ =>
  ⟨m, S, τ, rs, re, Fin.bind fin fun m1 H1 S1 x v l e rs1 rx fin1 => by cases rx; exact fin1.now rs1 rfl⟩
theorem tw_and1 (h : PT X a (tT X.K E t)) : PW X (.BoolOp .And [a] pos) (tT X.K E t) := pw_and1 h
theorem tw_or1 (h : PT X a (tT X.K E t)) : PW X (.BoolOp .Or [a] pos) (tT X.K E t) := pw_or1 h
theorem tw_and (ha : PT X a (tT X.K E t)) (hb : PW X (.BoolOp .And (b :: rest) pos) (tT X.K E t')) : PW X (.BoolOp .And (a :: b :: rest) pos) (tT X.K E (bAnd t t')) := pwI (pw_and ha hb) fun σ H Q ⟨m, S, τ, rs, re, fin⟩ =>
  ⟨m, S, τ, rs, re, Fin.bind fin fun m1 H1 S1 x v l e rs1 rx fin1 => by
    cases rx
    cases x with
    | true => exact iteT ⟨m1, S1, τ, rs1, re.mono l e, fin1⟩
    | false => exact iteF (fin1.now rs1 rfl)⟩
theorem tw_or (ha : PT X a (tT X.K E t)) (hb : PW X (.BoolOp .Or (b :: rest) pos) (tT X.K E t')) : PW X (.BoolOp .Or (a :: b :: rest) pos) (tT X.K E (bOr t t')) := pwI (pw_or ha hb) fun σ H Q ⟨m, S, τ, rs, re, fin⟩ =>
  ⟨m, S, τ, rs, re, Fin.bind fin fun m1 H1 S1 x v l e rs1 rx fin1 => by
    cases rx
    cases x with
    | false => exact iteF ⟨m1, S1, τ, rs1, re.mono l e, fin1⟩
    | true => exact iteT (fin1.now rs1 rfl)⟩
theorem g_one {op} (h : PE X a (tE X.K E f)) : PE X (.BoolOp op [a] pos) (tE X.K E f) := pe_one h
theorem truI {K : PySem.W.Frag} {m : List Addr} {H : Hp} {S : Store} {x : PV} {v : V} {A B : Out PV} {Q : VK} (rs : RS K m S H) (rx : Rl K m H x v) (fin : Fin K (Rl K) E m H Q (match truP S x with | some true => A | some false => B | none => .bad)) :
    ∃ k, TruV K v H k ∧ if k = true then Fin K (Rl K) E m H Q A else Fin K (Rl K) E m H Q B := by
  split at fin
  · rename_i h; exact ⟨true, tru_of rs rx h, iteT fin⟩
  · rename_i h; exact ⟨false, tru_of rs rx h, iteF fin⟩
  · exact fin.elim
theorem g_and (ha : PE X a (tE X.K E f)) (hb : PE X (.BoolOp .And (b :: rest) pos) (tE X.K E f')) : PE X (.BoolOp .And (a :: b :: rest) pos) (tE X.K E (eAnd f f')) := peI (pe_andT ha hb) fun σ H Q ⟨m, S, τ, rs, re, fin⟩ =>
  ⟨m, S, τ, rs, re, Fin.bind fin fun m1 H1 S1 x v l e rs1 rx fin1 => by
    obtain ⟨k, h1, h2⟩ := truI rs1 rx fin1
    refine ⟨k, h1, ?_⟩
    cases k with
    | true => exact iteT ⟨m1, S1, τ, rs1, re.mono l e, h2⟩
    | false => exact iteF (Fin.now (E := E) (show Fin X.K (Rl X.K) E m1 H1 Q (Out.ok x S1) from h2) rs1 rx)⟩
theorem g_or (ha : PE X a (tE X.K E f)) (hb : PE X (.BoolOp .Or (b :: rest) pos) (tE X.K E f')) : PE X (.BoolOp .Or (a :: b :: rest) pos) (tE X.K E (eOr f f')) := peI (pe_orT ha hb) fun σ H Q ⟨m, S, τ, rs, re, fin⟩ =>
  ⟨m, S, τ, rs, re, Fin.bind fin fun m1 H1 S1 x v l e rs1 rx fin1 => by
    obtain ⟨k, h1, h2⟩ := truI rs1 rx fin1
    refine ⟨k, h1, ?_⟩
    cases k with
    | true => exact iteT (Fin.now (E := E) (show Fin X.K (Rl X.K) E m1 H1 Q (Out.ok x S1) from h2) rs1 rx)
    | false => exact iteF ⟨m1, S1, τ, rs1, re.mono l e, h2⟩⟩
theorem g_not (ha : PE X a (tE X.K E f)) : PE X (.UnaryOp .Not a pos) (tE X.K E (eNot f)) := peI (pe_notT ha) fun σ H Q ⟨m, S, τ, rs, re, fin⟩ =>
  ⟨m, S, τ, rs, re, Fin.bind fin fun m1 H1 S1 x v l e rs1 rx fin1 => by
    split at fin1
    · rename_i k hk; exact ⟨k, tru_of rs1 rx hk, fin1.now rs1 (.bl _)⟩
    · exact fin1.elim⟩
theorem g_if (hc : PT X c (tT X.K E t)) (ha : PE X a (tE X.K E f)) (hb : PE X b (tE X.K E f')) : PE X (.IfExp c a b pos) (tE X.K E (eIf t f f')) := peI (pe_ifExp hc ha hb) fun σ H Q ⟨m, S, τ, rs, re, fin⟩ =>
  ⟨m, S, τ, rs, re, Fin.bind fin fun m1 H1 S1 x v l e rs1 rx fin1 => by
    cases rx
    cases x with
    | true => exact iteT ⟨m1, S1, τ, rs1, re.mono l e, fin1⟩
    | false => exact iteF ⟨m1, S1, τ, rs1, re.mono l e, fin1⟩⟩
theorem chainI : ∀ σ H Q, tE X.K E (eChain g g' f f' f'') σ H Q → tChain (r2 X.K E g) (r2 X.K E g') (tE X.K E f) (tE X.K E f') (tE X.K E f'') σ H Q := fun σ H Q ⟨m, S, τ, rs, re, fin⟩ =>
  ⟨m, S, τ, rs, re, Fin.bind fin fun m1 H1 S1 x v l1 e1 rs1 rx fin1 => ⟨m1, S1, τ, rs1, re.mono l1 e1, Fin.bind fin1 fun m2 H2 S2 y u l2 e2 rs2 ry fin2 =>
    ⟨m2, S2, x, y, rs2, rx.mono l2 e2, ry, Fin.bind fin2 fun m3 H3 S3 z w l3 e3 rs3 rz fin3 => by
      unfold oBl at fin3
      split at fin3
      · rename_i b
        cases rz
        refine ⟨b, rfl, ?_⟩
        cases b with
        | true => exact iteT ⟨m3, S3, τ, rs3, ((re.mono l1 e1).mono l2 e2).mono l3 e3, Fin.bind (k := fun w S5 => g' y w S5) fin3 fun m4 H4 S4 w' v' l4 e4 rs4 rw' fin4 => ⟨m4, S4, y, w', rs4, (ry.mono l3 e3).mono l4 e4, rw', fin4⟩⟩
        | false => exact iteF (Fin.now (S := S3) fin3 rs3 (.bl false))
      · exact fin3.elim⟩⟩⟩
theorem g_chain {op op' : CmpOp} (ho : OpR X (compareOp op) (r2 X.K E g)) (ho' : OpR X (compareOp op') (r2 X.K E g')) (ha : PE X a (tE X.K E f)) (hb : PE X b (tE X.K E f')) (hc : PE X c (tE X.K E f''))
    (hm : lastMarks [op, op'] [b, c] = false := by with_unfolding_all rfl) : PE X (.Compare a [op, op'] [b, c] pos) (tE X.K E (eChain g g' f f' f'')) := peI (pe_chain ho ho' ha hb hc hm) chainI
def bChain (g g' : PV → PV → Store → Out PV) (f f' f'' : SE) : SB := fun τ S => (eChain g g' f f' f'' τ S).bind oBl
theorem t_chain {op op' : CmpOp} (ho : OpR X (compareOp op) (r2 X.K E g)) (ho' : OpR X (compareOp op') (r2 X.K E g')) (ha : PE X a (tE X.K E f)) (hb : PE X b (tE X.K E f')) (hc : PE X c (tE X.K E f''))
    (hm : lastMarks [op, op'] [b, c] = false := by with_unfolding_all rfl) : PT X (.Compare a [op, op'] [b, c] pos) (tT X.K E (bChain g g' f f' f'')) := ptI (pt_chain ho ho' ha hb hc hm) fun σ H Q ⟨m, S, τ, rs, re, fin⟩ =>
  chainI σ H _ ⟨m, S, τ, rs, re, Fin.bind fin fun m1 H1 S1 x v l e rs1 rx fin1 => fin_oBl rs1 rx fin1⟩
end

/-! ### statements -/
def sNext : SS := fun τ S => .ok (.nx τ) S
def sSeq (f f' : SS) : SS := fun τ S => (f τ S).bind fun fl S1 => match fl with
  | .nx τ1 => f' τ1 S1
  | r => .ok r S1
def sDrop (f : SE) : SS := fun τ S => (f τ S).bind fun _ S1 => .ok (.nx τ) S1
def sRet (f : SE) : SS := fun τ S => (f τ S).bind fun x S1 => .ok (.rt x) S1
def sRetN : SS := fun _ S => .ok (.rt .non) S
def sBrk : SS := fun τ S => .ok (.bk τ) S
def sCont : SS := fun τ S => .ok (.ct τ) S
def sIf (c : SB) (f f' : SS) : SS := fun τ S => (c τ S).bind fun b S1 => if b then f τ S1 else f' τ S1
abbrev ST := PV → En → Store → Out En
def sAsg (f : SE) (g : ST) : SS := fun τ S => (f τ S).bind fun x S1 => (g x τ S1).bind fun τ1 S2 => .ok (.nx τ1) S2
def tG (K : PySem.W.Frag) (E : XK) (g : ST) : TG := fun v σ H Q => ∃ m S τ x, RS K m S H ∧ RE K m H τ σ ∧ Rl K m H x v ∧ Fin K (RE K) E m H Q (g x τ S)
abbrev STs := List PV → En → Store → Out En
def tGs (K : PySem.W.Frag) (E : XK) (g : STs) : TGs := fun vs σ H Q => ∃ m S τ xs, RS K m S H ∧ RE K m H τ σ ∧ Rls K m H xs vs ∧ Fin K (RE K) E m H Q (g xs τ S)
def stName (i : Nat) : ST := fun x τ S => .ok (τ.set i (some x)) S
def stNil : STs := fun xs τ S => match xs with
  | [] => .ok τ S
  | _ => .bad
def stCons (g : ST) (gs : STs) : STs := fun xs τ S => match xs with
  | x :: r => (g x τ S).bind fun τ1 S1 => gs r τ1 S1
  | _ => .bad
def stTup (n : Nat) (gs : STs) : ST := fun x τ S => match x with
  | .tup xs => if xs.length = n then gs xs τ S else .bad
  | _ => .bad
/-- o[i] = x of a list of the store -/
def vSet (o i x : PV) (S : Store) : Out Unit := match o, i with
  | .loc n, .int k => match S[n]? with
    | some (.lst xs) => match ixN xs.length k with
      | some j => .ok () (S.set n (.lst (xs.set j x)))
      | none => .bad
    | _ => .bad
  | _, _ => .bad
def stSub (fo fi : SE) (g : PV → PV → PV → Store → Out Unit) : ST := fun x τ S => (fo τ S).bind fun o S1 => (fi τ S1).bind fun i S2 => (g o i x S2).bind fun _ S3 => .ok τ S3
def sAug (i : Nat) (f : SE) (g : PV → PV → Store → Out PV) : SS := fun τ S => match τ[i]? with
  | some (some x) => (f τ S).bind fun y S1 => (g x y S1).bind fun z S2 => .ok (.nx (τ.set i (some z))) S2
  | _ => .bad
section
variable {X : Cx} {E : XK} {st : Stmt} {rest : List Stmt} {f f' : SS} {fe fo fi : SE} {e o ix : Expr} {pos : Pos} {g : ST} {gs : STs}
theorem h_nil : PSs X [] (tS X.K E sNext) := pssI pss_nil fun D σ H ⟨m, S, τ, rs, re, fin⟩ => Fin.now (b := FV.nx σ) fin rs re
theorem seqI : ∀ D σ H, tS X.K E (sSeq f f') D σ H → tSeq (tS X.K E f) (tS X.K E f') D σ H := fun D σ H ⟨m, S, τ, rs, re, fin⟩ =>
  ⟨m, S, τ, rs, re, Fin.bind fin fun m1 H1 S1 fl fv l e rs1 rf fin1 => by
    cases fl with
    | nx τ1 => cases fv with
      | nx σ1 => exact ⟨m1, S1, _, rs1, rf, fin1⟩
      | _ => exact False.elim rf
    | rt v => cases fv with
      | rt w => exact Fin.now (S := S1) (R := RFl X.K) (E := E) (a := Fl.rt v) (b := FV.rt w) (Q := qD D) fin1 rs1 rf
      | _ => exact False.elim rf
    | bk v => cases fv with
      | bk w => exact Fin.now (S := S1) (R := RFl X.K) (E := E) (a := Fl.bk v) (b := FV.bk w) (Q := qD D) fin1 rs1 rf
      | _ => exact False.elim rf
    | ct v => cases fv with
      | ct w => exact Fin.now (S := S1) (R := RFl X.K) (E := E) (a := Fl.ct v) (b := FV.ct w) (Q := qD D) fin1 rs1 rf
      | _ => exact False.elim rf⟩
theorem h_cons (h1 : PS X st (tS X.K E f)) (h2 : PSs X rest (tS X.K E f')) : PSs X (st :: rest) (tS X.K E (sSeq f f')) := pssI (pss_cons h1 h2) seqI
theorem h_one (h1 : PS X st (tS X.K E f)) : PSs X [st] (tS X.K E f) := pss_one h1
theorem h_pass : PS X (.Pass pos) (tS X.K E sNext) := psI ps_pass fun D σ H ⟨m, S, τ, rs, re, fin⟩ => Fin.now (b := FV.nx σ) fin rs re
theorem h_brk : PS X (.Break pos) (tS X.K E sBrk) := psI ps_break fun D σ H ⟨m, S, τ, rs, re, fin⟩ => Fin.now (b := FV.bk σ) fin rs re
theorem h_cont : PS X (.Continue pos) (tS X.K E sCont) := psI ps_continue fun D σ H ⟨m, S, τ, rs, re, fin⟩ => Fin.now (b := FV.ct σ) fin rs re
theorem h_expr (he : PE X e (tE X.K E fe)) (hs : swapsWith e none pos.line X.env = pure false := by rfl) : PS X (.Expr e pos) (tS X.K E (sDrop fe)) := psI (ps_expr he hs) fun D σ H ⟨m, S, τ, rs, re, fin⟩ =>
  ⟨m, S, τ, rs, re, Fin.bind fin fun m1 H1 S1 x v l e rs1 rx fin1 => Fin.now (b := FV.nx σ) fin1 rs1 (re.mono l e)⟩
theorem h_ret (he : PE X e (tE X.K E fe)) : PS X (.Return (some e) pos) (tS X.K E (sRet fe)) := psI (ps_ret he) fun D σ H ⟨m, S, τ, rs, re, fin⟩ =>
  ⟨m, S, τ, rs, re, Fin.bind fin fun m1 H1 S1 x v l e rs1 rx fin1 => Fin.now (b := FV.rt v) fin1 rs1 rx⟩
theorem h_retN : PS X (.Return none pos) (tS X.K E sRetN) := psI ps_retN fun D σ H ⟨m, S, τ, rs, re, fin⟩ => Fin.now (b := FV.rt .non) fin rs .non
theorem h_if {c : Expr} {a b : List Stmt} {t : SB} (hc : PT X c (tT X.K E t)) (ha : PSs X a (tS X.K E f)) (hb : PSs X b (tS X.K E f')) : PS X (.If c a b pos) (tS X.K E (sIf t f f')) := psI (ps_if hc ha hb) fun D σ H ⟨m, S, τ, rs, re, fin⟩ =>
  ⟨m, S, τ, rs, re, Fin.bind fin fun m1 H1 S1 x v l e rs1 rx fin1 => by
    cases rx
    cases x with
    | true => exact iteT ⟨m1, S1, τ, rs1, re.mono l e, fin1⟩
    | false => exact iteF ⟨m1, S1, τ, rs1, re.mono l e, fin1⟩⟩
theorem pgI {tg : Expr} {t t' : TG} (h : PG X tg t) (i : ∀ v σ H Q, t' v σ H Q → t v σ H Q) : PG X tg t' := ⟨fun pins s σ H v u Q I r w => h.run pins s σ H v u Q I r (i _ _ _ _ w)⟩
theorem pgsI {tg : List Expr} {t t' : TGs} (h : PGs X tg t) (i : ∀ v σ H Q, t' v σ H Q → t v σ H Q) : PGs X tg t' := ⟨fun pins s σ H v u Q I r w => h.run pins s σ H v u Q I r (i _ _ _ _ w)⟩
theorem s_name {i : Nat} {x : Str} (hN : X.N.Nodup) (hi : X.N[i]? = some x) (hx : Loc X.env.scope x) (hf : X.fn x = true ∨ X.env.scope.names.lookup x = some .local := by first | exact .inl rfl | exact .inr rfl | assumption) : PG X (.Name x pos) (tG X.K E (stName i)) :=
  pgI (pg_name hN hi hx hf) fun v σ H Q ⟨m, S, τ, x, rs, re, rx, fin⟩ => fin.now rs (re.set i rx)
theorem s_nil : PGs X [] (tGs X.K E stNil) := pgsI pgs_nil fun vs σ H Q ⟨m, S, τ, xs, rs, re, rx, fin⟩ => by
  cases rx with
  | nil => exact ⟨rfl, Fin.now (S := S) fin rs re⟩
  | cons _ _ => exact False.elim fin
theorem s_cons {es : List Expr} (h1 : PG X e (tG X.K E g)) (h2 : PGs X es (tGs X.K E gs)) (hs : (assignEach (e :: es) X.env).map (·.2) = assign e X.env :: (assignEach es X.env).map (·.2) := by rfl) : PGs X (e :: es) (tGs X.K E (stCons g gs)) :=
  pgsI (pgs_cons h1 h2 hs) fun vs σ H Q ⟨m, S, τ, xs, rs, re, rx, fin⟩ => by
  cases rx with
  | nil => exact False.elim fin
  | cons h r => exact ⟨_, _, rfl, m, S, τ, _, rs, re, h, Fin.bind (k := fun τ1 S1 => gs _ τ1 S1) fin fun m1 H1 S1 τ1 σ1 l e rs1 re1 fin1 => ⟨m1, S1, τ1, _, rs1, re1, r.mono l e, fin1⟩⟩
theorem s_tup {es : List Expr} {k n : Nat} (hc : X.calm = true) (h : PGs X es (tGs X.K E gs)) (hn : (assignEach es X.env).length = n := by rfl) (hst : (assignEach es X.env).findIdx? (·.1) = none := by rfl) : PG X (.Tuple es k pos) (tG X.K E (stTup n gs)) :=
  pgI (pg_tup hc h hn hst) fun v σ H Q ⟨m, S, τ, x, rs, re, rx, fin⟩ => by
  cases rx with
  | @tup xs vs a ht rr =>
    have fin' : Fin X.K (RE X.K) E m H Q (if xs.length = n then gs xs τ S else .bad) := fin
    split at fin'
    · rename_i hl; exact ⟨a, vs, rfl, ht, rr.length ▸ hl, m, S, τ, xs, rs, re, rr, fin'⟩
    · exact fin'.elim
  | _ => exact False.elim fin
def rSet (K : PySem.W.Frag) (E : XK) (g : PV → PV → PV → Store → Out Unit) : TSet := fun o i v H Q => ∃ m S ob ib x, RS K m S H ∧ Rl K m H ob o ∧ Rl K m H ib i ∧ Rl K m H x v ∧ Fin K (fun _ _ (_ : Unit) (_ : Unit) => True) E m H (fun _ H1 => Q H1) (g ob ib x S)
theorem o_set : PSet X (rSet X.K E vSet) := by
  intro pins s σ H o i v ov iv u Q I ro ri rv ⟨m, S, ob, ib, x, rs, r1, r2, r3, fin⟩
  unfold vSet at fin
  split at fin
  · split at fin
    · rename_i xs hS
      split at fin
      · rename_i j hj
        cases r1 with
        | @loc _ a hn =>
          cases r2
          obtain ⟨vs, h1, rr⟩ := rs.lst hS hn
          refine set_list pins s σ H _ _ v ov iv u Q I ro ri rv ⟨a, vs, _, j, rfl, rfl, h1, by rw [← rr.length]; exact hj, ?_⟩
          have ex : Ext H (upd H a (.lst (vs.set j v))) := .write h1 (fun _ z => by cases z) fun _ _ z => by cases z
          exact fin m _ () (.refl m) ex (rs.write hS hn ex ⟨_, upd_same, (rr.set j r3).mono (.refl m) ex⟩) trivial
      · exact fin.elim
    · exact fin.elim
  · exact fin.elim
theorem s_sub {gv : PV → PV → PV → Store → Out Unit} (ho : PE X o (tE X.K E fo)) (hi : PE X ix (tE X.K E fi)) (hs : PSet X (rSet X.K E gv))
    (ha : ∀ v, assign (.Subscript o ix pos) X.env v = (do
      let ov ← holding [v] (eval o X.env)
      let iv ← holding [v, ov] (eval ix X.env)
      standAt pos
      holding [v, ov, iv] (setItem ov iv v)
      release [v, ov, iv] []) := by intro _; rfl) : PG X (.Subscript o ix pos) (tG X.K E (stSub fo fi gv)) := pgI (pg_sub ho hi hs ha) fun v σ H Q ⟨m, S, τ, x, rs, re, rx, fin⟩ =>
  ⟨m, S, τ, rs, re, Fin.bind fin fun m1 H1 S1 ob ov l1 e1 rs1 r1 fin1 => ⟨m1, S1, τ, rs1, re.mono l1 e1, Fin.bind fin1 fun m2 H2 S2 ib iv l2 e2 rs2 r2 fin2 =>
    ⟨m2, S2, ob, ib, x, rs2, r1.mono l2 e2, r2, (rx.mono l1 e1).mono l2 e2, Fin.bind fin2 fun m3 H3 S3 _ _ l3 e3 rs3 _ fin3 => fin3.now rs3 (((re.mono l1 e1).mono l2 e2).mono l3 e3)⟩⟩⟩
theorem asgI : ∀ D σ H, tS X.K E (sAsg fe g) D σ H → tAsg (tE X.K E fe) (tG X.K E g) D σ H := fun D σ H ⟨m, S, τ, rs, re, fin⟩ =>
  ⟨m, S, τ, rs, re, Fin.bind fin fun m1 H1 S1 x v l e rs1 rx fin1 => ⟨m1, S1, τ, x, rs1, re.mono l e, rx, Fin.bind fin1 fun m2 H2 S2 τ2 σ2 l2 e2 rs2 re2 fin2 => Fin.now (b := FV.nx σ2) fin2 rs2 re2⟩⟩
theorem h_asg {tg : Expr} (he : PE X e (tE X.K E fe)) (hg : PG X tg (tG X.K E g)) (hs : swapsWithSole [tg] e pos.line X.env = pure false := by rfl) (hw : swappedStores [tg] e X.env = pure none := by rfl)
    (h1 : (assignEach [tg] X.env).map (·.2) = [assign tg X.env] := by rfl) : PS X (.Assign [tg] e pos) (tS X.K E (sAsg fe g)) := psI (ps_asg he hg hs hw h1) asgI
theorem h_aug {i : Nat} {x : Str} {op : Operator} {gv : PV → PV → Store → Out PV} {pos' : Pos} (hN : X.N.Nodup) (hi : X.N[i]? = some x) (hx : Loc X.env.scope x) (he : PE X e (tE X.K E fe)) (ho : OpR X (inplaceOp op) (r2 X.K E gv))
    (hf : X.fn x = true ∨ X.env.scope.names.lookup x = some .local := by first | exact .inl rfl | exact .inr rfl | assumption) : PS X (.AugAssign (.Name x pos') op e pos) (tS X.K E (sAug i fe gv)) :=
  psI (ps_aug hN hi hx he (show PIp X op (r2 X.K E gv) from fun pins s σ H x y v u Q I rx ry h => ho pins s σ H x y v u Q I rx ry h) hf) fun D σ H ⟨m, S, τ, rs, re, fin⟩ => by
  unfold sAug at fin
  split at fin
  · rename_i x hx
    obtain ⟨v, h1, h2⟩ := re.2 i x hx
    exact ⟨v, h1, m, S, τ, rs, re, Fin.bind fin fun m1 H1 S1 y u l1 e1 rs1 ry fin1 => ⟨m1, S1, x, y, rs1, h2.mono l1 e1, ry, Fin.bind fin1 fun m2 H2 S2 z w l2 e2 rs2 rz fin2 =>
      Fin.now (b := FV.nx _) fin2 rs2 (((re.mono l1 e1).mono l2 e2).set i rz)⟩⟩
  · exact fin.elim
end

/-! ### while -/
def whileF (c : SB) (b : SS) : Nat → SS
  | 0, _, _ => .bad
  | n + 1, τ, S => (c τ S).bind fun k S1 => if k then (b τ S1).bind fun fl S2 => match fl with
      | .nx τ1 => whileF c b n τ1 S2
      | .ct τ1 => whileF c b n τ1 S2
      | .bk τ1 => .ok (.nx τ1) S2
      | .rt v => .ok (.rt v) S2
    else .ok (.nx τ) S1
def sWhile (c : SB) (b : SS) : SS := fun τ S => whileF c b LN τ S
section
variable {X : Cx} {E : XK}
theorem h_while {c : Expr} {body : List Stmt} {t : SB} {f : SS} {pos : Pos} (hp : PassesOwn (model X.prog X.w) X.A X.env X.xe) (hc : PT X c (tT X.K E t)) (hb : PSs X body (tS X.K E f)) : PS X (.While c body [] pos) (tS X.K E (sWhile t f)) :=
  psI (ps_while hp hc hb) fun D σ H ⟨m, S, τ, rs, re, fin⟩ => by
  refine ⟨fun n σ H => ∃ m S τ, RS X.K m S H ∧ RE X.K m H τ σ ∧ Fin X.K (RFl X.K) E m H (qD D) (whileF t f n τ S), ⟨LN, m, S, τ, rs, re, fin⟩, ?_⟩
  rintro n σ H ⟨m, S, τ, rs, re, fin⟩
  cases n with
  | zero => exact fin.elim
  | succ n =>
    refine ⟨m, S, τ, rs, re, Fin.bind fin fun m1 H1 S1 k k' l e rs1 rk fin1 => ?_⟩
    cases rk
    cases k with
    | false => exact iteF (Fin.now (S := S1) (b := FV.nx σ) fin1 rs1 (re.mono l e))
    | true =>
      refine iteT ⟨fun σ H => ∃ m S τ, RS X.K m S H ∧ RE X.K m H τ σ ∧ Fin X.K (RFl X.K) E m H (qD D) (whileF t f n τ S), fun σ' H' h => ⟨n, Nat.lt_succ_self n, h⟩, m1, S1, τ, rs1, re.mono l e, Fin.bind fin1 fun m2 H2 S2 fl fv l2 e2 rs2 rf fin2 => ?_⟩
      cases fl with
      | nx τ1 => cases fv with
        | nx σ1 => exact ⟨m2, S2, _, rs2, rf, fin2⟩
        | _ => exact False.elim rf
      | ct τ1 => cases fv with
        | ct σ1 => exact ⟨m2, S2, _, rs2, rf, fin2⟩
        | _ => exact False.elim rf
      | bk τ1 => cases fv with
        | bk σ1 => exact Fin.now (S := S2) (R := RFl X.K) (E := E) (a := Fl.nx τ1) (b := FV.nx σ1) (Q := qD D) fin2 rs2 rf
        | _ => exact False.elim rf
      | rt v => cases fv with
        | rt w => exact Fin.now (S := S2) (R := RFl X.K) (E := E) (a := Fl.rt v) (b := FV.rt w) (Q := qD D) fin2 rs2 rf
        | _ => exact False.elim rf
end

/-! ### what is walked -/
/-- the i-th item in a store: none: not known; some none: the end -/
abbrev Src := Nat → Store → Option (Option PV)
def srcSeq (xs : List PV) : Src := fun i _ => some xs[i]?
def srcLive (n : Nat) : Src := fun i S => match S[n]? with
  | some (.lst xs) => some xs[i]?
  | _ => none
def RSrc (K : PySem.W.Frag) (m : List Addr) (H : Hp) (src : Src) (J : It) : Prop := ∀ i m' S' H', Pre m m' → Ext H H' → RS K m' S' H' → match src i S' with
  | some (some x) => J.go i H' ∧ ∀ v H'', J.yld i H' v H'' → RS K m' S' H'' ∧ Ext H' H'' ∧ Rl K m' H'' x v
  | some none => J.stop i H'
  | none => True
abbrev SI := En → Store → Out Src
def tI (K : PySem.W.Frag) (E : XK) (f : SI) : TI := fun σ H R => ∃ m S τ, RS K m S H ∧ RE K m H τ σ ∧ Fin K (RSrc K) E m H R (f τ S)
def strP (a : Str) : List PV := a.cps.toList.map fun c => .str ⟨#[c]⟩
def rangeP (lo hi : Int) : List PV := (List.range (hi - lo).toNat).map fun (i : Nat) => .int (lo + i)
/-- a value that is walked as it is -/
def srcOf (x : PV) (S : Store) : Out Src := match x with
  | .str a => .ok (srcSeq (strP a)) S
  | .tup xs => .ok (srcSeq xs) S
  | .fl xs => .ok (srcSeq xs) S
  | .loc n => match S[n]? with
    | some (.lst _) => .ok (srcLive n) S
    | _ => .bad
  | _ => .bad
def iVal (f : SE) : SI := fun τ S => (f τ S).bind srcOf
def rngOf (xs : List PV) (S : Store) : Out Src := match xs with
  | [.int j] => if -(2 ^ 62) ≤ j ∧ j < 2 ^ 62 then .ok (srcSeq (rangeP 0 j)) S else .bad
  | _ => .bad
def rngOf2 (xs : List PV) (S : Store) : Out Src := match xs with
  | [.int i, .int j] => if -(2 ^ 62) ≤ i ∧ i < 2 ^ 62 ∧ -(2 ^ 62) ≤ j ∧ j < 2 ^ 62 then .ok (srcSeq (rangeP i j)) S else .bad
  | _ => .bad
def iRange (fs : SA) : SI := fun τ S => (fs τ S).bind rngOf
def iRange2 (fs : SA) : SI := fun τ S => (fs τ S).bind rngOf2
/-- enumerate of a list, zip of two lists: the items are new pairs -/
def enumP (xs : List PV) (i : Nat) : Option PV := xs[i]?.map fun x => .tup [.int (i : Nat), x]
def zipP (xs ys : List PV) (i : Nat) : Option PV := match xs[i]?, ys[i]? with
  | some x, some y => some (.tup [x, y])
  | _, _ => none
section
variable {K : PySem.W.Frag} {m : List Addr} {H : Hp} {S : Store} {E : XK}
theorem src_str (a : Str) : RSrc K m H (srcSeq (strP a)) (Its a) := by
  intro i m' S' H' l e rs
  unfold srcSeq strP
  rw [List.getElem?_map]
  cases h : a.cps.toList[i]? with
  | none =>
    have := List.getElem?_eq_none_iff.mp h
    show a.cps.size ≤ i
    simpa using this
  | some c =>
    have hi := (List.getElem?_eq_some_iff.mp h).1
    refine ⟨show i < a.cps.size by simpa using hi, ?_⟩
    rintro v H'' ⟨rfl, c', h1, rfl⟩
    have h2 : a.cps.toList[i]? = some c' := by simpa using h1
    rw [h] at h2
    cases h2
    exact ⟨rs, .refl _, .str _⟩
theorem src_tup {xs : List PV} {vs : List V} {a : Addr} (h : SqT K H a vs) (r : Rls K m H xs vs) : RSrc K m H (srcSeq xs) (Itt K a) := by
  intro i m' S' H' l e rs
  have h' := e.sqT h
  have r' := r.mono l e
  unfold srcSeq
  cases q : xs[i]? with
  | none =>
    refine ⟨vs, h', ?_⟩
    rw [← r.length]
    exact List.getElem?_eq_none_iff.mp q
  | some x =>
    obtain ⟨v, hv, rv⟩ := r'.get q
    refine ⟨⟨vs, v, h', hv⟩, ?_⟩
    rintro w H'' ⟨rfl, hw⟩
    have e1 := hw vs h'
    rw [hv] at e1
    cases e1
    exact ⟨rs, .refl _, rv⟩
theorem src_fl {xs : List PV} {vs : List V} {a : Addr} (h : FzL K H a vs) (r : Rls K m H xs vs) : RSrc K m H (srcSeq xs) (Itl K a) := by
  intro i m' S' H' l e rs
  have h' := (e.fz h).sq
  have r' := r.mono l e
  unfold srcSeq
  cases q : xs[i]? with
  | none =>
    refine ⟨vs, h', ?_⟩
    rw [← r.length]
    exact List.getElem?_eq_none_iff.mp q
  | some x =>
    obtain ⟨v, hv, rv⟩ := r'.get q
    refine ⟨⟨vs, v, h', hv⟩, ?_⟩
    rintro w H'' ⟨rfl, hw⟩
    have e1 := hw vs h'
    rw [hv] at e1
    cases e1
    exact ⟨rs, .refl _, rv⟩
theorem src_live {n : Nat} {a : Addr} (h : m[n]? = some a) : RSrc K m H (srcLive n) (Itl K a) := by
  intro i m' S' H' l e rs
  unfold srcLive
  cases q0 : S'[n]? with
  | none => trivial
  | some o =>
    cases o with
    | lst xs =>
      obtain ⟨vs, h1, r'⟩ := rs.lst q0 (l n a h)
      have h' : SqL K H' a vs := SqL.of h1
      dsimp only
      cases q : xs[i]? with
      | none =>
        refine ⟨vs, h', ?_⟩
        rw [← r'.length]
        exact List.getElem?_eq_none_iff.mp q
      | some x =>
        obtain ⟨v, hv, rv⟩ := r'.get q
        refine ⟨⟨vs, v, h', hv⟩, ?_⟩
        rintro w H'' ⟨rfl, hw⟩
        have e1 := hw vs h'
        rw [hv] at e1
        cases e1
        exact ⟨rs, .refl _, rv⟩
    | _ => trivial
theorem src_rng (lo : Int) (n : Nat) : RSrc K m H (srcSeq ((List.range n).map fun (i : Nat) => .int (lo + i))) (Itr lo n) := by
  intro i m' S' H' l e rs
  unfold srcSeq
  rw [List.getElem?_map]
  by_cases h : i < n
  · rw [List.getElem?_range h]
    refine ⟨h, ?_⟩
    rintro w H'' ⟨rfl, rfl⟩
    exact ⟨rs, .refl _, .int _⟩
  · rw [List.getElem?_eq_none (by simpa using Nat.le_of_not_lt h)]
    exact Nat.le_of_not_lt h
end
section
variable {X : Cx} {E : XK} {tg e : Expr} {es : List Expr} {f : SE} {fs : SA}
theorem i_val (he : PE X e (tE X.K E f)) : PI X tg e (tI X.K E (iVal f)) := by
  constructor
  rintro pins s σ H R I ⟨m, S, τ, rs, re, fin⟩
  cases hf : f τ S with
  | bad => unfold iVal at fin; rw [hf] at fin; exact fin.elim
  | exc C fs' S' =>
    unfold iVal at fin; rw [hf] at fin
    -- an exception: any of the rules serves
    exact (pi_list he).run pins s σ H R I ⟨m, S, τ, rs, re, by rw [hf]; exact fin⟩
  | ok x S1 =>
    unfold iVal at fin; rw [hf] at fin
    have fin' : Fin X.K (RSrc X.K) E m H R (srcOf x S1) := fin
    cases x with
    | str a => exact (pi_str he).run pins s σ H R I ⟨m, S, τ, rs, re, by
        rw [hf]; intro m1 H1 v l e1 rs1 rx; cases rx; exact ⟨_, rfl, (Fin.base l e1 fin').now rs1 (src_str a)⟩⟩
    | tup xs => exact (pi_tup he).run pins s σ H R I ⟨m, S, τ, rs, re, by
        rw [hf]; intro m1 H1 v l e1 rs1 rx
        cases rx with
        | tup ht rr => exact ⟨_, rfl, ⟨_, ht⟩, (Fin.base l e1 fin').now rs1 (src_tup ht rr)⟩⟩
    | fl xs => exact (pi_list he).run pins s σ H R I ⟨m, S, τ, rs, re, by
        rw [hf]; intro m1 H1 v l e1 rs1 rx
        cases rx with
        | fl ht rr => exact ⟨_, rfl, ⟨_, ht.sq⟩, (Fin.base l e1 fin').now rs1 (src_fl ht rr)⟩⟩
    | loc n => exact (pi_list he).run pins s σ H R I ⟨m, S, τ, rs, re, by
        rw [hf]; intro m1 H1 v l e1 rs1 rx
        cases rx with
        | loc hn =>
          have fin2 : Fin X.K (RSrc X.K) E m H R (match S1[n]? with | some (.lst _) => .ok (srcLive n) S1 | _ => .bad) := fin'
          split at fin2
          · rename_i xs q
            obtain ⟨vs, h1, rr⟩ := rs1.lst q hn
            exact ⟨_, rfl, ⟨_, SqL.of h1⟩, (Fin.base l e1 fin2).now rs1 (src_live hn)⟩
          · exact fin2.elim⟩
    | _ => exact fin'.elim
theorem i_range1 {a : Expr} {p pos : Pos} (hg : Gl X "range") (hm : X.mg "range" = none) (ha : PA X [a] (tA X.K E fs)) (hs : starEach [a] X.env = [(false, eval a X.env)] := by rfl) : PI X tg (.Call (.Name "range" p) [a] [] pos) (tI X.K E (iRange fs)) := by
  constructor
  rintro pins s σ H R I ⟨m, S, τ, rs, re, fin⟩
  refine (pi_range1 hg hm ha hs).run pins s σ H R I ⟨m, S, τ, rs, re, Fin.bind fin fun m1 H1 S1 xs vs l e rs1 rx fin1 => ?_⟩
  unfold rngOf at fin1
  split at fin1
  · rename_i j
    split at fin1
    · rename_i h
      cases rx with
      | cons rx rn =>
        cases rn; cases rx
        refine ⟨j, rfl, h.1, h.2, fin1.now rs1 ?_⟩
        have e0 := src_rng (K := X.K) (m := m1) (H := H1) 0 j.toNat
        unfold rangeP
        rw [Int.sub_zero]
        exact e0
    · exact fin1.elim
  · exact fin1.elim
theorem i_range2 {a b : Expr} {p pos : Pos} (hg : Gl X "range") (hm : X.mg "range" = none) (ha : PA X [a, b] (tA X.K E fs)) (hs : starEach [a, b] X.env = [(false, eval a X.env), (false, eval b X.env)] := by rfl) (hs2 : starEach [b] X.env = [(false, eval b X.env)] := by rfl) :
    PI X tg (.Call (.Name "range" p) [a, b] [] pos) (tI X.K E (iRange2 fs)) := by
  constructor
  rintro pins s σ H R I ⟨m, S, τ, rs, re, fin⟩
  refine (pi_range2 hg hm ha hs hs2).run pins s σ H R I ⟨m, S, τ, rs, re, Fin.bind fin fun m1 H1 S1 xs vs l e rs1 rx fin1 => ?_⟩
  unfold rngOf2 at fin1
  split at fin1
  · rename_i i j
    split at fin1
    · rename_i h
      cases rx with
      | cons rx rn =>
        cases rn with
        | cons ry rn =>
          cases rn; cases rx; cases ry
          exact ⟨i, j, rfl, h, fin1.now rs1 (src_rng (K := X.K) (m := m1) (H := H1) i (j - i).toNat)⟩
    · exact fin1.elim
  · exact fin1.elim
end
end G

/-! G, part H: for, list comprehensions, methods of built-in types. -/
namespace G
open PySem PySem.Spec PyProof.Rows L2

def forF (src : Src) (g : ST) (b : SS) : Nat → Nat → SS
  | 0, _, _, _ => .bad
  | n + 1, i, τ, S => match src i S with
    | none => .bad
    | some none => .ok (.nx τ) S
    | some (some x) => (g x τ S).bind fun τ1 S1 => (b τ1 S1).bind fun fl S2 => match fl with
      | .nx τ2 => forF src g b n (i + 1) τ2 S2
      | .ct τ2 => forF src g b n (i + 1) τ2 S2
      | .bk τ2 => .ok (.nx τ2) S2
      | .rt v => .ok (.rt v) S2
def sFor (fi : SI) (g : ST) (b : SS) : SS := fun τ S => (fi τ S).bind fun src S1 => forF src g b LN 0 τ S1
section
variable {X : Cx} {E : XK}
theorem h_for {tg iter : Expr} {body : List Stmt} {fi : SI} {g : ST} {f : SS} {pos : Pos} (hp : PassesOwn (model X.prog X.w) X.A X.env X.xe) (hc : X.calm = true) (hi : PI X tg iter (tI X.K E fi)) (hg : PG X tg (tG X.K E g)) (hb : PSs X body (tS X.K E f))
    (hs : ∀ x, foldedSetIterable iter X.env x = pure x := by intro _; rfl) : PS X (.For tg iter body [] pos) (tS X.K E (sFor fi g f)) := psI (ps_for hp hc hi hg hb hs) fun D σ0 H0 ⟨m0, S0, τ0, rs0, re0, fin0⟩ => by
  refine ⟨m0, S0, τ0, rs0, re0, Fin.bind fin0 fun m1 H1 S1 src J l1 e1 rs1 rsrc fin1 => ?_⟩
  refine ⟨fun i n σ H => ∃ m S τ, Pre m1 m ∧ Ext H1 H ∧ RS X.K m S H ∧ RE X.K m H τ σ ∧ Fin X.K (RFl X.K) E m H (qD D) (forF src g f n i τ S), ⟨LN, m1, S1, τ0, .refl _, .refl _, rs1, re0.mono l1 e1, fin1⟩, ?_⟩
  rintro i n σ H ⟨m, S, τ, l, e, rs, re, fin⟩
  cases n with
  | zero => exact fin.elim
  | succ n =>
    have key := rsrc i m S H l e rs
    have fin' : Fin X.K (RFl X.K) E m H (qD D) (match src i S with | none => .bad | some none => .ok (.nx τ) S | some (some x) => (g x τ S).bind fun τ1 S1 => (f τ1 S1).bind fun fl S2 => match fl with | .nx τ2 => forF src g f n (i + 1) τ2 S2 | .ct τ2 => forF src g f n (i + 1) τ2 S2 | .bk τ2 => .ok (.nx τ2) S2 | .rt v => .ok (.rt v) S2) := fin
    cases q : src i S with
    | none => rw [q] at fin'; exact fin'.elim
    | some o =>
      rw [q] at fin' key
      cases o with
      | none => exact .inl ⟨key, Fin.now (S := S) (R := RFl X.K) (E := E) (a := Fl.nx τ) (b := FV.nx σ) (Q := qD D) fin' rs re⟩
      | some x =>
        refine .inr ⟨key.1, fun σ H => ∃ m S τ, Pre m1 m ∧ Ext H1 H ∧ RS X.K m S H ∧ RE X.K m H τ σ ∧ Fin X.K (RFl X.K) E m H (qD D) (forF src g f n (i + 1) τ S), fun σ' H' h => ⟨n, Nat.lt_succ_self n, h⟩, fun v H' y => ?_⟩
        obtain ⟨rs2, e2, rx⟩ := key.2 v H' y
        refine ⟨m, S, τ, x, rs2, re.mono (.refl m) e2, rx, Fin.bind (Fin.base (.refl m) e2 fin') fun m3 H3 S3 τ3 σ3 l3 e3 rs3 re3 fin3 => ⟨m3, S3, τ3, rs3, re3, Fin.bind fin3 fun m4 H4 S4 fl fv l4 e4 rs4 rf fin4 => ?_⟩⟩
        have lx : Pre m1 m4 := (l.trans l3).trans l4
        have ex : Ext H1 H4 := ((e.trans e2).trans e3).trans e4
        cases fl with
        | nx τ1 => cases fv with
          | nx σ1 => exact ⟨m4, S4, _, lx, ex, rs4, rf, fin4⟩
          | _ => exact False.elim rf
        | ct τ1 => cases fv with
          | ct σ1 => exact ⟨m4, S4, _, lx, ex, rs4, rf, fin4⟩
          | _ => exact False.elim rf
        | bk τ1 => cases fv with
          | bk σ1 => exact Fin.now (S := S4) (R := RFl X.K) (E := E) (a := Fl.nx τ1) (b := FV.nx σ1) (Q := qD D) fin4 rs4 rf
          | _ => exact False.elim rf
        | rt v => cases fv with
          | rt w => exact Fin.now (S := S4) (R := RFl X.K) (E := E) (a := Fl.rt v) (b := FV.rt w) (Q := qD D) fin4 rs4 rf
          | _ => exact False.elim rf
end

/-! ### targets of comprehensions -/
theorem wipe_get (σ : L2.St) (j : Nat) : ∀ vs : List Nat, (L2.wipe σ vs)[j]? = if j ∈ vs then (if j < σ.length then some none else none) else σ[j]?
  | [] => by simp [L2.wipe]
  | v :: vs => by
    unfold L2.wipe
    by_cases h : v = j
    · subst h
      rw [if_pos List.mem_cons_self]
      by_cases hl : v < σ.length
      · rw [if_pos hl, List.getElem?_set_self (by rw [wipe_length]; exact hl)]
      · rw [if_neg hl, List.getElem?_eq_none (by rw [List.length_set, wipe_length]; exact Nat.le_of_not_lt hl)]
    · rw [List.getElem?_set_ne h, wipe_get σ j vs]
      have : (j ∈ v :: vs) ↔ j ∈ vs := by
        rw [List.mem_cons]
        exact ⟨fun z => z.elim (fun e => absurd e.symm h) id, .inr⟩
      simp only [this]
theorem wipe_set (σ : L2.St) (vs : List Nat) (i : Nat) (hi : i ∈ vs) (y : Option V) : L2.wipe (σ.set i y) vs = L2.wipe σ vs := by
  apply List.ext_getElem?
  intro j
  rw [wipe_get, wipe_get, List.length_set]
  by_cases h : j ∈ vs
  · rw [if_pos h, if_pos h]
  · rw [if_neg h, if_neg h, List.getElem?_set_ne fun (z : i = j) => h (by rw [← z]; exact hi)]
theorem wipe_wipe (σ : L2.St) (vs : List Nat) : L2.wipe (L2.wipe σ vs) vs = L2.wipe σ vs := by
  apply List.ext_getElem?
  intro j
  rw [wipe_get, wipe_get, wipe_length]
  by_cases h : j ∈ vs
  · simp only [if_pos h]
  · simp only [if_neg h]
abbrev CT := PV → En → Option En
/-- a target that stores in the block's own slots alone -/
def TgOk (K : PySem.W.Frag) (vs : List Nat) (g : TG) (g' : CT) : Prop := ∀ m H v σ τ x τ1, RE K m H τ σ → Rl K m H x v → g' x τ = some τ1 → ∃ σ2, (∀ Q : L2.St → Hp → Prop, Q σ2 H → g v σ H Q) ∧ RE K m H τ1 σ2 ∧ L2.wipe σ2 vs = L2.wipe σ vs
def TgsOk (K : PySem.W.Frag) (vs : List Nat) (g : TGs) (g' : List PV → En → Option En) : Prop := ∀ m H ws σ τ xs τ1, RE K m H τ σ → Rls K m H xs ws → g' xs τ = some τ1 → ∃ σ2, (∀ Q : L2.St → Hp → Prop, Q σ2 H → g ws σ H Q) ∧ RE K m H τ1 σ2 ∧ L2.wipe σ2 vs = L2.wipe σ vs
def ctName (i : Nat) : CT := fun x τ => some (τ.set i (some x))
def ctNil : List PV → En → Option En := fun xs τ => match xs with
  | [] => some τ
  | _ => none
def ctCons (g : CT) (gs : List PV → En → Option En) : List PV → En → Option En := fun xs τ => match xs with
  | x :: r => (g x τ).bind fun τ1 => gs r τ1
  | _ => none
def ctTup (n : Nat) (gs : List PV → En → Option En) : CT := fun x τ => match x with
  | .tup xs => if xs.length = n then gs xs τ else none
  | _ => none
section
variable {K : PySem.W.Frag} {vs : List Nat}
theorem ct_name {i : Nat} (hi : i ∈ vs) : TgOk K vs (gName i) (ctName i) := by
  intro m H v σ τ x τ1 re rx h
  cases h
  exact ⟨_, fun Q q => q, re.set i rx, wipe_set σ vs i hi _⟩
theorem ct_nil : TgsOk K vs gNil ctNil := by
  intro m H ws σ τ xs τ1 re rx h
  cases rx with
  | nil => cases h; exact ⟨σ, fun Q q => ⟨rfl, q⟩, re, rfl⟩
  | cons _ _ => cases h
theorem ct_cons {g : TG} {gs : TGs} {g' : CT} {gs' : List PV → En → Option En} (h1 : TgOk K vs g g') (h2 : TgsOk K vs gs gs') : TgsOk K vs (gCons g gs) (ctCons g' gs') := by
  intro m H ws σ τ xs τ1 re rx h
  cases rx with
  | nil => cases h
  | @cons x v xs ws rh rr =>
    obtain ⟨τ2, e1, e2⟩ := Option.bind_eq_some_iff.mp (show (g' x τ).bind (fun τ1 => gs' xs τ1) = some τ1 from h)
    obtain ⟨σ2, a1, a2, a3⟩ := h1 m H v σ τ x τ2 re rh e1
    obtain ⟨σ3, b1, b2, b3⟩ := h2 m H ws σ2 τ2 xs τ1 a2 rr e2
    exact ⟨σ3, fun Q q => ⟨v, ws, rfl, a1 _ (b1 Q q)⟩, b2, b3.trans a3⟩
theorem ct_tup {n : Nat} {gs : TGs} {gs' : List PV → En → Option En} (h2 : TgsOk K vs gs gs') : TgOk K vs (gTup K n gs) (ctTup n gs') := by
  intro m H v σ τ x τ1 re rx h
  cases rx with
  | @tup xs ws a ht rr =>
    have h' : (if xs.length = n then gs' xs τ else none) = some τ1 := h
    split at h'
    · rename_i hl
      obtain ⟨σ2, a1, a2, a3⟩ := h2 m H ws σ τ xs τ1 re rr h'
      exact ⟨σ2, fun Q q => ⟨a, ws, rfl, ht, rr.length ▸ hl, a1 Q q⟩, a2, a3⟩
    · cases h'
  | _ => cases h
end

/-! ### list comprehensions -/
abbrev E0x : XK := fun _ _ _ => False
def noX {α : Type} (o : Out α) : Out α := match o with
  | .exc _ _ _ => .bad
  | o => o
theorem Fin.noX {α β : Type} {K : PySem.W.Frag} {m : List Addr} {H : Hp} {E : XK} {R : List Addr → Hp → α → β → Prop} {Q : β → Hp → Prop} {o : Out α} (h : Fin K R E m H Q (noX o)) : Fin K R E0x m H Q o := by
  cases o with
  | ok a S => exact h
  | exc C fs S => exact h.elim
  | bad => exact h
def compF (src : Src) (g : CT) (c : SB) (elt : SE) (D : Nat) (τ : En) : Nat → Nat → Store → Out Unit
  | 0, _, _ => .bad
  | n + 1, i, S => match src i S with
    | none => .bad
    | some none => .ok () S
    | some (some x) => match g x τ with
      | none => .bad
      | some τ2 => (noX (c τ2 S)).bind fun b S2 => if b then (noX (elt τ2 S2)).bind fun y S3 => match S3[D]? with
          | some (.lst acc) => if acc.length < LN then compF src g c elt D τ n (i + 1) (S3.set D (.lst (acc ++ [y]))) else .bad
          | _ => .bad
        else compF src g c elt D τ n (i + 1) S2
def eLc (fi : SI) (g : CT) (c : SB) (elt : SE) (vs : List Nat) : SE := fun τ S => (fi τ S).bind fun src S1 => (compF src g c elt S1.length (wipeP τ vs) LN 0 (S1 ++ [.lst []])).bind fun _ S2 => .ok (.loc S1.length) S2
def bTrue : SB := fun _ S => .ok true S
section
variable {X : Cx} {E : XK} {tg iter elt : Expr} {ifs : List Expr} {scope : Scope} {own : List (Str × Nat)} {pos : Pos} {fi : SI} {g : TG} {g' : CT} {c : SB} {f : SE}
theorem ptsI {X : Cx} {ifs : List Expr} {t t' : TT} (h : PTs X ifs t) (i : ∀ σ H Q, t' σ H Q → t σ H Q) : PTs X ifs t' := ⟨fun pins s σ H Q I w => h.run pins s σ H Q I (i _ _ _ w)⟩
theorem ts_nil : PTs X [] (tT X.K E bTrue) := ptsI pts_nil fun σ H Q ⟨m, S, τ, rs, re, fin⟩ => fin.now rs rfl
theorem ts_one {e : Expr} (h : PT X e (tT X.K E c)) : PTs X [e] (tT X.K E c) := pts_one h
theorem lcI (hg : TgOk X.K (own.map (·.2)) g g') : ∀ σ H Q, tE X.K E (eLc fi g' c f (own.map (·.2))) σ H Q → tLc (tI X.K E fi) g (tT X.K E0x c) (tE X.K E0x f) (own.map (·.2)) σ H Q := by
  rintro σ H Q ⟨m, S, τ, rs, re, fin⟩
  refine ⟨m, S, τ, rs, re, Fin.bind fin fun m1 H1 S1 src J l1 e1 rs1 rsrc fin1 => ?_⟩
  intro D hD
  have rsD : RS X.K (m1 ++ [D]) (S1 ++ [.lst []]) (upd H1 D (.lst [])) := rs1.alloc hD ⟨[], upd_same, .nil⟩
  have mD : (m1 ++ [D])[S1.length]? = some D := rs1.snoc_get D
  have reW : RE X.K m1 H1 (wipeP τ (own.map (·.2))) (L2.wipe σ (own.map (·.2))) := (re.mono l1 e1).wipe _
  have fin2 : Fin X.K (fun _ _ (_ : Unit) (_ : Unit) => True) E (m1 ++ [D]) (upd H1 D (.lst [])) (fun _ H' => Q (.ref D) H') (compF src g' c f S1.length (wipeP τ (own.map (·.2))) LN 0 (S1 ++ [.lst []])) :=
    Fin.bind (Fin.base (.snoc m1 D) (.new hD) fin1) fun m3 H3 S3 _ _ l3 e3 rs3 _ fin3 => fin3.now rs3 (.loc (l3 _ _ mD))
  refine ⟨fun i n H => ∃ m S, Pre (m1 ++ [D]) m ∧ Ext (upd H1 D (.lst [])) H ∧ RS X.K m S H ∧ Fin X.K (fun _ _ (_ : Unit) (_ : Unit) => True) E m H (fun _ H' => Q (.ref D) H') (compF src g' c f S1.length (wipeP τ (own.map (·.2))) n i S),
    ⟨LN, _, _, .refl _, .refl _, rsD, fin2⟩, ?_⟩
  rintro i n H ⟨m, S, l, e, rs, fin⟩
  cases n with
  | zero => exact fin.elim
  | succ n =>
    have lx : Pre m1 m := Pre.trans (.snoc m1 D) l
    have ex : Ext H1 H := Ext.trans (.new hD) e
    have key := rsrc i m S H lx ex rs
    unfold compF at fin
    cases q : src i S with
    | none => rw [q] at fin; exact fin.elim
    | some o =>
      rw [q] at fin key
      cases o with
      | none => exact .inl ⟨key, Fin.now (S := S) (b := ()) fin rs trivial⟩
      | some x =>
        refine .inr ⟨key.1, fun H => ∃ m S, Pre (m1 ++ [D]) m ∧ Ext (upd H1 D (.lst [])) H ∧ RS X.K m S H ∧ Fin X.K (fun _ _ (_ : Unit) (_ : Unit) => True) E m H (fun _ H' => Q (.ref D) H') (compF src g' c f S1.length (wipeP τ (own.map (·.2))) n (i + 1) S),
          fun H' h => ⟨n, Nat.lt_succ_self n, h⟩, fun v H' y => ?_⟩
        obtain ⟨rs2, e2, rx⟩ := key.2 v H' y
        dsimp only at fin
        cases q2 : g' x (wipeP τ (own.map (·.2))) with
        | none => rw [q2] at fin; exact fin.elim
        | some τ2 =>
          rw [q2] at fin
          obtain ⟨σ2, a1, a2, a3⟩ := hg m H' v (L2.wipe σ (own.map (·.2))) _ x τ2 (reW.mono lx (ex.trans e2)) rx q2
          refine a1 _ ⟨a3.trans (wipe_wipe σ _), m, S, τ2, rs2, a2, ?_⟩
          refine Fin.noX (Fin.bind (Fin.base (.refl m) e2 fin) fun m3 H3 S3 b b' l3 e3 rs3 rb fin3 => ?_)
          cases rb
          cases b with
          | false => exact iteF ⟨m3, S3, l.trans l3, (e.trans e2).trans e3, rs3, fin3⟩
          | true =>
            refine iteT ⟨m3, S3, τ2, rs3, a2.mono l3 e3, Fin.noX (E := E) (Fin.bind (R := Rl X.K) (show Fin X.K _ E m3 H3 _ ((G.noX (f τ2 S3)).bind _) from fin3) fun m4 H4 S4 z w l4 e4 rs4 rz fin4 => ?_)⟩
            have lm : Pre (m1 ++ [D]) m4 := (l.trans l3).trans l4
            split at fin4
            · rename_i acc hacc
              split at fin4
              · rename_i hlen
                have hD4 : m4[S1.length]? = some D := lm _ _ mD
                obtain ⟨ws, h1, rr⟩ := rs4.lst hacc hD4
                have ew : Ext H4 (upd H4 D (.lst (ws ++ [w]))) := .write h1 (fun _ z => by cases z) fun _ _ z => by cases z
                refine ⟨ws, h1, by rw [← rr.length]; exact Nat.lt_of_lt_of_le hlen (ln_ok (Nat.le_refl _)), m4, _, lm, (((e.trans e2).trans e3).trans e4).trans ew, rs4.write (o' := .lst (acc ++ [z])) hacc hD4 ew ⟨_, upd_same, ((rr.append (.one rz))).mono (.refl m4) ew⟩, Fin.base (.refl m4) ew fin4⟩
              · exact fin4.elim
            · exact fin4.elim
theorem g_lc (hc : X.calm = true) (hN : X.N.Nodup) (hi : PI X tg iter (tI X.K E fi)) (ok : BlkOk X.N X.env.scope scope own) (hgt : TgOk X.K (own.map (·.2)) g g')
    (hg : ∀ (s : Shared) (H : Hp) (C : Addr) (cl : List (Str × Addr)) (fp : List Addr), PG (X.blk s H scope (compEnvC scope cl C X.env) fp) tg g)
    (ht : ∀ (s : Shared) (H : Hp) (C : Addr) (cl : List (Str × Addr)) (fp : List Addr), PTs (X.blk s H scope (compEnvC scope cl C X.env) fp) ifs (tT X.K E0x c))
    (he : ∀ (s : Shared) (H : Hp) (C : Addr) (cl : List (Str × Addr)) (fp : List Addr), PE (X.blk s H scope (compEnvC scope cl C X.env) fp) elt (tE X.K E0x f)) (hs : ∀ x, foldedSetIterable iter X.env x = pure x := by intro _; rfl) :
    PE X (.ListComp elt [⟨tg, iter, ifs, 0⟩] scope pos) (tE X.K E (eLc fi g' c f (own.map (·.2)))) := peI (pe_lc hc hN hi ok hg ht he hs) (lcI hgt)
theorem h_setLc {i : Nat} {y : Str} {py spos : Pos} (hc : X.calm = true) (hN : X.N.Nodup) (hy : X.N[i]? = some y) (hyl : X.env.scope.names.lookup y = some .local) (hsw : swapsWith (.ListComp elt [⟨tg, iter, ifs, 0⟩] scope pos) (some (.Name y py)) spos.line X.env = pure true)
    (hi : PI X tg iter (tI X.K E fi)) (ok : BlkOk X.N X.env.scope scope own) (hgt : TgOk X.K (own.map (·.2)) g g')
    (hg : ∀ (s : Shared) (H : Hp) (C : Addr) (cl : List (Str × Addr)) (fp : List Addr), PG (X.blk s H scope (compEnvC scope cl C X.env) fp) tg g)
    (ht : ∀ (s : Shared) (H : Hp) (C : Addr) (cl : List (Str × Addr)) (fp : List Addr), PTs (X.blk s H scope (compEnvC scope cl C X.env) fp) ifs (tT X.K E0x c))
    (he : ∀ (s : Shared) (H : Hp) (C : Addr) (cl : List (Str × Addr)) (fp : List Addr), PE (X.blk s H scope (compEnvC scope cl C X.env) fp) elt (tE X.K E0x f)) (hs : ∀ x, foldedSetIterable iter X.env x = pure x := by intro _; rfl) :
    PS X (.Assign [.Name y py] (.ListComp elt [⟨tg, iter, ifs, 0⟩] scope pos) spos) (tS X.K E (sAsg (eLc fi g' c f (own.map (·.2))) (stName i))) :=
  psI (ps_setLc hc hN hy hyl hsw hi ok hg ht he hs) fun D σ H h => by
    have h2 := asgI D σ H h
    have h3 : tE X.K E (eLc fi g' c f (own.map (·.2))) σ H fun x H1 => gName i x σ H1 D.nx := by
      obtain ⟨m, S, τ, rs, re, fin⟩ := h2
      exact ⟨m, S, τ, rs, re, fin.imp fun v H' ⟨m', S', τ', x, rs', re', rx', fin'⟩ => Fin.now fin' rs' (re'.set i rx')⟩
    exact lcI hgt σ H _ h3
end
end G

/-! G, part I: methods of built-in types; a def's body. -/
namespace G
open PySem PySem.Spec PyProof.Rows L2

/-! ### methods -/
def strsP : List PV → Option (List Str)
  | [] => some []
  | .str x :: r => (strsP r).map (x :: ·)
  | _ => none
theorem strs_of {K : PySem.W.Frag} {m : List Addr} {H : Hp} : ∀ {xs : List PV} {vs : List V} {ys : List Str}, Rls K m H xs vs → strsP xs = some ys → vs = ys.map V.str
  | _, _, _, .nil, h => by cases h; rfl
  | _, _, _, .cons (x := x) (xs := xs) h r, e => by
    cases h with
    | str y =>
      have e' : (strsP xs).map (y :: ·) = some _ := e
      obtain ⟨ns, h1, h2⟩ := Option.map_eq_some_iff.mp e'
      subst h2
      rw [strs_of r h1]; rfl
    | _ => cases e
theorem rls_strs {K : PySem.W.Frag} {m : List Addr} {H : Hp} : ∀ ys : List Str, Rls K m H (ys.map PV.str) (ys.map V.str)
  | [] => .nil
  | y :: ys => .cons (.str y) (rls_strs ys)
def mSplit (x : PV) (xs : List PV) (S : Store) : Out PV := match x, xs with
  | .str a, [.str b] => if (b.length == 0) = false ∧ a.length + 2 ≤ LN ∧ ((Txt.split a b).map PV.str).length ≤ LN then newL ((Txt.split a b).map .str) S else .bad
  | _, _ => .bad
def mJoin (x : PV) (xs : List PV) (S : Store) : Out PV := match x, xs with
  | .str a, [y] => match (seqP S y).bind strsP with
    | some ys => if (ys.map (·.length)).sum + ys.length * a.length ≤ LN then .ok (.str (Txt.join a ys)) S else .bad
    | none => .bad
  | _, _ => .bad
def mStrip (x : PV) (xs : List PV) (S : Store) : Out PV := match x, xs with
  | .str a, [.str b] => if a.length ≤ LN then .ok (.str (Txt.stripChars a b)) S else .bad
  | _, _ => .bad
def mStartswith (x : PV) (xs : List PV) (S : Store) : Out PV := match x, xs with
  | .str a, [.str b] => .ok (.bl (Txt.startswith a b)) S
  | _, _ => .bad
def mFind (x : PV) (xs : List PV) (S : Store) : Out PV := match x, xs with
  | .str a, [.str b] => .ok (.int (Txt.find a b)) S
  | _, _ => .bad
def mAppend (x : PV) (xs : List PV) (S : Store) : Out PV := match x, xs with
  | .loc n, [y] => match S[n]? with
    | some (.lst ys) => if ys.length < LN then .ok .non (S.set n (.lst (ys ++ [y]))) else .bad
    | _ => .bad
  | _, _ => .bad
def mPop (x : PV) (xs : List PV) (S : Store) : Out PV := match x, xs with
  | .loc n, [] => match S[n]? with
    | some (.lst ys) => match ys[ys.length - 1]? with
      | some y => .ok y (S.set n (.lst ys.dropLast))
      | none => .bad
    | _ => .bad
  | _, _ => .bad
section
variable {X : Cx} {E : XK}
theorem m_split : MtR X "str.split" (rM X.K E mSplit) := by
  intro pins s σ H v vs v' us Q I rv rvs ⟨m, S, x, xs, rs, rx, rxs, fin⟩
  unfold mSplit at fin
  split at fin
  · rename_i a b
    split at fin
    · rename_i h
      cases rx
      cases rxs with
      | cons ry rn =>
        cases rn; cases ry
        exact mt_split pins s σ H _ _ v' us Q I rv rvs ⟨a, b, rfl, rfl, h.1, ln_ok h.2.1, (fin_newL rs (rls_strs _) fin).2⟩
    · exact fin.elim
  · exact fin.elim
theorem m_strip : MtR X "str.strip" (rM X.K E mStrip) := by
  intro pins s σ H v vs v' us Q I rv rvs ⟨m, S, x, xs, rs, rx, rxs, fin⟩
  unfold mStrip at fin
  split at fin
  · rename_i a b
    split at fin
    · rename_i h
      cases rx
      cases rxs with
      | cons ry rn =>
        cases rn; cases ry
        exact mt_stripChars pins s σ H _ _ v' us Q I rv rvs ⟨a, b, rfl, rfl, ln_ok h, fin.now rs (.str _)⟩
    · exact fin.elim
  · exact fin.elim
theorem m_startswith : MtR X "str.startswith" (rM X.K E mStartswith) := by
  intro pins s σ H v vs v' us Q I rv rvs ⟨m, S, x, xs, rs, rx, rxs, fin⟩
  unfold mStartswith at fin
  split at fin
  · cases rx
    cases rxs with
    | cons ry rn => cases rn; cases ry; exact mt_startswith pins s σ H _ _ v' us Q I rv rvs ⟨_, _, rfl, rfl, fin.now rs (.bl _)⟩
  · exact fin.elim
theorem m_find : MtR X "str.find" (rM X.K E mFind) := by
  intro pins s σ H v vs v' us Q I rv rvs ⟨m, S, x, xs, rs, rx, rxs, fin⟩
  unfold mFind at fin
  split at fin
  · cases rx
    cases rxs with
    | cons ry rn => cases rn; cases ry; exact mt_find pins s σ H _ _ v' us Q I rv rvs ⟨_, _, rfl, rfl, fin.now rs (.int _)⟩
  · exact fin.elim
theorem m_join : MtR X "str.join" (rM X.K E mJoin) := by
  intro pins s σ H v vs v' us Q I rv rvs ⟨m, S, x, xs, rs, rx, rxs, fin⟩
  unfold mJoin at fin
  split at fin
  · split at fin
    · rename_i ys hy
      split at fin
      · rename_i h
        obtain ⟨zs, h1, h2⟩ := Option.bind_eq_some_iff.mp hy
        cases rx
        cases rxs with
        | cons ry rn =>
          cases rn
          obtain ⟨a, ws, rfl, h3, rr⟩ := rs.seq ry h1
          rw [strs_of rr h2] at h3
          exact mt_join pins s σ H _ _ v' us Q I rv rvs ⟨_, a, ys, rfl, rfl, h3, Nat.le_trans h (by decide), fin.now rs (.str _)⟩
      · exact fin.elim
    · exact fin.elim
  · exact fin.elim
theorem m_append : MtR X "list.append" (rM X.K E mAppend) := by
  intro pins s σ H v vs v' us Q I rv rvs ⟨m, S, x, xs, rs, rx, rxs, fin⟩
  unfold mAppend at fin
  split at fin
  · split at fin
    · rename_i ys hS
      split at fin
      · rename_i hl
        cases rx with
        | @loc _ a hn =>
          cases rxs with
          | @cons _ w _ _ ry rn =>
            cases rn
            obtain ⟨ws, h1, rr⟩ := rs.lst hS hn
            have ex : Ext H (upd H a (.lst (ws ++ [w]))) := .write h1 (fun _ z => by cases z) fun _ _ z => by cases z
            exact mt_append pins s σ H _ _ v' us Q I rv rvs ⟨a, ws, _, rfl, rfl, h1, by rw [← rr.length]; exact Nat.lt_of_lt_of_le hl (ln_ok (Nat.le_refl _)),
              fin m _ _ (.refl m) ex (rs.write (o' := .lst (ys ++ [_])) hS hn ex ⟨_, upd_same, (rr.append (.one ry)).mono (.refl m) ex⟩) .non⟩
      · exact fin.elim
    · exact fin.elim
  · exact fin.elim
theorem m_pop : MtR X "list.pop" (rM X.K E mPop) := by
  intro pins s σ H v vs v' us Q I rv rvs ⟨m, S, x, xs, rs, rx, rxs, fin⟩
  unfold mPop at fin
  split at fin
  · split at fin
    · rename_i ys hS
      split at fin
      · rename_i y hy
        cases rx with
        | @loc _ a hn =>
          cases rxs
          obtain ⟨ws, h1, rr⟩ := rs.lst hS hn
          obtain ⟨w, hw, rw'⟩ := rr.get hy
          have ex : Ext H (upd H a (.lst ws.dropLast)) := .write h1 (fun _ z => by cases z) fun _ _ z => by cases z
          exact mt_pop pins s σ H _ _ v' us Q I rv rvs ⟨a, ws, w, rfl, rfl, h1, by rw [← rr.length]; exact hw,
            fin m _ _ (.refl m) ex (rs.write (o' := .lst ys.dropLast) hS hn ex ⟨_, upd_same, rr.dropLast.mono (.refl m) ex⟩) (rw'.mono (.refl m) ex)⟩
      · exact fin.elim
    · exact fin.elim
  · exact fin.elim
end
/-- the built-in types' names by values -/
def isTy (T : String) (x : PV) (S : Store) : Bool := match x with
  | .str _ => T == "str"
  | .fl _ => T == "list"
  | .loc n => match S[n]? with
    | some (.lst _) => T == "list"
    | some (.dk _) => T == "dict"
    | some (.dt _) => T == "dict"
    | _ => false
  | _ => false
theorem tyV_of {K : PySem.W.Frag} {m : List Addr} {H : Hp} {S : Store} {x : PV} {v : V} {T : String} (r : RS K m S H) (rx : Rl K m H x v) (h : isTy T x S = true) : tyV K T v H := by
  cases rx with
  | str a => exact beq_iff_eq.mp h
  | fl ht rs => exact .inl ⟨beq_iff_eq.mp h, _, ht.sq⟩
  | @loc n a hn =>
    have h' : (match S[n]? with | some (.lst _) => T == "list" | some (.dk _) => T == "dict" | some (.dt _) => T == "dict" | _ => false) = true := h
    split at h'
    · rename_i e; obtain ⟨vs, h1, _⟩ := r.at_ n _ a e hn; exact .inl ⟨beq_iff_eq.mp h', vs, SqL.of h1⟩
    · rename_i e; obtain ⟨vs, h1, _⟩ := r.at_ n _ a e hn; exact .inr (.inr (.inl ⟨beq_iff_eq.mp h', .inl ⟨vs, h1⟩⟩))
    · rename_i e; obtain ⟨vs, h1, _⟩ := r.at_ n _ a e hn; exact .inr (.inr (.inl ⟨beq_iff_eq.mp h', .inr ⟨vs, h1⟩⟩))
    · cases h'
  | _ => cases h
def eM (T : String) (g : PV → List PV → Store → Out PV) (f : SE) (fs : SA) : SE := fun τ S => (f τ S).bind fun x S1 => if isTy T x S1 then (fs τ S1).bind fun xs S2 => g x xs S2 else .bad
section
variable {X : Cx} {E : XK} {o a : Expr} {es : List Expr} {f : SE} {fs : SA} {name : Str} {apos cpos : Pos} {T id : String} {g : PV → List PV → Store → Out PV}
theorem g_m0 (pa : PlainAttrs T) (slot : Slot T name id) (hty : typeOf (.builtin id) = pure (.type "method_descriptor")) (hm : MtR X id (rM X.K E g)) (ho : PE X o (tE X.K E f))
    (hbase : attributeBase o name X.env (eval o X.env) = eval o X.env := by rfl) (hline : (apos.endLine == cpos.line) = true := by rfl) : PE X (.Call (.Attribute o name apos) [] [] cpos) (tE X.K E (eM T g f aNil)) :=
  peI (pe_bm0 pa slot hty hm ho hbase hline) fun σ H Q ⟨m, S, τ, rs, re, fin⟩ => ⟨m, S, τ, rs, re, Fin.bind fin fun m1 H1 S1 x v l e rs1 rx fin1 => by
    split at fin1
    · rename_i h; exact ⟨tyV_of rs1 rx h, m1, S1, x, [], rs1, rx, .nil, fin1⟩
    · exact fin1.elim⟩
theorem g_m (pa : PlainAttrs T) (slot : Slot T name id) (hty : typeOf (.builtin id) = pure (.type "method_descriptor")) (hm : MtR X id (rM X.K E g)) (ho : PE X o (tE X.K E f)) (ha : PA X (a :: es) (tA X.K E fs))
    (hbase : attributeBase o name X.env (eval o X.env) = eval o X.env := by rfl)
    (hfew : ((backTo cpos (starEach (a :: es) X.env)).all (fun x => !x.1) && (backToKw cpos (keywordEach [] X.env)).all (fun x => x.1.isSome)
      && decide ((a :: es).length + ([] : List Keyword).length + (if ([] : List Keyword).isEmpty then 0 else 1) < 30)) = true := by rfl)
    (hline : (apos.endLine == cpos.line) = true := by rfl) (hs : starEach (a :: es) X.env = (false, eval a X.env) :: starEach es X.env := by rfl) (hplain : (backTo cpos (starEach es X.env)).any (·.1) = false := by rfl) :
    PE X (.Call (.Attribute o name apos) (a :: es) [] cpos) (tE X.K E (eM T g f fs)) :=
  peI (pe_bm pa slot hty hm ho ha hbase hfew hline hs hplain) fun σ H Q ⟨m, S, τ, rs, re, fin⟩ => ⟨m, S, τ, rs, re, Fin.bind fin fun m1 H1 S1 x v l e rs1 rx fin1 => by
    split at fin1
    · rename_i h
      exact ⟨tyV_of rs1 rx h, m1, S1, τ, rs1, re.mono l e, Fin.bind fin1 fun m2 H2 S2 xs vs l2 e2 rs2 rxs fin2 => ⟨m2, S2, x, xs, rs2, rx.mono l2 e2, rxs, fin2⟩⟩
    · exact fin1.elim⟩
end

/-! ### a def -/
def endF (fl : Fl) (S : Store) : Out PV := match fl with
  | .nx _ => .ok .non S
  | .rt v => .ok v S
  | _ => .bad
def mkF (N : Nat) (body : SS) : List PV → Store → Out PV := fun xs S => (body (startP N xs) S).bind endF
theorem Room.room {k : Nat} {A : Around} (r : Room k A) : A.units + 100 < cLine := by have := r.un; omega
theorem fnG_mk {P : Program} {w : World} {K : PySem.W.Frag} {mg : Str → Option Value} {base : Heap} {x qual : Str} {st : Stmt} {f : Addr} {fd : FuncData} {N ps : List Str} {k : Nat} {b : SS}
    (F : Fun K x qual st f fd) (S : FnScope N ps (defScope st))
    (body : ∀ (cdv : Value) (A : Around) (outer : List Env) (s : Shared) (H : Hp) (E : XK), Room k (A.deeper (envOfC qual (defScope st) s.heap.objs.size f cdv)) → A.guards = some [] → (A.deeper (envOfC qual (defScope st) s.heap.objs.size f cdv)).units + 64 < cLine →
      (A.deeper (envOfC qual (defScope st) s.heap.objs.size f cdv)).units + 70 < cLine → (A.deeper (envOfC qual (defScope st) s.heap.objs.size f cdv)).units < cLine →
      PSs (cxOf (L2.CX P w) P w K mg base N qual (defScope st) f cdv A outer s H E) (defBody st) (tS K E b)) : FnG P w K mg base (L2.CX P w) (k + 1) f fd ps (spF K ps.length (mkF N.length b)) := by
  refine fnG_of F S (fun vs H Q E h => h.1) fun cdv A outer s H vs Q E hr hg ⟨hl, m, Sx, xs, rs, rx, fin⟩ => ⟨_, body cdv A outer s H E hr hg (by have := Room.room hr; omega) (by have := Room.room hr; omega) (by have := Room.room hr; omega), m, Sx, startP N.length xs, rs, .start rx, ?_⟩
  refine Fin.bind fin fun m1 H1 S1 fl fv l e rs1 rf fin1 => ?_
  cases fl with
  | nx τ1 => cases fv with
    | nx σ1 => exact Fin.now (S := S1) (R := Rl K) (E := E) (a := .non) (b := .non) (Q := Q) fin1 rs1 .non
    | _ => exact False.elim rf
  | rt v => cases fv with
    | rt w => exact Fin.now (S := S1) (R := Rl K) (E := E) (a := v) (b := w) (Q := Q) fin1 rs1 rf
    | _ => exact False.elim rf
  | ct τ1 => exact fin1.elim
  | bk τ1 => exact fin1.elim

/-! ### the law -/
def scrP (ns : List Int) : PV := .fl (ns.map .int)
theorem rls_ints {K : PySem.W.Frag} {m : List Addr} {H : Hp} : ∀ ns : List Int, Rls K m H (ns.map PV.int) (ns.map V.int)
  | [] => .nil
  | n :: ns => .cons (.int n) (rls_ints ns)
theorem only_fz {K : PySem.W.Frag} {H : Hp} {a : Addr} {vs : List V} (h : Only H) (q : SqL K H a vs) : FzL K H a vs := by
  rcases q with (q | q) | q
  · rcases h a with z | ⟨o, xs, z⟩
    · rw [z] at q; cases q
    · rw [z] at q; cases q
  · exact .inl q
  · exact .inr q
/-- what is left of a law: its run in the plain semantics -/
def LawTrue (F : List PV → Store → Out PV) : Prop := ∀ ns : List Int, ns.length ≤ 63 → ∃ S, F [scrP ns] [] = .ok (.bl true) S
theorem law_sp {K : PySem.W.Frag} {F : List PV → Store → Out PV} (h : LawTrue F) {H : Hp} {a : Addr} {ns : List Int} (hl : ns.length ≤ 63) (hO : Only H) (hS : SqL K H a (ns.map V.int)) :
    spF K 1 F [.ref a] H (fun v _ => v = .bl true) fun _ _ _ => False := by
  obtain ⟨S, e⟩ := h ns hl
  refine ⟨rfl, [], [], [scrP ns], ⟨rfl, fun i j a h => (by simp at h), fun i o a h => (by simp at h)⟩, .one (.fl (only_fz hO hS) (rls_ints ns)), ?_⟩
  rw [e]
  intro m' H' b _ _ _ r
  cases r
  rfl
theorem walkLaw {l : PySem.W.OpenLaw} {k : Nat} {q : Program} {loose : List Str} {XP : (Str → Option Value) → Heap → Prop} {YP : World → Heap → Prop} {d : DefRec} {K : Params → PySem.W.Frag} {x : Str} {F : List PV → Store → Out PV}
    (hn : l.most = some 63) (hdf : d.params.defaults = []) (hr : Room k callerA) (hY : ∀ (w : World) (h : Heap), YP w h → (K w.params).In h)
    (ok : ∀ (w : World) (mg : Str → Option Value) (fa : Addr) (h : Heap), (K w.params).In h → h.Ns mainGlobals mg → mg d.name = some (.ref fa) →
      ∃ fd : FuncData, (∀ (s : Shared) (u : Value), BindsTo s fd ⟨[u], []⟩ [(x, u)]) ∧ ∀ base : Heap, (K w.params).In base → base.Ns mainGlobals mg → FnG l.prog w (K w.params) mg base (L2.CX l.prog w) k fa fd [x] (spF (K w.params) 1 F))
    (ht : LawTrue F) : PySem.W.WalkO q loose XP YP l.row.toRowW d [] (fun f vs => PySem.call f vs) :=
  walkG (n := 63) (T := fun w => L2.CX l.prog w) (sp := fun w => spF (K w.params) 1 F) hn (by decide) hdf hr hY ok (fun w H a ns hl hO hS => law_sp ht hl hO hS) fun _ _ _ _ _ h => by
    obtain ⟨_, _, _, _, _, _, _, _, _, _, _, _, z⟩ := h
    exact z
end G

/-! G, part J: rows that are not reached, swapped stores, match over texts, tuple(), list.extend, find from a place, a written dict read at once. -/
namespace G
open PySem PySem.Spec PyProof.Rows L2

/-! ### not reached -/
def sBad : SS := fun _ _ => .bad
def eBad : SE := fun _ _ => .bad
section
variable {X : Cx} {E : XK}
theorem h_bad {st : Stmt} : PS X st (tS X.K E sBad) := ⟨fun pins s σ H D I ⟨_, _, _, _, _, fin⟩ => fin.elim⟩
theorem g_bad {e : Expr} : PE X e (tE X.K E eBad) := ⟨fun pins s σ H Q I ⟨_, _, _, _, _, fin⟩ => fin.elim⟩
end

/-! ### a, b = x, y -/
def sPar (i j : Nat) (fs : SA) : SS := fun τ S => (fs τ S).bind fun xs S1 => match xs with
  | [x, y] => .ok (.nx ((τ.set i (some x)).set j (some y))) S1
  | _ => .bad
def sPar3 (i j l : Nat) (fs : SA) : SS := fun τ S => (fs τ S).bind fun xs S1 => match xs with
  | [x, y, z] => .ok (.nx (((τ.set i (some x)).set j (some y)).set l (some z))) S1
  | _ => .bad
section
variable {X : Cx} {E : XK} {fs : SA} {a b c : Expr} {pos : Pos}
theorem h_par {i j : Nat} {x y : Str} {px py pt : Pos} {kt k2 pt2} (hc : X.calm = true) (hN : X.N.Nodup) (hi : X.N[i]? = some x) (hj : X.N[j]? = some y) (hij : i ≠ j)
    (hx : X.env.scope.names.lookup x = some .local) (hy : X.env.scope.names.lookup y = some .local) (ha : PA X [a, b] (tA X.K E fs))
    (hw : swappedStores [.Tuple [.Name x px, .Name y py] kt pt] (.Tuple [a, b] k2 pt2) X.env = pure (some [x, y]))
    (hs : swapsWithSole [.Tuple [.Name x px, .Name y py] kt pt] (.Tuple [a, b] k2 pt2) pos.line X.env = pure false := by rfl) :
    PS X (.Assign [.Tuple [.Name x px, .Name y py] kt pt] (.Tuple [a, b] k2 pt2) pos) (tS X.K E (sPar i j fs)) :=
  psI (ps_par hc hN hi hj hij hx hy ha hw hs) fun D σ H ⟨m, S, τ, rs, re, fin⟩ => ⟨m, S, τ, rs, re, Fin.bind fin fun m1 H1 S1 xs vs l e rs1 rx fin1 => by
    cases rx with
    | nil => exact fin1.elim
    | cons r1 rr =>
      cases rr with
      | nil => exact fin1.elim
      | cons r2 rn =>
        cases rn with
        | nil => exact ⟨_, _, rfl, Fin.now (b := FV.nx _) fin1 rs1 (((re.mono l e).set i r1).set j r2)⟩
        | cons _ _ => exact fin1.elim⟩
theorem h_par3 {i j l : Nat} {x y z : Str} {px py pz pt : Pos} {kt k2 pt2} (hc : X.calm = true) (hN : X.N.Nodup) (hi : X.N[i]? = some x) (hj : X.N[j]? = some y) (hl : X.N[l]? = some z) (hij : i ≠ j) (hil : i ≠ l) (hjl : j ≠ l)
    (hx : X.env.scope.names.lookup x = some .local) (hy : X.env.scope.names.lookup y = some .local) (hz : X.env.scope.names.lookup z = some .local) (ha : PA X [a, b, c] (tA X.K E fs))
    (hw : swappedStores [.Tuple [.Name x px, .Name y py, .Name z pz] kt pt] (.Tuple [a, b, c] k2 pt2) X.env = pure (some [x, y, z]))
    (hs : swapsWithSole [.Tuple [.Name x px, .Name y py, .Name z pz] kt pt] (.Tuple [a, b, c] k2 pt2) pos.line X.env = pure false := by rfl) :
    PS X (.Assign [.Tuple [.Name x px, .Name y py, .Name z pz] kt pt] (.Tuple [a, b, c] k2 pt2) pos) (tS X.K E (sPar3 i j l fs)) :=
  psI (ps_par3 hc hN hi hj hl hij hil hjl hx hy hz ha hw hs) fun D σ H ⟨m, S, τ, rs, re, fin⟩ => ⟨m, S, τ, rs, re, Fin.bind fin fun m1 H1 S1 xs vs ll e rs1 rx fin1 => by
    cases rx with
    | nil => exact fin1.elim
    | cons r1 rr =>
      cases rr with
      | nil => exact fin1.elim
      | cons r2 rn =>
        cases rn with
        | nil => exact fin1.elim
        | cons r3 ro =>
          cases ro with
          | nil => exact ⟨_, _, _, rfl, Fin.now (b := FV.nx _) fin1 rs1 ((((re.mono ll e).set i r1).set j r2).set l r3)⟩
          | cons _ _ => exact fin1.elim⟩
end

/-! ### match over texts -/
abbrev SM := PV → SS
structure PM (X : Cx) (cs : List MatchCase) (E : XK) (k : SM) : Prop where
  run : ∀ (first : Bool) (pins : List (Addr × Obj)) (s : Shared) (σ : L2.St) (H : Hp) (D : Ends) (u : V) (v : Value), Inv X pins σ H s → RelV u v →
    (∃ m S τ x, RS X.K m S H ∧ RE X.K m H τ σ ∧ Rl X.K m H x u ∧ Fin X.K (RFl X.K) E m H (qD D) (k x τ S)) → wpAny (model X.prog X.w) X.A (matchCases cs X.env v first) (SP X pins D) X.xe s
def mNil : SM := fun _ => sNext
def mStr (a : Str) (f : SS) (k : SM) : SM := fun x τ S => match x with
  | .str b => if b = a then f τ S else k x τ S
  | _ => .bad
def mCap (i : Nat) (f : SS) : SM := fun x τ S => f (τ.set i (some x)) S
def mAny (f : SS) : SM := fun _ τ S => f τ S
def sMatch (f : SE) (k : SM) : SS := fun τ S => (f τ S).bind fun x S1 => k x τ S1
section
variable {X : Cx} {E : XK} {f : SS} {fe : SE} {k : SM} {e : Expr} {cs : List MatchCase} {body : List Stmt} {pos ppos : Pos}
theorem m_nil : PM X [] E mNil := ⟨fun first pins s σ H D u v I r ⟨m, S, τ, x, rs, re, rx, fin⟩ => wpAny_matchCases_nil ⟨σ, H, I, Fin.now (b := FV.nx σ) fin rs re⟩⟩
theorem m_str {a : Str} {k1 p1} (hb : PSs X body (tS X.K E f)) (hr : PM X cs E k) : PM X (⟨.MatchValue (.Constant (.str a) k1 p1) ppos, none, body⟩ :: cs) E (mStr a f k) := by
  refine ⟨fun first pins s σ H D u v I r ⟨m, S, τ, x, rs, re, rx, fin⟩ => ?_⟩
  unfold mStr at fin
  split at fin
  · rename_i b
    cases rx
    refine wpAny_matchCases_cons (wpAny_matchPattern_Value (thn (pe_str.run pins s σ H (fun w H1 => w = .str a ∧ H = H1) I ⟨rfl, rfl⟩) fun w s1 ⟨y, H1, I1, ry, e1, e2⟩ => ?_))
    subst e1 e2
    refine thn (op_eq pins s1 σ H (.str b) (.str a) v w (fun z H1 => z = .bl (b == a) ∧ H = H1) I1 r ry ⟨rfl, by rw [dec_str], rfl⟩) fun z s2 ⟨y, H1, I2, rz, e1, e2⟩ => ?_
    subst e1 e2
    obtain rfl : z = Value.bool (b == a) := rz
    refine wpAny_truthy_bool ?_
    by_cases h : b = a
    · rw [if_pos h] at fin
      have : (b == a) = true := beq_iff_eq.mpr h
      rw [this]
      refine assignInOrder_nil ?_
      exact hb.run pins s2 σ H D I2 ⟨m, S, τ, rs, re, fin⟩
    · rw [if_neg h] at fin
      have : (b == a) = false := by rw [beq_eq_false_iff_ne]; exact h
      rw [this]
      exact hr.run false pins s2 σ H D _ v I2 r ⟨m, S, τ, _, rs, re, .str b, fin⟩
  · exact fin.elim
theorem m_cap {i : Nat} {x : Str} (hN : X.N.Nodup) (hi : X.N[i]? = some x) (hx : X.env.scope.names.lookup x = some .local) (hb : PSs X body (tS X.K E f)) : PM X (⟨.MatchAs none (some x) ppos, none, body⟩ :: cs) E (mCap i f) := by
  refine ⟨fun first pins s σ H D u v I r ⟨m, S, τ, y, rs, re, ry, fin⟩ => ?_⟩
  refine wpAny_matchCases_cons (wpAny_matchPattern_Capture ?_)
  refine assignInOrder_cons (wpAny_bindName (store_ok I hN hi (.inl hx) r (fun s2 I2 => assignInOrder_nil ?_) (.inr hx)))
  exact hb.run pins s2 _ H D I2 ⟨m, S, _, rs, re.set i ry, fin⟩
theorem m_any (hb : PSs X body (tS X.K E f)) : PM X (⟨.MatchAs none none ppos, none, body⟩ :: cs) E (mAny f) := by
  refine ⟨fun first pins s σ H D u v I r ⟨m, S, τ, y, rs, re, ry, fin⟩ => ?_⟩
  refine wpAny_matchCases_cons (wpAny_matchPattern_Capture (assignInOrder_nil ?_))
  exact hb.run pins s σ H D I ⟨m, S, τ, rs, re, fin⟩
theorem h_match (he : PE X e (tE X.K E fe)) (hk : PM X cs E k) : PS X (.Match e cs pos) (tS X.K E (sMatch fe k)) := by
  refine ⟨fun pins s σ H D I ⟨m, S, τ, rs, re, fin⟩ => ?_⟩
  refine wpAny_Match (thn (he.run pins s σ H (fun u H1 => ∃ m S τ x, RS X.K m S H1 ∧ RE X.K m H1 τ σ ∧ Rl X.K m H1 x u ∧ Fin X.K (RFl X.K) E m H1 (qD D) (k x τ S)) I
    ⟨m, S, τ, rs, re, Fin.bind fin fun m1 H1 S1 x u l e1 rs1 rx fin1 => ⟨m1, S1, τ, x, rs1, re.mono l e1, rx, fin1⟩⟩) fun v s1 ⟨u, H1, I1, r1, q1⟩ => ?_)
  exact hk.run true pins s1 σ H1 D u v I1 r1 q1
end

/-! ### tuple(x), list(x) -/
def vTuple (xs : List PV) (S : Store) : Out PV := match xs with
  | [.tup ys] => .ok (.tup ys) S
  | [x] => match seqP S x with
    | some ys => .ok (.tup ys) S
    | none => .bad
  | _ => .bad
def vList (xs : List PV) (S : Store) : Out PV := match xs with
  | [x] => match seqP S x with
    | some ys => newL ys S
    | none => .bad
  | _ => .bad
section
variable {X : Cx} {E : XK}
theorem c_tuple : CallR X (.type "tuple") (rL X.K E vTuple) := by
  intro pins s σ H vs us Q I r ⟨m, S, xs, rs, rx, fin⟩
  unfold vTuple at fin
  split at fin
  · rename_i ys
    cases rx with
    | cons rx rn =>
      cases rn
      cases rx with
      | tup ht rr => exact call_tuple_of pins s σ H _ us Q I r ⟨_, _, rfl, .inr ⟨ht, fin.now rs (.tup ht rr)⟩⟩
  · rename_i x hne
    split at fin
    · rename_i ys hy
      cases rx with
      | cons rx rn =>
        cases rn
        cases rx with
        | tup ht rr => exact absurd rfl (hne _)
        | fl ht rr => cases hy; exact call_tuple_of pins s σ H _ us Q I r ⟨_, _, rfl, .inl ⟨ht.sq, fun l hl => fin_tup rs rr fin hl⟩⟩
        | @loc n a hn =>
          obtain ⟨b, ws, e1, h3, rr⟩ := rs.seq (.loc hn) hy
          cases e1
          rcases h3 with h3 | h3
          · exact call_tuple_of pins s σ H _ us Q I r ⟨_, _, rfl, .inl ⟨h3, fun l hl => fin_tup rs rr fin hl⟩⟩
          · have hy' : (match S[n]? with | some (.lst xs) => some xs | _ => none) = some ys := hy
            split at hy'
            · rename_i q0
              obtain ⟨vs2, h1, rr2⟩ := rs.lst q0 hn
              cases hy'
              exact call_tuple_of pins s σ H _ us Q I r ⟨_, _, rfl, .inl ⟨SqL.of h1, fun l hl => fin_tup rs rr2 fin hl⟩⟩
            · cases hy'
        | _ => cases hy
    · exact fin.elim
  · exact fin.elim
theorem c_list : CallR X (.type "list") (rL X.K E vList) := by
  intro pins s σ H vs us Q I r ⟨m, S, xs, rs, rx, fin⟩
  unfold vList at fin
  split at fin
  · split at fin
    · rename_i ys hy
      cases rx with
      | cons rx rn =>
        cases rn
        obtain ⟨b, ws, rfl, h3, rr⟩ := rs.seq rx hy
        exact call_list_of pins s σ H _ us Q I r ⟨_, _, rfl, h3, (fin_newL rs rr fin).2⟩
    · exact fin.elim
  · exact fin.elim
end

/-! ### find from a place -/
def mFindA (x : PV) (xs : List PV) (S : Store) : Out PV := match x, xs with
  | .str a, [.str b] => .ok (.int (Txt.find a b)) S
  | .str a, [.str b, .int i] => .ok (.int (Txt.find3 a b i)) S
  | _, _ => .bad
section
variable {X : Cx} {E : XK}
theorem m_findA : MtR X "str.find" (rM X.K E mFindA) := by
  intro pins s σ H v vs v' us Q I rv rvs ⟨m, S, x, xs, rs, rx, rxs, fin⟩
  unfold mFindA at fin
  split at fin
  · cases rx
    cases rxs with
    | cons ry rn => cases rn; cases ry; exact mt_find pins s σ H _ _ v' us Q I rv rvs ⟨_, _, rfl, rfl, fin.now rs (.int _)⟩
  · cases rx
    cases rxs with
    | cons ry rn =>
      cases ry
      cases rn with
      | cons rz ro => cases ro; cases rz; exact mt_find3 pins s σ H _ _ v' us Q I rv rvs ⟨_, _, _, rfl, rfl, fin.now rs (.int _)⟩
  · exact fin.elim
end

/-! ### list.extend -/
/-- the list takes all of a tuple: one look at each, one store -/
theorem ext_tuple {l b : Addr} {xs ys : Array Value} {n m : Nat} {t : Obj} (tc : t.cls = .type "tuple") (td : t.data = .seq ys m) (fit : xs.size + ys.size ≤ sizeLine) :
    Meets (Builtin.«list.extend» ⟨[.ref l, .ref b], []⟩) (fun _ R s => s.heap.get? l = some { cls := .type "list", data := .seq xs n } ∧ s.heap.get? b = some t ∧
      R (.ok (.ret Value.none)) { s with heap := s.heap.update l (Obj.mapSeq (· ++ ys)) }) := by
  obtain ⟨_, own, _, slots⟩ := t
  cases tc
  cases td
  have room : ¬(!xs.isEmpty && Builtin.List.listTooLong (xs.size + ys.size)) = true := by simp [notLongL fit]
  have one : xs.size ≤ sizeLine := Nat.le_trans (Nat.le_add_right _ _) fit
  have both : (xs ++ ys).size ≤ sizeLine + 1 := by rw [Array.size_append]; exact Nat.le_succ_of_le fit
  refine .of_wp fun P w A R s look => ?_
  rcases s with ⟨h, g, d, tk, os⟩
  rcases look with ⟨hasL, hasT, goal⟩
  have := AutoSeq1.sub_list_list
  have := AutoSeq1.sub_tuple_list
  have := AutoSeq1.sub_tuple_tuple
  wp_walk using AutoSeq1.wpAny_loadPart' hasL, AutoSeq1.wpAny_loadPart' hasT, (wpAny_updateSeq hasL rfl (hz := one) (_hz' := both))
  exact ⟨_, rfl, goal⟩
section
variable {X : Cx} {E : XK}
theorem mt_extT : MtR X "list.extend" (fun x vs H Q => ∃ l b xs zs, x = .ref l ∧ vs = [.ref b] ∧ H l = some (.lst xs) ∧ SqT X.K H b zs ∧ xs.length + zs.length ≤ sizeLine ∧ Q .non (upd H l (.lst (xs ++ zs)))) := by
  rintro pins s σ H _ _ v us Q I rx rv ⟨l, b, xs, zs, rfl, rfl, hl, hb, fit, q⟩
  have ev : v = .ref l := rx
  rw [ev, Vals.ref1 rv]
  obtain ⟨_, ls, n, rl, _, atL⟩ := I.lstM hl
  obtain ⟨ts, rt, ⟨t, atT, tc, m, td⟩, _⟩ := I.tuple hb
  have sum : ls.toArray.size + ts.toArray.size ≤ sizeLine := by
    simp only [List.size_toArray]
    rw [← rl.length, ← rt.length]
    exact fit
  refine call_meets F.slot_list_extend ⟨_, atL, rfl⟩ F.entry_list_extend (F.args_list_extend_2 _ _) (ext_tuple tc td sum) ⟨atL, atT, .non, upd H l (.lst (xs ++ zs)), ?_, rfl, q⟩
  exact I.lset (its' := ls ++ ts) hl atL (by simp) (rl.append rt) (by rw [List.length_append]; exact fit)
def mExtend (x : PV) (xs : List PV) (S : Store) : Out PV := match x, xs with
  | .loc n, [.tup zs] => match S[n]? with
    | some (.lst ys) => if ys.length + zs.length ≤ LN then .ok .non (S.set n (.lst (ys ++ zs))) else .bad
    | _ => .bad
  | .loc n, [.loc k] => match S[n]?, S[k]? with
    | some (.lst ys), some (.lst zs) => if ys.length + zs.length ≤ LN then .ok .non (S.set n (.lst (ys ++ zs))) else .bad
    | _, _ => .bad
  | _, _ => .bad
theorem m_extend : MtR X "list.extend" (rM X.K E mExtend) := by
  intro pins s σ H v vs v' us Q I rv rvs ⟨m, S, x, xs, rs, rx, rxs, fin⟩
  unfold mExtend at fin
  split at fin
  · rename_i n zs
    split at fin
    · rename_i ys hS
      split at fin
      · rename_i hl
        cases rx with
        | @loc _ a hn =>
          cases rxs with
          | cons ry rn =>
            cases rn
            cases ry with
            | @tup _ ws b ht rr2 =>
              obtain ⟨ws1, h1, rr⟩ := rs.lst hS hn
              have ex : Ext H (upd H a (.lst (ws1 ++ ws))) := .write h1 (fun _ z => by cases z) fun _ _ z => by cases z
              exact mt_extT pins s σ H _ _ v' us Q I rv rvs ⟨a, b, ws1, ws, rfl, rfl, h1, ht, by rw [← rr.length, ← rr2.length]; exact ln_ok hl,
                fin m _ _ (.refl m) ex (rs.write (o' := .lst (ys ++ zs)) hS hn ex ⟨_, upd_same, (rr.append rr2).mono (.refl m) ex⟩) .non⟩
      · exact fin.elim
    · exact fin.elim
  · rename_i n k
    split at fin
    · rename_i ys zs hS hS2
      split at fin
      · rename_i hl
        cases rx with
        | @loc _ a hn =>
          cases rxs with
          | cons ry rn =>
            cases rn
            cases ry with
            | @loc _ b hk =>
              obtain ⟨ws1, h1, rr⟩ := rs.lst hS hn
              obtain ⟨ws, h2, rr2⟩ := rs.lst hS2 hk
              have ex : Ext H (upd H a (.lst (ws1 ++ ws))) := .write h1 (fun _ z => by cases z) fun _ _ z => by cases z
              exact mt_extend pins s σ H _ _ v' us Q I rv rvs ⟨a, b, ws1, ws, rfl, rfl, h1, h2, by rw [← rr.length, ← rr2.length]; exact ln_ok hl,
                fin m _ _ (.refl m) ex (rs.write (o' := .lst (ys ++ zs)) hS hn ex ⟨_, upd_same, (rr.append rr2).mono (.refl m) ex⟩) .non⟩
      · exact fin.elim
    · exact fin.elim
  · exact fin.elim
end

/-! ### {'k': 'v', ..}[name] -/
def dkv (kvs : List (Str × Str)) : List (Key × V) := kvs.map fun kv => (.inr kv.1, .str kv.2)
def eDk (kvs : List (Str × Str)) (j : Nat) : SE := fun τ S => match τ[j]? with
  | some (some (.str k)) => match valV (mergeK [] (dkv kvs)) (.inr k) with
    | some (.str v) => .ok (.str v) S
    | _ => .bad
  | _ => .bad
def trk (kvs : List (Str × Str)) : List (TE × TE) := kvs.map fun kv => (tC (.str kv.1), tC (.str kv.2))
theorem pairs_k (σ : L2.St) (H : Hp) : ∀ (kvs : List (Str × Str)) (Q : List (V × V) → Hp → Prop), Q ((dkv kvs).map fun kv => (kV kv.1, kv.2)) H → tPairs (trk kvs) σ H Q
  | [], Q, h => h
  | kv :: r, Q, h => pairs_k σ H r (fun ps H3 => Q ((V.str kv.1, V.str kv.2) :: ps) H3) h
section
variable {X : Cx} {E : XK}
theorem g_dk {kvs : List (Str × Str)} {keys : List (Option Expr)} {values : List Expr} {j : Nat} {dpos pos : Pos} {i : Expr} (hp : PPs X dpos keys values (trk kvs)) (hi : PE X i (tVar j)) (hu : X.A.units + 1 < cLine) (h0 : keys ≠ []) (h15 : keys.length ≤ 15) (hl15 : kvs.length ≤ 15)
    (hall : keys.all (·.isSome) = true) (hl : keys.length = values.length) (hs : NoSl i) : PE X (.Subscript (.Dict keys values dpos) i pos) (tE X.K E (eDk kvs j)) :=
  peI (pe_dget hu (pe_disp hp hall hl h0 h15) hi hs) fun σ H Q ⟨m, S, τ, rs, re, fin⟩ => by
  unfold eDk at fin
  split at fin
  · rename_i k hk
    split at fin
    · rename_i v hv
      intro p hpn
      refine pairs_k σ _ kvs _ ⟨upd_same, dkv kvs, rfl, by unfold dkv; rw [List.length_map]; exact hl15, ?_⟩
      obtain ⟨w, h1, h2⟩ := re.2 j _ hk
      cases h2
      refine ⟨_, h1, p, .str v, rfl, ?_, ?_⟩
      · have := DGet.k (k := .inr k) (upd_same (H := upd H p (.dK [])) (a := p) (o := .dK (mergeK [] (dkv kvs))))
        rw [hv] at this
        exact this
      · have e2 : upd (upd H p (.dK [])) p (.dK (mergeK [] (dkv kvs))) = upd H p (.dK (mergeK [] (dkv kvs))) := by
          funext b; unfold upd; split <;> rfl
        rw [e2]
        exact fin m _ _ (.refl m) (.new hpn) (rs.tup hpn) (.str v)
    · exact fin.elim
  · exact fin.elim
end
end G

/-! G, part P: plain lemmas about the semantics: weakest ends, loops, comprehensions. No program. -/
namespace G
open PySem PySem.Spec PyProof.Rows L2

def Wp {α : Type} (o : Out α) (P : α → Store → Prop) : Prop := match o with
  | .ok a S => P a S
  | _ => False
section
variable {α β : Type} {a : α} {S : Store} {P P' : α → Store → Prop} {o : Out α} {k : α → Store → Out β} {Q : β → Store → Prop}
@[simp] theorem wp_ok : Wp (.ok a S) P = P a S := rfl
@[simp] theorem wp_bad : Wp (.bad : Out α) P = False := rfl
@[simp] theorem wp_bind : Wp (o.bind k) Q = Wp o fun a S => Wp (k a S) Q := by cases o <;> rfl
theorem Wp.imp (h : Wp o P) (i : ∀ a S, P a S → P' a S) : Wp o P' := by
  cases o with
  | ok a S => exact i a S h
  | _ => exact h
theorem Wp.ex (h : Wp o P) : ∃ a S, o = .ok a S ∧ P a S := by
  cases o with
  | ok a S => exact ⟨a, S, rfl, h⟩
  | _ => exact h.elim
theorem Wp.of (e : o = .ok a S) (h : P a S) : Wp o P := by rw [e]; exact h
theorem wp_ite {c : Prop} [Decidable c] {o' : Out α} (h1 : c → Wp o P) (h2 : ¬ c → Wp o' P) : Wp (if c then o else o') P := by
  by_cases h : c
  · rw [if_pos h]; exact h1 h
  · rw [if_neg h]; exact h2 h
theorem wp_pos {c : Prop} [Decidable c] {o' : Out α} (h : c) (h1 : Wp o P) : Wp (if c then o else o') P := by rw [if_pos h]; exact h1
theorem wp_neg {c : Prop} [Decidable c] {o' : Out α} (h : ¬ c) (h1 : Wp o' P) : Wp (if c then o else o') P := by rw [if_neg h]; exact h1
theorem noX_wp (h : Wp o P) : Wp (noX o) P := by
  cases o with
  | ok a S => exact h
  | _ => exact h.elim
end
theorem a30 (x y z : PV) : L2.atI [x, y, z] 0 = some x := rfl
theorem a31 (x y z : PV) : L2.atI [x, y, z] 1 = some y := rfl
theorem a32 (x y z : PV) : L2.atI [x, y, z] 2 = some z := rfl
theorem i30 : ixN 3 0 = some 0 := rfl
theorem i31 : ixN 3 1 = some 1 := rfl
theorem i32 : ixN 3 2 = some 2 := rfl
theorem mulOk_l {i j : Int} (h : -18446744073709551616 < i ∧ i < 18446744073709551616) : mulOk i j = true := decide_eq_true (.inl ⟨by omega, by omega⟩)
theorem mulOk_r {i j : Int} (h : -18446744073709551616 < j ∧ j < 18446744073709551616) : mulOk i j = true := decide_eq_true (.inr ⟨by omega, by omega⟩)
theorem ga {α : Type} (S L : List α) (k : Nat) : (S ++ L)[S.length + k]? = L[k]? := by
  rw [List.getElem?_append_right (Nat.le_add_right _ _), Nat.add_sub_cancel_left]
theorem ga0 {α : Type} (S L : List α) : (S ++ L)[S.length]? = L[0]? := by
  rw [List.getElem?_append_right (Nat.le_refl _), Nat.sub_self]
theorem gs {α : Type} (S L : List α) (k : Nat) (o : α) : (S ++ L).set (S.length + k) o = S ++ L.set k o := by
  rw [List.set_append_right _ _ (Nat.le_add_right _ _), Nat.add_sub_cancel_left]
theorem gs0 {α : Type} (S L : List α) (o : α) : (S ++ L).set S.length o = S ++ L.set 0 o := by
  rw [List.set_append_right _ _ (Nat.le_refl _), Nat.sub_self]
theorem ty_non (S : Store) : tyP S .non = some "NoneType" := rfl
theorem ty_bl (S : Store) (b : Bool) : tyP S (.bl b) = some "bool" := rfl
theorem ty_int (S : Store) (b : Int) : tyP S (.int b) = some "int" := rfl
theorem ty_str (S : Store) (b : Str) : tyP S (.str b) = some "str" := rfl
theorem ty_tup (S : Store) (b : List PV) : tyP S (.tup b) = some "tuple" := rfl
theorem ty_fl (S : Store) (b : List PV) : tyP S (.fl b) = some "list" := rfl
theorem ty_lst {S : Store} {n : Nat} {xs : List PV} (h : S[n]? = some (.lst xs)) : tyP S (.loc n) = some "list" := by unfold tyP; dsimp only; rw [h]
theorem tr_bl (S : Store) (b : Bool) : truP S (.bl b) = some b := rfl
theorem tr_int (S : Store) (b : Int) : truP S (.int b) = some (b != 0) := rfl
theorem tr_non (S : Store) : truP S .non = some false := rfl
theorem tr_tup (S : Store) (xs : List PV) : truP S (.tup xs) = some (!xs.isEmpty) := rfl
theorem tr_lst {S : Store} {n : Nat} {xs : List PV} (h : S[n]? = some (.lst xs)) : truP S (.loc n) = some (!xs.isEmpty) := by unfold truP; dsimp only; rw [h]
theorem isT_str (S : Store) (x : Str) : isTy "str" (.str x) S = true := rfl
theorem isT_lst {S : Store} {n : Nat} {xs : List PV} (h : S[n]? = some (.lst xs)) : isTy "list" (.loc n) S = true := by unfold isTy; dsimp only; rw [h]; rfl
theorem eq_ii (i j : Int) (S : Store) : eqP (.int i) (.int j) S = some (i == j) := rfl
theorem eq_ss (i j : Str) (S : Store) : eqP (.str i) (.str j) S = some (i == j) := rfl
theorem eq_bb (i j : Bool) (S : Store) : eqP (.bl i) (.bl j) S = some (i == j) := rfl
theorem eq_nn (S : Store) : eqP .non .non S = some true := rfl
theorem kit_ss : kitB "str" "str" = some true := by decide +kernel
theorem kit_sl : kitB "str" "list" = some false := by decide +kernel
theorem kit_st : kitB "str" "tuple" = some false := by decide +kernel
theorem kit_ll : kitB "list" "list" = some true := by decide +kernel
theorem kit_ls : kitB "list" "str" = some false := by decide +kernel
theorem kit_lt : kitB "list" "tuple" = some false := by decide +kernel
theorem kit_tt : kitB "tuple" "tuple" = some true := by decide +kernel
theorem kit_ts : kitB "tuple" "str" = some false := by decide +kernel
theorem kit_tl : kitB "tuple" "list" = some false := by decide +kernel
theorem kit_bs : kitB "bool" "str" = some false := by decide +kernel
theorem kit_is : kitB "int" "str" = some false := by decide +kernel
theorem kit_ns : kitB "NoneType" "str" = some false := by decide +kernel
theorem wp_seq {f f' : SS} {τ : En} {S : Store} {P : Fl → Store → Prop} : Wp (sSeq f f' τ S) P = Wp (f τ S) fun fl S1 => Wp (match fl with | .nx τ1 => f' τ1 S1 | r => .ok r S1) P := wp_bind
theorem wp_asg {f : SE} {g : ST} {τ : En} {S : Store} {P : Fl → Store → Prop} : Wp (sAsg f g τ S) P = Wp (f τ S) fun x S1 => Wp (g x τ S1) fun τ1 S2 => P (.nx τ1) S2 := by
  unfold sAsg
  simp only [wp_bind, wp_ok]
theorem wp_mkF {n : Nat} {b : SS} {xs : List PV} {S : Store} {P : PV → Store → Prop} : Wp (mkF n b xs S) P = Wp (b (startP n xs) S) fun fl S1 => Wp (endF fl S1) P := wp_bind
theorem wp_oT {b : Bool} {x : PV} {S : Store} {P : Bool → Store → Prop} (h : truP S x = some b) (q : P b S) : Wp (oT S x) P := by
  unfold oT; rw [h]; exact q

/-! ### loops over a fixed row -/
def forL (g : ST) (b : SS) : List PV → SS
  | [], τ, S => .ok (.nx τ) S
  | x :: xs, τ, S => (g x τ S).bind fun τ1 S1 => (b τ1 S1).bind fun fl S2 => match fl with
      | .nx τ2 => forL g b xs τ2 S2
      | .ct τ2 => forL g b xs τ2 S2
      | .bk τ2 => .ok (.nx τ2) S2
      | .rt v => .ok (.rt v) S2
theorem forF_seq (xs : List PV) (g : ST) (b : SS) : ∀ (n i : Nat) (τ : En) (S : Store), xs.length - i < n → forF (srcSeq xs) g b n i τ S = forL g b (xs.drop i) τ S := by
  intro n
  induction n with
  | zero => intro i τ S h; omega
  | succ n ih =>
    intro i τ S h
    unfold forF srcSeq
    by_cases hi : i < xs.length
    · rw [List.getElem?_eq_getElem hi, List.drop_eq_getElem_cons hi]
      show Out.bind _ _ = Out.bind _ _
      congr 1
      funext τ1 S1
      congr 1
      funext fl S2
      cases fl with
      | nx τ2 => exact ih (i + 1) τ2 S2 (by omega)
      | ct τ2 => exact ih (i + 1) τ2 S2 (by omega)
      | _ => rfl
    · rw [List.getElem?_eq_none (by omega), List.drop_eq_nil_of_le (by omega)]
      rfl
theorem for_seq {xs : List PV} {g : ST} {b : SS} {τ : En} {S : Store} (h : xs.length < LN) : forF (srcSeq xs) g b LN 0 τ S = forL g b xs τ S := forF_seq xs g b LN 0 τ S (by omega)
/-- a loop by an invariant: no turn leaves -/
theorem forL_inv {g : ST} {b : SS} {P : Fl → Store → Prop} (I : Nat → En → Store → Prop) : ∀ (xs : List PV) (i : Nat) (τ : En) (S : Store), I i τ S →
    (∀ j x τ S, xs[j]? = some x → I (i + j) τ S → Wp (g x τ S) fun τ1 S1 => Wp (b τ1 S1) fun fl S2 => ∃ τ2, (fl = .nx τ2 ∨ fl = .ct τ2) ∧ I (i + j + 1) τ2 S2) →
    (∀ τ S, I (i + xs.length) τ S → P (.nx τ) S) → Wp (forL g b xs τ S) P
  | [], i, τ, S, h0, _, hd => hd τ S h0
  | x :: xs, i, τ, S, h0, hs, hd => by
    unfold forL
    rw [wp_bind]
    refine (hs 0 x τ S rfl h0).imp fun τ1 S1 h1 => ?_
    rw [wp_bind]
    refine h1.imp fun fl S2 ⟨τ2, hf, h2⟩ => ?_
    have rest := forL_inv (g := g) (b := b) (P := P) I xs (i + 1) τ2 S2 h2 (fun j y τ S hj hI => by
      have z := hs (j + 1) y τ S hj (by rw [show i + (j + 1) = i + 1 + j by omega]; exact hI)
      rw [show i + (j + 1) + 1 = i + 1 + j + 1 by omega] at z
      exact z) (fun τ S hI => hd τ S (by rw [List.length_cons, show i + (xs.length + 1) = i + 1 + xs.length by omega]; exact hI))
    rcases hf with rfl | rfl
    · exact rest
    · exact rest

/-! ### list comprehensions over a fixed row -/
def compL (g : CT) (c : SB) (elt : SE) (D : Nat) (τ : En) : List PV → Store → Out Unit
  | [], S => .ok () S
  | x :: xs, S => match g x τ with
      | none => .bad
      | some τ2 => (noX (c τ2 S)).bind fun b S2 => if b then (noX (elt τ2 S2)).bind fun y S3 => match S3[D]? with
          | some (.lst acc) => if acc.length < LN then compL g c elt D τ xs (S3.set D (.lst (acc ++ [y]))) else .bad
          | _ => .bad
        else compL g c elt D τ xs S2
def pushC (k : Store → Out Unit) (D : Nat) (y : PV) (S3 : Store) : Out Unit := match S3[D]? with
  | some (.lst acc) => if acc.length < LN then k (S3.set D (.lst (acc ++ [y]))) else .bad
  | _ => .bad
theorem compL_cons {g : CT} {elt : SE} {D : Nat} {τ τ2 : En} {x : PV} {xs : List PV} {S : Store} (h : g x τ = some τ2) : compL g bTrue elt D τ (x :: xs) S = (noX (elt τ2 S)).bind (pushC (compL g bTrue elt D τ xs) D) := by
  unfold compL
  rw [h]
  rfl
theorem pushC_at {k : Store → Out Unit} {D : Nat} {y : PV} {S3 : Store} {acc : List PV} (h : S3[D]? = some (.lst acc)) (hl : acc.length < LN) : pushC k D y S3 = k (S3.set D (.lst (acc ++ [y]))) := by
  unfold pushC
  rw [h]
  exact if_pos hl
theorem compF_seq (xs : List PV) (g : CT) (c : SB) (elt : SE) (D : Nat) (τ : En) : ∀ (n i : Nat) (S : Store), xs.length - i < n → compF (srcSeq xs) g c elt D τ n i S = compL g c elt D τ (xs.drop i) S := by
  intro n
  induction n with
  | zero => intro i S h; omega
  | succ n ih =>
    intro i S h
    unfold compF srcSeq
    by_cases hi : i < xs.length
    · rw [List.getElem?_eq_getElem hi, List.drop_eq_getElem_cons hi]
      unfold compL
      dsimp only
      cases q : g xs[i] τ with
      | none => rfl
      | some τ2 =>
        show Out.bind _ _ = Out.bind _ _
        congr 1
        funext b S2
        cases b with
        | false => exact ih (i + 1) S2 (by omega)
        | true =>
          show Out.bind _ _ = Out.bind _ _
          congr 1
          funext y S3
          cases S3[D]? with
          | none => rfl
          | some o =>
            cases o with
            | lst acc =>
              show (if acc.length < LN then _ else _) = (if acc.length < LN then _ else _)
              by_cases hl : acc.length < LN
              · rw [if_pos hl, if_pos hl]; exact ih (i + 1) _ (by omega)
              · rw [if_neg hl, if_neg hl]
            | _ => rfl
    · rw [List.getElem?_eq_none (by omega), List.drop_eq_nil_of_le (by omega)]
      rfl
theorem lc_seq {fi : SI} {g : CT} {c : SB} {elt : SE} {vs : List Nat} {τ : En} {S S1 : Store} {xs : List PV} (hi : fi τ S = .ok (srcSeq xs) S1) (hl : xs.length < LN) :
    eLc fi g c elt vs τ S = (compL g c elt S1.length (wipeP τ vs) xs (S1 ++ [.lst []])).bind fun _ S2 => .ok (.loc S1.length) S2 := by
  unfold eLc
  rw [hi, Out.bind_ok, compF_seq xs g c elt S1.length _ LN 0 _ (by omega), List.drop_zero]
/-- each element a value of its item alone, the store untouched -/
theorem compL_map {g : CT} {elt : SE} {τ : En} (h : PV → PV) : ∀ (xs : List PV) (S1 : Store) (acc : List PV), acc.length + xs.length ≤ LN → (∀ x ∈ xs, ∃ τ2, g x τ = some τ2 ∧ ∀ S, elt τ2 S = .ok (h x) S) →
    compL g bTrue elt S1.length τ xs (S1 ++ [.lst acc]) = .ok () (S1 ++ [.lst (acc ++ xs.map h)])
  | [], S1, acc, _, _ => by unfold compL; rw [List.map_nil, List.append_nil]
  | x :: xs, S1, acc, hl, he => by
    obtain ⟨τ2, h1, h2⟩ := he x List.mem_cons_self
    have ih := compL_map h xs S1 (acc ++ [h x]) (by rw [List.length_append, List.length_singleton]; rw [List.length_cons] at hl; omega) fun y hy => he y (List.mem_cons_of_mem _ hy)
    have e1 : (S1 ++ [PO.lst acc])[S1.length]? = some (.lst acc) := by rw [List.getElem?_append_right (Nat.le_refl _), Nat.sub_self, List.getElem?_cons_zero]
    rw [compL_cons h1, h2]
    show pushC _ _ _ _ = _
    rw [pushC_at e1 (by rw [List.length_cons] at hl; omega), List.set_append_right _ _ (Nat.le_refl _), Nat.sub_self, List.set_cons_zero, ih, List.append_assoc]
    rfl
theorem lc_map {fi : SI} {g : CT} {elt : SE} {vs : List Nat} {τ : En} {S S1 : Store} {xs : List PV} (h : PV → PV) (hi : fi τ S = .ok (srcSeq xs) S1) (hl : xs.length < LN)
    (he : ∀ x ∈ xs, ∃ τ2, g x (wipeP τ vs) = some τ2 ∧ ∀ S, elt τ2 S = .ok (h x) S) : eLc fi g bTrue elt vs τ S = .ok (.loc S1.length) (S1 ++ [.lst (xs.map h)]) := by
  rw [lc_seq hi hl, compL_map h xs S1 [] (by simp; omega) he]
  rfl
/-- elements that change the store: by an invariant of it -/
theorem compL_inv {g : CT} {elt : SE} {τ : En} {D : Nat} (I : Nat → Store → Prop) (R : PV → Prop) : ∀ (xs : List PV) (i : Nat) (S : Store) (acc : List PV), acc.length + xs.length ≤ LN → S[D]? = some (.lst acc) → I i S →
    (∀ j x S, xs[j]? = some x → I (i + j) S → ∃ τ2, g x τ = some τ2 ∧ Wp (elt τ2 S) fun y S' => R y ∧ S'[D]? = S[D]? ∧ ∀ a, I (i + j + 1) (S'.set D a)) →
    Wp (compL g bTrue elt D τ xs S) fun _ S' => I (i + xs.length) S' ∧ ∃ ys, S'[D]? = some (.lst (acc ++ ys)) ∧ ys.length = xs.length ∧ ∀ y ∈ ys, R y
  | [], i, S, acc, _, hD, hI, _ => ⟨hI, [], by rw [List.append_nil]; exact hD, rfl, fun y h => by cases h⟩
  | x :: xs, i, S, acc, hl, hD, hI, hs => by
    obtain ⟨τ2, h1, h2⟩ := hs 0 x S rfl hI
    rw [compL_cons h1, wp_bind]
    refine (noX_wp h2).imp fun y S' ⟨hR, hD', hI'⟩ => ?_
    rw [pushC_at (hD'.trans hD) (by rw [List.length_cons] at hl; omega)]
    have hlt : D < S'.length := (List.getElem?_eq_some_iff.mp (hD'.trans hD)).1
    have ih := compL_inv (g := g) (elt := elt) (τ := τ) (D := D) I R xs (i + 1) (S'.set D (.lst (acc ++ [y]))) (acc ++ [y]) (by rw [List.length_append, List.length_singleton]; rw [List.length_cons] at hl; omega)
      (List.getElem?_set_self hlt) (hI' _) fun j z S hj hI => by
        have q := hs (j + 1) z S hj (by rw [show i + (j + 1) = i + 1 + j by omega]; exact hI)
        rw [show i + (j + 1) + 1 = i + 1 + j + 1 by omega] at q
        exact q
    refine ih.imp fun _ S2 ⟨q1, ys, q2, q3, q4⟩ => ⟨by rw [List.length_cons, show i + (xs.length + 1) = i + 1 + xs.length by omega]; exact q1, y :: ys, by rw [q2, List.append_assoc]; rfl, by rw [List.length_cons, List.length_cons, q3], fun z hz => ?_⟩
    rcases List.mem_cons.mp hz with rfl | hz
    · exact hR
    · exact q4 z hz
theorem lc_inv {fi : SI} {g : CT} {elt : SE} {vs : List Nat} {τ : En} {S S1 : Store} {xs : List PV} {P : PV → Store → Prop} (I : Nat → Store → Prop) (R : PV → Prop) (hi : fi τ S = .ok (srcSeq xs) S1) (hl : xs.length < LN) (h0 : I 0 (S1 ++ [.lst []]))
    (hs : ∀ j x S, xs[j]? = some x → I j S → ∃ τ2, g x (wipeP τ vs) = some τ2 ∧ Wp (elt τ2 S) fun y S' => R y ∧ S'[S1.length]? = S[S1.length]? ∧ ∀ a, I (j + 1) (S'.set S1.length a))
    (hd : ∀ S' ys, I xs.length S' → S'[S1.length]? = some (.lst ys) → ys.length = xs.length → (∀ y ∈ ys, R y) → P (.loc S1.length) S') : Wp (eLc fi g bTrue elt vs τ S) P := by
  rw [lc_seq hi hl, wp_bind]
  refine (compL_inv (D := S1.length) I R xs 0 _ [] (by simp; omega) (by simp) h0 fun j x S hj hI => ?_).imp fun _ S' ⟨q1, ys, q2, q3, q4⟩ => ?_
  · rw [Nat.zero_add] at hI ⊢
    exact hs j x S hj hI
  · rw [Nat.zero_add] at q1
    exact hd S' ys q1 q2 q3 q4

/-! ### any source that tells the items of a fixed row while an invariant holds -/
theorem forF_inv {src : Src} {g : ST} {b : SS} {P : Fl → Store → Prop} (xs : List PV) (I : Nat → En → Store → Prop) (hsrc : ∀ i τ S, I i τ S → src i S = some xs[i]?)
    (hs : ∀ i x τ S, xs[i]? = some x → I i τ S → Wp (g x τ S) fun τ1 S1 => Wp (b τ1 S1) fun fl S2 => ∃ τ2, (fl = .nx τ2 ∨ fl = .ct τ2) ∧ I (i + 1) τ2 S2)
    (hd : ∀ τ S, I xs.length τ S → P (.nx τ) S) : ∀ (n i : Nat) (τ : En) (S : Store), xs.length - i < n → i ≤ xs.length → I i τ S → Wp (forF src g b n i τ S) P := by
  intro n
  induction n with
  | zero => intro i τ S h; omega
  | succ n ih =>
    intro i τ S h hi hI
    unfold forF
    rw [hsrc i τ S hI]
    by_cases hl : i < xs.length
    · rw [List.getElem?_eq_getElem hl]
      dsimp only
      rw [wp_bind]
      refine (hs i _ τ S (List.getElem?_eq_getElem hl) hI).imp fun τ1 S1 h1 => ?_
      rw [wp_bind]
      refine h1.imp fun fl S2 ⟨τ2, hf, h2⟩ => ?_
      rcases hf with rfl | rfl
      · exact ih (i + 1) τ2 S2 (by omega) (by omega) h2
      · exact ih (i + 1) τ2 S2 (by omega) (by omega) h2
    · rw [List.getElem?_eq_none (by omega)]
      have e : i = xs.length := by omega
      subst e
      exact hd τ S hI
theorem for_inv {fi : SI} {src : Src} {g : ST} {b : SS} {P : Fl → Store → Prop} {τ : En} {S S1 : Store} (xs : List PV) (hi : fi τ S = .ok src S1) (I : Nat → En → Store → Prop) (hl : xs.length < LN) (h0 : I 0 τ S1) (hsrc : ∀ i τ S, I i τ S → src i S = some xs[i]?)
    (hs : ∀ i x τ S, xs[i]? = some x → I i τ S → Wp (g x τ S) fun τ1 S1 => Wp (b τ1 S1) fun fl S2 => ∃ τ2, (fl = .nx τ2 ∨ fl = .ct τ2) ∧ I (i + 1) τ2 S2)
    (hd : ∀ τ S, I xs.length τ S → P (.nx τ) S) : Wp (sFor fi g b τ S) P := by
  unfold sFor
  rw [hi]
  exact forF_inv xs I hsrc hs hd LN 0 τ S1 (by omega) (Nat.zero_le _) h0
theorem compF_map {src : Src} {g : CT} {elt : SE} {τ : En} (h : PV → PV) (xs : List PV) (S1 : Store) (hsrc : ∀ i acc, src i (S1 ++ [.lst acc]) = some xs[i]?) (he : ∀ x ∈ xs, ∃ τ2, g x τ = some τ2 ∧ ∀ S, elt τ2 S = .ok (h x) S) : ∀ (n i : Nat) (acc : List PV),
    xs.length - i < n → i ≤ xs.length → acc.length + (xs.length - i) ≤ LN → compF src g bTrue elt S1.length τ n i (S1 ++ [.lst acc]) = .ok () (S1 ++ [.lst (acc ++ (xs.drop i).map h)]) := by
  intro n
  induction n with
  | zero => intro i acc h; omega
  | succ n ih =>
    intro i acc h1 h2 h3
    unfold compF
    rw [hsrc]
    by_cases hl : i < xs.length
    · obtain ⟨τ2, e1, e2⟩ := he xs[i] (List.getElem_mem hl)
      rw [List.getElem?_eq_getElem hl, List.drop_eq_getElem_cons hl, List.map_cons]
      dsimp only
      rw [e1]
      have ih' := ih (i + 1) (acc ++ [h xs[i]]) (by omega) (by omega) (by rw [List.length_append, List.length_singleton]; omega)
      have e3 : (S1 ++ [PO.lst acc])[S1.length]? = some (.lst acc) := by rw [List.getElem?_append_right (Nat.le_refl _), Nat.sub_self, List.getElem?_cons_zero]
      show Out.bind (noX (elt τ2 _)) (pushC (compF src g bTrue elt S1.length τ n (i + 1)) S1.length) = _
      rw [e2]
      show pushC _ _ _ _ = _
      rw [pushC_at e3 (by omega), List.set_append_right _ _ (Nat.le_refl _), Nat.sub_self, List.set_cons_zero, ih', List.append_assoc]
      rfl
    · rw [List.getElem?_eq_none (by omega), List.drop_eq_nil_of_le (by omega), List.map_nil, List.append_nil]
theorem lc_mapG {fi : SI} {src : Src} {g : CT} {elt : SE} {vs : List Nat} {τ : En} {S S1 : Store} {xs : List PV} (h : PV → PV) (hi : fi τ S = .ok src S1) (hsrc : ∀ i acc, src i (S1 ++ [.lst acc]) = some xs[i]?) (hl : xs.length < LN)
    (he : ∀ x ∈ xs, ∃ τ2, g x (wipeP τ vs) = some τ2 ∧ ∀ S, elt τ2 S = .ok (h x) S) : eLc fi g bTrue elt vs τ S = .ok (.loc S1.length) (S1 ++ [.lst (xs.map h)]) := by
  unfold eLc
  rw [hi, Out.bind_ok, compF_map h xs S1 hsrc he LN 0 [] (by omega) (Nat.zero_le _) (by rw [List.length_nil]; omega)]
  rfl
theorem live_src {S1 : Store} {n : Nat} {xs : List PV} (h : S1[n]? = some (.lst xs)) (i : Nat) (acc : List PV) : srcLive n i (S1 ++ [.lst acc]) = some xs[i]? := by
  unfold srcLive
  rw [List.getElem?_append_left (List.getElem?_eq_some_iff.mp h).1, h]
theorem compF_inv {src : Src} {g : CT} {elt : SE} {τ : En} {D : Nat} (xs : List PV) (I : Nat → Store → Prop) (R : PV → Prop) (hsrc : ∀ i S, I i S → src i S = some xs[i]?)
    (hs : ∀ i x S, xs[i]? = some x → I i S → ∃ τ2, g x τ = some τ2 ∧ Wp (elt τ2 S) fun y S' => R y ∧ S'[D]? = S[D]? ∧ ∀ a, I (i + 1) (S'.set D (.lst a))) : ∀ (n i : Nat) (S : Store) (acc : List PV),
    xs.length - i < n → i ≤ xs.length → acc.length + (xs.length - i) ≤ LN → S[D]? = some (.lst acc) → I i S →
    Wp (compF src g bTrue elt D τ n i S) fun _ S' => I xs.length S' ∧ ∃ ys, S'[D]? = some (.lst (acc ++ ys)) ∧ ys.length = xs.length - i ∧ ∀ y ∈ ys, R y := by
  intro n
  induction n with
  | zero => intro i S acc h; omega
  | succ n ih =>
    intro i S acc h1 h2 h3 hD hI
    unfold compF
    rw [hsrc i S hI]
    by_cases hl : i < xs.length
    · obtain ⟨τ2, e1, e2⟩ := hs i xs[i] S (List.getElem?_eq_getElem hl) hI
      rw [List.getElem?_eq_getElem hl]
      dsimp only
      rw [e1]
      show Wp (Out.bind (noX (elt τ2 S)) (pushC (compF src g bTrue elt D τ n (i + 1)) D)) _
      rw [wp_bind]
      refine (noX_wp e2).imp fun y S' ⟨hR, hD', hI'⟩ => ?_
      rw [pushC_at (hD'.trans hD) (by omega)]
      have hlt : D < S'.length := (List.getElem?_eq_some_iff.mp (hD'.trans hD)).1
      refine (ih (i + 1) (S'.set D (.lst (acc ++ [y]))) (acc ++ [y]) (by omega) (by omega) (by rw [List.length_append, List.length_singleton]; omega) (List.getElem?_set_self hlt) (hI' _)).imp
        fun _ S2 ⟨q1, ys, q2, q3, q4⟩ => ⟨q1, y :: ys, by rw [q2, List.append_assoc]; rfl, by rw [List.length_cons, q3]; omega, fun z hz => ?_⟩
      rcases List.mem_cons.mp hz with rfl | hz
      · exact hR
      · exact q4 z hz
    · rw [List.getElem?_eq_none (by omega)]
      have e : i = xs.length := by omega
      subst e
      exact ⟨hI, [], by rw [List.append_nil]; exact hD, by simp, fun y h => by cases h⟩
theorem lc_invG {fi : SI} {src : Src} {g : CT} {elt : SE} {vs : List Nat} {τ : En} {S S1 : Store} {P : PV → Store → Prop} (xs : List PV) (I : Nat → Store → Prop) (R : PV → Prop) (hi : fi τ S = .ok src S1) (hl : xs.length < LN) (h0 : I 0 (S1 ++ [.lst []])) (hsrc : ∀ i S, I i S → src i S = some xs[i]?)
    (hs : ∀ i x S, xs[i]? = some x → I i S → ∃ τ2, g x (wipeP τ vs) = some τ2 ∧ Wp (elt τ2 S) fun y S' => R y ∧ S'[S1.length]? = S[S1.length]? ∧ ∀ a, I (i + 1) (S'.set S1.length (.lst a)))
    (hd : ∀ S' ys, I xs.length S' → S'[S1.length]? = some (.lst ys) → ys.length = xs.length → (∀ y ∈ ys, R y) → P (.loc S1.length) S') : Wp (eLc fi g bTrue elt vs τ S) P := by
  unfold eLc
  rw [hi, Out.bind_ok, wp_bind]
  refine (compF_inv (D := S1.length) xs I R hsrc hs LN 0 _ [] (by omega) (Nat.zero_le _) (by rw [List.length_nil]; omega) (by rw [List.getElem?_append_right (Nat.le_refl _), Nat.sub_self, List.getElem?_cons_zero]) h0).imp fun _ S' ⟨q1, ys, q2, q3, q4⟩ => ?_
  exact hd S' ys q1 q2 q3 q4
end G

/-! G, part Q: plain lemmas about texts. -/
namespace G
open PySem L2 TL PySem.Builtin PySem.Builtin.Str PySem.StrLaws

theorem takeWhile_all {α : Type} {p : α → Bool} : ∀ {l : List α}, (∀ c ∈ l, p c = true) → l.takeWhile p = l
  | [], _ => rfl
  | a :: l, h => by rw [List.takeWhile_cons, if_pos (h a List.mem_cons_self), takeWhile_all fun c hc => h c (List.mem_cons_of_mem _ hc)]
theorem takeWhile_part {α : Type} {p : α → Bool} : ∀ {l : List α}, ¬ (∀ c ∈ l, p c = true) → ∃ c r, l.drop (l.takeWhile p).length = c :: r ∧ p c = false
  | [], h => absurd (fun c hc => by cases hc) h
  | a :: l, h => by
    by_cases ha : p a = true
    · rw [List.takeWhile_cons, if_pos ha]
      exact takeWhile_part (l := l) fun q => h fun c hc => (List.mem_cons.mp hc).elim (fun e => e ▸ ha) (q c)
    · rw [List.takeWhile_cons, if_neg ha]
      exact ⟨a, l, rfl, by simpa using ha⟩
theorem takeWhile_lt {α : Type} {p : α → Bool} {l : List α} (h : ¬ (∀ c ∈ l, p c = true)) : (l.takeWhile p).length < l.length := by
  obtain ⟨c, r, e, _⟩ := takeWhile_part h
  have := congrArg List.length e
  rw [List.length_drop, List.length_cons] at this
  omega
theorem strip_empty (x y : Str) : tl (Txt.stripChars x y) = [] ↔ ∀ c ∈ tl x, y.cps.contains c = true := by
  unfold Txt.stripChars Txt.stripBy
  by_cases h : ∀ c ∈ tl x, y.cps.contains c = true
  · have lo : stripLo y.cps.contains true x = (tl x).length := by
      show ((tl x).takeWhile y.cps.contains).length = _
      rw [takeWhile_all h]
    split
    · rename_i hs
      unfold stripSame at hs
      rw [lo, Bool.and_eq_true_iff] at hs
      have : (tl x).length = 0 := beq_iff_eq.mp hs.1
      exact ⟨fun _ => h, fun _ => List.length_eq_zero_iff.mp this⟩
    · refine ⟨fun _ => h, fun _ => ?_⟩
      unfold stripped
      rw [tl_strSub, lo, List.drop_length, List.take_nil]
  · have hne : tl x ≠ [] := fun e => h (by rw [e]; intro c hc; cases hc)
    split
    · exact ⟨fun e => absurd e hne, fun q => absurd q h⟩
    · refine ⟨fun e => ?_, fun q => absurd q h⟩
      exfalso
      obtain ⟨c, r, e1, e2⟩ := takeWhile_part h
      unfold stripped at e
      rw [tl_strSub] at e
      have lo : stripLo y.cps.contains true x = ((tl x).takeWhile y.cps.contains).length := rfl
      rw [lo, e1] at e
      have hi : ((c :: r).reverse.takeWhile y.cps.contains).length < (c :: r).length := by
        have := takeWhile_lt (p := y.cps.contains) (l := (c :: r).reverse) fun q => by
          have := q c (List.mem_reverse.mpr List.mem_cons_self)
          rw [e2] at this
          cases this
        rw [List.length_reverse] at this
        exact this
      have e3 := congrArg List.length e1
      rw [List.length_drop] at e3
      have e4 : stripHi y.cps.contains true x ((tl x).takeWhile y.cps.contains).length = x.length - ((c :: r).reverse.takeWhile y.cps.contains).length := by
        show x.length - (((tl x).drop ((tl x).takeWhile y.cps.contains).length).reverse.takeWhile y.cps.contains).length = _
        rw [e1]
      have xl : x.length = (tl x).length := len_tl x
      rw [e4] at e
      have e5 : (c :: r).take (x.length - ((c :: r).reverse.takeWhile y.cps.contains).length - ((tl x).takeWhile y.cps.contains).length) = [] := e
      have e6 := congrArg List.length e5
      rw [List.length_take, List.length_nil] at e6
      omega
theorem mem_contains {c : Nat} {y : Str} : y.cps.contains c = true ↔ c ∈ tl y := by
  rw [Array.contains_iff_mem]
  exact Array.mem_toList_iff.symm
/-- a row of values that are texts of one sign -/
theorem strP_length (x : Str) : (strP x).length = x.length := by
  unfold strP
  rw [List.length_map]
  exact (len_tl x).symm
theorem blsP_map {α : Type} (f : α → Bool) : ∀ xs : List α, blsP (xs.map fun x => .bl (f x)) = some (xs.map f)
  | [] => rfl
  | x :: xs => by
    show (blsP (xs.map fun x => .bl (f x))).map (f x :: ·) = _
    rw [blsP_map f xs]
    rfl
theorem lstP_snoc (S : Store) (xs : List PV) : lstP (S ++ [.lst xs]) (.loc S.length) = some xs := by
  unfold lstP
  dsimp only
  rw [List.getElem?_append_right (Nat.le_refl _), Nat.sub_self, List.getElem?_cons_zero]
theorem snoc_get (S : Store) (o : G.PO) : (S ++ [o])[S.length]? = some o := by
  rw [List.getElem?_append_right (Nat.le_refl _), Nat.sub_self, List.getElem?_cons_zero]
theorem vAll_map {α : Type} (S : Store) (f : α → Bool) (xs : List α) : vAll [.loc S.length] (S ++ [.lst (xs.map fun x => .bl (f x))]) = .ok (.bl (xs.all f)) (S ++ [.lst (xs.map fun x => .bl (f x))]) := by
  unfold vAll
  dsimp only
  rw [lstP_snoc, Option.bind_some, blsP_map]
  dsimp only
  rw [List.all_map]
  rfl
theorem str_beq (a b : Str) : (a == b) = decide (tl a = tl b) := by
  by_cases h : tl a = tl b
  · rw [decide_eq_true h, ext_tl h, beq_self_eq_true]
  · rw [decide_eq_false h]
    exact beq_eq_false_iff_ne.mpr fun e => h (congrArg tl e)
theorem inS_one (c : Nat) (b : Str) : inS ⟨#[c]⟩ b = decide (c ∈ tl b) := rfl
end G

/-! G, part R: plain lemmas: while, what is kept of a store. -/
namespace G
open PySem L2 TL

theorem whileF_inv {c : SB} {b : SS} {P : Fl → Store → Prop} (I : Nat → En → Store → Prop)
    (st : ∀ m τ S, I m τ S → Wp (c τ S) fun k S1 => (k = true ∧ Wp (b τ S1) fun fl S2 => ∃ τ2 m2, (fl = .nx τ2 ∨ fl = .ct τ2) ∧ m2 < m ∧ I m2 τ2 S2) ∨ (k = false ∧ P (.nx τ) S1)) :
    ∀ (n m : Nat) (τ : En) (S : Store), m < n → I m τ S → Wp (whileF c b n τ S) P := by
  intro n
  induction n with
  | zero => intro m τ S h; omega
  | succ n ih =>
    intro m τ S h hI
    unfold whileF
    rw [wp_bind]
    refine (st m τ S hI).imp fun k S1 h1 => ?_
    rcases h1 with ⟨rfl, h1⟩ | ⟨rfl, h1⟩
    · rw [if_pos rfl, wp_bind]
      refine h1.imp fun fl S2 ⟨τ2, m2, hf, hm, h2⟩ => ?_
      rcases hf with rfl | rfl
      · exact ih m2 τ2 S2 (by omega) h2
      · exact ih m2 τ2 S2 (by omega) h2
    · exact h1
theorem while_inv {c : SB} {b : SS} {P : Fl → Store → Prop} {τ : En} {S : Store} {m : Nat} (I : Nat → En → Store → Prop) (h0 : I m τ S) (hm : m < 1000000)
    (st : ∀ m τ S, I m τ S → Wp (c τ S) fun k S1 => (k = true ∧ Wp (b τ S1) fun fl S2 => ∃ τ2 m2, (fl = .nx τ2 ∨ fl = .ct τ2) ∧ m2 < m ∧ I m2 τ2 S2) ∨ (k = false ∧ P (.nx τ) S1)) : Wp (sWhile c b τ S) P :=
  whileF_inv I st LN m τ S hm h0

/-- the beginning of the store is as it was -/
def Kp (S S' : Store) : Prop := S.length ≤ S'.length ∧ ∀ j, j < S.length → S'[j]? = S[j]?
theorem Kp.rfl {S : Store} : Kp S S := ⟨Nat.le_refl _, fun _ _ => Eq.refl _⟩
theorem Kp.trans {S S1 S2 : Store} (a : Kp S S1) (b : Kp S1 S2) : Kp S S2 := ⟨Nat.le_trans a.1 b.1, fun j h => (b.2 j (Nat.lt_of_lt_of_le h a.1)).trans (a.2 j h)⟩
theorem Kp.app (S T : Store) : Kp S (S ++ T) := ⟨by rw [List.length_append]; omega, fun j h => List.getElem?_append_left h⟩
theorem Kp.app' {S S1 : Store} (a : Kp S S1) (T : Store) : Kp S (S1 ++ T) := a.trans (.app S1 T)
theorem Kp.set {S S1 : Store} (a : Kp S S1) {k : Nat} (h : S.length ≤ k) (o : G.PO) : Kp S (S1.set k o) := ⟨by rw [List.length_set]; exact a.1, fun j hj => by rw [List.getElem?_set_ne (by omega)]; exact a.2 j hj⟩
theorem Kp.get {S S1 : Store} (a : Kp S S1) {k : Nat} {o : G.PO} (h : S[k]? = some o) : S1[k]? = some o := (a.2 k (List.getElem?_eq_some_iff.mp h).1).trans h
theorem vtup_l {S : Store} {k : Nat} {xs : List G.PV} (h : S[k]? = some (.lst xs)) : vTuple [.loc k] S = .ok (.tup xs) S := by
  unfold vTuple seqP; dsimp only; rw [h]
theorem vapp_l {S : Store} {k : Nat} {xs : List G.PV} {y : G.PV} (h : S[k]? = some (.lst xs)) (hl : xs.length < 1000000) : mAppend (.loc k) [y] S = .ok .non (S.set k (.lst (xs ++ [y]))) := by
  unfold mAppend; dsimp only; rw [h]; exact if_pos hl
theorem vext_t {S : Store} {k : Nat} {xs ys : List G.PV} (h : S[k]? = some (.lst xs)) (hl : xs.length + ys.length ≤ 1000000) : mExtend (.loc k) [.tup ys] S = .ok .non (S.set k (.lst (xs ++ ys))) := by
  unfold mExtend; dsimp only; rw [h]; exact if_pos hl
theorem strOk_of {y : Str} (h : ∀ c ∈ tl y, c < 1114112) : PyData.strOk y = true := by
  unfold PyData.strOk
  rw [Array.all_eq_true_iff_forall_mem]
  intro c hc
  exact decide_eq_true (h c (Array.mem_toList_iff.mpr hc))
theorem vin2 {y a b : Str} (hy : PyData.strOk y = true) (ha : PyData.strOk a = true) (hb : PyData.strOk b = true) (S : Store) : vIn (.str y) (.tup [.str a, .str b]) S = .ok (.bl (a == y || b == y)) S := by
  show oB (inD (.str y) (.tup [.str a, .str b]) S) S = _
  have : inD (.str y) (.tup [.str a, .str b]) S = some (a == y || b == y) := by
    show (if (SeqAt.shaped (.str y) && SeqAt.shaped (.tuple [.str a, .str b])) = true then some ([PyData.str a, .str b].any fun z => PyData.eqv z (.str y)) else none) = _
    rw [if_pos]
    · simp [PyData.eqv]
    · simp [SeqAt.shaped, PyData.canLay0, PyData.canLayAll0, PyData.depth, PyData.depthAll, hy, ha, hb]
  rw [this]; rfl
theorem tl_cut (x : Str) (i j : Nat) : tl (cutS x (some (i : Int)) (some (j : Int))) = ((tl x).drop (min i x.length)).take (min j x.length - min i x.length) := by
  unfold cutS
  show ((tl x).drop (HT.sIx x.length 0 (some (i : Int)))).take (HT.sIx x.length x.length (some (j : Int)) - HT.sIx x.length 0 (some (i : Int))) = _
  rw [HT.sIx_nat, HT.sIx_nat]
end G

namespace Lw
open PySem PySem.Spec PyProof.Rows L2 G
def F_plain : List PV → Store → Out PV := mkF 2 (sRet (eArg vTuple (aCons (eLc (iVal (eVar 0)) (ctName 1) bTrue (eTup (aCons (eVar 1) (aCons (eC (.bl false)) aNil))) [1]) aNil)))
def F_comment_end : List PV → Store → Out PV := mkF 3 (sSeq (sAsg (eM "str" mFindA (eVar 0) (aCons (eC (.str "\n")) (aCons (eVar 1) aNil))) (stName 2))
  (sRet (eIf (bCmp vLt (eVar 2) (eC (.int 0))) (eArg vLen (aCons (eVar 0) aNil)) (eVar 2))))
def F_word_begin : List PV → Store → Out PV := mkF 2 (sSeq (sWhile (bAnd (bCmp vLt (eVar 1) (eArg vLen (aCons (eVar 0) aNil))) (bOr (bCmp vIn (eBin vIx (eVar 0) (eVar 1)) (eC (.str " \n"))) (bCmp vEq (eBin vIx (eVar 0) (eVar 1)) (eC (.str "#"))))) (sAsg (eIf (bCmp vEq (eBin vIx (eVar 0) (eVar 1)) (eC (.str "#"))) (eCall 2 F_comment_end [] (aCons (eVar 0) (aCons (eVar 1) aNil))) (eBin vAdd (eVar 1) (eC (.int 1)))) (stName 1)))
  (sRet (eVar 1)))
def F_read_escaped : List PV → Store → Out PV := mkF 2 (sSeq (sIf (bCmp vEq (eBin vAdd (eVar 1) (eC (.int 1))) (eArg vLen (aCons (eVar 0) aNil))) sBad sNext)
  (sRet (eTup (aCons (eCall 1 F_plain [] (aCons (eBin vIx (eVar 0) (eBin vAdd (eVar 1) (eC (.int 1)))) aNil)) (aCons (eBin vAdd (eVar 1) (eC (.int 2))) aNil)))))
def F_read_single : List PV → Store → Out PV := mkF 3 (sSeq (sAsg (eM "str" mFindA (eVar 0) (aCons (eC (.str "'")) (aCons (eBin vAdd (eVar 1) (eC (.int 1))) aNil))) (stName 2))
  (sSeq (sIf (bCmp vLt (eVar 2) (eC (.int 0))) sBad sNext)
  (sRet (eTup (aCons (eCall 1 F_plain [] (aCons (eSl (eVar 0) (oSome (eBin vAdd (eVar 1) (eC (.int 1)))) (oSome (eVar 2))) aNil)) (aCons (eBin vAdd (eVar 2) (eC (.int 1))) aNil))))))
def F_read_double : List PV → Store → Out PV := mkF 4 (sSeq (sPar 2 3 (aCons (eVar 1) (aCons (eLst aNil) aNil)))
  (sSeq (sAug 1 (eC (.int 1)) vIAdd)
  (sSeq (sWhile (bAnd (bCmp vLt (eVar 1) (eArg vLen (aCons (eVar 0) aNil))) (bCmp vNe (eBin vIx (eVar 0) (eVar 1)) (eC (.str "\"")))) (sSeq (sIf (bAnd (bCmp vEq (eBin vIx (eVar 0) (eVar 1)) (eC (.str "\\"))) (bCmp vIn (eSl (eVar 0) (oSome (eBin vAdd (eVar 1) (eC (.int 1)))) (oSome (eBin vAdd (eVar 1) (eC (.int 2))))) (eTup (aCons (eC (.str "\"")) (aCons (eC (.str "\\")) aNil))))) (sAug 1 (eC (.int 1)) vIAdd) sNext)
  (sSeq (sDrop (eM "list" mAppend (eVar 3) (aCons (eTup (aCons (eBin vIx (eVar 0) (eVar 1)) (aCons (eC (.bl false)) aNil))) aNil)))
  (sAug 1 (eC (.int 1)) vIAdd))))
  (sSeq (sIf (bCmp vEq (eVar 1) (eArg vLen (aCons (eVar 0) aNil))) sBad sNext)
  (sRet (eTup (aCons (eArg vTuple (aCons (eVar 3) aNil)) (aCons (eBin vAdd (eVar 1) (eC (.int 1))) aNil))))))))
def F_read_piece : List PV → Store → Out PV := mkF 3 (sMatch (eBin vIx (eVar 0) (eVar 1)) (mStr "\\" (sRet (eCall 2 F_read_escaped [] (aCons (eVar 0) (aCons (eVar 1) aNil)))) (mStr "'" (sRet (eCall 2 F_read_single [] (aCons (eVar 0) (aCons (eVar 1) aNil)))) (mStr "\"" (sRet (eCall 2 F_read_double [] (aCons (eVar 0) (aCons (eVar 1) aNil)))) (mCap 2 (sRet (eTup (aCons (eTup (aCons (eTup (aCons (eVar 2) (aCons (eBin vIn (eVar 2) (eC (.str "*?[]{},!-"))) aNil))) aNil)) (aCons (eBin vAdd (eVar 1) (eC (.int 1))) aNil)))))))))
def F_read_word : List PV → Store → Out PV := mkF 4 (sSeq (sAsg (eLst aNil) (stName 2))
  (sSeq (sWhile (bAnd (bCmp vLt (eVar 1) (eArg vLen (aCons (eVar 0) aNil))) (bCmp vNotIn (eBin vIx (eVar 0) (eVar 1)) (eC (.str " \n")))) (sSeq (sAsg (eCall 2 F_read_piece [] (aCons (eVar 0) (aCons (eVar 1) aNil))) (stTup 2 (stCons (stName 3) (stCons (stName 1) stNil))))
  (sDrop (eM "list" mExtend (eVar 2) (aCons (eVar 3) aNil)))))
  (sRet (eTup (aCons (eArg vTuple (aCons (eVar 2) aNil)) (aCons (eVar 1) aNil))))))
def F_split : List PV → Store → Out PV := mkF 4 (sSeq (sIf (bNot (bVal (eArg vIsi (aCons (eVar 0) (aCons (eC (.ty "str")) aNil))))) sBad sNext)
  (sSeq (sPar 1 2 (aCons (eLst aNil) (aCons (eCall 2 F_word_begin [] (aCons (eVar 0) (aCons (eC (.int 0)) aNil))) aNil)))
  (sSeq (sWhile (bCmp vLt (eVar 2) (eArg vLen (aCons (eVar 0) aNil))) (sSeq (sAsg (eCall 2 F_read_word [] (aCons (eVar 0) (aCons (eVar 2) aNil))) (stTup 2 (stCons (stName 3) (stCons (stName 2) stNil))))
  (sSeq (sDrop (eM "list" mAppend (eVar 1) (aCons (eVar 3) aNil)))
  (sAsg (eCall 2 F_word_begin [] (aCons (eVar 0) (aCons (eVar 2) aNil))) (stName 2)))))
  (sRet (eVar 1)))))
def F__law_bag : List PV → Store → Out PV := mkF 5 (sSeq (sAsg (eIf (bCmp vLt (eVar 1) (eArg vLen (aCons (eVar 0) aNil))) (eBin vIx (eVar 0) (eVar 1)) (eC (.int 0))) (stName 2))
  (sSeq (sAsg (eArg vAbs (aCons (eVar 2) aNil)) (stName 3))
  (sSeq (sAsg (eBin vAdd (eBin vMul (eBin vAdd (eBin vMod (eVar 2) (eC (.int 2305843009213693951))) (eC (.int 1))) (eBin vAdd (eBin vMul (eC (.int 2)) (eVar 1)) (eC (.int 3)))) (eBin vMul (eC (.int 1013)) (eVar 1))) (stName 4))
  (sRet (eLst (aCons (eBin vMul (eVar 3) (eArg cInt (aCons (eBin vGe (eVar 3) (eBin vPow (eC (.int 10)) (eC (.int 18)))) aNil))) (aCons (eVar 4) (aCons (eC (.int 0)) aNil))))))))
def F__law_take : List PV → Store → Out PV := mkF 5 (sSeq (sIf (bCmp vGt (eBin vIx (eVar 0) (eC (.int 0))) (eC (.int 0))) (sSeq (sAsg (eBin vMod (eBin vIx (eVar 0) (eC (.int 0))) (eVar 1)) (stName 2))
  (sSeq (sAsg (eBin vDiv (eBin vIx (eVar 0) (eC (.int 0))) (eVar 1)) (stSub (eVar 0) (eC (.int 0)) vSet))
  (sRet (eVar 2)))) sNext)
  (sSeq (sAsg (eBin vAdd (eBin vIx (eVar 0) (eC (.int 2))) (eC (.int 1))) (stSub (eVar 0) (eC (.int 2)) vSet))
  (sSeq (sAsg (eBin vAdd (eBin vAdd (eBin vMul (eBin vIx (eVar 0) (eC (.int 1))) (eBin vAdd (eBin vMul (eC (.int 2)) (eBin vIx (eVar 0) (eC (.int 2)))) (eC (.int 1)))) (eBin vMul (eBin vMul (eC (.int 4801)) (eBin vIx (eVar 0) (eC (.int 2)))) (eBin vIx (eVar 0) (eC (.int 2))))) (eC (.int 71))) (stName 3))
  (sSeq (sAsg (eBin vMod (eBin vPow (eVar 3) (eC (.int 3))) (eC (.int 2147483629))) (stName 4))
  (sRet (eBin vMod (eBin vDiv (eBin vMod (eBin vMul (eVar 4) (eBin vAdd (eBin vDiv (eVar 4) (eC (.int 4096))) (eBin vIx (eVar 0) (eC (.int 2))))) (eC (.int 2147483587))) (eC (.int 16))) (eVar 1)))))))
def F__law_text : List PV → Store → Out PV := mkF 5 (sSeq (sAsg (eLst (aCons (eC (.str "a")) (aCons (eC (.str "b")) (aCons (eC (.str ".")) (aCons (eC (.str "0")) (aCons (eC (.str "-")) (aCons (eC (.str " ")) (aCons (eC (.str "\n")) (aCons (eC (.str "#")) (aCons (eC (.str "\\")) (aCons (eC (.str "'")) (aCons (eC (.str "\"")) (aCons (eC (.str "*")) (aCons (eC (.str "?")) (aCons (eC (.str "[")) (aCons (eC (.str "]")) (aCons (eC (.str "{")) (aCons (eC (.str "}")) (aCons (eC (.str ",")) (aCons (eC (.str "!")) (aCons (eC (.str "/")) aNil))))))))))))))))))))) (stName 2))
  (sSeq (sAsg (eBin vAdd (eVar 2) (eLst (aCons (eC (.str "'a b'")) (aCons (eC (.str "\"c\"")) (aCons (eC (.str "''")) (aCons (eC (.str "\"\"")) (aCons (eC (.str "\\ ")) (aCons (eC (.str "\\\n")) (aCons (eC (.str "\"\\\"")) (aCons (eC (.str "Ab~")) (aCons (eC (.str " #x\n")) (aCons (eC (.str "**")) aNil)))))))))))) (stName 2))
  (sSeq (sAsg (eBin vAdd (eVar 2) (eLst (aCons (eC (.str "{a,b}")) (aCons (eC (.str "'#'")) (aCons (eC (.str "a#")) (aCons (eC (.str "\"\\\\\"")) (aCons (eC (.str "'\\'")) (aCons (eC (.str "\"\\a\"")) (aCons (eC (.str "\\\\")) (aCons (eC (.str "[!a-c]")) aNil)))))))))) (stName 2))
  (sSeq (sAsg (eCall 2 F__law_take [] (aCons (eVar 0) (aCons (eBin vAdd (eVar 1) (eC (.int 1))) aNil))) (stName 3))
  (sRet (eM "str" mJoin (eC (.str "")) (aCons (eLc (iRange (aCons (eVar 3) aNil)) (ctName 4) bTrue (eBin vIx (eVar 2) (eCall 2 F__law_take [] (aCons (eVar 0) (aCons (eArg vLen (aCons (eVar 2) aNil)) aNil)))) [4]) aNil)))))))
def F__law_read : List PV → Store → Out PV := mkF 8 (sSeq (sAsg (eTup (aCons (eLst aNil) (aCons (eC .non) (aCons (eC (.str "out")) (aCons (eUn vNeg (eC (.int 1))) (aCons (eC (.bl false)) aNil)))))) (stTup 5 (stCons (stName 1) (stCons (stName 2) (stCons (stName 3) (stCons (stName 4) (stCons (stName 5) stNil)))))))
  (sSeq (sFor (iRange (aCons (eArg vLen (aCons (eVar 0) aNil)) aNil)) (stName 6) (sSeq (sAsg (eBin vIx (eVar 0) (eVar 6)) (stName 7))
  (sIf (bCmp vEq (eVar 3) (eC (.str "comment"))) (sAsg (eIf (bCmp vEq (eVar 7) (eC (.str "\n"))) (eC (.str "out")) (eVar 3)) (stName 3)) (sIf (bVal (eVar 5)) (sSeq (sIf (bAnd (bCmp vEq (eVar 3) (eC (.str "double"))) (bCmp vNotIn (eVar 7) (eC (.str "\"\\")))) (sDrop (eM "list" mAppend (eVar 2) (aCons (eTup (aCons (eC (.str "\\")) (aCons (eC (.bl false)) aNil))) aNil))) sNext)
  (sSeq (sDrop (eM "list" mAppend (eVar 2) (aCons (eTup (aCons (eVar 7) (aCons (eC (.bl false)) aNil))) aNil)))
  (sAsg (eC (.bl false)) (stName 5)))) (sIf (bAnd (bCmp vEq (eVar 3) (eC (.str "out"))) (bCmp vIn (eVar 7) (eC (.str " \n")))) (sSeq (sAsg (eBin vAdd (eVar 1) (eIf (bCmp vIsNot (eVar 2) (eC .non)) (eLst (aCons (eArg vTuple (aCons (eVar 2) aNil)) aNil)) (eLst aNil))) (stName 1))
  (sAsg (eC .non) (stName 2))) (sIf (bAnd (bCmp vEq (eVar 3) (eC (.str "out"))) (bAnd (bCmp vEq (eVar 7) (eC (.str "#"))) (bCmp vIs (eVar 2) (eC .non)))) (sAsg (eC (.str "comment")) (stName 3)) (sSeq (sAsg (eIf (bCmp vIs (eVar 2) (eC .non)) (eLst aNil) (eVar 2)) (stName 2))
  (sIf (bAnd (bCmp vEq (eVar 7) (eC (.str "\\"))) (bCmp vNe (eVar 3) (eC (.str "single")))) (sPar 4 5 (aCons (eIf (bCmp vEq (eVar 3) (eC (.str "out"))) (eVar 6) (eVar 4)) (aCons (eC (.bl true)) aNil))) (sIf (bAnd (bCmp vEq (eVar 3) (eC (.str "out"))) (bCmp vIn (eVar 7) (eC (.str "'\"")))) (sPar 4 3 (aCons (eVar 6) (aCons (eIf (bCmp vEq (eVar 7) (eC (.str "'"))) (eC (.str "single")) (eC (.str "double"))) aNil))) (sIf (bAnd (bCmp vNe (eVar 3) (eC (.str "out"))) (bCmp vEq (eVar 7) (eDk [("single", "'"), ("double", "\"")] 3))) (sAsg (eC (.str "out")) (stName 3)) (sDrop (eM "list" mAppend (eVar 2) (aCons (eTup (aCons (eVar 7) (aCons (eAnd (eBin vEq (eVar 3) (eC (.str "out"))) (eBin vIn (eVar 7) (eC (.str "*?[]{},!-")))) aNil))) aNil)))))))))))))
  (sSeq (sIf (bOr (bCmp vIn (eVar 3) (eTup (aCons (eC (.str "single")) (aCons (eC (.str "double")) aNil)))) (bVal (eVar 5))) (sRet (eVar 4)) sNext)
  (sRet (eBin vAdd (eVar 1) (eIf (bCmp vIsNot (eVar 2) (eC .non)) (eLst (aCons (eArg vTuple (aCons (eVar 2) aNil)) aNil)) (eLst aNil)))))))
def F__law_closed : List PV → Store → Out PV := mkF 2 (sSeq (sFor (iVal (eTup (aCons (eC (.str "")) (aCons (eC (.str "'")) (aCons (eC (.str "\"")) (aCons (eC (.str "a")) aNil)))))) (stName 1) (sIf (bVal (eArg vIsi (aCons (eCall 1 F__law_read [] (aCons (eBin vAdd (eVar 0) (eVar 1)) aNil)) (aCons (eC (.ty "list")) aNil)))) (sRet (eBin vAdd (eVar 0) (eVar 1))) sNext))
  (sRet (eVar 0)))
def F_law : List PV → Store → Out PV := mkF 7 (sSeq (sFor (iRange (aCons (eArg vMax (aCons (eC (.int 2)) (aCons (eArg vMin (aCons (eC (.int 4)) (aCons (eArg vLen (aCons (eVar 0) aNil)) aNil))) aNil))) aNil)) (stName 1) (sSeq (sAsg (eCall 2 F__law_bag [] (aCons (eVar 0) (aCons (eVar 1) aNil))) (stName 2))
  (sFor (iRange (aCons (eC (.int 12)) aNil)) (stName 3) (sSeq (sAsg (eCall 1 F__law_closed [] (aCons (eCall 2 F__law_text [] (aCons (eVar 2) (aCons (eC (.int 18)) aNil))) aNil)) (stName 4))
  (sSeq (sAsg (eCall 1 F__law_read [] (aCons (eVar 4) aNil)) (stName 5))
  (sIf (bVal (eArg vIsi (aCons (eVar 5) (aCons (eC (.ty "list")) aNil)))) (sSeq (sAsg (eCall 1 F_split [] (aCons (eVar 4) aNil)) (stName 6))
  (sSeq (sIf (bOr (bNot (bVal (eArg vIsi (aCons (eVar 6) (aCons (eC (.ty "list")) aNil))))) (bCmp vNe (eArg vRepr (aCons (eVar 6) aNil)) (eArg vRepr (aCons (eVar 5) aNil)))) (sRet (eC (.bl false))) sNext)
  (sSeq (sDrop (eM "list" mAppend (eVar 6) (aCons (eC (.str "changed")) aNil)))
  (sIf (bCmp vNe (eArg vRepr (aCons (eCall 1 F_split [] (aCons (eVar 4) aNil)) aNil)) (eArg vRepr (aCons (eVar 5) aNil))) (sRet (eC (.bl false))) sNext)))) sNext))))))
  (sRet (eC (.bl true))))
end Lw

namespace Lw
open PySem L2 G

def BagAt (S : Store) (b : Nat) (k : Int) : Prop := ∃ d l c : Int, S[b]? = some (.lst [.int d, .int l, .int c]) ∧ 0 ≤ d ∧ 0 ≤ l ∧ l < 1180591620717411303424 ∧ 0 ≤ c ∧ c ≤ k
theorem bag_lt {S : Store} {b : Nat} {k : Int} (h : BagAt S b k) : b < S.length := by
  obtain ⟨d, l, c, hS, _⟩ := h
  exact (List.getElem?_eq_some_iff.mp hS).1
theorem bag_keep {S S' : Store} {b : Nat} {k k' : Int} (h : BagAt S b k) (e : S'[b]? = S[b]?) (hk : k ≤ k') : BagAt S' b k' := by
  obtain ⟨d, l, c, hS, h1, h2, h3, h4, h5⟩ := h
  exact ⟨d, l, c, e.trans hS, h1, h2, h3, h4, by omega⟩
theorem bag_app {S : Store} {b : Nat} {k : Int} (h : BagAt S b k) (T : Store) : BagAt (S ++ T) b k :=
  bag_keep h (List.getElem?_append_left (bag_lt h)) (Int.le_refl _)
theorem take_ok {S : Store} {b : Nat} {k n : Int} (h : BagAt S b k) (hk : k ≤ 100000) (hn : 0 < n) (hn2 : n < 100000) :
    Wp (F__law_take [.loc b, .int n] S) fun v S' => ∃ r, v = .int r ∧ 0 ≤ r ∧ r < n ∧ BagAt S' b (k + 1) ∧ ∃ o, S' = S.set b o := by
  obtain ⟨d, l, c, hS, h1, h2, h3, h4, h5⟩ := h
  have hlt : b < S.length := (List.getElem?_eq_some_iff.mp hS).1
  have n0 : ¬ n = 0 := by omega
  have n1 : -1073741824 < n := by omega
  have n2 : n < 1073741824 := by omega
  have m1 : mulOk l (2 * (c + 1) + 1) = true := mulOk_r (by omega)
  have m2 : mulOk (4801 * (c + 1)) (c + 1) = true := mulOk_r (by omega)
  simp only [F__law_take, mkF, endF, startP, List.map_cons, List.map_nil, List.length_cons, List.length_nil, List.replicate, List.cons_append, List.nil_append, Nat.sub_zero, Nat.zero_add, Nat.reduceAdd, Nat.reduceSub, sSeq, sIf, sAsg, sRet, sRetN, sDrop, sNext, sBrk, sCont, sAug, stName, stSub, stTup, stCons, stNil, eVar, eC, eUn, eBin, eArg, eLst, eTup, aNil, aCons, eIf, eAnd, eOr, eNot, eChain, bChain, bCmp, bVal, bNot, bAnd, bOr, bTrue, eSl, oNone, oSome, eCall, eCall0, callF, eM, oBl, oB, oT, tr_bl, tr_int, tr_non, tr_tup, isT_str, beq_self_eq_true, vAdd, vSub, vMul, vDiv, vMod, vPow, vNeg, vIAdd, vIMul, vGt, vLt, vLe, vGe, lt2, ltP, vEq, vNe, eq_ii, eq_ss, eq_bb, eq_nn, vIx, seqP, lstP, newT, vSet, vLen, lenP, vAbs, vMax, vMin, cInt, vIsi, ty_non, ty_bl, ty_int, ty_str, ty_tup, ty_fl, Out.bind_ok, Out.bind_bad, wp_ok, wp_bind, List.getElem?_cons_zero, List.getElem?_cons_succ, List.getElem?_nil, List.set_cons_zero, List.set_cons_succ, List.append_nil, Option.map_some, Option.map_none, Option.bind_some, Option.bind_none, ga, ga0, gs, gs0, List.append_assoc, Nat.add_assoc, newL, LN, Nat.reduceLeDiff, Nat.reduceLT, kit_ss, kit_ts, kit_ls, kit_bs, kit_is, kit_ns, reduceCtorEq, a30, a31, a32, i30, i31, i32, decide_eq_true_eq, ne_eq, Int.reduceLT, Int.reduceLE, Int.reduceNeg, Int.reducePow, Int.reduceToNat, Int.reduceEq, Int.reduceNe, mulOk_l, List.length_set, List.length_append, imp_false, not_false_eq_true, implies_true, if_true, if_false, ite_true, ite_false, Bool.false_eq_true, Bool.not_true, Bool.not_false, forall_const, eq_self, and_true, true_and, and_self, PV.int.injEq, PV.str.injEq, PV.bl.injEq, decide_true, decide_false, hS]
  refine wp_ite (fun h => ?_) (fun h => ?_)
  · simp only [mkF, endF, startP, List.map_cons, List.map_nil, List.length_cons, List.length_nil, List.replicate, List.cons_append, List.nil_append, Nat.sub_zero, Nat.zero_add, Nat.reduceAdd, Nat.reduceSub, sSeq, sIf, sAsg, sRet, sRetN, sDrop, sNext, sBrk, sCont, sAug, stName, stSub, stTup, stCons, stNil, eVar, eC, eUn, eBin, eArg, eLst, eTup, aNil, aCons, eIf, eAnd, eOr, eNot, eChain, bChain, bCmp, bVal, bNot, bAnd, bOr, bTrue, eSl, oNone, oSome, eCall, eCall0, callF, eM, oBl, oB, oT, tr_bl, tr_int, tr_non, tr_tup, isT_str, beq_self_eq_true, vAdd, vSub, vMul, vDiv, vMod, vPow, vNeg, vIAdd, vIMul, vGt, vLt, vLe, vGe, lt2, ltP, vEq, vNe, eq_ii, eq_ss, eq_bb, eq_nn, vIx, seqP, lstP, newT, vSet, vLen, lenP, vAbs, vMax, vMin, cInt, vIsi, ty_non, ty_bl, ty_int, ty_str, ty_tup, ty_fl, Out.bind_ok, Out.bind_bad, wp_ok, wp_bind, List.getElem?_cons_zero, List.getElem?_cons_succ, List.getElem?_nil, List.set_cons_zero, List.set_cons_succ, List.append_nil, Option.map_some, Option.map_none, Option.bind_some, Option.bind_none, ga, ga0, gs, gs0, List.append_assoc, Nat.add_assoc, newL, LN, Nat.reduceLeDiff, Nat.reduceLT, kit_ss, kit_ts, kit_ls, kit_bs, kit_is, kit_ns, reduceCtorEq, a30, a31, a32, i30, i31, i32, decide_eq_true_eq, ne_eq, Int.reduceLT, Int.reduceLE, Int.reduceNeg, Int.reducePow, Int.reduceToNat, Int.reduceEq, Int.reduceNe, mulOk_l, List.length_set, List.length_append, imp_false, not_false_eq_true, implies_true, if_true, if_false, ite_true, ite_false, Bool.false_eq_true, Bool.not_true, Bool.not_false, forall_const, eq_self, and_true, true_and, and_self, PV.int.injEq, PV.str.injEq, PV.bl.injEq, decide_true, decide_false, hS, n0, n1, n2]
    refine ⟨_, rfl, Int.fmod_nonneg_of_pos _ hn, Int.fmod_lt_of_pos _ hn, ⟨d.fdiv n, l, c, List.getElem?_set_self hlt, Int.fdiv_nonneg h1 (by omega), h2, h3, h4, by omega⟩, _, rfl⟩
  · simp only [mkF, endF, startP, List.map_cons, List.map_nil, List.length_cons, List.length_nil, List.replicate, List.cons_append, List.nil_append, Nat.sub_zero, Nat.zero_add, Nat.reduceAdd, Nat.reduceSub, sSeq, sIf, sAsg, sRet, sRetN, sDrop, sNext, sBrk, sCont, sAug, stName, stSub, stTup, stCons, stNil, eVar, eC, eUn, eBin, eArg, eLst, eTup, aNil, aCons, eIf, eAnd, eOr, eNot, eChain, bChain, bCmp, bVal, bNot, bAnd, bOr, bTrue, eSl, oNone, oSome, eCall, eCall0, callF, eM, oBl, oB, oT, tr_bl, tr_int, tr_non, tr_tup, isT_str, beq_self_eq_true, vAdd, vSub, vMul, vDiv, vMod, vPow, vNeg, vIAdd, vIMul, vGt, vLt, vLe, vGe, lt2, ltP, vEq, vNe, eq_ii, eq_ss, eq_bb, eq_nn, vIx, seqP, lstP, newT, vSet, vLen, lenP, vAbs, vMax, vMin, cInt, vIsi, ty_non, ty_bl, ty_int, ty_str, ty_tup, ty_fl, Out.bind_ok, Out.bind_bad, wp_ok, wp_bind, List.getElem?_cons_zero, List.getElem?_cons_succ, List.getElem?_nil, List.set_cons_zero, List.set_cons_succ, List.append_nil, Option.map_some, Option.map_none, Option.bind_some, Option.bind_none, ga, ga0, gs, gs0, List.append_assoc, Nat.add_assoc, newL, LN, Nat.reduceLeDiff, Nat.reduceLT, kit_ss, kit_ts, kit_ls, kit_bs, kit_is, kit_ns, reduceCtorEq, a30, a31, a32, i30, i31, i32, decide_eq_true_eq, ne_eq, Int.reduceLT, Int.reduceLE, Int.reduceNeg, Int.reducePow, Int.reduceToNat, Int.reduceEq, Int.reduceNe, mulOk_l, List.length_set, List.length_append, imp_false, not_false_eq_true, implies_true, if_true, if_false, ite_true, ite_false, Bool.false_eq_true, Bool.not_true, Bool.not_false, forall_const, eq_self, and_true, true_and, and_self, PV.int.injEq, PV.str.injEq, PV.bl.injEq, decide_true, decide_false, hS, List.getElem?_set_self hlt, m1, m2]
    generalize hz : l * (2 * (c + 1) + 1) + 4801 * (c + 1) * (c + 1) + 71 = z
    have z1 : 0 ≤ l * (2 * (c + 1) + 1) := Int.mul_nonneg h2 (by omega)
    have z2 : 0 ≤ 4801 * (c + 1) * (c + 1) := Int.mul_nonneg (by omega) (by omega)
    have z3 : l * (2 * (c + 1) + 1) ≤ l * 200003 := Int.mul_le_mul_of_nonneg_left (by omega) h2
    have z4 : 4801 * (c + 1) * (c + 1) ≤ 4801 * (c + 1) * 100001 := Int.mul_le_mul_of_nonneg_left (by omega) (by omega)
    refine wp_pos (by omega) ?_
    simp only [mkF, endF, startP, List.map_cons, List.map_nil, List.length_cons, List.length_nil, List.replicate, List.cons_append, List.nil_append, Nat.sub_zero, Nat.zero_add, Nat.reduceAdd, Nat.reduceSub, sSeq, sIf, sAsg, sRet, sRetN, sDrop, sNext, sBrk, sCont, sAug, stName, stSub, stTup, stCons, stNil, eVar, eC, eUn, eBin, eArg, eLst, eTup, aNil, aCons, eIf, eAnd, eOr, eNot, eChain, bChain, bCmp, bVal, bNot, bAnd, bOr, bTrue, eSl, oNone, oSome, eCall, eCall0, callF, eM, oBl, oB, oT, tr_bl, tr_int, tr_non, tr_tup, isT_str, beq_self_eq_true, vAdd, vSub, vMul, vDiv, vMod, vPow, vNeg, vIAdd, vIMul, vGt, vLt, vLe, vGe, lt2, ltP, vEq, vNe, eq_ii, eq_ss, eq_bb, eq_nn, vIx, seqP, lstP, newT, vSet, vLen, lenP, vAbs, vMax, vMin, cInt, vIsi, ty_non, ty_bl, ty_int, ty_str, ty_tup, ty_fl, Out.bind_ok, Out.bind_bad, wp_ok, wp_bind, List.getElem?_cons_zero, List.getElem?_cons_succ, List.getElem?_nil, List.set_cons_zero, List.set_cons_succ, List.append_nil, Option.map_some, Option.map_none, Option.bind_some, Option.bind_none, ga, ga0, gs, gs0, List.append_assoc, Nat.add_assoc, newL, LN, Nat.reduceLeDiff, Nat.reduceLT, kit_ss, kit_ts, kit_ls, kit_bs, kit_is, kit_ns, reduceCtorEq, a30, a31, a32, i30, i31, i32, decide_eq_true_eq, ne_eq, Int.reduceLT, Int.reduceLE, Int.reduceNeg, Int.reducePow, Int.reduceToNat, Int.reduceEq, Int.reduceNe, mulOk_l, List.length_set, List.length_append, imp_false, not_false_eq_true, implies_true, if_true, if_false, ite_true, ite_false, Bool.false_eq_true, Bool.not_true, Bool.not_false, forall_const, eq_self, and_true, true_and, and_self, PV.int.injEq, PV.str.injEq, PV.bl.injEq, decide_true, decide_false, List.getElem?_set_self hlt, n0]
    generalize hy : Int.fmod (z ^ 3) 2147483629 = y
    have hy1 : 0 ≤ y := by rw [← hy]; exact Int.fmod_nonneg_of_pos _ (by decide)
    have hy2 : y < 2147483629 := by rw [← hy]; exact Int.fmod_lt_of_pos _ (by decide)
    have m3 : mulOk y (y.fdiv 4096 + (c + 1)) = true := mulOk_l (by omega)
    simp only [mkF, endF, startP, List.map_cons, List.map_nil, List.length_cons, List.length_nil, List.replicate, List.cons_append, List.nil_append, Nat.sub_zero, Nat.zero_add, Nat.reduceAdd, Nat.reduceSub, sSeq, sIf, sAsg, sRet, sRetN, sDrop, sNext, sBrk, sCont, sAug, stName, stSub, stTup, stCons, stNil, eVar, eC, eUn, eBin, eArg, eLst, eTup, aNil, aCons, eIf, eAnd, eOr, eNot, eChain, bChain, bCmp, bVal, bNot, bAnd, bOr, bTrue, eSl, oNone, oSome, eCall, eCall0, callF, eM, oBl, oB, oT, tr_bl, tr_int, tr_non, tr_tup, isT_str, beq_self_eq_true, vAdd, vSub, vMul, vDiv, vMod, vPow, vNeg, vIAdd, vIMul, vGt, vLt, vLe, vGe, lt2, ltP, vEq, vNe, eq_ii, eq_ss, eq_bb, eq_nn, vIx, seqP, lstP, newT, vSet, vLen, lenP, vAbs, vMax, vMin, cInt, vIsi, ty_non, ty_bl, ty_int, ty_str, ty_tup, ty_fl, Out.bind_ok, Out.bind_bad, wp_ok, wp_bind, List.getElem?_cons_zero, List.getElem?_cons_succ, List.getElem?_nil, List.set_cons_zero, List.set_cons_succ, List.append_nil, Option.map_some, Option.map_none, Option.bind_some, Option.bind_none, ga, ga0, gs, gs0, List.append_assoc, Nat.add_assoc, newL, LN, Nat.reduceLeDiff, Nat.reduceLT, kit_ss, kit_ts, kit_ls, kit_bs, kit_is, kit_ns, reduceCtorEq, a30, a31, a32, i30, i31, i32, decide_eq_true_eq, ne_eq, Int.reduceLT, Int.reduceLE, Int.reduceNeg, Int.reducePow, Int.reduceToNat, Int.reduceEq, Int.reduceNe, mulOk_l, List.length_set, List.length_append, imp_false, not_false_eq_true, implies_true, if_true, if_false, ite_true, ite_false, Bool.false_eq_true, Bool.not_true, Bool.not_false, forall_const, eq_self, and_true, true_and, and_self, PV.int.injEq, PV.str.injEq, PV.bl.injEq, decide_true, decide_false, List.getElem?_set_self hlt, n0, m3]
    refine ⟨_, rfl, Int.fmod_nonneg_of_pos _ hn, Int.fmod_lt_of_pos _ hn, ⟨d, l, c + 1, List.getElem?_set_self hlt, h1, h2, h3, by omega, by omega⟩, _, rfl⟩
theorem atI_in {α : Type} {xs : List α} {r : Int} (h0 : 0 ≤ r) (h1 : r < xs.length) : ∃ z, atI xs r = some z ∧ z ∈ xs := by
  obtain ⟨j, rfl⟩ : ∃ j : Nat, r = (j : Int) := ⟨r.toNat, by omega⟩
  have hj : j < xs.length := by omega
  exact ⟨xs[j], atI_nat (List.getElem?_eq_getElem hj), List.getElem_mem hj⟩
theorem bag_ok {ns : List Int} {i : Int} {S : Store} (hi : 0 ≤ i) (hi2 : i < 6) : Wp (F__law_bag [scrP ns, .int i] S) fun v S' => v = .loc S.length ∧ ∃ o, S' = S ++ [o] ∧ BagAt S' S.length 0 := by
  obtain ⟨cell, hc⟩ : ∃ cell : Int, (eIf (bCmp vLt (eVar 1) (eArg vLen (aCons (eVar 0) aNil))) (eBin vIx (eVar 0) (eVar 1)) (eC (.int 0))) [some (scrP ns), some (.int i), none, none, none] S = .ok (.int cell) S := by
    by_cases h : i < (ns.length : Int)
    · obtain ⟨z, hz, hm⟩ := atI_in (xs := ns.map G.PV.int) hi (by rw [List.length_map]; exact h)
      obtain ⟨n, _, rfl⟩ := List.mem_map.mp hm
      exact ⟨n, by simp only [mkF, endF, startP, List.map_cons, List.map_nil, List.length_cons, List.length_nil, List.replicate, List.cons_append, List.nil_append, Nat.sub_zero, Nat.zero_add, Nat.reduceAdd, Nat.reduceSub, sSeq, sIf, sAsg, sRet, sRetN, sDrop, sNext, sBrk, sCont, sAug, stName, stSub, stTup, stCons, stNil, eVar, eC, eUn, eBin, eArg, eLst, eTup, aNil, aCons, eIf, eAnd, eOr, eNot, eChain, bChain, bCmp, bVal, bNot, bAnd, bOr, bTrue, eSl, oNone, oSome, eCall, eCall0, callF, eM, oBl, oB, oT, tr_bl, tr_int, tr_non, tr_tup, isT_str, beq_self_eq_true, vAdd, vSub, vMul, vDiv, vMod, vPow, vNeg, vIAdd, vIMul, vGt, vLt, vLe, vGe, lt2, ltP, vEq, vNe, eq_ii, eq_ss, eq_bb, eq_nn, vIx, seqP, lstP, newT, vSet, vLen, lenP, vAbs, vMax, vMin, cInt, vIsi, ty_non, ty_bl, ty_int, ty_str, ty_tup, ty_fl, Out.bind_ok, Out.bind_bad, wp_ok, wp_bind, List.getElem?_cons_zero, List.getElem?_cons_succ, List.getElem?_nil, List.set_cons_zero, List.set_cons_succ, List.append_nil, Option.map_some, Option.map_none, Option.bind_some, Option.bind_none, ga, ga0, gs, gs0, List.append_assoc, Nat.add_assoc, newL, LN, Nat.reduceLeDiff, Nat.reduceLT, kit_ss, kit_ts, kit_ls, kit_bs, kit_is, kit_ns, reduceCtorEq, a30, a31, a32, i30, i31, i32, decide_eq_true_eq, ne_eq, Int.reduceLT, Int.reduceLE, Int.reduceNeg, Int.reducePow, Int.reduceToNat, Int.reduceEq, Int.reduceNe, mulOk_l, List.length_set, List.length_append, imp_false, not_false_eq_true, implies_true, if_true, if_false, ite_true, ite_false, Bool.false_eq_true, Bool.not_true, Bool.not_false, forall_const, eq_self, and_true, true_and, and_self, PV.int.injEq, PV.str.injEq, PV.bl.injEq, decide_true, decide_false, scrP, List.length_map, h, hz]⟩
    · exact ⟨0, by simp only [mkF, endF, startP, List.map_cons, List.map_nil, List.length_cons, List.length_nil, List.replicate, List.cons_append, List.nil_append, Nat.sub_zero, Nat.zero_add, Nat.reduceAdd, Nat.reduceSub, sSeq, sIf, sAsg, sRet, sRetN, sDrop, sNext, sBrk, sCont, sAug, stName, stSub, stTup, stCons, stNil, eVar, eC, eUn, eBin, eArg, eLst, eTup, aNil, aCons, eIf, eAnd, eOr, eNot, eChain, bChain, bCmp, bVal, bNot, bAnd, bOr, bTrue, eSl, oNone, oSome, eCall, eCall0, callF, eM, oBl, oB, oT, tr_bl, tr_int, tr_non, tr_tup, isT_str, beq_self_eq_true, vAdd, vSub, vMul, vDiv, vMod, vPow, vNeg, vIAdd, vIMul, vGt, vLt, vLe, vGe, lt2, ltP, vEq, vNe, eq_ii, eq_ss, eq_bb, eq_nn, vIx, seqP, lstP, newT, vSet, vLen, lenP, vAbs, vMax, vMin, cInt, vIsi, ty_non, ty_bl, ty_int, ty_str, ty_tup, ty_fl, Out.bind_ok, Out.bind_bad, wp_ok, wp_bind, List.getElem?_cons_zero, List.getElem?_cons_succ, List.getElem?_nil, List.set_cons_zero, List.set_cons_succ, List.append_nil, Option.map_some, Option.map_none, Option.bind_some, Option.bind_none, ga, ga0, gs, gs0, List.append_assoc, Nat.add_assoc, newL, LN, Nat.reduceLeDiff, Nat.reduceLT, kit_ss, kit_ts, kit_ls, kit_bs, kit_is, kit_ns, reduceCtorEq, a30, a31, a32, i30, i31, i32, decide_eq_true_eq, ne_eq, Int.reduceLT, Int.reduceLE, Int.reduceNeg, Int.reducePow, Int.reduceToNat, Int.reduceEq, Int.reduceNe, mulOk_l, List.length_set, List.length_append, imp_false, not_false_eq_true, implies_true, if_true, if_false, ite_true, ite_false, Bool.false_eq_true, Bool.not_true, Bool.not_false, forall_const, eq_self, and_true, true_and, and_self, PV.int.injEq, PV.str.injEq, PV.bl.injEq, decide_true, decide_false, scrP, List.length_map, h]⟩
  have f1 : 0 ≤ cell.fmod 2305843009213693951 := Int.fmod_nonneg_of_pos _ (by decide)
  have f2 : cell.fmod 2305843009213693951 < 2305843009213693951 := Int.fmod_lt_of_pos _ (by decide)
  have m1 : mulOk (cell.fmod 2305843009213693951 + 1) (2 * i + 3) = true := mulOk_r (by omega)
  have p10 : ((10 : Int) ^ (18 : Nat)) = 1000000000000000000 := by decide
  rw [F__law_bag, wp_mkF, wp_seq, wp_asg]
  refine Wp.of hc ?_
  have z1 : 0 ≤ (cell.fmod 2305843009213693951 + 1) * (2 * i + 3) := Int.mul_nonneg (by omega) (by omega)
  have z2 : (cell.fmod 2305843009213693951 + 1) * (2 * i + 3) ≤ (cell.fmod 2305843009213693951 + 1) * 15 := Int.mul_le_mul_of_nonneg_left (by omega) (by omega)
  have fin : ∀ d : Int, 0 ≤ d → BagAt (S ++ [.lst [.int d, .int ((cell.fmod 2305843009213693951 + 1) * (2 * i + 3) + 1013 * i), .int 0]]) S.length 0 := fun d hd =>
    ⟨_, _, _, by rw [ga0]; rfl, hd, by omega, by omega, Int.le_refl _, Int.le_refl _⟩
  have a0 : 0 ≤ (if cell < 0 then -cell else cell) := by split <;> omega
  simp only [mkF, endF, startP, List.map_cons, List.map_nil, List.length_cons, List.length_nil, List.replicate, List.cons_append, List.nil_append, Nat.sub_zero, Nat.zero_add, Nat.reduceAdd, Nat.reduceSub, sSeq, sIf, sAsg, sRet, sRetN, sDrop, sNext, sBrk, sCont, sAug, stName, stSub, stTup, stCons, stNil, eVar, eC, eUn, eBin, eArg, eLst, eTup, aNil, aCons, eIf, eAnd, eOr, eNot, eChain, bChain, bCmp, bVal, bNot, bAnd, bOr, bTrue, eSl, oNone, oSome, eCall, eCall0, callF, eM, oBl, oB, oT, tr_bl, tr_int, tr_non, tr_tup, isT_str, beq_self_eq_true, vAdd, vSub, vMul, vDiv, vMod, vPow, vNeg, vIAdd, vIMul, vGt, vLt, vLe, vGe, lt2, ltP, vEq, vNe, eq_ii, eq_ss, eq_bb, eq_nn, vIx, seqP, lstP, newT, vSet, vLen, lenP, vAbs, vMax, vMin, cInt, vIsi, ty_non, ty_bl, ty_int, ty_str, ty_tup, ty_fl, Out.bind_ok, Out.bind_bad, wp_ok, wp_bind, List.getElem?_cons_zero, List.getElem?_cons_succ, List.getElem?_nil, List.set_cons_zero, List.set_cons_succ, List.append_nil, Option.map_some, Option.map_none, Option.bind_some, Option.bind_none, ga, ga0, gs, gs0, List.append_assoc, Nat.add_assoc, newL, LN, Nat.reduceLeDiff, Nat.reduceLT, kit_ss, kit_ts, kit_ls, kit_bs, kit_is, kit_ns, reduceCtorEq, a30, a31, a32, i30, i31, i32, decide_eq_true_eq, ne_eq, Int.reduceLT, Int.reduceLE, Int.reduceNeg, Int.reducePow, Int.reduceToNat, Int.reduceEq, Int.reduceNe, mulOk_l, List.length_set, List.length_append, imp_false, not_false_eq_true, implies_true, if_true, if_false, ite_true, ite_false, Bool.false_eq_true, Bool.not_true, Bool.not_false, forall_const, eq_self, and_true, true_and, and_self, PV.int.injEq, PV.str.injEq, PV.bl.injEq, decide_true, decide_false, m1, p10]
  generalize (if cell < 0 then -cell else cell) = far at *
  have m3 : ∀ k : Bool, mulOk far (if k then 1 else 0) = true := fun k => mulOk_r (by cases k <;> decide)
  simp only [mkF, endF, startP, List.map_cons, List.map_nil, List.length_cons, List.length_nil, List.replicate, List.cons_append, List.nil_append, Nat.sub_zero, Nat.zero_add, Nat.reduceAdd, Nat.reduceSub, sSeq, sIf, sAsg, sRet, sRetN, sDrop, sNext, sBrk, sCont, sAug, stName, stSub, stTup, stCons, stNil, eVar, eC, eUn, eBin, eArg, eLst, eTup, aNil, aCons, eIf, eAnd, eOr, eNot, eChain, bChain, bCmp, bVal, bNot, bAnd, bOr, bTrue, eSl, oNone, oSome, eCall, eCall0, callF, eM, oBl, oB, oT, tr_bl, tr_int, tr_non, tr_tup, isT_str, beq_self_eq_true, vAdd, vSub, vMul, vDiv, vMod, vPow, vNeg, vIAdd, vIMul, vGt, vLt, vLe, vGe, lt2, ltP, vEq, vNe, eq_ii, eq_ss, eq_bb, eq_nn, vIx, seqP, lstP, newT, vSet, vLen, lenP, vAbs, vMax, vMin, cInt, vIsi, ty_non, ty_bl, ty_int, ty_str, ty_tup, ty_fl, Out.bind_ok, Out.bind_bad, wp_ok, wp_bind, List.getElem?_cons_zero, List.getElem?_cons_succ, List.getElem?_nil, List.set_cons_zero, List.set_cons_succ, List.append_nil, Option.map_some, Option.map_none, Option.bind_some, Option.bind_none, ga, ga0, gs, gs0, List.append_assoc, Nat.add_assoc, newL, LN, Nat.reduceLeDiff, Nat.reduceLT, kit_ss, kit_ts, kit_ls, kit_bs, kit_is, kit_ns, reduceCtorEq, a30, a31, a32, i30, i31, i32, decide_eq_true_eq, ne_eq, Int.reduceLT, Int.reduceLE, Int.reduceNeg, Int.reducePow, Int.reduceToNat, Int.reduceEq, Int.reduceNe, mulOk_l, List.length_set, List.length_append, imp_false, not_false_eq_true, implies_true, if_true, if_false, ite_true, ite_false, Bool.false_eq_true, Bool.not_true, Bool.not_false, forall_const, eq_self, and_true, true_and, and_self, PV.int.injEq, PV.str.injEq, PV.bl.injEq, decide_true, decide_false, m3]
  exact ⟨_, rfl, fin _ (Int.mul_nonneg a0 (by split <;> omega))⟩
end Lw

/-! the reading machine: one sign at a time -/
namespace Lw
open PySem L2 G TL

inductive Md where | out | sgl | dbl | cmt
deriving DecidableEq
abbrev Wd := List (Nat × Bool)
structure Mc where
  fd : List Wd
  sg : Option Wd
  md : Md
  es : Bool
def actL : List Nat := [42, 63, 91, 93, 123, 125, 44, 33, 45]
def stp (s : Mc) (c : Nat) : Mc :=
  match s.md with
  | .cmt => { s with md := if c = 10 then .out else .cmt }
  | .out =>
    if s.es then { s with sg := some (s.sg.getD [] ++ [(c, false)]), es := false }
    else if c = 32 ∨ c = 10 then { s with fd := s.fd ++ s.sg.toList, sg := none }
    else if c = 35 ∧ s.sg = none then { s with md := .cmt }
    else if c = 92 then { s with sg := some (s.sg.getD []), es := true }
    else if c = 39 then { s with sg := some (s.sg.getD []), md := .sgl }
    else if c = 34 then { s with sg := some (s.sg.getD []), md := .dbl }
    else { s with sg := some (s.sg.getD [] ++ [(c, decide (c ∈ actL))]) }
  | .sgl =>
    if c = 39 then { s with sg := some (s.sg.getD []), md := .out }
    else { s with sg := some (s.sg.getD [] ++ [(c, false)]) }
  | .dbl =>
    if s.es then (if c = 34 ∨ c = 92 then { s with sg := some (s.sg.getD [] ++ [(c, false)]), es := false } else { s with sg := some (s.sg.getD [] ++ [(92, false), (c, false)]), es := false })
    else if c = 92 then { s with sg := some (s.sg.getD []), es := true }
    else if c = 34 then { s with sg := some (s.sg.getD []), md := .out }
    else { s with sg := some (s.sg.getD [] ++ [(c, false)]) }
def mc0 : Mc := ⟨[], none, .out, false⟩
def runM (l : List Nat) : Mc := l.foldl stp mc0
theorem runM_snoc (l : List Nat) (c : Nat) : runM (l ++ [c]) = stp (runM l) c := by
  unfold runM; rw [List.foldl_append]; rfl
theorem run_take {cs : List Nat} {i c : Nat} (h : cs[i]? = some c) : runM (cs.take (i + 1)) = stp (runM (cs.take i)) c := by
  have : cs.take (i + 1) = cs.take i ++ [c] := by rw [List.take_add_one, h]; rfl
  rw [this, runM_snoc]
/-- what holds of each state -/
structure MOk (s : Mc) (i : Nat) : Prop where
  es : s.es = true → s.md = .out ∨ s.md = .dbl
  sg : (s.es = true ∨ s.md = .sgl ∨ s.md = .dbl) → ∃ w, s.sg = some w
  cm : s.md = .cmt → s.sg = none
  fl : s.fd.length ≤ i
  gl : (s.sg.getD []).length ≤ 2 * i
  tl : (s.fd.map List.length).sum + (s.sg.getD []).length ≤ 2 * i
theorem stp_ok {s : Mc} {i c : Nat} (h : MOk s i) : MOk (stp s c) (i + 1) := by
  obtain ⟨fd, sg, md, es⟩ := s
  obtain ⟨h1, h2, h3, h4, h5, h6⟩ := h
  dsimp only at h1 h2 h3 h4 h5 h6
  unfold stp
  dsimp only
  cases md <;> cases es <;> dsimp only
  all_goals (try (first | (rcases h1 rfl with h | h <;> cases h; done) | skip))
  all_goals (repeat' split)
  all_goals
    cases sg with
    | none => constructor <;> simp_all <;> omega
    | some w => constructor <;> simp_all <;> omega
theorem mok (l : List Nat) : MOk (runM l) l.length := by
  have : ∀ n, ∀ l : List Nat, l.length = n → MOk (runM l) n := by
    intro n
    induction n with
    | zero =>
      intro l hl
      rw [List.length_eq_zero_iff.mp hl]
      constructor <;> simp [runM, mc0]
    | succ n ih =>
      intro l hl
      have hne : l ≠ [] := by intro e; rw [e] at hl; cases hl
      have e := List.dropLast_concat_getLast hne
      rw [← e, runM_snoc]
      exact stp_ok (ih l.dropLast (by rw [List.length_dropLast, hl]; rfl))
  exact this l.length l rfl
end Lw

namespace Lw
open PySem L2 G TL

theorem one_eq (c : Nat) (s : Str) (d : Nat) (h : tl s = [d]) : ((⟨#[c]⟩ : Str) == s) = decide (c = d) := by
  rw [str_beq, h]
  by_cases e : c = d
  · subst e; exact (decide_eq_true (rfl : [c] = [c])).trans (decide_eq_true (rfl : c = c)).symm
  · rw [decide_eq_false e]; exact decide_eq_false fun q => e (List.cons.inj q).1
theorem e10 (c : Nat) : ((⟨#[c]⟩ : Str) == Str.ofString "\n") = decide (c = 10) := one_eq c _ _ rfl
theorem e35 (c : Nat) : ((⟨#[c]⟩ : Str) == Str.ofString "#") = decide (c = 35) := one_eq c _ _ rfl
theorem e92 (c : Nat) : ((⟨#[c]⟩ : Str) == Str.ofString "\\") = decide (c = 92) := one_eq c _ _ rfl
theorem e39 (c : Nat) : ((⟨#[c]⟩ : Str) == Str.ofString "'") = decide (c = 39) := one_eq c _ _ rfl
theorem e34 (c : Nat) : ((⟨#[c]⟩ : Str) == Str.ofString "\"") = decide (c = 34) := one_eq c _ _ rfl
theorem in_one (c : Nat) (b : Str) (S : Store) : inP (.str ⟨#[c]⟩) (.str b) S = some (decide (c ∈ tl b)) := rfl
theorem v_in (c : Nat) (b : Str) (S : Store) : vIn (.str ⟨#[c]⟩) (.str b) S = .ok (.bl (decide (c ∈ tl b))) S := rfl
theorem v_nin (c : Nat) (b : Str) (S : Store) : vNotIn (.str ⟨#[c]⟩) (.str b) S = .ok (.bl (!decide (c ∈ tl b))) S := rfl
theorem g1 : tl (Str.ofString " \n") = [32, 10] := rfl
theorem g2 : tl (Str.ofString "\"\\") = [34, 92] := rfl
theorem g3 : tl (Str.ofString "'\"") = [39, 34] := rfl
theorem g4 : tl (Str.ofString "*?[]{},!-") = actL := rfl
theorem is_ln (n : Nat) (S : Store) : vIs (.loc n) .non S = .ok (.bl false) S := rfl
theorem is_nn (S : Store) : vIs .non .non S = .ok (.bl true) S := rfl
theorem isn_ln (n : Nat) (S : Store) : vIsNot (.loc n) .non S = .ok (.bl true) S := rfl
theorem isn_nn (S : Store) : vIsNot .non .non S = .ok (.bl false) S := rfl
def sgn (p : Nat × Bool) : G.PV := .tup [.str ⟨#[p.1]⟩, .bl p.2]
def wd (w : Wd) : G.PV := .tup (w.map sgn)
def mdS : Md → Str
  | .out => Str.ofString "out"
  | .sgl => Str.ofString "single"
  | .dbl => Str.ofString "double"
  | .cmt => Str.ofString "comment"
theorem q_oc : (Str.ofString "out" == Str.ofString "comment") = false := by decide +kernel
theorem q_sc : (Str.ofString "single" == Str.ofString "comment") = false := by decide +kernel
theorem q_dc : (Str.ofString "double" == Str.ofString "comment") = false := by decide +kernel
theorem q_od : (Str.ofString "out" == Str.ofString "double") = false := by decide +kernel
theorem q_sd : (Str.ofString "single" == Str.ofString "double") = false := by decide +kernel
theorem q_so : (Str.ofString "single" == Str.ofString "out") = false := by decide +kernel
theorem q_do : (Str.ofString "double" == Str.ofString "out") = false := by decide +kernel
theorem q_os : (Str.ofString "out" == Str.ofString "single") = false := by decide +kernel
theorem q_ds : (Str.ofString "double" == Str.ofString "single") = false := by decide +kernel
def sgV (sg : Option Wd) (sv : G.PV) (f n : Nat) (S : Store) : Prop := match sg with
  | none => sv = .non
  | some w => ∃ k, sv = .loc k ∧ n ≤ k ∧ k ≠ f ∧ S[k]? = some (.lst (w.map sgn))
structure RI (x : Str) (n : Nat) (S0 : Store) (m : Mc) (τ : En) (S : Store) : Prop where
  ex : ∃ f sv b v6 v7, τ = [some (.str x), some (.loc f), some sv, some (.str (mdS m.md)), some (.int b), some (.bl m.es), v6, v7] ∧ n ≤ f ∧ S[f]? = some (.lst (m.fd.map wd)) ∧ sgV m.sg sv f n S
  keep : ∀ j, j < n → S[j]? = S0[j]?
  len : n ≤ S.length
abbrev rBody : SS := (sSeq (sAsg (eBin vIx (eVar 0) (eVar 6)) (stName 7))
  (sIf (bCmp vEq (eVar 3) (eC (.str "comment"))) (sAsg (eIf (bCmp vEq (eVar 7) (eC (.str "\n"))) (eC (.str "out")) (eVar 3)) (stName 3)) (sIf (bVal (eVar 5)) (sSeq (sIf (bAnd (bCmp vEq (eVar 3) (eC (.str "double"))) (bCmp vNotIn (eVar 7) (eC (.str "\"\\")))) (sDrop (eM "list" mAppend (eVar 2) (aCons (eTup (aCons (eC (.str "\\")) (aCons (eC (.bl false)) aNil))) aNil))) sNext)
  (sSeq (sDrop (eM "list" mAppend (eVar 2) (aCons (eTup (aCons (eVar 7) (aCons (eC (.bl false)) aNil))) aNil)))
  (sAsg (eC (.bl false)) (stName 5)))) (sIf (bAnd (bCmp vEq (eVar 3) (eC (.str "out"))) (bCmp vIn (eVar 7) (eC (.str " \n")))) (sSeq (sAsg (eBin vAdd (eVar 1) (eIf (bCmp vIsNot (eVar 2) (eC .non)) (eLst (aCons (eArg vTuple (aCons (eVar 2) aNil)) aNil)) (eLst aNil))) (stName 1))
  (sAsg (eC .non) (stName 2))) (sIf (bAnd (bCmp vEq (eVar 3) (eC (.str "out"))) (bAnd (bCmp vEq (eVar 7) (eC (.str "#"))) (bCmp vIs (eVar 2) (eC .non)))) (sAsg (eC (.str "comment")) (stName 3)) (sSeq (sAsg (eIf (bCmp vIs (eVar 2) (eC .non)) (eLst aNil) (eVar 2)) (stName 2))
  (sIf (bAnd (bCmp vEq (eVar 7) (eC (.str "\\"))) (bCmp vNe (eVar 3) (eC (.str "single")))) (sPar 4 5 (aCons (eIf (bCmp vEq (eVar 3) (eC (.str "out"))) (eVar 6) (eVar 4)) (aCons (eC (.bl true)) aNil))) (sIf (bAnd (bCmp vEq (eVar 3) (eC (.str "out"))) (bCmp vIn (eVar 7) (eC (.str "'\"")))) (sPar 4 3 (aCons (eVar 6) (aCons (eIf (bCmp vEq (eVar 7) (eC (.str "'"))) (eC (.str "single")) (eC (.str "double"))) aNil))) (sIf (bAnd (bCmp vNe (eVar 3) (eC (.str "out"))) (bCmp vEq (eVar 7) (eDk [("single", "'"), ("double", "\"")] 3))) (sAsg (eC (.str "out")) (stName 3)) (sDrop (eM "list" mAppend (eVar 2) (aCons (eTup (aCons (eVar 7) (aCons (eAnd (eBin vEq (eVar 3) (eC (.str "out"))) (eBin vIn (eVar 7) (eC (.str "*?[]{},!-")))) aNil))) aNil))))))))))))
theorem dk_s (τ : En) (S : Store) (h : τ[3]? = some (some (.str (Str.ofString "single")))) : eDk [("single", "'"), ("double", "\"")] 3 τ S = .ok (.str (Str.ofString "'")) S := by
  unfold eDk; rw [h]; dsimp only
  rw [show valV (mergeK [] (dkv [("single", "'"), ("double", "\"")])) (.inr (Str.ofString "single")) = some (.str (Str.ofString "'")) by decide +kernel]
theorem dk_d (τ : En) (S : Store) (h : τ[3]? = some (some (.str (Str.ofString "double")))) : eDk [("single", "'"), ("double", "\"")] 3 τ S = .ok (.str (Str.ofString "\"")) S := by
  unfold eDk; rw [h]; dsimp only
  rw [show valV (mergeK [] (dkv [("single", "'"), ("double", "\"")])) (.inr (Str.ofString "double")) = some (.str (Str.ofString "\"")) by decide +kernel]

theorem ri_set {x : Str} {n : Nat} {S0 : Store} {m : Mc} {S' : Store} {f : Nat} {sv : G.PV} {b : Int} {v6 v7 : Option G.PV} (hf : n ≤ f) (h1 : S'[f]? = some (.lst (m.fd.map wd))) (h2 : sgV m.sg sv f n S') (h3 : ∀ j, j < n → S'[j]? = S0[j]?) (h4 : n ≤ S'.length) :
    RI x n S0 m [some (.str x), some (.loc f), some sv, some (.str (mdS m.md)), some (.int b), some (.bl m.es), v6, v7] S' := ⟨⟨f, sv, b, v6, v7, rfl, hf, h1, h2⟩, h3, h4⟩
theorem rd_step {x : Str} {n : Nat} {S0 : Store} {m : Mc} {τ : En} {S : Store} {c i : Nat} {j : Int} (R : RI x n S0 m τ S) (M : MOk m i) (hi : i ≤ 5000) (hx : x.length ≤ 1000000) (hc : atI x.cps.toList j = some c) :
    Wp (rBody (τ.set 6 (some (.int j))) S) fun fl S' => ∃ τ', fl = .nx τ' ∧ RI x n S0 (stp m c) τ' S' := by
  obtain ⟨⟨f, sv, b, v6, v7, rfl, hf, hfS, hsg⟩, hk, hn⟩ := R
  obtain ⟨fd, sg, md, es⟩ := m
  obtain ⟨h1, h2, h3, h4, h5, h6⟩ := M
  dsimp only at h1 h2 h3 h4 h5 h6 hfS hsg
  have hfl : f < S.length := (List.getElem?_eq_some_iff.mp hfS).1
  cases md with
  | cmt =>
    cases es with
    | true => rcases h1 rfl with h | h <;> cases h
    | false =>
      by_cases q : c = 10
      · simp only [rBody, mkF, endF, startP, List.map_cons, List.map_nil, List.length_cons, List.length_nil, List.replicate, List.cons_append, List.nil_append, Nat.sub_zero, Nat.zero_add, Nat.reduceAdd, Nat.reduceSub, sSeq, sIf, sAsg, sRet, sRetN, sDrop, sNext, sBrk, sCont, sAug, stName, stSub, stTup, stCons, stNil, eVar, eC, eUn, eBin, eArg, eLst, eTup, aNil, aCons, eIf, eAnd, eOr, eNot, eChain, bChain, bCmp, bVal, bNot, bAnd, bOr, bTrue, eSl, oNone, oSome, eCall, eCall0, callF, eM, oBl, oB, oT, tr_bl, tr_int, tr_non, tr_tup, isT_str, beq_self_eq_true, vAdd, vSub, vMul, vDiv, vMod, vPow, vNeg, vIAdd, vIMul, vGt, vLt, vLe, vGe, lt2, ltP, vEq, vNe, eq_ii, eq_ss, eq_bb, eq_nn, vIx, seqP, lstP, newT, vSet, vLen, lenP, vAbs, vMax, vMin, cInt, vIsi, ty_non, ty_bl, ty_int, ty_str, ty_tup, ty_fl, Out.bind_ok, Out.bind_bad, wp_ok, wp_bind, List.getElem?_cons_zero, List.getElem?_cons_succ, List.getElem?_nil, List.set_cons_zero, List.set_cons_succ, List.append_nil, Option.map_some, Option.map_none, Option.bind_some, Option.bind_none, ga, ga0, gs, gs0, List.append_assoc, Nat.add_assoc, newL, LN, Nat.reduceLeDiff, Nat.reduceLT, kit_ss, kit_ts, kit_ls, kit_bs, kit_is, kit_ns, reduceCtorEq, a30, a31, a32, i30, i31, i32, decide_eq_true_eq, ne_eq, Int.reduceLT, Int.reduceLE, Int.reduceNeg, Int.reducePow, Int.reduceToNat, Int.reduceEq, Int.reduceNe, mulOk_l, List.length_set, List.length_append, imp_false, not_false_eq_true, implies_true, if_true, if_false, ite_true, ite_false, Bool.false_eq_true, Bool.not_true, Bool.not_false, forall_const, eq_self, and_true, true_and, and_self, PV.int.injEq, PV.str.injEq, PV.bl.injEq, decide_true, decide_false, hx, hc, mdS, e10, q, q_oc]
        refine ⟨_, rfl, ?_⟩
        rw [show stp ⟨fd, sg, .cmt, false⟩ 10 = ⟨fd, sg, .out, false⟩ from rfl]
        exact ri_set (m := ⟨fd, sg, .out, false⟩) hf hfS hsg hk hn
      · simp only [rBody, mkF, endF, startP, List.map_cons, List.map_nil, List.length_cons, List.length_nil, List.replicate, List.cons_append, List.nil_append, Nat.sub_zero, Nat.zero_add, Nat.reduceAdd, Nat.reduceSub, sSeq, sIf, sAsg, sRet, sRetN, sDrop, sNext, sBrk, sCont, sAug, stName, stSub, stTup, stCons, stNil, eVar, eC, eUn, eBin, eArg, eLst, eTup, aNil, aCons, eIf, eAnd, eOr, eNot, eChain, bChain, bCmp, bVal, bNot, bAnd, bOr, bTrue, eSl, oNone, oSome, eCall, eCall0, callF, eM, oBl, oB, oT, tr_bl, tr_int, tr_non, tr_tup, isT_str, beq_self_eq_true, vAdd, vSub, vMul, vDiv, vMod, vPow, vNeg, vIAdd, vIMul, vGt, vLt, vLe, vGe, lt2, ltP, vEq, vNe, eq_ii, eq_ss, eq_bb, eq_nn, vIx, seqP, lstP, newT, vSet, vLen, lenP, vAbs, vMax, vMin, cInt, vIsi, ty_non, ty_bl, ty_int, ty_str, ty_tup, ty_fl, Out.bind_ok, Out.bind_bad, wp_ok, wp_bind, List.getElem?_cons_zero, List.getElem?_cons_succ, List.getElem?_nil, List.set_cons_zero, List.set_cons_succ, List.append_nil, Option.map_some, Option.map_none, Option.bind_some, Option.bind_none, ga, ga0, gs, gs0, List.append_assoc, Nat.add_assoc, newL, LN, Nat.reduceLeDiff, Nat.reduceLT, kit_ss, kit_ts, kit_ls, kit_bs, kit_is, kit_ns, reduceCtorEq, a30, a31, a32, i30, i31, i32, decide_eq_true_eq, ne_eq, Int.reduceLT, Int.reduceLE, Int.reduceNeg, Int.reducePow, Int.reduceToNat, Int.reduceEq, Int.reduceNe, mulOk_l, List.length_set, List.length_append, imp_false, not_false_eq_true, implies_true, if_true, if_false, ite_true, ite_false, Bool.false_eq_true, Bool.not_true, Bool.not_false, forall_const, eq_self, and_true, true_and, and_self, PV.int.injEq, PV.str.injEq, PV.bl.injEq, decide_true, decide_false, hx, hc, mdS, e10, q, q_oc]
        refine ⟨_, rfl, ?_⟩
        rw [show stp ⟨fd, sg, .cmt, false⟩ c = ⟨fd, sg, .cmt, false⟩ by simp [stp, q]]
        exact ri_set (m := ⟨fd, sg, .cmt, false⟩) hf hfS hsg hk hn
  | sgl =>
    obtain ⟨w, rfl⟩ := h2 (.inr (.inl rfl))
    obtain ⟨k, rfl, k1, k2, k3⟩ := hsg
    have hkl : k < S.length := (List.getElem?_eq_some_iff.mp k3).1
    have hT := isT_lst k3
    have hL : (w.map sgn).length < 1000000 := by rw [List.length_map]; simp at h5; omega
    have hA := fun y => vapp_l (y := y) k3 hL
    cases es with
    | true => rcases h1 rfl with h | h <;> cases h
    | false =>
      by_cases q : c = 39
      · subst q
        simp only [rBody, mkF, endF, startP, List.map_cons, List.map_nil, List.length_cons, List.length_nil, List.replicate, List.cons_append, List.nil_append, Nat.sub_zero, Nat.zero_add, Nat.reduceAdd, Nat.reduceSub, sSeq, sIf, sAsg, sRet, sRetN, sDrop, sNext, sBrk, sCont, sAug, stName, stSub, stTup, stCons, stNil, eVar, eC, eUn, eBin, eArg, eLst, eTup, aNil, aCons, eIf, eAnd, eOr, eNot, eChain, bChain, bCmp, bVal, bNot, bAnd, bOr, bTrue, eSl, oNone, oSome, eCall, eCall0, callF, eM, oBl, oB, oT, tr_bl, tr_int, tr_non, tr_tup, isT_str, beq_self_eq_true, vAdd, vSub, vMul, vDiv, vMod, vPow, vNeg, vIAdd, vIMul, vGt, vLt, vLe, vGe, lt2, ltP, vEq, vNe, eq_ii, eq_ss, eq_bb, eq_nn, vIx, seqP, lstP, newT, vSet, vLen, lenP, vAbs, vMax, vMin, cInt, vIsi, ty_non, ty_bl, ty_int, ty_str, ty_tup, ty_fl, Out.bind_ok, Out.bind_bad, wp_ok, wp_bind, List.getElem?_cons_zero, List.getElem?_cons_succ, List.getElem?_nil, List.set_cons_zero, List.set_cons_succ, List.append_nil, Option.map_some, Option.map_none, Option.bind_some, Option.bind_none, ga, ga0, gs, gs0, List.append_assoc, Nat.add_assoc, newL, LN, Nat.reduceLeDiff, Nat.reduceLT, kit_ss, kit_ts, kit_ls, kit_bs, kit_is, kit_ns, reduceCtorEq, a30, a31, a32, i30, i31, i32, decide_eq_true_eq, ne_eq, Int.reduceLT, Int.reduceLE, Int.reduceNeg, Int.reducePow, Int.reduceToNat, Int.reduceEq, Int.reduceNe, mulOk_l, List.length_set, List.length_append, imp_false, not_false_eq_true, implies_true, if_true, if_false, ite_true, ite_false, Bool.false_eq_true, Bool.not_true, Bool.not_false, forall_const, eq_self, and_true, true_and, and_self, PV.int.injEq, PV.str.injEq, PV.bl.injEq, decide_true, decide_false, hx, hc, mdS, e10, e35, e92, e39, e34, q_oc, q_sc, q_dc, q_od, q_sd, q_so, q_do, q_os, q_ds, is_ln, is_nn, isn_ln, isn_nn, dk_s, dk_d, v_in, v_nin, hT, hA, k3]
        refine ⟨_, rfl, ?_⟩
        rw [show stp ⟨fd, some w, .sgl, false⟩ 39 = ⟨fd, some w, .out, false⟩ by simp [stp]]
        exact ri_set (m := ⟨fd, some w, .out, false⟩) hf hfS ⟨k, rfl, k1, k2, k3⟩ hk hn
      · by_cases q2 : c = 92
        · subst q2
          simp only [rBody, mkF, endF, startP, List.map_cons, List.map_nil, List.length_cons, List.length_nil, List.replicate, List.cons_append, List.nil_append, Nat.sub_zero, Nat.zero_add, Nat.reduceAdd, Nat.reduceSub, sSeq, sIf, sAsg, sRet, sRetN, sDrop, sNext, sBrk, sCont, sAug, stName, stSub, stTup, stCons, stNil, eVar, eC, eUn, eBin, eArg, eLst, eTup, aNil, aCons, eIf, eAnd, eOr, eNot, eChain, bChain, bCmp, bVal, bNot, bAnd, bOr, bTrue, eSl, oNone, oSome, eCall, eCall0, callF, eM, oBl, oB, oT, tr_bl, tr_int, tr_non, tr_tup, isT_str, beq_self_eq_true, vAdd, vSub, vMul, vDiv, vMod, vPow, vNeg, vIAdd, vIMul, vGt, vLt, vLe, vGe, lt2, ltP, vEq, vNe, eq_ii, eq_ss, eq_bb, eq_nn, vIx, seqP, lstP, newT, vSet, vLen, lenP, vAbs, vMax, vMin, cInt, vIsi, ty_non, ty_bl, ty_int, ty_str, ty_tup, ty_fl, Out.bind_ok, Out.bind_bad, wp_ok, wp_bind, List.getElem?_cons_zero, List.getElem?_cons_succ, List.getElem?_nil, List.set_cons_zero, List.set_cons_succ, List.append_nil, Option.map_some, Option.map_none, Option.bind_some, Option.bind_none, ga, ga0, gs, gs0, List.append_assoc, Nat.add_assoc, newL, LN, Nat.reduceLeDiff, Nat.reduceLT, kit_ss, kit_ts, kit_ls, kit_bs, kit_is, kit_ns, reduceCtorEq, a30, a31, a32, i30, i31, i32, decide_eq_true_eq, ne_eq, Int.reduceLT, Int.reduceLE, Int.reduceNeg, Int.reducePow, Int.reduceToNat, Int.reduceEq, Int.reduceNe, mulOk_l, List.length_set, List.length_append, imp_false, not_false_eq_true, implies_true, if_true, if_false, ite_true, ite_false, Bool.false_eq_true, Bool.not_true, Bool.not_false, forall_const, eq_self, and_true, true_and, and_self, PV.int.injEq, PV.str.injEq, PV.bl.injEq, decide_true, decide_false, hx, hc, mdS, e10, e35, e92, e39, e34, q_oc, q_sc, q_dc, q_od, q_sd, q_so, q_do, q_os, q_ds, is_ln, is_nn, isn_ln, isn_nn, dk_s, dk_d, v_in, v_nin, hT, hA, k3]
          refine ⟨_, rfl, ?_⟩
          rw [show stp ⟨fd, some w, .sgl, false⟩ 92 = ⟨fd, some (w ++ [(92, false)]), .sgl, false⟩ by simp [stp]]
          exact ri_set (m := ⟨fd, some (w ++ [(92, false)]), .sgl, false⟩) hf (by rw [List.getElem?_set_ne k2]; exact hfS) ⟨k, rfl, k1, k2, by rw [List.getElem?_set_self hkl, List.map_append]; rfl⟩ (fun j hj => by rw [List.getElem?_set_ne (by omega)]; exact hk j hj) (by rw [List.length_set]; exact hn)
        · simp only [rBody, mkF, endF, startP, List.map_cons, List.map_nil, List.length_cons, List.length_nil, List.replicate, List.cons_append, List.nil_append, Nat.sub_zero, Nat.zero_add, Nat.reduceAdd, Nat.reduceSub, sSeq, sIf, sAsg, sRet, sRetN, sDrop, sNext, sBrk, sCont, sAug, stName, stSub, stTup, stCons, stNil, eVar, eC, eUn, eBin, eArg, eLst, eTup, aNil, aCons, eIf, eAnd, eOr, eNot, eChain, bChain, bCmp, bVal, bNot, bAnd, bOr, bTrue, eSl, oNone, oSome, eCall, eCall0, callF, eM, oBl, oB, oT, tr_bl, tr_int, tr_non, tr_tup, isT_str, beq_self_eq_true, vAdd, vSub, vMul, vDiv, vMod, vPow, vNeg, vIAdd, vIMul, vGt, vLt, vLe, vGe, lt2, ltP, vEq, vNe, eq_ii, eq_ss, eq_bb, eq_nn, vIx, seqP, lstP, newT, vSet, vLen, lenP, vAbs, vMax, vMin, cInt, vIsi, ty_non, ty_bl, ty_int, ty_str, ty_tup, ty_fl, Out.bind_ok, Out.bind_bad, wp_ok, wp_bind, List.getElem?_cons_zero, List.getElem?_cons_succ, List.getElem?_nil, List.set_cons_zero, List.set_cons_succ, List.append_nil, Option.map_some, Option.map_none, Option.bind_some, Option.bind_none, ga, ga0, gs, gs0, List.append_assoc, Nat.add_assoc, newL, LN, Nat.reduceLeDiff, Nat.reduceLT, kit_ss, kit_ts, kit_ls, kit_bs, kit_is, kit_ns, reduceCtorEq, a30, a31, a32, i30, i31, i32, decide_eq_true_eq, ne_eq, Int.reduceLT, Int.reduceLE, Int.reduceNeg, Int.reducePow, Int.reduceToNat, Int.reduceEq, Int.reduceNe, mulOk_l, List.length_set, List.length_append, imp_false, not_false_eq_true, implies_true, if_true, if_false, ite_true, ite_false, Bool.false_eq_true, Bool.not_true, Bool.not_false, forall_const, eq_self, and_true, true_and, and_self, PV.int.injEq, PV.str.injEq, PV.bl.injEq, decide_true, decide_false, hx, hc, mdS, e10, e35, e92, e39, e34, q_oc, q_sc, q_dc, q_od, q_sd, q_so, q_do, q_os, q_ds, is_ln, is_nn, isn_ln, isn_nn, dk_s, dk_d, v_in, v_nin, hT, hA, k3, q, q2]
          refine ⟨_, rfl, ?_⟩
          rw [show stp ⟨fd, some w, .sgl, false⟩ c = ⟨fd, some (w ++ [(c, false)]), .sgl, false⟩ by simp [stp, q]]
          exact ri_set (m := ⟨fd, some (w ++ [(c, false)]), .sgl, false⟩) hf (by rw [List.getElem?_set_ne k2]; exact hfS) ⟨k, rfl, k1, k2, by rw [List.getElem?_set_self hkl, List.map_append]; rfl⟩ (fun j hj => by rw [List.getElem?_set_ne (by omega)]; exact hk j hj) (by rw [List.length_set]; exact hn)
  | out =>
    cases es with
    | true =>
      obtain ⟨w, rfl⟩ := h2 (.inl rfl)
      obtain ⟨k, rfl, k1, k2, k3⟩ := hsg
      have hkl : k < S.length := (List.getElem?_eq_some_iff.mp k3).1
      have hT := isT_lst k3
      have hL : (w.map sgn).length < 1000000 := by rw [List.length_map]; simp at h5; omega
      have hA := fun y => vapp_l (y := y) k3 hL
      simp only [rBody, mkF, endF, startP, List.map_cons, List.map_nil, List.length_cons, List.length_nil, List.replicate, List.cons_append, List.nil_append, Nat.sub_zero, Nat.zero_add, Nat.reduceAdd, Nat.reduceSub, sSeq, sIf, sAsg, sRet, sRetN, sDrop, sNext, sBrk, sCont, sAug, stName, stSub, stTup, stCons, stNil, eVar, eC, eUn, eBin, eArg, eLst, eTup, aNil, aCons, eIf, eAnd, eOr, eNot, eChain, bChain, bCmp, bVal, bNot, bAnd, bOr, bTrue, eSl, oNone, oSome, eCall, eCall0, callF, eM, oBl, oB, oT, tr_bl, tr_int, tr_non, tr_tup, isT_str, beq_self_eq_true, vAdd, vSub, vMul, vDiv, vMod, vPow, vNeg, vIAdd, vIMul, vGt, vLt, vLe, vGe, lt2, ltP, vEq, vNe, eq_ii, eq_ss, eq_bb, eq_nn, vIx, seqP, lstP, newT, vSet, vLen, lenP, vAbs, vMax, vMin, cInt, vIsi, ty_non, ty_bl, ty_int, ty_str, ty_tup, ty_fl, Out.bind_ok, Out.bind_bad, wp_ok, wp_bind, List.getElem?_cons_zero, List.getElem?_cons_succ, List.getElem?_nil, List.set_cons_zero, List.set_cons_succ, List.append_nil, Option.map_some, Option.map_none, Option.bind_some, Option.bind_none, ga, ga0, gs, gs0, List.append_assoc, Nat.add_assoc, newL, LN, Nat.reduceLeDiff, Nat.reduceLT, kit_ss, kit_ts, kit_ls, kit_bs, kit_is, kit_ns, reduceCtorEq, a30, a31, a32, i30, i31, i32, decide_eq_true_eq, ne_eq, Int.reduceLT, Int.reduceLE, Int.reduceNeg, Int.reducePow, Int.reduceToNat, Int.reduceEq, Int.reduceNe, mulOk_l, List.length_set, List.length_append, imp_false, not_false_eq_true, implies_true, if_true, if_false, ite_true, ite_false, Bool.false_eq_true, Bool.not_true, Bool.not_false, forall_const, eq_self, and_true, true_and, and_self, PV.int.injEq, PV.str.injEq, PV.bl.injEq, decide_true, decide_false, hx, hc, mdS, e10, e35, e92, e39, e34, q_oc, q_sc, q_dc, q_od, q_sd, q_so, q_do, q_os, q_ds, is_ln, is_nn, isn_ln, isn_nn, dk_s, dk_d, v_in, v_nin, hT, hA, k3]
      refine ⟨_, rfl, ?_⟩
      rw [show stp ⟨fd, some w, .out, true⟩ c = ⟨fd, some (w ++ [(c, false)]), .out, false⟩ by simp [stp]]
      exact ri_set (m := ⟨fd, some (w ++ [(c, false)]), .out, false⟩) hf (by rw [List.getElem?_set_ne k2]; exact hfS) ⟨k, rfl, k1, k2, by rw [List.getElem?_set_self hkl, List.map_append]; rfl⟩ (fun j hj => by rw [List.getElem?_set_ne (by omega)]; exact hk j hj) (by rw [List.length_set]; exact hn)
    | false =>
      have hfA : ∀ T, (S ++ T)[f]? = some (.lst (fd.map wd)) := fun T => by rw [List.getElem?_append_left hfl]; exact hfS
      have hkA : ∀ (T : Store) j, j < n → (S ++ T)[j]? = S0[j]? := fun T j hj => by rw [List.getElem?_append_left (by omega)]; exact hk j hj
      have hF0 : (fd.map wd).length + 0 ≤ 1000000 := by rw [List.length_map]; omega
      have hF1 : (fd.map wd).length + 1 ≤ 1000000 := by rw [List.length_map]; omega
      have hnA : ∀ (T : Store), n ≤ (S ++ T).length := fun T => by rw [List.length_append]; omega
      cases sg with
      | none =>
        obtain rfl : sv = .non := hsg
        have hTn : isTy "list" (.loc S.length) (S ++ [.lst []]) = true := isT_lst (xs := []) (by rw [ga0]; rfl)
        have hAn : ∀ y, mAppend (.loc S.length) [y] (S ++ [.lst []]) = .ok .non ((S ++ [PO.lst []]).set S.length (PO.lst ([] ++ [y]))) := fun y => vapp_l (xs := []) (by rw [ga0]; rfl) (by decide)
        by_cases q32 : c = 32
        · subst q32
          have in1 : decide (32 ∈ tl (Str.ofString " \n")) = true := by decide +kernel
          simp only [rBody, mkF, endF, startP, List.map_cons, List.map_nil, List.length_cons, List.length_nil, List.replicate, List.cons_append, List.nil_append, Nat.sub_zero, Nat.zero_add, Nat.reduceAdd, Nat.reduceSub, sSeq, sIf, sAsg, sRet, sRetN, sDrop, sNext, sBrk, sCont, sAug, stName, stSub, stTup, stCons, stNil, eVar, eC, eUn, eBin, eArg, eLst, eTup, aNil, aCons, eIf, eAnd, eOr, eNot, eChain, bChain, bCmp, bVal, bNot, bAnd, bOr, bTrue, eSl, oNone, oSome, eCall, eCall0, callF, eM, oBl, oB, oT, tr_bl, tr_int, tr_non, tr_tup, isT_str, beq_self_eq_true, vAdd, vSub, vMul, vDiv, vMod, vPow, vNeg, vIAdd, vIMul, vGt, vLt, vLe, vGe, lt2, ltP, vEq, vNe, eq_ii, eq_ss, eq_bb, eq_nn, vIx, seqP, lstP, newT, vSet, vLen, lenP, vAbs, vMax, vMin, cInt, vIsi, ty_non, ty_bl, ty_int, ty_str, ty_tup, ty_fl, Out.bind_ok, Out.bind_bad, wp_ok, wp_bind, List.getElem?_cons_zero, List.getElem?_cons_succ, List.getElem?_nil, List.set_cons_zero, List.set_cons_succ, List.append_nil, Option.map_some, Option.map_none, Option.bind_some, Option.bind_none, ga, ga0, gs, gs0, List.append_assoc, Nat.add_assoc, newL, LN, Nat.reduceLeDiff, Nat.reduceLT, kit_ss, kit_ts, kit_ls, kit_bs, kit_is, kit_ns, reduceCtorEq, a30, a31, a32, i30, i31, i32, decide_eq_true_eq, ne_eq, Int.reduceLT, Int.reduceLE, Int.reduceNeg, Int.reducePow, Int.reduceToNat, Int.reduceEq, Int.reduceNe, mulOk_l, List.length_set, List.length_append, imp_false, not_false_eq_true, implies_true, if_true, if_false, ite_true, ite_false, Bool.false_eq_true, Bool.not_true, Bool.not_false, forall_const, eq_self, and_true, true_and, and_self, PV.int.injEq, PV.str.injEq, PV.bl.injEq, decide_true, decide_false, hx, hc, mdS, e10, e35, e92, e39, e34, q_oc, q_sc, q_dc, q_od, q_sd, q_so, q_do, q_os, q_ds, is_ln, is_nn, isn_ln, isn_nn, dk_s, dk_d, v_in, v_nin, hfA, hF0, hF1, hTn, hAn, in1]
          refine ⟨_, rfl, ?_⟩
          rw [show stp ⟨fd, none, .out, false⟩ 32 = ⟨fd, none, .out, false⟩ by simp [stp]]
          exact ri_set (m := ⟨fd, none, .out, false⟩) (by omega) (by rw [ga]; rfl) rfl (hkA _) (hnA _)
        by_cases q10 : c = 10
        · subst q10
          have in1 : decide (10 ∈ tl (Str.ofString " \n")) = true := by decide +kernel
          simp only [rBody, mkF, endF, startP, List.map_cons, List.map_nil, List.length_cons, List.length_nil, List.replicate, List.cons_append, List.nil_append, Nat.sub_zero, Nat.zero_add, Nat.reduceAdd, Nat.reduceSub, sSeq, sIf, sAsg, sRet, sRetN, sDrop, sNext, sBrk, sCont, sAug, stName, stSub, stTup, stCons, stNil, eVar, eC, eUn, eBin, eArg, eLst, eTup, aNil, aCons, eIf, eAnd, eOr, eNot, eChain, bChain, bCmp, bVal, bNot, bAnd, bOr, bTrue, eSl, oNone, oSome, eCall, eCall0, callF, eM, oBl, oB, oT, tr_bl, tr_int, tr_non, tr_tup, isT_str, beq_self_eq_true, vAdd, vSub, vMul, vDiv, vMod, vPow, vNeg, vIAdd, vIMul, vGt, vLt, vLe, vGe, lt2, ltP, vEq, vNe, eq_ii, eq_ss, eq_bb, eq_nn, vIx, seqP, lstP, newT, vSet, vLen, lenP, vAbs, vMax, vMin, cInt, vIsi, ty_non, ty_bl, ty_int, ty_str, ty_tup, ty_fl, Out.bind_ok, Out.bind_bad, wp_ok, wp_bind, List.getElem?_cons_zero, List.getElem?_cons_succ, List.getElem?_nil, List.set_cons_zero, List.set_cons_succ, List.append_nil, Option.map_some, Option.map_none, Option.bind_some, Option.bind_none, ga, ga0, gs, gs0, List.append_assoc, Nat.add_assoc, newL, LN, Nat.reduceLeDiff, Nat.reduceLT, kit_ss, kit_ts, kit_ls, kit_bs, kit_is, kit_ns, reduceCtorEq, a30, a31, a32, i30, i31, i32, decide_eq_true_eq, ne_eq, Int.reduceLT, Int.reduceLE, Int.reduceNeg, Int.reducePow, Int.reduceToNat, Int.reduceEq, Int.reduceNe, mulOk_l, List.length_set, List.length_append, imp_false, not_false_eq_true, implies_true, if_true, if_false, ite_true, ite_false, Bool.false_eq_true, Bool.not_true, Bool.not_false, forall_const, eq_self, and_true, true_and, and_self, PV.int.injEq, PV.str.injEq, PV.bl.injEq, decide_true, decide_false, hx, hc, mdS, e10, e35, e92, e39, e34, q_oc, q_sc, q_dc, q_od, q_sd, q_so, q_do, q_os, q_ds, is_ln, is_nn, isn_ln, isn_nn, dk_s, dk_d, v_in, v_nin, hfA, hF0, hF1, hTn, hAn, in1]
          refine ⟨_, rfl, ?_⟩
          rw [show stp ⟨fd, none, .out, false⟩ 10 = ⟨fd, none, .out, false⟩ by simp [stp]]
          exact ri_set (m := ⟨fd, none, .out, false⟩) (by omega) (by rw [ga]; rfl) rfl (hkA _) (hnA _)
        by_cases q35 : c = 35
        · subst q35
          have in1 : decide (35 ∈ tl (Str.ofString " \n")) = false := by decide +kernel
          simp only [rBody, mkF, endF, startP, List.map_cons, List.map_nil, List.length_cons, List.length_nil, List.replicate, List.cons_append, List.nil_append, Nat.sub_zero, Nat.zero_add, Nat.reduceAdd, Nat.reduceSub, sSeq, sIf, sAsg, sRet, sRetN, sDrop, sNext, sBrk, sCont, sAug, stName, stSub, stTup, stCons, stNil, eVar, eC, eUn, eBin, eArg, eLst, eTup, aNil, aCons, eIf, eAnd, eOr, eNot, eChain, bChain, bCmp, bVal, bNot, bAnd, bOr, bTrue, eSl, oNone, oSome, eCall, eCall0, callF, eM, oBl, oB, oT, tr_bl, tr_int, tr_non, tr_tup, isT_str, beq_self_eq_true, vAdd, vSub, vMul, vDiv, vMod, vPow, vNeg, vIAdd, vIMul, vGt, vLt, vLe, vGe, lt2, ltP, vEq, vNe, eq_ii, eq_ss, eq_bb, eq_nn, vIx, seqP, lstP, newT, vSet, vLen, lenP, vAbs, vMax, vMin, cInt, vIsi, ty_non, ty_bl, ty_int, ty_str, ty_tup, ty_fl, Out.bind_ok, Out.bind_bad, wp_ok, wp_bind, List.getElem?_cons_zero, List.getElem?_cons_succ, List.getElem?_nil, List.set_cons_zero, List.set_cons_succ, List.append_nil, Option.map_some, Option.map_none, Option.bind_some, Option.bind_none, ga, ga0, gs, gs0, List.append_assoc, Nat.add_assoc, newL, LN, Nat.reduceLeDiff, Nat.reduceLT, kit_ss, kit_ts, kit_ls, kit_bs, kit_is, kit_ns, reduceCtorEq, a30, a31, a32, i30, i31, i32, decide_eq_true_eq, ne_eq, Int.reduceLT, Int.reduceLE, Int.reduceNeg, Int.reducePow, Int.reduceToNat, Int.reduceEq, Int.reduceNe, mulOk_l, List.length_set, List.length_append, imp_false, not_false_eq_true, implies_true, if_true, if_false, ite_true, ite_false, Bool.false_eq_true, Bool.not_true, Bool.not_false, forall_const, eq_self, and_true, true_and, and_self, PV.int.injEq, PV.str.injEq, PV.bl.injEq, decide_true, decide_false, hx, hc, mdS, e10, e35, e92, e39, e34, q_oc, q_sc, q_dc, q_od, q_sd, q_so, q_do, q_os, q_ds, is_ln, is_nn, isn_ln, isn_nn, dk_s, dk_d, v_in, v_nin, hfA, hF0, hF1, hTn, hAn, in1]
          refine ⟨_, rfl, ?_⟩
          rw [show stp ⟨fd, none, .out, false⟩ 35 = ⟨fd, none, .cmt, false⟩ by simp [stp]]
          exact ri_set (m := ⟨fd, none, .cmt, false⟩) hf hfS rfl hk hn
        by_cases q92 : c = 92
        · subst q92
          have in1 : decide (92 ∈ tl (Str.ofString " \n")) = false := by decide +kernel
          simp only [rBody, mkF, endF, startP, List.map_cons, List.map_nil, List.length_cons, List.length_nil, List.replicate, List.cons_append, List.nil_append, Nat.sub_zero, Nat.zero_add, Nat.reduceAdd, Nat.reduceSub, sSeq, sIf, sAsg, sRet, sRetN, sDrop, sNext, sBrk, sCont, sAug, stName, stSub, stTup, stCons, stNil, eVar, eC, eUn, eBin, eArg, eLst, eTup, aNil, aCons, eIf, eAnd, eOr, eNot, eChain, bChain, bCmp, bVal, bNot, bAnd, bOr, bTrue, eSl, oNone, oSome, eCall, eCall0, callF, eM, oBl, oB, oT, tr_bl, tr_int, tr_non, tr_tup, isT_str, beq_self_eq_true, vAdd, vSub, vMul, vDiv, vMod, vPow, vNeg, vIAdd, vIMul, vGt, vLt, vLe, vGe, lt2, ltP, vEq, vNe, eq_ii, eq_ss, eq_bb, eq_nn, vIx, seqP, lstP, newT, vSet, vLen, lenP, vAbs, vMax, vMin, cInt, vIsi, ty_non, ty_bl, ty_int, ty_str, ty_tup, ty_fl, Out.bind_ok, Out.bind_bad, wp_ok, wp_bind, List.getElem?_cons_zero, List.getElem?_cons_succ, List.getElem?_nil, List.set_cons_zero, List.set_cons_succ, List.append_nil, Option.map_some, Option.map_none, Option.bind_some, Option.bind_none, ga, ga0, gs, gs0, List.append_assoc, Nat.add_assoc, newL, LN, Nat.reduceLeDiff, Nat.reduceLT, kit_ss, kit_ts, kit_ls, kit_bs, kit_is, kit_ns, reduceCtorEq, a30, a31, a32, i30, i31, i32, decide_eq_true_eq, ne_eq, Int.reduceLT, Int.reduceLE, Int.reduceNeg, Int.reducePow, Int.reduceToNat, Int.reduceEq, Int.reduceNe, mulOk_l, List.length_set, List.length_append, imp_false, not_false_eq_true, implies_true, if_true, if_false, ite_true, ite_false, Bool.false_eq_true, Bool.not_true, Bool.not_false, forall_const, eq_self, and_true, true_and, and_self, PV.int.injEq, PV.str.injEq, PV.bl.injEq, decide_true, decide_false, hx, hc, mdS, e10, e35, e92, e39, e34, q_oc, q_sc, q_dc, q_od, q_sd, q_so, q_do, q_os, q_ds, is_ln, is_nn, isn_ln, isn_nn, dk_s, dk_d, v_in, v_nin, hfA, hF0, hF1, hTn, hAn, in1]
          refine ⟨_, rfl, ?_⟩
          rw [show stp ⟨fd, none, .out, false⟩ 92 = ⟨fd, some [], .out, true⟩ by simp [stp]]
          exact ri_set (m := ⟨fd, some [], .out, true⟩) hf (hfA _) ⟨_, rfl, hn, by omega, by rw [ga0]; rfl⟩ (hkA _) (hnA _)
        by_cases q39 : c = 39
        · subst q39
          have in1 : decide (39 ∈ tl (Str.ofString " \n")) = false := by decide +kernel
          have in3 : decide (39 ∈ tl (Str.ofString "'\"")) = true := by decide +kernel
          simp only [rBody, mkF, endF, startP, List.map_cons, List.map_nil, List.length_cons, List.length_nil, List.replicate, List.cons_append, List.nil_append, Nat.sub_zero, Nat.zero_add, Nat.reduceAdd, Nat.reduceSub, sSeq, sIf, sAsg, sRet, sRetN, sDrop, sNext, sBrk, sCont, sAug, stName, stSub, stTup, stCons, stNil, eVar, eC, eUn, eBin, eArg, eLst, eTup, aNil, aCons, eIf, eAnd, eOr, eNot, eChain, bChain, bCmp, bVal, bNot, bAnd, bOr, bTrue, eSl, oNone, oSome, eCall, eCall0, callF, eM, oBl, oB, oT, tr_bl, tr_int, tr_non, tr_tup, isT_str, beq_self_eq_true, vAdd, vSub, vMul, vDiv, vMod, vPow, vNeg, vIAdd, vIMul, vGt, vLt, vLe, vGe, lt2, ltP, vEq, vNe, eq_ii, eq_ss, eq_bb, eq_nn, vIx, seqP, lstP, newT, vSet, vLen, lenP, vAbs, vMax, vMin, cInt, vIsi, ty_non, ty_bl, ty_int, ty_str, ty_tup, ty_fl, Out.bind_ok, Out.bind_bad, wp_ok, wp_bind, List.getElem?_cons_zero, List.getElem?_cons_succ, List.getElem?_nil, List.set_cons_zero, List.set_cons_succ, List.append_nil, Option.map_some, Option.map_none, Option.bind_some, Option.bind_none, ga, ga0, gs, gs0, List.append_assoc, Nat.add_assoc, newL, LN, Nat.reduceLeDiff, Nat.reduceLT, kit_ss, kit_ts, kit_ls, kit_bs, kit_is, kit_ns, reduceCtorEq, a30, a31, a32, i30, i31, i32, decide_eq_true_eq, ne_eq, Int.reduceLT, Int.reduceLE, Int.reduceNeg, Int.reducePow, Int.reduceToNat, Int.reduceEq, Int.reduceNe, mulOk_l, List.length_set, List.length_append, imp_false, not_false_eq_true, implies_true, if_true, if_false, ite_true, ite_false, Bool.false_eq_true, Bool.not_true, Bool.not_false, forall_const, eq_self, and_true, true_and, and_self, PV.int.injEq, PV.str.injEq, PV.bl.injEq, decide_true, decide_false, hx, hc, mdS, e10, e35, e92, e39, e34, q_oc, q_sc, q_dc, q_od, q_sd, q_so, q_do, q_os, q_ds, is_ln, is_nn, isn_ln, isn_nn, dk_s, dk_d, v_in, v_nin, hfA, hF0, hF1, hTn, hAn, in1, in3]
          refine ⟨_, rfl, ?_⟩
          rw [show stp ⟨fd, none, .out, false⟩ 39 = ⟨fd, some [], .sgl, false⟩ by simp [stp]]
          exact ri_set (m := ⟨fd, some [], .sgl, false⟩) hf (hfA _) ⟨_, rfl, hn, by omega, by rw [ga0]; rfl⟩ (hkA _) (hnA _)
        by_cases q34 : c = 34
        · subst q34
          have in1 : decide (34 ∈ tl (Str.ofString " \n")) = false := by decide +kernel
          have in3 : decide (34 ∈ tl (Str.ofString "'\"")) = true := by decide +kernel
          simp only [rBody, mkF, endF, startP, List.map_cons, List.map_nil, List.length_cons, List.length_nil, List.replicate, List.cons_append, List.nil_append, Nat.sub_zero, Nat.zero_add, Nat.reduceAdd, Nat.reduceSub, sSeq, sIf, sAsg, sRet, sRetN, sDrop, sNext, sBrk, sCont, sAug, stName, stSub, stTup, stCons, stNil, eVar, eC, eUn, eBin, eArg, eLst, eTup, aNil, aCons, eIf, eAnd, eOr, eNot, eChain, bChain, bCmp, bVal, bNot, bAnd, bOr, bTrue, eSl, oNone, oSome, eCall, eCall0, callF, eM, oBl, oB, oT, tr_bl, tr_int, tr_non, tr_tup, isT_str, beq_self_eq_true, vAdd, vSub, vMul, vDiv, vMod, vPow, vNeg, vIAdd, vIMul, vGt, vLt, vLe, vGe, lt2, ltP, vEq, vNe, eq_ii, eq_ss, eq_bb, eq_nn, vIx, seqP, lstP, newT, vSet, vLen, lenP, vAbs, vMax, vMin, cInt, vIsi, ty_non, ty_bl, ty_int, ty_str, ty_tup, ty_fl, Out.bind_ok, Out.bind_bad, wp_ok, wp_bind, List.getElem?_cons_zero, List.getElem?_cons_succ, List.getElem?_nil, List.set_cons_zero, List.set_cons_succ, List.append_nil, Option.map_some, Option.map_none, Option.bind_some, Option.bind_none, ga, ga0, gs, gs0, List.append_assoc, Nat.add_assoc, newL, LN, Nat.reduceLeDiff, Nat.reduceLT, kit_ss, kit_ts, kit_ls, kit_bs, kit_is, kit_ns, reduceCtorEq, a30, a31, a32, i30, i31, i32, decide_eq_true_eq, ne_eq, Int.reduceLT, Int.reduceLE, Int.reduceNeg, Int.reducePow, Int.reduceToNat, Int.reduceEq, Int.reduceNe, mulOk_l, List.length_set, List.length_append, imp_false, not_false_eq_true, implies_true, if_true, if_false, ite_true, ite_false, Bool.false_eq_true, Bool.not_true, Bool.not_false, forall_const, eq_self, and_true, true_and, and_self, PV.int.injEq, PV.str.injEq, PV.bl.injEq, decide_true, decide_false, hx, hc, mdS, e10, e35, e92, e39, e34, q_oc, q_sc, q_dc, q_od, q_sd, q_so, q_do, q_os, q_ds, is_ln, is_nn, isn_ln, isn_nn, dk_s, dk_d, v_in, v_nin, hfA, hF0, hF1, hTn, hAn, in1, in3]
          refine ⟨_, rfl, ?_⟩
          rw [show stp ⟨fd, none, .out, false⟩ 34 = ⟨fd, some [], .dbl, false⟩ by simp [stp]]
          exact ri_set (m := ⟨fd, some [], .dbl, false⟩) hf (hfA _) ⟨_, rfl, hn, by omega, by rw [ga0]; rfl⟩ (hkA _) (hnA _)
        have in1 : decide (c ∈ tl (Str.ofString " \n")) = false := decide_eq_false (by rw [g1]; simp [q32, q10])
        have in3 : decide (c ∈ tl (Str.ofString "'\"")) = false := decide_eq_false (by rw [g3]; simp [q39, q34])
        simp only [rBody, mkF, endF, startP, List.map_cons, List.map_nil, List.length_cons, List.length_nil, List.replicate, List.cons_append, List.nil_append, Nat.sub_zero, Nat.zero_add, Nat.reduceAdd, Nat.reduceSub, sSeq, sIf, sAsg, sRet, sRetN, sDrop, sNext, sBrk, sCont, sAug, stName, stSub, stTup, stCons, stNil, eVar, eC, eUn, eBin, eArg, eLst, eTup, aNil, aCons, eIf, eAnd, eOr, eNot, eChain, bChain, bCmp, bVal, bNot, bAnd, bOr, bTrue, eSl, oNone, oSome, eCall, eCall0, callF, eM, oBl, oB, oT, tr_bl, tr_int, tr_non, tr_tup, isT_str, beq_self_eq_true, vAdd, vSub, vMul, vDiv, vMod, vPow, vNeg, vIAdd, vIMul, vGt, vLt, vLe, vGe, lt2, ltP, vEq, vNe, eq_ii, eq_ss, eq_bb, eq_nn, vIx, seqP, lstP, newT, vSet, vLen, lenP, vAbs, vMax, vMin, cInt, vIsi, ty_non, ty_bl, ty_int, ty_str, ty_tup, ty_fl, Out.bind_ok, Out.bind_bad, wp_ok, wp_bind, List.getElem?_cons_zero, List.getElem?_cons_succ, List.getElem?_nil, List.set_cons_zero, List.set_cons_succ, List.append_nil, Option.map_some, Option.map_none, Option.bind_some, Option.bind_none, ga, ga0, gs, gs0, List.append_assoc, Nat.add_assoc, newL, LN, Nat.reduceLeDiff, Nat.reduceLT, kit_ss, kit_ts, kit_ls, kit_bs, kit_is, kit_ns, reduceCtorEq, a30, a31, a32, i30, i31, i32, decide_eq_true_eq, ne_eq, Int.reduceLT, Int.reduceLE, Int.reduceNeg, Int.reducePow, Int.reduceToNat, Int.reduceEq, Int.reduceNe, mulOk_l, List.length_set, List.length_append, imp_false, not_false_eq_true, implies_true, if_true, if_false, ite_true, ite_false, Bool.false_eq_true, Bool.not_true, Bool.not_false, forall_const, eq_self, and_true, true_and, and_self, PV.int.injEq, PV.str.injEq, PV.bl.injEq, decide_true, decide_false, hx, hc, mdS, e10, e35, e92, e39, e34, q_oc, q_sc, q_dc, q_od, q_sd, q_so, q_do, q_os, q_ds, is_ln, is_nn, isn_ln, isn_nn, dk_s, dk_d, v_in, v_nin, hfA, hF0, hF1, hTn, hAn, in1, in3, q35, q92, q39, q34]
        refine ⟨_, rfl, ?_⟩
        rw [show stp ⟨fd, none, .out, false⟩ c = ⟨fd, some [(c, decide (c ∈ actL))], .out, false⟩ by simp [stp, q32, q10, q35, q92, q39, q34]]
        exact ri_set (m := ⟨fd, some [(c, decide (c ∈ actL))], .out, false⟩) hf (hfA _) ⟨_, rfl, hn, by omega, by rw [ga0]; rfl⟩ (hkA _) (hnA _)
      | some w =>
        obtain ⟨k, rfl, k1, k2, k3⟩ := hsg
        have hkl : k < S.length := (List.getElem?_eq_some_iff.mp k3).1
        have hT := isT_lst k3
        have hL : (w.map sgn).length < 1000000 := by rw [List.length_map]; simp at h5; omega
        have hA := fun y => vapp_l (y := y) k3 hL
        have hV := vtup_l k3
        by_cases q32 : c = 32
        · subst q32
          have in1 : decide (32 ∈ tl (Str.ofString " \n")) = true := by decide +kernel
          simp only [rBody, mkF, endF, startP, List.map_cons, List.map_nil, List.length_cons, List.length_nil, List.replicate, List.cons_append, List.nil_append, Nat.sub_zero, Nat.zero_add, Nat.reduceAdd, Nat.reduceSub, sSeq, sIf, sAsg, sRet, sRetN, sDrop, sNext, sBrk, sCont, sAug, stName, stSub, stTup, stCons, stNil, eVar, eC, eUn, eBin, eArg, eLst, eTup, aNil, aCons, eIf, eAnd, eOr, eNot, eChain, bChain, bCmp, bVal, bNot, bAnd, bOr, bTrue, eSl, oNone, oSome, eCall, eCall0, callF, eM, oBl, oB, oT, tr_bl, tr_int, tr_non, tr_tup, isT_str, beq_self_eq_true, vAdd, vSub, vMul, vDiv, vMod, vPow, vNeg, vIAdd, vIMul, vGt, vLt, vLe, vGe, lt2, ltP, vEq, vNe, eq_ii, eq_ss, eq_bb, eq_nn, vIx, seqP, lstP, newT, vSet, vLen, lenP, vAbs, vMax, vMin, cInt, vIsi, ty_non, ty_bl, ty_int, ty_str, ty_tup, ty_fl, Out.bind_ok, Out.bind_bad, wp_ok, wp_bind, List.getElem?_cons_zero, List.getElem?_cons_succ, List.getElem?_nil, List.set_cons_zero, List.set_cons_succ, List.append_nil, Option.map_some, Option.map_none, Option.bind_some, Option.bind_none, ga, ga0, gs, gs0, List.append_assoc, Nat.add_assoc, newL, LN, Nat.reduceLeDiff, Nat.reduceLT, kit_ss, kit_ts, kit_ls, kit_bs, kit_is, kit_ns, reduceCtorEq, a30, a31, a32, i30, i31, i32, decide_eq_true_eq, ne_eq, Int.reduceLT, Int.reduceLE, Int.reduceNeg, Int.reducePow, Int.reduceToNat, Int.reduceEq, Int.reduceNe, mulOk_l, List.length_set, List.length_append, imp_false, not_false_eq_true, implies_true, if_true, if_false, ite_true, ite_false, Bool.false_eq_true, Bool.not_true, Bool.not_false, forall_const, eq_self, and_true, true_and, and_self, PV.int.injEq, PV.str.injEq, PV.bl.injEq, decide_true, decide_false, hx, hc, mdS, e10, e35, e92, e39, e34, q_oc, q_sc, q_dc, q_od, q_sd, q_so, q_do, q_os, q_ds, is_ln, is_nn, isn_ln, isn_nn, dk_s, dk_d, v_in, v_nin, hfA, hF0, hF1, hT, hA, hV, k3, in1]
          refine ⟨_, rfl, ?_⟩
          rw [show stp ⟨fd, some w, .out, false⟩ 32 = ⟨fd ++ [w], none, .out, false⟩ by simp [stp]]
          exact ri_set (m := ⟨fd ++ [w], none, .out, false⟩) (by omega) (by rw [ga, List.map_append]; rfl) rfl (hkA _) (hnA _)
        by_cases q10 : c = 10
        · subst q10
          have in1 : decide (10 ∈ tl (Str.ofString " \n")) = true := by decide +kernel
          simp only [rBody, mkF, endF, startP, List.map_cons, List.map_nil, List.length_cons, List.length_nil, List.replicate, List.cons_append, List.nil_append, Nat.sub_zero, Nat.zero_add, Nat.reduceAdd, Nat.reduceSub, sSeq, sIf, sAsg, sRet, sRetN, sDrop, sNext, sBrk, sCont, sAug, stName, stSub, stTup, stCons, stNil, eVar, eC, eUn, eBin, eArg, eLst, eTup, aNil, aCons, eIf, eAnd, eOr, eNot, eChain, bChain, bCmp, bVal, bNot, bAnd, bOr, bTrue, eSl, oNone, oSome, eCall, eCall0, callF, eM, oBl, oB, oT, tr_bl, tr_int, tr_non, tr_tup, isT_str, beq_self_eq_true, vAdd, vSub, vMul, vDiv, vMod, vPow, vNeg, vIAdd, vIMul, vGt, vLt, vLe, vGe, lt2, ltP, vEq, vNe, eq_ii, eq_ss, eq_bb, eq_nn, vIx, seqP, lstP, newT, vSet, vLen, lenP, vAbs, vMax, vMin, cInt, vIsi, ty_non, ty_bl, ty_int, ty_str, ty_tup, ty_fl, Out.bind_ok, Out.bind_bad, wp_ok, wp_bind, List.getElem?_cons_zero, List.getElem?_cons_succ, List.getElem?_nil, List.set_cons_zero, List.set_cons_succ, List.append_nil, Option.map_some, Option.map_none, Option.bind_some, Option.bind_none, ga, ga0, gs, gs0, List.append_assoc, Nat.add_assoc, newL, LN, Nat.reduceLeDiff, Nat.reduceLT, kit_ss, kit_ts, kit_ls, kit_bs, kit_is, kit_ns, reduceCtorEq, a30, a31, a32, i30, i31, i32, decide_eq_true_eq, ne_eq, Int.reduceLT, Int.reduceLE, Int.reduceNeg, Int.reducePow, Int.reduceToNat, Int.reduceEq, Int.reduceNe, mulOk_l, List.length_set, List.length_append, imp_false, not_false_eq_true, implies_true, if_true, if_false, ite_true, ite_false, Bool.false_eq_true, Bool.not_true, Bool.not_false, forall_const, eq_self, and_true, true_and, and_self, PV.int.injEq, PV.str.injEq, PV.bl.injEq, decide_true, decide_false, hx, hc, mdS, e10, e35, e92, e39, e34, q_oc, q_sc, q_dc, q_od, q_sd, q_so, q_do, q_os, q_ds, is_ln, is_nn, isn_ln, isn_nn, dk_s, dk_d, v_in, v_nin, hfA, hF0, hF1, hT, hA, hV, k3, in1]
          refine ⟨_, rfl, ?_⟩
          rw [show stp ⟨fd, some w, .out, false⟩ 10 = ⟨fd ++ [w], none, .out, false⟩ by simp [stp]]
          exact ri_set (m := ⟨fd ++ [w], none, .out, false⟩) (by omega) (by rw [ga, List.map_append]; rfl) rfl (hkA _) (hnA _)
        by_cases q35 : c = 35
        · subst q35
          have in1 : decide (35 ∈ tl (Str.ofString " \n")) = false := by decide +kernel
          have in3 : decide (35 ∈ tl (Str.ofString "'\"")) = false := by decide +kernel
          have n92 : ¬ ((35 : Nat) = 92) := by decide
          simp only [rBody, mkF, endF, startP, List.map_cons, List.map_nil, List.length_cons, List.length_nil, List.replicate, List.cons_append, List.nil_append, Nat.sub_zero, Nat.zero_add, Nat.reduceAdd, Nat.reduceSub, sSeq, sIf, sAsg, sRet, sRetN, sDrop, sNext, sBrk, sCont, sAug, stName, stSub, stTup, stCons, stNil, eVar, eC, eUn, eBin, eArg, eLst, eTup, aNil, aCons, eIf, eAnd, eOr, eNot, eChain, bChain, bCmp, bVal, bNot, bAnd, bOr, bTrue, eSl, oNone, oSome, eCall, eCall0, callF, eM, oBl, oB, oT, tr_bl, tr_int, tr_non, tr_tup, isT_str, beq_self_eq_true, vAdd, vSub, vMul, vDiv, vMod, vPow, vNeg, vIAdd, vIMul, vGt, vLt, vLe, vGe, lt2, ltP, vEq, vNe, eq_ii, eq_ss, eq_bb, eq_nn, vIx, seqP, lstP, newT, vSet, vLen, lenP, vAbs, vMax, vMin, cInt, vIsi, ty_non, ty_bl, ty_int, ty_str, ty_tup, ty_fl, Out.bind_ok, Out.bind_bad, wp_ok, wp_bind, List.getElem?_cons_zero, List.getElem?_cons_succ, List.getElem?_nil, List.set_cons_zero, List.set_cons_succ, List.append_nil, Option.map_some, Option.map_none, Option.bind_some, Option.bind_none, ga, ga0, gs, gs0, List.append_assoc, Nat.add_assoc, newL, LN, Nat.reduceLeDiff, Nat.reduceLT, kit_ss, kit_ts, kit_ls, kit_bs, kit_is, kit_ns, reduceCtorEq, a30, a31, a32, i30, i31, i32, decide_eq_true_eq, ne_eq, Int.reduceLT, Int.reduceLE, Int.reduceNeg, Int.reducePow, Int.reduceToNat, Int.reduceEq, Int.reduceNe, mulOk_l, List.length_set, List.length_append, imp_false, not_false_eq_true, implies_true, if_true, if_false, ite_true, ite_false, Bool.false_eq_true, Bool.not_true, Bool.not_false, forall_const, eq_self, and_true, true_and, and_self, PV.int.injEq, PV.str.injEq, PV.bl.injEq, decide_true, decide_false, hx, hc, mdS, e10, e35, e92, e39, e34, q_oc, q_sc, q_dc, q_od, q_sd, q_so, q_do, q_os, q_ds, is_ln, is_nn, isn_ln, isn_nn, dk_s, dk_d, v_in, v_nin, hfA, hF0, hF1, hT, hA, hV, k3, in1, in3, n92]
          refine ⟨_, rfl, ?_⟩
          rw [show stp ⟨fd, some w, .out, false⟩ 35 = ⟨fd, some (w ++ [(35, decide (35 ∈ actL))]), .out, false⟩ by simp [stp]]
          exact ri_set (m := ⟨fd, some (w ++ [(35, decide (35 ∈ actL))]), .out, false⟩) hf (by rw [List.getElem?_set_ne k2]; exact hfS) ⟨k, rfl, k1, k2, by rw [List.getElem?_set_self hkl, List.map_append]; rfl⟩ (fun j hj => by rw [List.getElem?_set_ne (by omega)]; exact hk j hj) (by rw [List.length_set]; exact hn)
        by_cases q92 : c = 92
        · subst q92
          have in1 : decide (92 ∈ tl (Str.ofString " \n")) = false := by decide +kernel
          simp only [rBody, mkF, endF, startP, List.map_cons, List.map_nil, List.length_cons, List.length_nil, List.replicate, List.cons_append, List.nil_append, Nat.sub_zero, Nat.zero_add, Nat.reduceAdd, Nat.reduceSub, sSeq, sIf, sAsg, sRet, sRetN, sDrop, sNext, sBrk, sCont, sAug, stName, stSub, stTup, stCons, stNil, eVar, eC, eUn, eBin, eArg, eLst, eTup, aNil, aCons, eIf, eAnd, eOr, eNot, eChain, bChain, bCmp, bVal, bNot, bAnd, bOr, bTrue, eSl, oNone, oSome, eCall, eCall0, callF, eM, oBl, oB, oT, tr_bl, tr_int, tr_non, tr_tup, isT_str, beq_self_eq_true, vAdd, vSub, vMul, vDiv, vMod, vPow, vNeg, vIAdd, vIMul, vGt, vLt, vLe, vGe, lt2, ltP, vEq, vNe, eq_ii, eq_ss, eq_bb, eq_nn, vIx, seqP, lstP, newT, vSet, vLen, lenP, vAbs, vMax, vMin, cInt, vIsi, ty_non, ty_bl, ty_int, ty_str, ty_tup, ty_fl, Out.bind_ok, Out.bind_bad, wp_ok, wp_bind, List.getElem?_cons_zero, List.getElem?_cons_succ, List.getElem?_nil, List.set_cons_zero, List.set_cons_succ, List.append_nil, Option.map_some, Option.map_none, Option.bind_some, Option.bind_none, ga, ga0, gs, gs0, List.append_assoc, Nat.add_assoc, newL, LN, Nat.reduceLeDiff, Nat.reduceLT, kit_ss, kit_ts, kit_ls, kit_bs, kit_is, kit_ns, reduceCtorEq, a30, a31, a32, i30, i31, i32, decide_eq_true_eq, ne_eq, Int.reduceLT, Int.reduceLE, Int.reduceNeg, Int.reducePow, Int.reduceToNat, Int.reduceEq, Int.reduceNe, mulOk_l, List.length_set, List.length_append, imp_false, not_false_eq_true, implies_true, if_true, if_false, ite_true, ite_false, Bool.false_eq_true, Bool.not_true, Bool.not_false, forall_const, eq_self, and_true, true_and, and_self, PV.int.injEq, PV.str.injEq, PV.bl.injEq, decide_true, decide_false, hx, hc, mdS, e10, e35, e92, e39, e34, q_oc, q_sc, q_dc, q_od, q_sd, q_so, q_do, q_os, q_ds, is_ln, is_nn, isn_ln, isn_nn, dk_s, dk_d, v_in, v_nin, hfA, hF0, hF1, hT, hA, hV, k3, in1]
          refine ⟨_, rfl, ?_⟩
          rw [show stp ⟨fd, some w, .out, false⟩ 92 = ⟨fd, some w, .out, true⟩ by simp [stp]]
          exact ri_set (m := ⟨fd, some w, .out, true⟩) hf hfS ⟨k, rfl, k1, k2, k3⟩ hk hn
        by_cases q39 : c = 39
        · subst q39
          have in1 : decide (39 ∈ tl (Str.ofString " \n")) = false := by decide +kernel
          have in3 : decide (39 ∈ tl (Str.ofString "'\"")) = true := by decide +kernel
          simp only [rBody, mkF, endF, startP, List.map_cons, List.map_nil, List.length_cons, List.length_nil, List.replicate, List.cons_append, List.nil_append, Nat.sub_zero, Nat.zero_add, Nat.reduceAdd, Nat.reduceSub, sSeq, sIf, sAsg, sRet, sRetN, sDrop, sNext, sBrk, sCont, sAug, stName, stSub, stTup, stCons, stNil, eVar, eC, eUn, eBin, eArg, eLst, eTup, aNil, aCons, eIf, eAnd, eOr, eNot, eChain, bChain, bCmp, bVal, bNot, bAnd, bOr, bTrue, eSl, oNone, oSome, eCall, eCall0, callF, eM, oBl, oB, oT, tr_bl, tr_int, tr_non, tr_tup, isT_str, beq_self_eq_true, vAdd, vSub, vMul, vDiv, vMod, vPow, vNeg, vIAdd, vIMul, vGt, vLt, vLe, vGe, lt2, ltP, vEq, vNe, eq_ii, eq_ss, eq_bb, eq_nn, vIx, seqP, lstP, newT, vSet, vLen, lenP, vAbs, vMax, vMin, cInt, vIsi, ty_non, ty_bl, ty_int, ty_str, ty_tup, ty_fl, Out.bind_ok, Out.bind_bad, wp_ok, wp_bind, List.getElem?_cons_zero, List.getElem?_cons_succ, List.getElem?_nil, List.set_cons_zero, List.set_cons_succ, List.append_nil, Option.map_some, Option.map_none, Option.bind_some, Option.bind_none, ga, ga0, gs, gs0, List.append_assoc, Nat.add_assoc, newL, LN, Nat.reduceLeDiff, Nat.reduceLT, kit_ss, kit_ts, kit_ls, kit_bs, kit_is, kit_ns, reduceCtorEq, a30, a31, a32, i30, i31, i32, decide_eq_true_eq, ne_eq, Int.reduceLT, Int.reduceLE, Int.reduceNeg, Int.reducePow, Int.reduceToNat, Int.reduceEq, Int.reduceNe, mulOk_l, List.length_set, List.length_append, imp_false, not_false_eq_true, implies_true, if_true, if_false, ite_true, ite_false, Bool.false_eq_true, Bool.not_true, Bool.not_false, forall_const, eq_self, and_true, true_and, and_self, PV.int.injEq, PV.str.injEq, PV.bl.injEq, decide_true, decide_false, hx, hc, mdS, e10, e35, e92, e39, e34, q_oc, q_sc, q_dc, q_od, q_sd, q_so, q_do, q_os, q_ds, is_ln, is_nn, isn_ln, isn_nn, dk_s, dk_d, v_in, v_nin, hfA, hF0, hF1, hT, hA, hV, k3, in1, in3]
          refine ⟨_, rfl, ?_⟩
          rw [show stp ⟨fd, some w, .out, false⟩ 39 = ⟨fd, some w, .sgl, false⟩ by simp [stp]]
          exact ri_set (m := ⟨fd, some w, .sgl, false⟩) hf hfS ⟨k, rfl, k1, k2, k3⟩ hk hn
        by_cases q34 : c = 34
        · subst q34
          have in1 : decide (34 ∈ tl (Str.ofString " \n")) = false := by decide +kernel
          have in3 : decide (34 ∈ tl (Str.ofString "'\"")) = true := by decide +kernel
          simp only [rBody, mkF, endF, startP, List.map_cons, List.map_nil, List.length_cons, List.length_nil, List.replicate, List.cons_append, List.nil_append, Nat.sub_zero, Nat.zero_add, Nat.reduceAdd, Nat.reduceSub, sSeq, sIf, sAsg, sRet, sRetN, sDrop, sNext, sBrk, sCont, sAug, stName, stSub, stTup, stCons, stNil, eVar, eC, eUn, eBin, eArg, eLst, eTup, aNil, aCons, eIf, eAnd, eOr, eNot, eChain, bChain, bCmp, bVal, bNot, bAnd, bOr, bTrue, eSl, oNone, oSome, eCall, eCall0, callF, eM, oBl, oB, oT, tr_bl, tr_int, tr_non, tr_tup, isT_str, beq_self_eq_true, vAdd, vSub, vMul, vDiv, vMod, vPow, vNeg, vIAdd, vIMul, vGt, vLt, vLe, vGe, lt2, ltP, vEq, vNe, eq_ii, eq_ss, eq_bb, eq_nn, vIx, seqP, lstP, newT, vSet, vLen, lenP, vAbs, vMax, vMin, cInt, vIsi, ty_non, ty_bl, ty_int, ty_str, ty_tup, ty_fl, Out.bind_ok, Out.bind_bad, wp_ok, wp_bind, List.getElem?_cons_zero, List.getElem?_cons_succ, List.getElem?_nil, List.set_cons_zero, List.set_cons_succ, List.append_nil, Option.map_some, Option.map_none, Option.bind_some, Option.bind_none, ga, ga0, gs, gs0, List.append_assoc, Nat.add_assoc, newL, LN, Nat.reduceLeDiff, Nat.reduceLT, kit_ss, kit_ts, kit_ls, kit_bs, kit_is, kit_ns, reduceCtorEq, a30, a31, a32, i30, i31, i32, decide_eq_true_eq, ne_eq, Int.reduceLT, Int.reduceLE, Int.reduceNeg, Int.reducePow, Int.reduceToNat, Int.reduceEq, Int.reduceNe, mulOk_l, List.length_set, List.length_append, imp_false, not_false_eq_true, implies_true, if_true, if_false, ite_true, ite_false, Bool.false_eq_true, Bool.not_true, Bool.not_false, forall_const, eq_self, and_true, true_and, and_self, PV.int.injEq, PV.str.injEq, PV.bl.injEq, decide_true, decide_false, hx, hc, mdS, e10, e35, e92, e39, e34, q_oc, q_sc, q_dc, q_od, q_sd, q_so, q_do, q_os, q_ds, is_ln, is_nn, isn_ln, isn_nn, dk_s, dk_d, v_in, v_nin, hfA, hF0, hF1, hT, hA, hV, k3, in1, in3]
          refine ⟨_, rfl, ?_⟩
          rw [show stp ⟨fd, some w, .out, false⟩ 34 = ⟨fd, some w, .dbl, false⟩ by simp [stp]]
          exact ri_set (m := ⟨fd, some w, .dbl, false⟩) hf hfS ⟨k, rfl, k1, k2, k3⟩ hk hn
        have in1 : decide (c ∈ tl (Str.ofString " \n")) = false := decide_eq_false (by rw [g1]; simp [q32, q10])
        have in3 : decide (c ∈ tl (Str.ofString "'\"")) = false := decide_eq_false (by rw [g3]; simp [q39, q34])
        simp only [rBody, mkF, endF, startP, List.map_cons, List.map_nil, List.length_cons, List.length_nil, List.replicate, List.cons_append, List.nil_append, Nat.sub_zero, Nat.zero_add, Nat.reduceAdd, Nat.reduceSub, sSeq, sIf, sAsg, sRet, sRetN, sDrop, sNext, sBrk, sCont, sAug, stName, stSub, stTup, stCons, stNil, eVar, eC, eUn, eBin, eArg, eLst, eTup, aNil, aCons, eIf, eAnd, eOr, eNot, eChain, bChain, bCmp, bVal, bNot, bAnd, bOr, bTrue, eSl, oNone, oSome, eCall, eCall0, callF, eM, oBl, oB, oT, tr_bl, tr_int, tr_non, tr_tup, isT_str, beq_self_eq_true, vAdd, vSub, vMul, vDiv, vMod, vPow, vNeg, vIAdd, vIMul, vGt, vLt, vLe, vGe, lt2, ltP, vEq, vNe, eq_ii, eq_ss, eq_bb, eq_nn, vIx, seqP, lstP, newT, vSet, vLen, lenP, vAbs, vMax, vMin, cInt, vIsi, ty_non, ty_bl, ty_int, ty_str, ty_tup, ty_fl, Out.bind_ok, Out.bind_bad, wp_ok, wp_bind, List.getElem?_cons_zero, List.getElem?_cons_succ, List.getElem?_nil, List.set_cons_zero, List.set_cons_succ, List.append_nil, Option.map_some, Option.map_none, Option.bind_some, Option.bind_none, ga, ga0, gs, gs0, List.append_assoc, Nat.add_assoc, newL, LN, Nat.reduceLeDiff, Nat.reduceLT, kit_ss, kit_ts, kit_ls, kit_bs, kit_is, kit_ns, reduceCtorEq, a30, a31, a32, i30, i31, i32, decide_eq_true_eq, ne_eq, Int.reduceLT, Int.reduceLE, Int.reduceNeg, Int.reducePow, Int.reduceToNat, Int.reduceEq, Int.reduceNe, mulOk_l, List.length_set, List.length_append, imp_false, not_false_eq_true, implies_true, if_true, if_false, ite_true, ite_false, Bool.false_eq_true, Bool.not_true, Bool.not_false, forall_const, eq_self, and_true, true_and, and_self, PV.int.injEq, PV.str.injEq, PV.bl.injEq, decide_true, decide_false, hx, hc, mdS, e10, e35, e92, e39, e34, q_oc, q_sc, q_dc, q_od, q_sd, q_so, q_do, q_os, q_ds, is_ln, is_nn, isn_ln, isn_nn, dk_s, dk_d, v_in, v_nin, hfA, hF0, hF1, hT, hA, hV, k3, in1, in3, q35, q92, q39, q34]
        refine ⟨_, rfl, ?_⟩
        rw [show stp ⟨fd, some w, .out, false⟩ c = ⟨fd, some (w ++ [(c, decide (c ∈ actL))]), .out, false⟩ by simp [stp, q32, q10, q35, q92, q39, q34]]
        exact ri_set (m := ⟨fd, some (w ++ [(c, decide (c ∈ actL))]), .out, false⟩) hf (by rw [List.getElem?_set_ne k2]; exact hfS) ⟨k, rfl, k1, k2, by rw [List.getElem?_set_self hkl, List.map_append]; rfl⟩ (fun j hj => by rw [List.getElem?_set_ne (by omega)]; exact hk j hj) (by rw [List.length_set]; exact hn)
  | dbl =>
    obtain ⟨w, rfl⟩ := h2 (.inr (.inr rfl))
    obtain ⟨k, rfl, k1, k2, k3⟩ := hsg
    have hkl : k < S.length := (List.getElem?_eq_some_iff.mp k3).1
    have hT := isT_lst k3
    have hL : (w.map sgn).length < 1000000 := by rw [List.length_map]; simp at h5; omega
    have hA := fun y => vapp_l (y := y) k3 hL
    cases es with
    | true =>
      by_cases q : c = 34
      · subst q
        have in2 : decide (34 ∈ tl (Str.ofString "\"\\")) = true := by decide +kernel
        simp only [rBody, mkF, endF, startP, List.map_cons, List.map_nil, List.length_cons, List.length_nil, List.replicate, List.cons_append, List.nil_append, Nat.sub_zero, Nat.zero_add, Nat.reduceAdd, Nat.reduceSub, sSeq, sIf, sAsg, sRet, sRetN, sDrop, sNext, sBrk, sCont, sAug, stName, stSub, stTup, stCons, stNil, eVar, eC, eUn, eBin, eArg, eLst, eTup, aNil, aCons, eIf, eAnd, eOr, eNot, eChain, bChain, bCmp, bVal, bNot, bAnd, bOr, bTrue, eSl, oNone, oSome, eCall, eCall0, callF, eM, oBl, oB, oT, tr_bl, tr_int, tr_non, tr_tup, isT_str, beq_self_eq_true, vAdd, vSub, vMul, vDiv, vMod, vPow, vNeg, vIAdd, vIMul, vGt, vLt, vLe, vGe, lt2, ltP, vEq, vNe, eq_ii, eq_ss, eq_bb, eq_nn, vIx, seqP, lstP, newT, vSet, vLen, lenP, vAbs, vMax, vMin, cInt, vIsi, ty_non, ty_bl, ty_int, ty_str, ty_tup, ty_fl, Out.bind_ok, Out.bind_bad, wp_ok, wp_bind, List.getElem?_cons_zero, List.getElem?_cons_succ, List.getElem?_nil, List.set_cons_zero, List.set_cons_succ, List.append_nil, Option.map_some, Option.map_none, Option.bind_some, Option.bind_none, ga, ga0, gs, gs0, List.append_assoc, Nat.add_assoc, newL, LN, Nat.reduceLeDiff, Nat.reduceLT, kit_ss, kit_ts, kit_ls, kit_bs, kit_is, kit_ns, reduceCtorEq, a30, a31, a32, i30, i31, i32, decide_eq_true_eq, ne_eq, Int.reduceLT, Int.reduceLE, Int.reduceNeg, Int.reducePow, Int.reduceToNat, Int.reduceEq, Int.reduceNe, mulOk_l, List.length_set, List.length_append, imp_false, not_false_eq_true, implies_true, if_true, if_false, ite_true, ite_false, Bool.false_eq_true, Bool.not_true, Bool.not_false, forall_const, eq_self, and_true, true_and, and_self, PV.int.injEq, PV.str.injEq, PV.bl.injEq, decide_true, decide_false, hx, hc, mdS, e10, e35, e92, e39, e34, q_oc, q_sc, q_dc, q_od, q_sd, q_so, q_do, q_os, q_ds, is_ln, is_nn, isn_ln, isn_nn, dk_s, dk_d, v_in, v_nin, hT, hA, k3, in2]
        refine ⟨_, rfl, ?_⟩
        rw [show stp ⟨fd, some w, .dbl, true⟩ 34 = ⟨fd, some (w ++ [(34, false)]), .dbl, false⟩ by simp [stp]]
        exact ri_set (m := ⟨fd, some (w ++ [(34, false)]), .dbl, false⟩) hf (by rw [List.getElem?_set_ne k2]; exact hfS) ⟨k, rfl, k1, k2, by rw [List.getElem?_set_self hkl, List.map_append]; rfl⟩ (fun j hj => by rw [List.getElem?_set_ne (by omega)]; exact hk j hj) (by rw [List.length_set]; exact hn)
      by_cases q2 : c = 92
      · subst q2
        have in2 : decide (92 ∈ tl (Str.ofString "\"\\")) = true := by decide +kernel
        simp only [rBody, mkF, endF, startP, List.map_cons, List.map_nil, List.length_cons, List.length_nil, List.replicate, List.cons_append, List.nil_append, Nat.sub_zero, Nat.zero_add, Nat.reduceAdd, Nat.reduceSub, sSeq, sIf, sAsg, sRet, sRetN, sDrop, sNext, sBrk, sCont, sAug, stName, stSub, stTup, stCons, stNil, eVar, eC, eUn, eBin, eArg, eLst, eTup, aNil, aCons, eIf, eAnd, eOr, eNot, eChain, bChain, bCmp, bVal, bNot, bAnd, bOr, bTrue, eSl, oNone, oSome, eCall, eCall0, callF, eM, oBl, oB, oT, tr_bl, tr_int, tr_non, tr_tup, isT_str, beq_self_eq_true, vAdd, vSub, vMul, vDiv, vMod, vPow, vNeg, vIAdd, vIMul, vGt, vLt, vLe, vGe, lt2, ltP, vEq, vNe, eq_ii, eq_ss, eq_bb, eq_nn, vIx, seqP, lstP, newT, vSet, vLen, lenP, vAbs, vMax, vMin, cInt, vIsi, ty_non, ty_bl, ty_int, ty_str, ty_tup, ty_fl, Out.bind_ok, Out.bind_bad, wp_ok, wp_bind, List.getElem?_cons_zero, List.getElem?_cons_succ, List.getElem?_nil, List.set_cons_zero, List.set_cons_succ, List.append_nil, Option.map_some, Option.map_none, Option.bind_some, Option.bind_none, ga, ga0, gs, gs0, List.append_assoc, Nat.add_assoc, newL, LN, Nat.reduceLeDiff, Nat.reduceLT, kit_ss, kit_ts, kit_ls, kit_bs, kit_is, kit_ns, reduceCtorEq, a30, a31, a32, i30, i31, i32, decide_eq_true_eq, ne_eq, Int.reduceLT, Int.reduceLE, Int.reduceNeg, Int.reducePow, Int.reduceToNat, Int.reduceEq, Int.reduceNe, mulOk_l, List.length_set, List.length_append, imp_false, not_false_eq_true, implies_true, if_true, if_false, ite_true, ite_false, Bool.false_eq_true, Bool.not_true, Bool.not_false, forall_const, eq_self, and_true, true_and, and_self, PV.int.injEq, PV.str.injEq, PV.bl.injEq, decide_true, decide_false, hx, hc, mdS, e10, e35, e92, e39, e34, q_oc, q_sc, q_dc, q_od, q_sd, q_so, q_do, q_os, q_ds, is_ln, is_nn, isn_ln, isn_nn, dk_s, dk_d, v_in, v_nin, hT, hA, k3, in2]
        refine ⟨_, rfl, ?_⟩
        rw [show stp ⟨fd, some w, .dbl, true⟩ 92 = ⟨fd, some (w ++ [(92, false)]), .dbl, false⟩ by simp [stp]]
        exact ri_set (m := ⟨fd, some (w ++ [(92, false)]), .dbl, false⟩) hf (by rw [List.getElem?_set_ne k2]; exact hfS) ⟨k, rfl, k1, k2, by rw [List.getElem?_set_self hkl, List.map_append]; rfl⟩ (fun j hj => by rw [List.getElem?_set_ne (by omega)]; exact hk j hj) (by rw [List.length_set]; exact hn)
      have in2 : decide (c ∈ tl (Str.ofString "\"\\")) = false := by rw [g2]; exact decide_eq_false (by simp [q, q2])
      have k4 : (S.set k (.lst (w.map sgn ++ [.tup [.str (Str.ofString "\\"), .bl false]])))[k]? = some (.lst (w.map sgn ++ [.tup [.str (Str.ofString "\\"), .bl false]])) := List.getElem?_set_self hkl
      have hT4 := isT_lst k4
      have hA4 := fun y => vapp_l (y := y) k4 (by rw [List.length_append, List.length_map, List.length_singleton]; simp at h5; omega)
      simp only [rBody, mkF, endF, startP, List.map_cons, List.map_nil, List.length_cons, List.length_nil, List.replicate, List.cons_append, List.nil_append, Nat.sub_zero, Nat.zero_add, Nat.reduceAdd, Nat.reduceSub, sSeq, sIf, sAsg, sRet, sRetN, sDrop, sNext, sBrk, sCont, sAug, stName, stSub, stTup, stCons, stNil, eVar, eC, eUn, eBin, eArg, eLst, eTup, aNil, aCons, eIf, eAnd, eOr, eNot, eChain, bChain, bCmp, bVal, bNot, bAnd, bOr, bTrue, eSl, oNone, oSome, eCall, eCall0, callF, eM, oBl, oB, oT, tr_bl, tr_int, tr_non, tr_tup, isT_str, beq_self_eq_true, vAdd, vSub, vMul, vDiv, vMod, vPow, vNeg, vIAdd, vIMul, vGt, vLt, vLe, vGe, lt2, ltP, vEq, vNe, eq_ii, eq_ss, eq_bb, eq_nn, vIx, seqP, lstP, newT, vSet, vLen, lenP, vAbs, vMax, vMin, cInt, vIsi, ty_non, ty_bl, ty_int, ty_str, ty_tup, ty_fl, Out.bind_ok, Out.bind_bad, wp_ok, wp_bind, List.getElem?_cons_zero, List.getElem?_cons_succ, List.getElem?_nil, List.set_cons_zero, List.set_cons_succ, List.append_nil, Option.map_some, Option.map_none, Option.bind_some, Option.bind_none, ga, ga0, gs, gs0, List.append_assoc, Nat.add_assoc, newL, LN, Nat.reduceLeDiff, Nat.reduceLT, kit_ss, kit_ts, kit_ls, kit_bs, kit_is, kit_ns, reduceCtorEq, a30, a31, a32, i30, i31, i32, decide_eq_true_eq, ne_eq, Int.reduceLT, Int.reduceLE, Int.reduceNeg, Int.reducePow, Int.reduceToNat, Int.reduceEq, Int.reduceNe, mulOk_l, List.length_set, List.length_append, imp_false, not_false_eq_true, implies_true, if_true, if_false, ite_true, ite_false, Bool.false_eq_true, Bool.not_true, Bool.not_false, forall_const, eq_self, and_true, true_and, and_self, PV.int.injEq, PV.str.injEq, PV.bl.injEq, decide_true, decide_false, hx, hc, mdS, e10, e35, e92, e39, e34, q_oc, q_sc, q_dc, q_od, q_sd, q_so, q_do, q_os, q_ds, is_ln, is_nn, isn_ln, isn_nn, dk_s, dk_d, v_in, v_nin, hT, hA, k3, in2, hT4, hA4]
      refine ⟨_, rfl, ?_⟩
      rw [show stp ⟨fd, some w, .dbl, true⟩ c = ⟨fd, some (w ++ [(92, false), (c, false)]), .dbl, false⟩ by simp [stp, q, q2]]
      exact ri_set (m := ⟨fd, some (w ++ [(92, false), (c, false)]), .dbl, false⟩) hf (by rw [List.getElem?_set_ne k2, List.getElem?_set_ne k2]; exact hfS) ⟨k, rfl, k1, k2, by rw [List.getElem?_set_self (by rw [List.length_set]; exact hkl), List.map_append]; rfl⟩ (fun j hj => by rw [List.getElem?_set_ne (by omega), List.getElem?_set_ne (by omega)]; exact hk j hj) (by rw [List.length_set, List.length_set]; exact hn)
    | false =>
      by_cases q : c = 92
      · subst q
        simp only [rBody, mkF, endF, startP, List.map_cons, List.map_nil, List.length_cons, List.length_nil, List.replicate, List.cons_append, List.nil_append, Nat.sub_zero, Nat.zero_add, Nat.reduceAdd, Nat.reduceSub, sSeq, sIf, sAsg, sRet, sRetN, sDrop, sNext, sBrk, sCont, sAug, stName, stSub, stTup, stCons, stNil, eVar, eC, eUn, eBin, eArg, eLst, eTup, aNil, aCons, eIf, eAnd, eOr, eNot, eChain, bChain, bCmp, bVal, bNot, bAnd, bOr, bTrue, eSl, oNone, oSome, eCall, eCall0, callF, eM, oBl, oB, oT, tr_bl, tr_int, tr_non, tr_tup, isT_str, beq_self_eq_true, vAdd, vSub, vMul, vDiv, vMod, vPow, vNeg, vIAdd, vIMul, vGt, vLt, vLe, vGe, lt2, ltP, vEq, vNe, eq_ii, eq_ss, eq_bb, eq_nn, vIx, seqP, lstP, newT, vSet, vLen, lenP, vAbs, vMax, vMin, cInt, vIsi, ty_non, ty_bl, ty_int, ty_str, ty_tup, ty_fl, Out.bind_ok, Out.bind_bad, wp_ok, wp_bind, List.getElem?_cons_zero, List.getElem?_cons_succ, List.getElem?_nil, List.set_cons_zero, List.set_cons_succ, List.append_nil, Option.map_some, Option.map_none, Option.bind_some, Option.bind_none, ga, ga0, gs, gs0, List.append_assoc, Nat.add_assoc, newL, LN, Nat.reduceLeDiff, Nat.reduceLT, kit_ss, kit_ts, kit_ls, kit_bs, kit_is, kit_ns, reduceCtorEq, a30, a31, a32, i30, i31, i32, decide_eq_true_eq, ne_eq, Int.reduceLT, Int.reduceLE, Int.reduceNeg, Int.reducePow, Int.reduceToNat, Int.reduceEq, Int.reduceNe, mulOk_l, List.length_set, List.length_append, imp_false, not_false_eq_true, implies_true, if_true, if_false, ite_true, ite_false, Bool.false_eq_true, Bool.not_true, Bool.not_false, forall_const, eq_self, and_true, true_and, and_self, PV.int.injEq, PV.str.injEq, PV.bl.injEq, decide_true, decide_false, hx, hc, mdS, e10, e35, e92, e39, e34, q_oc, q_sc, q_dc, q_od, q_sd, q_so, q_do, q_os, q_ds, is_ln, is_nn, isn_ln, isn_nn, dk_s, dk_d, v_in, v_nin, hT, hA, k3]
        refine ⟨_, rfl, ?_⟩
        rw [show stp ⟨fd, some w, .dbl, false⟩ 92 = ⟨fd, some w, .dbl, true⟩ by simp [stp]]
        exact ri_set (m := ⟨fd, some w, .dbl, true⟩) hf hfS ⟨k, rfl, k1, k2, k3⟩ hk hn
      by_cases q2 : c = 34
      · subst q2
        simp only [rBody, mkF, endF, startP, List.map_cons, List.map_nil, List.length_cons, List.length_nil, List.replicate, List.cons_append, List.nil_append, Nat.sub_zero, Nat.zero_add, Nat.reduceAdd, Nat.reduceSub, sSeq, sIf, sAsg, sRet, sRetN, sDrop, sNext, sBrk, sCont, sAug, stName, stSub, stTup, stCons, stNil, eVar, eC, eUn, eBin, eArg, eLst, eTup, aNil, aCons, eIf, eAnd, eOr, eNot, eChain, bChain, bCmp, bVal, bNot, bAnd, bOr, bTrue, eSl, oNone, oSome, eCall, eCall0, callF, eM, oBl, oB, oT, tr_bl, tr_int, tr_non, tr_tup, isT_str, beq_self_eq_true, vAdd, vSub, vMul, vDiv, vMod, vPow, vNeg, vIAdd, vIMul, vGt, vLt, vLe, vGe, lt2, ltP, vEq, vNe, eq_ii, eq_ss, eq_bb, eq_nn, vIx, seqP, lstP, newT, vSet, vLen, lenP, vAbs, vMax, vMin, cInt, vIsi, ty_non, ty_bl, ty_int, ty_str, ty_tup, ty_fl, Out.bind_ok, Out.bind_bad, wp_ok, wp_bind, List.getElem?_cons_zero, List.getElem?_cons_succ, List.getElem?_nil, List.set_cons_zero, List.set_cons_succ, List.append_nil, Option.map_some, Option.map_none, Option.bind_some, Option.bind_none, ga, ga0, gs, gs0, List.append_assoc, Nat.add_assoc, newL, LN, Nat.reduceLeDiff, Nat.reduceLT, kit_ss, kit_ts, kit_ls, kit_bs, kit_is, kit_ns, reduceCtorEq, a30, a31, a32, i30, i31, i32, decide_eq_true_eq, ne_eq, Int.reduceLT, Int.reduceLE, Int.reduceNeg, Int.reducePow, Int.reduceToNat, Int.reduceEq, Int.reduceNe, mulOk_l, List.length_set, List.length_append, imp_false, not_false_eq_true, implies_true, if_true, if_false, ite_true, ite_false, Bool.false_eq_true, Bool.not_true, Bool.not_false, forall_const, eq_self, and_true, true_and, and_self, PV.int.injEq, PV.str.injEq, PV.bl.injEq, decide_true, decide_false, hx, hc, mdS, e10, e35, e92, e39, e34, q_oc, q_sc, q_dc, q_od, q_sd, q_so, q_do, q_os, q_ds, is_ln, is_nn, isn_ln, isn_nn, dk_s, dk_d, v_in, v_nin, hT, hA, k3]
        refine ⟨_, rfl, ?_⟩
        rw [show stp ⟨fd, some w, .dbl, false⟩ 34 = ⟨fd, some w, .out, false⟩ by simp [stp]]
        exact ri_set (m := ⟨fd, some w, .out, false⟩) hf hfS ⟨k, rfl, k1, k2, k3⟩ hk hn
      simp only [rBody, mkF, endF, startP, List.map_cons, List.map_nil, List.length_cons, List.length_nil, List.replicate, List.cons_append, List.nil_append, Nat.sub_zero, Nat.zero_add, Nat.reduceAdd, Nat.reduceSub, sSeq, sIf, sAsg, sRet, sRetN, sDrop, sNext, sBrk, sCont, sAug, stName, stSub, stTup, stCons, stNil, eVar, eC, eUn, eBin, eArg, eLst, eTup, aNil, aCons, eIf, eAnd, eOr, eNot, eChain, bChain, bCmp, bVal, bNot, bAnd, bOr, bTrue, eSl, oNone, oSome, eCall, eCall0, callF, eM, oBl, oB, oT, tr_bl, tr_int, tr_non, tr_tup, isT_str, beq_self_eq_true, vAdd, vSub, vMul, vDiv, vMod, vPow, vNeg, vIAdd, vIMul, vGt, vLt, vLe, vGe, lt2, ltP, vEq, vNe, eq_ii, eq_ss, eq_bb, eq_nn, vIx, seqP, lstP, newT, vSet, vLen, lenP, vAbs, vMax, vMin, cInt, vIsi, ty_non, ty_bl, ty_int, ty_str, ty_tup, ty_fl, Out.bind_ok, Out.bind_bad, wp_ok, wp_bind, List.getElem?_cons_zero, List.getElem?_cons_succ, List.getElem?_nil, List.set_cons_zero, List.set_cons_succ, List.append_nil, Option.map_some, Option.map_none, Option.bind_some, Option.bind_none, ga, ga0, gs, gs0, List.append_assoc, Nat.add_assoc, newL, LN, Nat.reduceLeDiff, Nat.reduceLT, kit_ss, kit_ts, kit_ls, kit_bs, kit_is, kit_ns, reduceCtorEq, a30, a31, a32, i30, i31, i32, decide_eq_true_eq, ne_eq, Int.reduceLT, Int.reduceLE, Int.reduceNeg, Int.reducePow, Int.reduceToNat, Int.reduceEq, Int.reduceNe, mulOk_l, List.length_set, List.length_append, imp_false, not_false_eq_true, implies_true, if_true, if_false, ite_true, ite_false, Bool.false_eq_true, Bool.not_true, Bool.not_false, forall_const, eq_self, and_true, true_and, and_self, PV.int.injEq, PV.str.injEq, PV.bl.injEq, decide_true, decide_false, hx, hc, mdS, e10, e35, e92, e39, e34, q_oc, q_sc, q_dc, q_od, q_sd, q_so, q_do, q_os, q_ds, is_ln, is_nn, isn_ln, isn_nn, dk_s, dk_d, v_in, v_nin, hT, hA, k3, q, q2]
      refine ⟨_, rfl, ?_⟩
      rw [show stp ⟨fd, some w, .dbl, false⟩ c = ⟨fd, some (w ++ [(c, false)]), .dbl, false⟩ by simp [stp, q, q2]]
      exact ri_set (m := ⟨fd, some (w ++ [(c, false)]), .dbl, false⟩) hf (by rw [List.getElem?_set_ne k2]; exact hfS) ⟨k, rfl, k1, k2, by rw [List.getElem?_set_self hkl, List.map_append]; rfl⟩ (fun j hj => by rw [List.getElem?_set_ne (by omega)]; exact hk j hj) (by rw [List.length_set]; exact hn)
end Lw

namespace Lw
open PySem L2 G TL

def resM (m : Mc) : Option (List Wd) := if m.md = .sgl ∨ m.md = .dbl ∨ m.es = true then none else some (m.fd ++ m.sg.toList)
theorem vin_o (S : Store) : vIn (.str (Str.ofString "out")) (.tup [.str (Str.ofString "single"), .str (Str.ofString "double")]) S = .ok (.bl false) S := by kernel_rfl
theorem vin_c (S : Store) : vIn (.str (Str.ofString "comment")) (.tup [.str (Str.ofString "single"), .str (Str.ofString "double")]) S = .ok (.bl false) S := by kernel_rfl
theorem vin_s (S : Store) : vIn (.str (Str.ofString "single")) (.tup [.str (Str.ofString "single"), .str (Str.ofString "double")]) S = .ok (.bl true) S := by kernel_rfl
theorem vin_d (S : Store) : vIn (.str (Str.ofString "double")) (.tup [.str (Str.ofString "single"), .str (Str.ofString "double")]) S = .ok (.bl true) S := by kernel_rfl
def ReadP (S : Store) (l : List Nat) (v : G.PV) (S' : Store) : Prop := (∀ j, j < S.length → S'[j]? = S[j]?) ∧ S.length ≤ S'.length ∧ match resM (runM l) with
  | some ws => ∃ f, v = .loc f ∧ S.length ≤ f ∧ S'[f]? = some (.lst (ws.map wd))
  | none => ∃ b, v = .int b
theorem rng_ok {n : Nat} {S : Store} (h : n < 4000000000) : rngOf [.int (n : Int)] S = .ok (srcSeq (rangeP 0 (n : Int))) S := by
  simp only [rngOf]
  rw [if_pos]
  omega
theorem iRange_of {fs : SA} {τ : En} {S S1 : Store} {xs : List G.PV} (h : fs τ S = .ok xs S1) : iRange fs τ S = rngOf xs S1 := by
  unfold iRange
  rw [h, Out.bind_ok]
theorem range_get {n i : Nat} {y : G.PV} (h : (rangeP 0 (n : Int))[i]? = some y) : i < n ∧ y = .int (i : Int) := by
  unfold rangeP at h
  rw [List.getElem?_map] at h
  cases e : (List.range ((n : Int) - 0).toNat)[i]? with
  | none => rw [e] at h; cases h
  | some t =>
    rw [e] at h
    obtain ⟨h1, e2⟩ := List.getElem?_eq_some_iff.mp e
    rw [List.getElem_range] at e2
    subst e2
    rw [List.length_range] at h1
    exact ⟨by omega, by rw [← Option.some.inj h]; show G.PV.int (0 + (i : Int)) = _; rw [Int.zero_add]⟩
theorem range_len (n : Nat) : (rangeP 0 (n : Int)).length = n := by
  unfold rangeP
  rw [List.length_map, List.length_range]
  omega
theorem read_ok {x : Str} (hx : x.length ≤ 2000) {S : Store} : Wp (F__law_read [.str x] S) (ReadP S (tl x)) := by
  have hxl : x.length ≤ 1000000 := by omega
  have hcs : x.length = (tl x).length := len_tl x
  rw [F__law_read, wp_mkF, wp_seq]
  simp only [mkF, endF, startP, List.map_cons, List.map_nil, List.length_cons, List.length_nil, List.replicate, List.cons_append, List.nil_append, Nat.sub_zero, Nat.zero_add, Nat.reduceAdd, Nat.reduceSub, sSeq, sIf, sAsg, sRet, sRetN, sDrop, sNext, sBrk, sCont, sAug, stName, stSub, stTup, stCons, stNil, eVar, eC, eUn, eBin, eArg, eLst, eTup, aNil, aCons, eIf, eAnd, eOr, eNot, eChain, bChain, bCmp, bVal, bNot, bAnd, bOr, bTrue, eSl, oNone, oSome, eCall, eCall0, callF, eM, oBl, oB, oT, tr_bl, tr_int, tr_non, tr_tup, isT_str, beq_self_eq_true, vAdd, vSub, vMul, vDiv, vMod, vPow, vNeg, vIAdd, vIMul, vGt, vLt, vLe, vGe, lt2, ltP, vEq, vNe, eq_ii, eq_ss, eq_bb, eq_nn, vIx, seqP, lstP, newT, vSet, vLen, lenP, vAbs, vMax, vMin, cInt, vIsi, ty_non, ty_bl, ty_int, ty_str, ty_tup, ty_fl, Out.bind_ok, Out.bind_bad, wp_ok, wp_bind, List.getElem?_cons_zero, List.getElem?_cons_succ, List.getElem?_nil, List.set_cons_zero, List.set_cons_succ, List.append_nil, Option.map_some, Option.map_none, Option.bind_some, Option.bind_none, ga, ga0, gs, gs0, List.append_assoc, Nat.add_assoc, newL, LN, Nat.reduceLeDiff, Nat.reduceLT, kit_ss, kit_ts, kit_ls, kit_bs, kit_is, kit_ns, reduceCtorEq, a30, a31, a32, i30, i31, i32, decide_eq_true_eq, ne_eq, Int.reduceLT, Int.reduceLE, Int.reduceNeg, Int.reducePow, Int.reduceToNat, Int.reduceEq, Int.reduceNe, mulOk_l, List.length_set, List.length_append, imp_false, not_false_eq_true, implies_true, if_true, if_false, ite_true, ite_false, Bool.false_eq_true, Bool.not_true, Bool.not_false, forall_const, eq_self, and_true, true_and, and_self, PV.int.injEq, PV.str.injEq, PV.bl.injEq, decide_true, decide_false]
  have hi : (iRange (aCons (eArg vLen (aCons (eVar 0) aNil)) aNil)) [some (.str x), some (.loc S.length), some .non, some (.str (Str.ofString "out")), some (.int (-1)), some (.bl false), none, none] (S ++ [.lst []]) = .ok (srcSeq (rangeP 0 (x.length : Int))) (S ++ [.lst []]) := by
    exact (iRange_of (xs := [.int (x.length : Int)]) (S1 := S ++ [.lst []]) (by simp only [mkF, endF, startP, List.map_cons, List.map_nil, List.length_cons, List.length_nil, List.replicate, List.cons_append, List.nil_append, Nat.sub_zero, Nat.zero_add, Nat.reduceAdd, Nat.reduceSub, sSeq, sIf, sAsg, sRet, sRetN, sDrop, sNext, sBrk, sCont, sAug, stName, stSub, stTup, stCons, stNil, eVar, eC, eUn, eBin, eArg, eLst, eTup, aNil, aCons, eIf, eAnd, eOr, eNot, eChain, bChain, bCmp, bVal, bNot, bAnd, bOr, bTrue, eSl, oNone, oSome, eCall, eCall0, callF, eM, oBl, oB, oT, tr_bl, tr_int, tr_non, tr_tup, isT_str, beq_self_eq_true, vAdd, vSub, vMul, vDiv, vMod, vPow, vNeg, vIAdd, vIMul, vGt, vLt, vLe, vGe, lt2, ltP, vEq, vNe, eq_ii, eq_ss, eq_bb, eq_nn, vIx, seqP, lstP, newT, vSet, vLen, lenP, vAbs, vMax, vMin, cInt, vIsi, ty_non, ty_bl, ty_int, ty_str, ty_tup, ty_fl, Out.bind_ok, Out.bind_bad, wp_ok, wp_bind, List.getElem?_cons_zero, List.getElem?_cons_succ, List.getElem?_nil, List.set_cons_zero, List.set_cons_succ, List.append_nil, Option.map_some, Option.map_none, Option.bind_some, Option.bind_none, ga, ga0, gs, gs0, List.append_assoc, Nat.add_assoc, newL, LN, Nat.reduceLeDiff, Nat.reduceLT, kit_ss, kit_ts, kit_ls, kit_bs, kit_is, kit_ns, reduceCtorEq, a30, a31, a32, i30, i31, i32, decide_eq_true_eq, ne_eq, Int.reduceLT, Int.reduceLE, Int.reduceNeg, Int.reducePow, Int.reduceToNat, Int.reduceEq, Int.reduceNe, mulOk_l, List.length_set, List.length_append, imp_false, not_false_eq_true, implies_true, if_true, if_false, ite_true, ite_false, Bool.false_eq_true, Bool.not_true, Bool.not_false, forall_const, eq_self, and_true, true_and, and_self, PV.int.injEq, PV.str.injEq, PV.bl.injEq, decide_true, decide_false, hxl])).trans (rng_ok (by omega))
  refine for_inv (rangeP 0 (x.length : Int)) hi (fun i τ S' => RI x S.length S (runM ((tl x).take i)) τ S') (by rw [range_len]; show _ < 1000000; omega) ?_ (fun _ _ _ _ => rfl) ?_ ?_
  · exact ri_set (m := mc0) (f := S.length) (sv := .non) (b := -1) (v6 := none) (v7 := none) (Nat.le_refl _) (by rw [ga0]; rfl) rfl (fun j hj => by rw [List.getElem?_append_left hj]) (by rw [List.length_append]; omega)
  · intro i y τ S' hy hI
    obtain ⟨hi, rfl⟩ := range_get hy
    rw [hcs] at hi
    have hc : (tl x)[i]? = some (tl x)[i] := List.getElem?_eq_getElem hi
    have mk := mok ((tl x).take i)
    rw [List.length_take, Nat.min_eq_left (by omega)] at mk
    simp only [stName, wp_ok]
    refine (rd_step hI mk (by omega) hxl (atI_nat hc)).imp fun fl S2 ⟨τ', e, h⟩ => ⟨τ', .inl e, ?_⟩
    rw [run_take hc]
    exact h
  · rintro τ S' ⟨⟨f, sv, b, v6, v7, rfl, hf, hfS, hsg⟩, hk, hn⟩
    have e1 : (tl x).take (rangeP 0 (x.length : Int)).length = tl x := by rw [range_len, hcs, List.take_length]
    rw [e1] at hfS hsg ⊢
    rw [hcs] at hx
    have M := mok (tl x)
    unfold ReadP
    generalize runM (tl x) = m at hfS hsg M ⊢
    obtain ⟨fd, sg, md, es⟩ := m
    obtain ⟨h1, h2, h3, h4, h5, h6⟩ := M
    dsimp only at h1 h2 h3 h4 h5 h6 hfS hsg
    have hfl : f < S'.length := (List.getElem?_eq_some_iff.mp hfS).1
    have hfA : ∀ T, (S' ++ T)[f]? = some (.lst (fd.map wd)) := fun T => by rw [List.getElem?_append_left hfl]; exact hfS
    have hkA : ∀ (T : Store) j, j < S.length → (S' ++ T)[j]? = S[j]? := fun T j hj => by rw [List.getElem?_append_left (by omega)]; exact hk j hj
    have hnA : ∀ (T : Store), S.length ≤ (S' ++ T).length := fun T => by rw [List.length_append]; omega
    have hF0 : (fd.map wd).length + 0 ≤ 1000000 := by rw [List.length_map]; omega
    have hF1 : (fd.map wd).length + 1 ≤ 1000000 := by rw [List.length_map]; omega
    cases es with
    | true =>
      have hr : resM ⟨fd, sg, md, true⟩ = none := if_pos (.inr (.inr rfl))
      rw [hr]
      rcases h1 rfl with rfl | rfl
      · simp only [mkF, endF, startP, List.map_cons, List.map_nil, List.length_cons, List.length_nil, List.replicate, List.cons_append, List.nil_append, Nat.sub_zero, Nat.zero_add, Nat.reduceAdd, Nat.reduceSub, sSeq, sIf, sAsg, sRet, sRetN, sDrop, sNext, sBrk, sCont, sAug, stName, stSub, stTup, stCons, stNil, eVar, eC, eUn, eBin, eArg, eLst, eTup, aNil, aCons, eIf, eAnd, eOr, eNot, eChain, bChain, bCmp, bVal, bNot, bAnd, bOr, bTrue, eSl, oNone, oSome, eCall, eCall0, callF, eM, oBl, oB, oT, tr_bl, tr_int, tr_non, tr_tup, isT_str, beq_self_eq_true, vAdd, vSub, vMul, vDiv, vMod, vPow, vNeg, vIAdd, vIMul, vGt, vLt, vLe, vGe, lt2, ltP, vEq, vNe, eq_ii, eq_ss, eq_bb, eq_nn, vIx, seqP, lstP, newT, vSet, vLen, lenP, vAbs, vMax, vMin, cInt, vIsi, ty_non, ty_bl, ty_int, ty_str, ty_tup, ty_fl, Out.bind_ok, Out.bind_bad, wp_ok, wp_bind, List.getElem?_cons_zero, List.getElem?_cons_succ, List.getElem?_nil, List.set_cons_zero, List.set_cons_succ, List.append_nil, Option.map_some, Option.map_none, Option.bind_some, Option.bind_none, ga, ga0, gs, gs0, List.append_assoc, Nat.add_assoc, newL, LN, Nat.reduceLeDiff, Nat.reduceLT, kit_ss, kit_ts, kit_ls, kit_bs, kit_is, kit_ns, reduceCtorEq, a30, a31, a32, i30, i31, i32, decide_eq_true_eq, ne_eq, Int.reduceLT, Int.reduceLE, Int.reduceNeg, Int.reducePow, Int.reduceToNat, Int.reduceEq, Int.reduceNe, mulOk_l, List.length_set, List.length_append, imp_false, not_false_eq_true, implies_true, if_true, if_false, ite_true, ite_false, Bool.false_eq_true, Bool.not_true, Bool.not_false, forall_const, eq_self, and_true, true_and, and_self, PV.int.injEq, PV.str.injEq, PV.bl.injEq, decide_true, decide_false, mdS, vin_o]
        exact ⟨hk, hn, b, rfl⟩
      · simp only [mkF, endF, startP, List.map_cons, List.map_nil, List.length_cons, List.length_nil, List.replicate, List.cons_append, List.nil_append, Nat.sub_zero, Nat.zero_add, Nat.reduceAdd, Nat.reduceSub, sSeq, sIf, sAsg, sRet, sRetN, sDrop, sNext, sBrk, sCont, sAug, stName, stSub, stTup, stCons, stNil, eVar, eC, eUn, eBin, eArg, eLst, eTup, aNil, aCons, eIf, eAnd, eOr, eNot, eChain, bChain, bCmp, bVal, bNot, bAnd, bOr, bTrue, eSl, oNone, oSome, eCall, eCall0, callF, eM, oBl, oB, oT, tr_bl, tr_int, tr_non, tr_tup, isT_str, beq_self_eq_true, vAdd, vSub, vMul, vDiv, vMod, vPow, vNeg, vIAdd, vIMul, vGt, vLt, vLe, vGe, lt2, ltP, vEq, vNe, eq_ii, eq_ss, eq_bb, eq_nn, vIx, seqP, lstP, newT, vSet, vLen, lenP, vAbs, vMax, vMin, cInt, vIsi, ty_non, ty_bl, ty_int, ty_str, ty_tup, ty_fl, Out.bind_ok, Out.bind_bad, wp_ok, wp_bind, List.getElem?_cons_zero, List.getElem?_cons_succ, List.getElem?_nil, List.set_cons_zero, List.set_cons_succ, List.append_nil, Option.map_some, Option.map_none, Option.bind_some, Option.bind_none, ga, ga0, gs, gs0, List.append_assoc, Nat.add_assoc, newL, LN, Nat.reduceLeDiff, Nat.reduceLT, kit_ss, kit_ts, kit_ls, kit_bs, kit_is, kit_ns, reduceCtorEq, a30, a31, a32, i30, i31, i32, decide_eq_true_eq, ne_eq, Int.reduceLT, Int.reduceLE, Int.reduceNeg, Int.reducePow, Int.reduceToNat, Int.reduceEq, Int.reduceNe, mulOk_l, List.length_set, List.length_append, imp_false, not_false_eq_true, implies_true, if_true, if_false, ite_true, ite_false, Bool.false_eq_true, Bool.not_true, Bool.not_false, forall_const, eq_self, and_true, true_and, and_self, PV.int.injEq, PV.str.injEq, PV.bl.injEq, decide_true, decide_false, mdS, vin_d]
        exact ⟨hk, hn, b, rfl⟩
    | false =>
      cases md with
      | sgl =>
        have hr : resM ⟨fd, sg, .sgl, false⟩ = none := if_pos (.inl rfl)
        rw [hr]
        simp only [mkF, endF, startP, List.map_cons, List.map_nil, List.length_cons, List.length_nil, List.replicate, List.cons_append, List.nil_append, Nat.sub_zero, Nat.zero_add, Nat.reduceAdd, Nat.reduceSub, sSeq, sIf, sAsg, sRet, sRetN, sDrop, sNext, sBrk, sCont, sAug, stName, stSub, stTup, stCons, stNil, eVar, eC, eUn, eBin, eArg, eLst, eTup, aNil, aCons, eIf, eAnd, eOr, eNot, eChain, bChain, bCmp, bVal, bNot, bAnd, bOr, bTrue, eSl, oNone, oSome, eCall, eCall0, callF, eM, oBl, oB, oT, tr_bl, tr_int, tr_non, tr_tup, isT_str, beq_self_eq_true, vAdd, vSub, vMul, vDiv, vMod, vPow, vNeg, vIAdd, vIMul, vGt, vLt, vLe, vGe, lt2, ltP, vEq, vNe, eq_ii, eq_ss, eq_bb, eq_nn, vIx, seqP, lstP, newT, vSet, vLen, lenP, vAbs, vMax, vMin, cInt, vIsi, ty_non, ty_bl, ty_int, ty_str, ty_tup, ty_fl, Out.bind_ok, Out.bind_bad, wp_ok, wp_bind, List.getElem?_cons_zero, List.getElem?_cons_succ, List.getElem?_nil, List.set_cons_zero, List.set_cons_succ, List.append_nil, Option.map_some, Option.map_none, Option.bind_some, Option.bind_none, ga, ga0, gs, gs0, List.append_assoc, Nat.add_assoc, newL, LN, Nat.reduceLeDiff, Nat.reduceLT, kit_ss, kit_ts, kit_ls, kit_bs, kit_is, kit_ns, reduceCtorEq, a30, a31, a32, i30, i31, i32, decide_eq_true_eq, ne_eq, Int.reduceLT, Int.reduceLE, Int.reduceNeg, Int.reducePow, Int.reduceToNat, Int.reduceEq, Int.reduceNe, mulOk_l, List.length_set, List.length_append, imp_false, not_false_eq_true, implies_true, if_true, if_false, ite_true, ite_false, Bool.false_eq_true, Bool.not_true, Bool.not_false, forall_const, eq_self, and_true, true_and, and_self, PV.int.injEq, PV.str.injEq, PV.bl.injEq, decide_true, decide_false, mdS, vin_s]
        exact ⟨hk, hn, b, rfl⟩
      | dbl =>
        have hr : resM ⟨fd, sg, .dbl, false⟩ = none := if_pos (.inr (.inl rfl))
        rw [hr]
        simp only [mkF, endF, startP, List.map_cons, List.map_nil, List.length_cons, List.length_nil, List.replicate, List.cons_append, List.nil_append, Nat.sub_zero, Nat.zero_add, Nat.reduceAdd, Nat.reduceSub, sSeq, sIf, sAsg, sRet, sRetN, sDrop, sNext, sBrk, sCont, sAug, stName, stSub, stTup, stCons, stNil, eVar, eC, eUn, eBin, eArg, eLst, eTup, aNil, aCons, eIf, eAnd, eOr, eNot, eChain, bChain, bCmp, bVal, bNot, bAnd, bOr, bTrue, eSl, oNone, oSome, eCall, eCall0, callF, eM, oBl, oB, oT, tr_bl, tr_int, tr_non, tr_tup, isT_str, beq_self_eq_true, vAdd, vSub, vMul, vDiv, vMod, vPow, vNeg, vIAdd, vIMul, vGt, vLt, vLe, vGe, lt2, ltP, vEq, vNe, eq_ii, eq_ss, eq_bb, eq_nn, vIx, seqP, lstP, newT, vSet, vLen, lenP, vAbs, vMax, vMin, cInt, vIsi, ty_non, ty_bl, ty_int, ty_str, ty_tup, ty_fl, Out.bind_ok, Out.bind_bad, wp_ok, wp_bind, List.getElem?_cons_zero, List.getElem?_cons_succ, List.getElem?_nil, List.set_cons_zero, List.set_cons_succ, List.append_nil, Option.map_some, Option.map_none, Option.bind_some, Option.bind_none, ga, ga0, gs, gs0, List.append_assoc, Nat.add_assoc, newL, LN, Nat.reduceLeDiff, Nat.reduceLT, kit_ss, kit_ts, kit_ls, kit_bs, kit_is, kit_ns, reduceCtorEq, a30, a31, a32, i30, i31, i32, decide_eq_true_eq, ne_eq, Int.reduceLT, Int.reduceLE, Int.reduceNeg, Int.reducePow, Int.reduceToNat, Int.reduceEq, Int.reduceNe, mulOk_l, List.length_set, List.length_append, imp_false, not_false_eq_true, implies_true, if_true, if_false, ite_true, ite_false, Bool.false_eq_true, Bool.not_true, Bool.not_false, forall_const, eq_self, and_true, true_and, and_self, PV.int.injEq, PV.str.injEq, PV.bl.injEq, decide_true, decide_false, mdS, vin_d]
        exact ⟨hk, hn, b, rfl⟩
      | out =>
        cases sg with
        | none =>
          obtain rfl : sv = .non := hsg
          have hr : resM ⟨fd, none, .out, false⟩ = some fd := (if_neg (by simp)).trans (by simp)
          rw [hr]
          simp only [mkF, endF, startP, List.map_cons, List.map_nil, List.length_cons, List.length_nil, List.replicate, List.cons_append, List.nil_append, Nat.sub_zero, Nat.zero_add, Nat.reduceAdd, Nat.reduceSub, sSeq, sIf, sAsg, sRet, sRetN, sDrop, sNext, sBrk, sCont, sAug, stName, stSub, stTup, stCons, stNil, eVar, eC, eUn, eBin, eArg, eLst, eTup, aNil, aCons, eIf, eAnd, eOr, eNot, eChain, bChain, bCmp, bVal, bNot, bAnd, bOr, bTrue, eSl, oNone, oSome, eCall, eCall0, callF, eM, oBl, oB, oT, tr_bl, tr_int, tr_non, tr_tup, isT_str, beq_self_eq_true, vAdd, vSub, vMul, vDiv, vMod, vPow, vNeg, vIAdd, vIMul, vGt, vLt, vLe, vGe, lt2, ltP, vEq, vNe, eq_ii, eq_ss, eq_bb, eq_nn, vIx, seqP, lstP, newT, vSet, vLen, lenP, vAbs, vMax, vMin, cInt, vIsi, ty_non, ty_bl, ty_int, ty_str, ty_tup, ty_fl, Out.bind_ok, Out.bind_bad, wp_ok, wp_bind, List.getElem?_cons_zero, List.getElem?_cons_succ, List.getElem?_nil, List.set_cons_zero, List.set_cons_succ, List.append_nil, Option.map_some, Option.map_none, Option.bind_some, Option.bind_none, ga, ga0, gs, gs0, List.append_assoc, Nat.add_assoc, newL, LN, Nat.reduceLeDiff, Nat.reduceLT, kit_ss, kit_ts, kit_ls, kit_bs, kit_is, kit_ns, reduceCtorEq, a30, a31, a32, i30, i31, i32, decide_eq_true_eq, ne_eq, Int.reduceLT, Int.reduceLE, Int.reduceNeg, Int.reducePow, Int.reduceToNat, Int.reduceEq, Int.reduceNe, mulOk_l, List.length_set, List.length_append, imp_false, not_false_eq_true, implies_true, if_true, if_false, ite_true, ite_false, Bool.false_eq_true, Bool.not_true, Bool.not_false, forall_const, eq_self, and_true, true_and, and_self, PV.int.injEq, PV.str.injEq, PV.bl.injEq, decide_true, decide_false, mdS, vin_o, isn_nn, hfA, hF0]
          exact ⟨hkA _, by omega, _, rfl, by omega, by rw [ga]; rfl⟩
        | some w =>
          obtain ⟨k, rfl, k1, k2, k3⟩ := hsg
          have hV := vtup_l k3
          have hr : resM ⟨fd, some w, .out, false⟩ = some (fd ++ [w]) := (if_neg (by simp)).trans (by simp)
          rw [hr]
          simp only [mkF, endF, startP, List.map_cons, List.map_nil, List.length_cons, List.length_nil, List.replicate, List.cons_append, List.nil_append, Nat.sub_zero, Nat.zero_add, Nat.reduceAdd, Nat.reduceSub, sSeq, sIf, sAsg, sRet, sRetN, sDrop, sNext, sBrk, sCont, sAug, stName, stSub, stTup, stCons, stNil, eVar, eC, eUn, eBin, eArg, eLst, eTup, aNil, aCons, eIf, eAnd, eOr, eNot, eChain, bChain, bCmp, bVal, bNot, bAnd, bOr, bTrue, eSl, oNone, oSome, eCall, eCall0, callF, eM, oBl, oB, oT, tr_bl, tr_int, tr_non, tr_tup, isT_str, beq_self_eq_true, vAdd, vSub, vMul, vDiv, vMod, vPow, vNeg, vIAdd, vIMul, vGt, vLt, vLe, vGe, lt2, ltP, vEq, vNe, eq_ii, eq_ss, eq_bb, eq_nn, vIx, seqP, lstP, newT, vSet, vLen, lenP, vAbs, vMax, vMin, cInt, vIsi, ty_non, ty_bl, ty_int, ty_str, ty_tup, ty_fl, Out.bind_ok, Out.bind_bad, wp_ok, wp_bind, List.getElem?_cons_zero, List.getElem?_cons_succ, List.getElem?_nil, List.set_cons_zero, List.set_cons_succ, List.append_nil, Option.map_some, Option.map_none, Option.bind_some, Option.bind_none, ga, ga0, gs, gs0, List.append_assoc, Nat.add_assoc, newL, LN, Nat.reduceLeDiff, Nat.reduceLT, kit_ss, kit_ts, kit_ls, kit_bs, kit_is, kit_ns, reduceCtorEq, a30, a31, a32, i30, i31, i32, decide_eq_true_eq, ne_eq, Int.reduceLT, Int.reduceLE, Int.reduceNeg, Int.reducePow, Int.reduceToNat, Int.reduceEq, Int.reduceNe, mulOk_l, List.length_set, List.length_append, imp_false, not_false_eq_true, implies_true, if_true, if_false, ite_true, ite_false, Bool.false_eq_true, Bool.not_true, Bool.not_false, forall_const, eq_self, and_true, true_and, and_self, PV.int.injEq, PV.str.injEq, PV.bl.injEq, decide_true, decide_false, mdS, vin_o, isn_ln, hfA, hF1, hV]
          exact ⟨hkA _, by omega, _, rfl, by omega, by rw [ga, List.map_append]; rfl⟩
      | cmt =>
        cases sg with
        | none =>
          obtain rfl : sv = .non := hsg
          have hr : resM ⟨fd, none, .cmt, false⟩ = some fd := (if_neg (by simp)).trans (by simp)
          rw [hr]
          simp only [mkF, endF, startP, List.map_cons, List.map_nil, List.length_cons, List.length_nil, List.replicate, List.cons_append, List.nil_append, Nat.sub_zero, Nat.zero_add, Nat.reduceAdd, Nat.reduceSub, sSeq, sIf, sAsg, sRet, sRetN, sDrop, sNext, sBrk, sCont, sAug, stName, stSub, stTup, stCons, stNil, eVar, eC, eUn, eBin, eArg, eLst, eTup, aNil, aCons, eIf, eAnd, eOr, eNot, eChain, bChain, bCmp, bVal, bNot, bAnd, bOr, bTrue, eSl, oNone, oSome, eCall, eCall0, callF, eM, oBl, oB, oT, tr_bl, tr_int, tr_non, tr_tup, isT_str, beq_self_eq_true, vAdd, vSub, vMul, vDiv, vMod, vPow, vNeg, vIAdd, vIMul, vGt, vLt, vLe, vGe, lt2, ltP, vEq, vNe, eq_ii, eq_ss, eq_bb, eq_nn, vIx, seqP, lstP, newT, vSet, vLen, lenP, vAbs, vMax, vMin, cInt, vIsi, ty_non, ty_bl, ty_int, ty_str, ty_tup, ty_fl, Out.bind_ok, Out.bind_bad, wp_ok, wp_bind, List.getElem?_cons_zero, List.getElem?_cons_succ, List.getElem?_nil, List.set_cons_zero, List.set_cons_succ, List.append_nil, Option.map_some, Option.map_none, Option.bind_some, Option.bind_none, ga, ga0, gs, gs0, List.append_assoc, Nat.add_assoc, newL, LN, Nat.reduceLeDiff, Nat.reduceLT, kit_ss, kit_ts, kit_ls, kit_bs, kit_is, kit_ns, reduceCtorEq, a30, a31, a32, i30, i31, i32, decide_eq_true_eq, ne_eq, Int.reduceLT, Int.reduceLE, Int.reduceNeg, Int.reducePow, Int.reduceToNat, Int.reduceEq, Int.reduceNe, mulOk_l, List.length_set, List.length_append, imp_false, not_false_eq_true, implies_true, if_true, if_false, ite_true, ite_false, Bool.false_eq_true, Bool.not_true, Bool.not_false, forall_const, eq_self, and_true, true_and, and_self, PV.int.injEq, PV.str.injEq, PV.bl.injEq, decide_true, decide_false, mdS, vin_c, isn_nn, hfA, hF0]
          exact ⟨hkA _, by omega, _, rfl, by omega, by rw [ga]; rfl⟩
        | some w => cases h3 rfl
end Lw

namespace Lw
open PySem L2 G TL

theorem cps_get {x : Str} {i c : Nat} (h : (tl x)[i]? = some c) : x.cps.getD i 0 = c := PySem.StrLaws.getD_of_getElem? h
theorem plain_ok {y : Str} (hy : y.length ≤ 2000) (S : Store) : ∃ T, F_plain [.str y] S = .ok (wd ((tl y).map fun c => (c, false))) (S ++ T) := by
  have e := lc_map (fi := iVal (eVar 0)) (g := ctName 1) (elt := eTup (aCons (eVar 1) (aCons (eC (.bl false)) aNil))) (vs := [1]) (τ := [some (.str y), none]) (S := S) (S1 := S) (xs := strP y) (fun z => .tup [z, .bl false]) rfl (by rw [strP_length]; show _ < 1000000; omega) fun z hz => ⟨_, rfl, fun S => rfl⟩
  refine ⟨[.lst ((strP y).map fun z => .tup [z, .bl false])], ?_⟩
  have hV : vTuple [.loc S.length] (S ++ [.lst ((strP y).map fun z => .tup [z, .bl false])]) = .ok (.tup ((strP y).map fun z => .tup [z, .bl false])) (S ++ [.lst ((strP y).map fun z => .tup [z, .bl false])]) := vtup_l (snoc_get S _)
  have hW : wd ((tl y).map fun c => (c, false)) = .tup ((strP y).map fun z => .tup [z, .bl false]) := by
    unfold wd strP
    rw [List.map_map, List.map_map]
    rfl
  simp only [F_plain, mkF, endF, startP, List.map_cons, List.map_nil, List.length_cons, List.length_nil, List.replicate, List.cons_append, List.nil_append, Nat.sub_zero, Nat.zero_add, Nat.reduceAdd, Nat.reduceSub, sSeq, sIf, sAsg, sRet, sRetN, sDrop, sNext, sBrk, sCont, sAug, stName, stSub, stTup, stCons, stNil, eVar, eC, eUn, eBin, eArg, eLst, eTup, aNil, aCons, eIf, eAnd, eOr, eNot, eChain, bChain, bCmp, bVal, bNot, bAnd, bOr, bTrue, eSl, oNone, oSome, eCall, eCall0, callF, eM, oBl, oB, oT, tr_bl, tr_int, tr_non, tr_tup, isT_str, beq_self_eq_true, vAdd, vSub, vMul, vDiv, vMod, vPow, vNeg, vIAdd, vIMul, vGt, vLt, vLe, vGe, lt2, ltP, vEq, vNe, eq_ii, eq_ss, eq_bb, eq_nn, vIx, seqP, lstP, newT, vSet, vLen, lenP, vAbs, vMax, vMin, cInt, vIsi, ty_non, ty_bl, ty_int, ty_str, ty_tup, ty_fl, Out.bind_ok, Out.bind_bad, wp_ok, wp_bind, List.getElem?_cons_zero, List.getElem?_cons_succ, List.getElem?_nil, List.set_cons_zero, List.set_cons_succ, List.append_nil, Option.map_some, Option.map_none, Option.bind_some, Option.bind_none, ga, ga0, gs, gs0, List.append_assoc, Nat.add_assoc, newL, LN, Nat.reduceLeDiff, Nat.reduceLT, kit_ss, kit_ts, kit_ls, kit_bs, kit_is, kit_ns, reduceCtorEq, a30, a31, a32, i30, i31, i32, decide_eq_true_eq, ne_eq, Int.reduceLT, Int.reduceLE, Int.reduceNeg, Int.reducePow, Int.reduceToNat, Int.reduceEq, Int.reduceNe, mulOk_l, List.length_set, List.length_append, imp_false, not_false_eq_true, implies_true, if_true, if_false, ite_true, ite_false, Bool.false_eq_true, Bool.not_true, Bool.not_false, forall_const, eq_self, and_true, true_and, and_self, PV.int.injEq, PV.str.injEq, PV.bl.injEq, decide_true, decide_false, e, hV, hW]
theorem find_ok (x : Str) (d : Nat) (s : Str) (hs : s = ⟨#[d]⟩) {a : Nat} (ha : a ≤ x.length) :
    (Txt.find3 x s (a : Int) = -1 ∧ ∀ k, a ≤ k → (tl x)[k]? ≠ some d) ∨ ∃ e : Nat, Txt.find3 x s (a : Int) = (e : Int) ∧ a ≤ e ∧ (tl x)[e]? = some d ∧ ∀ k, a ≤ k → k < e → (tl x)[k]? ≠ some d := by
  subst hs
  have hf : PySem.fromIndex x.length (a : Int) = a := by
    unfold PySem.fromIndex
    rw [if_neg (by omega)]
    omega
  rcases PySem.StrLaws.find3_spec x d (a : Int) with ⟨h1, h2⟩ | ⟨e, h1, h2, h3, h4, h5⟩
  · rw [hf] at h2
    refine .inl ⟨h1, fun k hk hc => ?_⟩
    have hl := (List.getElem?_eq_some_iff.mp hc).1
    rw [← len_tl] at hl
    exact h2 k hk hl (cps_get hc)
  · rw [hf] at h2 h5
    refine .inr ⟨e, h1, h2, PySem.StrLaws.getElem?_of_getD h3 h4, fun k hk hke hc => h5 k hk hke (cps_get hc)⟩
theorem s_nl : (Str.ofString "\n") = ⟨#[10]⟩ := by decide +kernel
theorem s_sq : (Str.ofString "'") = ⟨#[39]⟩ := by decide +kernel
theorem cend_ok {x : Str} (hx : x.length ≤ 2000) {a : Nat} (ha : a ≤ x.length) (S : Store) : ∃ e : Nat, F_comment_end [.str x, .int (a : Int)] S = .ok (.int (e : Int)) S ∧ a ≤ e ∧ e ≤ x.length ∧ (e = x.length ∨ (tl x)[e]? = some 10) ∧ ∀ k, a ≤ k → k < e → (tl x)[k]? ≠ some 10 := by
  have hxl : x.length ≤ 1000000 := by omega
  rcases find_ok x 10 (Str.ofString "\n") s_nl ha with ⟨h1, h2⟩ | ⟨e, h1, h2, h3, h4⟩
  · refine ⟨x.length, ?_, ha, Nat.le_refl _, .inl rfl, fun k hk _ => h2 k hk⟩
    simp only [F_comment_end, mkF, endF, startP, List.map_cons, List.map_nil, List.length_cons, List.length_nil, List.replicate, List.cons_append, List.nil_append, Nat.sub_zero, Nat.zero_add, Nat.reduceAdd, Nat.reduceSub, sSeq, sIf, sAsg, sRet, sRetN, sDrop, sNext, sBrk, sCont, sAug, stName, stSub, stTup, stCons, stNil, eVar, eC, eUn, eBin, eArg, eLst, eTup, aNil, aCons, eIf, eAnd, eOr, eNot, eChain, bChain, bCmp, bVal, bNot, bAnd, bOr, bTrue, eSl, oNone, oSome, eCall, eCall0, callF, eM, oBl, oB, oT, tr_bl, tr_int, tr_non, tr_tup, isT_str, beq_self_eq_true, vAdd, vSub, vMul, vDiv, vMod, vPow, vNeg, vIAdd, vIMul, vGt, vLt, vLe, vGe, lt2, ltP, vEq, vNe, eq_ii, eq_ss, eq_bb, eq_nn, vIx, seqP, lstP, newT, vSet, vLen, lenP, vAbs, vMax, vMin, cInt, vIsi, ty_non, ty_bl, ty_int, ty_str, ty_tup, ty_fl, Out.bind_ok, Out.bind_bad, wp_ok, wp_bind, List.getElem?_cons_zero, List.getElem?_cons_succ, List.getElem?_nil, List.set_cons_zero, List.set_cons_succ, List.append_nil, Option.map_some, Option.map_none, Option.bind_some, Option.bind_none, ga, ga0, gs, gs0, List.append_assoc, Nat.add_assoc, newL, LN, Nat.reduceLeDiff, Nat.reduceLT, kit_ss, kit_ts, kit_ls, kit_bs, kit_is, kit_ns, reduceCtorEq, a30, a31, a32, i30, i31, i32, decide_eq_true_eq, ne_eq, Int.reduceLT, Int.reduceLE, Int.reduceNeg, Int.reducePow, Int.reduceToNat, Int.reduceEq, Int.reduceNe, mulOk_l, List.length_set, List.length_append, imp_false, not_false_eq_true, implies_true, if_true, if_false, ite_true, ite_false, Bool.false_eq_true, Bool.not_true, Bool.not_false, forall_const, eq_self, and_true, true_and, and_self, PV.int.injEq, PV.str.injEq, PV.bl.injEq, decide_true, decide_false, mFindA, h1, hxl]
  · have hl := (List.getElem?_eq_some_iff.mp h3).1
    rw [← len_tl] at hl
    refine ⟨e, ?_, h2, by omega, .inr h3, h4⟩
    have : ¬ ((e : Int) < 0) := by omega
    simp only [F_comment_end, mkF, endF, startP, List.map_cons, List.map_nil, List.length_cons, List.length_nil, List.replicate, List.cons_append, List.nil_append, Nat.sub_zero, Nat.zero_add, Nat.reduceAdd, Nat.reduceSub, sSeq, sIf, sAsg, sRet, sRetN, sDrop, sNext, sBrk, sCont, sAug, stName, stSub, stTup, stCons, stNil, eVar, eC, eUn, eBin, eArg, eLst, eTup, aNil, aCons, eIf, eAnd, eOr, eNot, eChain, bChain, bCmp, bVal, bNot, bAnd, bOr, bTrue, eSl, oNone, oSome, eCall, eCall0, callF, eM, oBl, oB, oT, tr_bl, tr_int, tr_non, tr_tup, isT_str, beq_self_eq_true, vAdd, vSub, vMul, vDiv, vMod, vPow, vNeg, vIAdd, vIMul, vGt, vLt, vLe, vGe, lt2, ltP, vEq, vNe, eq_ii, eq_ss, eq_bb, eq_nn, vIx, seqP, lstP, newT, vSet, vLen, lenP, vAbs, vMax, vMin, cInt, vIsi, ty_non, ty_bl, ty_int, ty_str, ty_tup, ty_fl, Out.bind_ok, Out.bind_bad, wp_ok, wp_bind, List.getElem?_cons_zero, List.getElem?_cons_succ, List.getElem?_nil, List.set_cons_zero, List.set_cons_succ, List.append_nil, Option.map_some, Option.map_none, Option.bind_some, Option.bind_none, ga, ga0, gs, gs0, List.append_assoc, Nat.add_assoc, newL, LN, Nat.reduceLeDiff, Nat.reduceLT, kit_ss, kit_ts, kit_ls, kit_bs, kit_is, kit_ns, reduceCtorEq, a30, a31, a32, i30, i31, i32, decide_eq_true_eq, ne_eq, Int.reduceLT, Int.reduceLE, Int.reduceNeg, Int.reducePow, Int.reduceToNat, Int.reduceEq, Int.reduceNe, mulOk_l, List.length_set, List.length_append, imp_false, not_false_eq_true, implies_true, if_true, if_false, ite_true, ite_false, Bool.false_eq_true, Bool.not_true, Bool.not_false, forall_const, eq_self, and_true, true_and, and_self, PV.int.injEq, PV.str.injEq, PV.bl.injEq, decide_true, decide_false, mFindA, h1, this, hxl]
end Lw

namespace Lw
open PySem L2 G TL

abbrev Ma (cs : List Nat) (i : Nat) : Mc := runM (cs.take i)
theorem ma_step {cs : List Nat} {i c : Nat} (h : cs[i]? = some c) : Ma cs (i + 1) = stp (Ma cs i) c := run_take h
theorem ma_end (cs : List Nat) : Ma cs cs.length = runM cs := by unfold Ma; rw [List.take_length]
structure PreB (cs : List Nat) (a : Nat) (ws : List Wd) : Prop where
  le : a ≤ cs.length
  es : (Ma cs a).es = false
  ws : (Ma cs a).fd ++ (Ma cs a).sg.toList = ws
  md : ((Ma cs a).md = .out ∧ ((Ma cs a).sg = none ∨ a = cs.length ∨ cs[a]? = some 32 ∨ cs[a]? = some 10)) ∨ ((Ma cs a).md = .cmt ∧ (Ma cs a).sg = none ∧ (a = cs.length ∨ cs[a]? = some 10))
theorem pre_gap {cs : List Nat} {a c : Nat} {ws : List Wd} (h : PreB cs a ws) (hc : cs[a]? = some c) (hg : c = 32 ∨ c = 10) : PreB cs (a + 1) ws := by
  have hl := (List.getElem?_eq_some_iff.mp hc).1
  have e := ma_step hc
  obtain ⟨h1, h2, h3, h4⟩ := h
  generalize Ma cs a = m at e h2 h3 h4
  obtain ⟨fd, sg, md, es⟩ := m
  dsimp only at h2 h3 h4
  subst h2
  rcases h4 with ⟨rfl, h4⟩ | ⟨rfl, rfl, h4⟩
  · have e2 : Ma cs (a + 1) = ⟨fd ++ sg.toList, none, .out, false⟩ := by rw [e]; simp [stp, hg]
    refine ⟨hl, by rw [e2], by rw [e2]; simpa using h3, .inl (by rw [e2]; exact ⟨rfl, .inl rfl⟩)⟩
  · have h10 : c = 10 := by
      rcases h4 with h4 | h4
      · omega
      · rw [hc] at h4; exact Option.some.inj h4
    have e2 : Ma cs (a + 1) = ⟨fd, none, .out, false⟩ := by rw [e]; simp [stp, h10]
    refine ⟨hl, by rw [e2], by rw [e2]; simpa using h3, .inl (by rw [e2]; exact ⟨rfl, .inl rfl⟩)⟩
theorem cmt_run {cs : List Nat} {a : Nat} {fd : List Wd} (h : Ma cs a = ⟨fd, none, .cmt, false⟩) : ∀ e, a ≤ e → e ≤ cs.length → (∀ k, a ≤ k → k < e → cs[k]? ≠ some 10) → Ma cs e = ⟨fd, none, .cmt, false⟩ := by
  intro e
  induction e with
  | zero => intro h1 h2 h3; rw [show a = 0 by omega] at h; exact h
  | succ e ih =>
    intro h1 h2 h3
    by_cases he : a = e + 1
    · rw [← he]; exact h
    · have i := ih (by omega) (by omega) fun k hk hke => h3 k hk (by omega)
      have hc : cs[e]? = some cs[e] := List.getElem?_eq_getElem (by omega)
      have hn := h3 e (by omega) (by omega)
      rw [hc] at hn
      rw [ma_step hc, i]
      simp [stp]
      intro z
      exact hn (by rw [z])
theorem pre_com {cs : List Nat} {a e : Nat} {ws : List Wd} (h : PreB cs a ws) (hc : cs[a]? = some 35) (he : a ≤ e) (hel : e ≤ cs.length) (hen : e = cs.length ∨ cs[e]? = some 10) (hk : ∀ k, a ≤ k → k < e → cs[k]? ≠ some 10) : PreB cs e ws := by
  have hl := (List.getElem?_eq_some_iff.mp hc).1
  have e1 := ma_step hc
  obtain ⟨h1, h2, h3, h4⟩ := h
  obtain ⟨m, hm⟩ : ∃ m, Ma cs a = m := ⟨_, rfl⟩
  obtain ⟨fd, sg, md, es⟩ := m
  rw [hm] at e1 h2 h3 h4
  dsimp only at h2 h3 h4
  subst h2
  rcases h4 with ⟨rfl, h4⟩ | ⟨rfl, rfl, h4⟩
  · have hs : sg = none := by
      rcases h4 with h | h | h | h
      · exact h
      · omega
      · rw [hc] at h; cases h
      · rw [hc] at h; cases h
    subst hs
    have e2 : Ma cs (a + 1) = ⟨fd, none, .cmt, false⟩ := by rw [e1]; simp [stp]
    have hlt : a + 1 ≤ e := by
      rcases hen with h | h
      · omega
      · by_cases q : a = e
        · rw [q, h] at hc; cases hc
        · omega
    have e3 := cmt_run e2 e hlt hel fun k hk1 hk2 => hk k (by omega) hk2
    refine ⟨hel, by rw [e3], by rw [e3]; exact h3, .inr (by rw [e3]; exact ⟨rfl, rfl, hen⟩)⟩
  · rcases h4 with h | h
    · omega
    · rw [hc] at h; cases h
def Begun (cs : List Nat) (b : Nat) : Prop := b = cs.length ∨ ∃ c, cs[b]? = some c ∧ c ≠ 32 ∧ c ≠ 10 ∧ c ≠ 35
theorem wbeg_ok {x : Str} (hx : x.length ≤ 2000) {a : Nat} {ws : List Wd} (h : PreB (tl x) a ws) (S : Store) : Wp (F_word_begin [.str x, .int (a : Int)] S) fun v S' => S' = S ∧ ∃ b : Nat, v = .int (b : Int) ∧ a ≤ b ∧ PreB (tl x) b ws ∧ Begun (tl x) b := by
  have hxl : x.length ≤ 1000000 := by omega
  have hcs : x.length = (tl x).length := len_tl x
  rw [F_word_begin, wp_mkF, wp_seq]
  simp only [startP, List.map_cons, List.map_nil, List.length_cons, List.length_nil, List.replicate, List.append_nil, Nat.sub_self, Nat.zero_add, Nat.reduceAdd]
  refine while_inv (m := x.length - a) (fun m τ S' => S' = S ∧ ∃ b : Nat, a ≤ b ∧ m = x.length - b ∧ τ = [some (.str x), some (.int (b : Int))] ∧ PreB (tl x) b ws) ⟨rfl, a, Nat.le_refl _, rfl, rfl, h⟩ (by omega) ?_
  rintro m τ S' ⟨rfl, b, hab, rfl, rfl, hB⟩
  have hbl := hB.le
  by_cases hb : b < x.length
  · have hc : (tl x)[b]? = some (tl x)[b] := List.getElem?_eq_getElem (by omega)
    generalize (tl x)[b] = c at hc
    have hat : atI x.cps.toList (b : Int) = some c := atI_nat hc
    have hlt : (b : Int) < (x.length : Int) := by omega
    by_cases q32 : c = 32 ∨ c = 10
    · have in1 : decide (c ∈ tl (Str.ofString " \n")) = true := decide_eq_true (by rw [g1]; rcases q32 with rfl | rfl <;> simp)
      have q35 : ¬ c = 35 := by rcases q32 with rfl | rfl <;> decide
      simp only [mkF, endF, startP, List.map_cons, List.map_nil, List.length_cons, List.length_nil, List.replicate, List.cons_append, List.nil_append, Nat.sub_zero, Nat.zero_add, Nat.reduceAdd, Nat.reduceSub, sSeq, sIf, sAsg, sRet, sRetN, sDrop, sNext, sBrk, sCont, sAug, stName, stSub, stTup, stCons, stNil, eVar, eC, eUn, eBin, eArg, eLst, eTup, aNil, aCons, eIf, eAnd, eOr, eNot, eChain, bChain, bCmp, bVal, bNot, bAnd, bOr, bTrue, eSl, oNone, oSome, eCall, eCall0, callF, eM, oBl, oB, oT, tr_bl, tr_int, tr_non, tr_tup, isT_str, beq_self_eq_true, vAdd, vSub, vMul, vDiv, vMod, vPow, vNeg, vIAdd, vIMul, vGt, vLt, vLe, vGe, lt2, ltP, vEq, vNe, eq_ii, eq_ss, eq_bb, eq_nn, vIx, seqP, lstP, newT, vSet, vLen, lenP, vAbs, vMax, vMin, cInt, vIsi, ty_non, ty_bl, ty_int, ty_str, ty_tup, ty_fl, Out.bind_ok, Out.bind_bad, wp_ok, wp_bind, List.getElem?_cons_zero, List.getElem?_cons_succ, List.getElem?_nil, List.set_cons_zero, List.set_cons_succ, List.append_nil, Option.map_some, Option.map_none, Option.bind_some, Option.bind_none, ga, ga0, gs, gs0, List.append_assoc, Nat.add_assoc, newL, LN, Nat.reduceLeDiff, Nat.reduceLT, kit_ss, kit_ts, kit_ls, kit_bs, kit_is, kit_ns, reduceCtorEq, a30, a31, a32, i30, i31, i32, decide_eq_true_eq, ne_eq, Int.reduceLT, Int.reduceLE, Int.reduceNeg, Int.reducePow, Int.reduceToNat, Int.reduceEq, Int.reduceNe, mulOk_l, List.length_set, List.length_append, imp_false, not_false_eq_true, implies_true, if_true, if_false, ite_true, ite_false, Bool.false_eq_true, Bool.not_true, Bool.not_false, forall_const, eq_self, and_true, true_and, and_self, PV.int.injEq, PV.str.injEq, PV.bl.injEq, decide_true, decide_false, hxl, hlt, hat, v_in, in1, e35, q35]
      refine .inl ⟨_, _, .inl rfl, ?_, b + 1, by omega, rfl, ?_, pre_gap hB hc q32⟩
      · omega
      · rfl
    · have in1 : decide (c ∈ tl (Str.ofString " \n")) = false := decide_eq_false (by rw [g1]; simpa using q32)
      by_cases q35 : c = 35
      · subst q35
        obtain ⟨e, h1, h2, h3, h4, h5⟩ := cend_ok hx (a := b) (by omega) S'
        simp only [mkF, endF, startP, List.map_cons, List.map_nil, List.length_cons, List.length_nil, List.replicate, List.cons_append, List.nil_append, Nat.sub_zero, Nat.zero_add, Nat.reduceAdd, Nat.reduceSub, sSeq, sIf, sAsg, sRet, sRetN, sDrop, sNext, sBrk, sCont, sAug, stName, stSub, stTup, stCons, stNil, eVar, eC, eUn, eBin, eArg, eLst, eTup, aNil, aCons, eIf, eAnd, eOr, eNot, eChain, bChain, bCmp, bVal, bNot, bAnd, bOr, bTrue, eSl, oNone, oSome, eCall, eCall0, callF, eM, oBl, oB, oT, tr_bl, tr_int, tr_non, tr_tup, isT_str, beq_self_eq_true, vAdd, vSub, vMul, vDiv, vMod, vPow, vNeg, vIAdd, vIMul, vGt, vLt, vLe, vGe, lt2, ltP, vEq, vNe, eq_ii, eq_ss, eq_bb, eq_nn, vIx, seqP, lstP, newT, vSet, vLen, lenP, vAbs, vMax, vMin, cInt, vIsi, ty_non, ty_bl, ty_int, ty_str, ty_tup, ty_fl, Out.bind_ok, Out.bind_bad, wp_ok, wp_bind, List.getElem?_cons_zero, List.getElem?_cons_succ, List.getElem?_nil, List.set_cons_zero, List.set_cons_succ, List.append_nil, Option.map_some, Option.map_none, Option.bind_some, Option.bind_none, ga, ga0, gs, gs0, List.append_assoc, Nat.add_assoc, newL, LN, Nat.reduceLeDiff, Nat.reduceLT, kit_ss, kit_ts, kit_ls, kit_bs, kit_is, kit_ns, reduceCtorEq, a30, a31, a32, i30, i31, i32, decide_eq_true_eq, ne_eq, Int.reduceLT, Int.reduceLE, Int.reduceNeg, Int.reducePow, Int.reduceToNat, Int.reduceEq, Int.reduceNe, mulOk_l, List.length_set, List.length_append, imp_false, not_false_eq_true, implies_true, if_true, if_false, ite_true, ite_false, Bool.false_eq_true, Bool.not_true, Bool.not_false, forall_const, eq_self, and_true, true_and, and_self, PV.int.injEq, PV.str.injEq, PV.bl.injEq, decide_true, decide_false, hxl, hlt, hat, v_in, in1, e35, h1]
        have hlt2 : b < e := by
          rcases h4 with h | h
          · omega
          · by_cases q : b = e
            · rw [q, h] at hc; cases hc
            · omega
        refine .inl ⟨_, _, .inl rfl, ?_, e, by omega, rfl, rfl, pre_com hB hc h2 (by omega) (by rw [← hcs]; exact h4) h5⟩
        omega
      · simp only [mkF, endF, startP, List.map_cons, List.map_nil, List.length_cons, List.length_nil, List.replicate, List.cons_append, List.nil_append, Nat.sub_zero, Nat.zero_add, Nat.reduceAdd, Nat.reduceSub, sSeq, sIf, sAsg, sRet, sRetN, sDrop, sNext, sBrk, sCont, sAug, stName, stSub, stTup, stCons, stNil, eVar, eC, eUn, eBin, eArg, eLst, eTup, aNil, aCons, eIf, eAnd, eOr, eNot, eChain, bChain, bCmp, bVal, bNot, bAnd, bOr, bTrue, eSl, oNone, oSome, eCall, eCall0, callF, eM, oBl, oB, oT, tr_bl, tr_int, tr_non, tr_tup, isT_str, beq_self_eq_true, vAdd, vSub, vMul, vDiv, vMod, vPow, vNeg, vIAdd, vIMul, vGt, vLt, vLe, vGe, lt2, ltP, vEq, vNe, eq_ii, eq_ss, eq_bb, eq_nn, vIx, seqP, lstP, newT, vSet, vLen, lenP, vAbs, vMax, vMin, cInt, vIsi, ty_non, ty_bl, ty_int, ty_str, ty_tup, ty_fl, Out.bind_ok, Out.bind_bad, wp_ok, wp_bind, List.getElem?_cons_zero, List.getElem?_cons_succ, List.getElem?_nil, List.set_cons_zero, List.set_cons_succ, List.append_nil, Option.map_some, Option.map_none, Option.bind_some, Option.bind_none, ga, ga0, gs, gs0, List.append_assoc, Nat.add_assoc, newL, LN, Nat.reduceLeDiff, Nat.reduceLT, kit_ss, kit_ts, kit_ls, kit_bs, kit_is, kit_ns, reduceCtorEq, a30, a31, a32, i30, i31, i32, decide_eq_true_eq, ne_eq, Int.reduceLT, Int.reduceLE, Int.reduceNeg, Int.reducePow, Int.reduceToNat, Int.reduceEq, Int.reduceNe, mulOk_l, List.length_set, List.length_append, imp_false, not_false_eq_true, implies_true, if_true, if_false, ite_true, ite_false, Bool.false_eq_true, Bool.not_true, Bool.not_false, forall_const, eq_self, and_true, true_and, and_self, PV.int.injEq, PV.str.injEq, PV.bl.injEq, decide_true, decide_false, hxl, hlt, hat, v_in, in1, e35, q35]
        exact .inr ⟨b, rfl, hab, hB, .inr ⟨c, hc, fun z => q32 (.inl z), fun z => q32 (.inr z), q35⟩⟩
  · have hlt : ¬ (b : Int) < (x.length : Int) := by omega
    simp only [mkF, endF, startP, List.map_cons, List.map_nil, List.length_cons, List.length_nil, List.replicate, List.cons_append, List.nil_append, Nat.sub_zero, Nat.zero_add, Nat.reduceAdd, Nat.reduceSub, sSeq, sIf, sAsg, sRet, sRetN, sDrop, sNext, sBrk, sCont, sAug, stName, stSub, stTup, stCons, stNil, eVar, eC, eUn, eBin, eArg, eLst, eTup, aNil, aCons, eIf, eAnd, eOr, eNot, eChain, bChain, bCmp, bVal, bNot, bAnd, bOr, bTrue, eSl, oNone, oSome, eCall, eCall0, callF, eM, oBl, oB, oT, tr_bl, tr_int, tr_non, tr_tup, isT_str, beq_self_eq_true, vAdd, vSub, vMul, vDiv, vMod, vPow, vNeg, vIAdd, vIMul, vGt, vLt, vLe, vGe, lt2, ltP, vEq, vNe, eq_ii, eq_ss, eq_bb, eq_nn, vIx, seqP, lstP, newT, vSet, vLen, lenP, vAbs, vMax, vMin, cInt, vIsi, ty_non, ty_bl, ty_int, ty_str, ty_tup, ty_fl, Out.bind_ok, Out.bind_bad, wp_ok, wp_bind, List.getElem?_cons_zero, List.getElem?_cons_succ, List.getElem?_nil, List.set_cons_zero, List.set_cons_succ, List.append_nil, Option.map_some, Option.map_none, Option.bind_some, Option.bind_none, ga, ga0, gs, gs0, List.append_assoc, Nat.add_assoc, newL, LN, Nat.reduceLeDiff, Nat.reduceLT, kit_ss, kit_ts, kit_ls, kit_bs, kit_is, kit_ns, reduceCtorEq, a30, a31, a32, i30, i31, i32, decide_eq_true_eq, ne_eq, Int.reduceLT, Int.reduceLE, Int.reduceNeg, Int.reducePow, Int.reduceToNat, Int.reduceEq, Int.reduceNe, mulOk_l, List.length_set, List.length_append, imp_false, not_false_eq_true, implies_true, if_true, if_false, ite_true, ite_false, Bool.false_eq_true, Bool.not_true, Bool.not_false, forall_const, eq_self, and_true, true_and, and_self, PV.int.injEq, PV.str.injEq, PV.bl.injEq, decide_true, decide_false, hxl, hlt]
    exact .inr ⟨b, rfl, hab, hB, .inl (by omega)⟩
end Lw

namespace Lw
open PySem L2 G TL

def Closed (cs : List Nat) : Prop := resM (runM cs) ≠ none
def PieceOk (cs : List Nat) (a : Nat) (fd : List Wd) (w : Wd) (S : Store) (v : G.PV) (S' : Store) : Prop :=
  ∃ y : Wd, ∃ e : Nat, v = .tup [wd y, .int (e : Int)] ∧ a < e ∧ e ≤ cs.length ∧ Ma cs e = ⟨fd, some (w ++ y), .out, false⟩ ∧ ∃ T, S' = S ++ T
theorem one_tl (c : Nat) : tl (⟨#[c]⟩ : Str) = [c] := rfl
theorem esc_ok {x : Str} (hx : x.length ≤ 2000) (hcl : Closed (tl x)) {a : Nat} {fd : List Wd} {sg : Option Wd} (h : Ma (tl x) a = ⟨fd, sg, .out, false⟩) (hc : (tl x)[a]? = some 92) (S : Store) :
    Wp (F_read_escaped [.str x, .int (a : Int)] S) (PieceOk (tl x) a fd (sg.getD []) S) := by
  have hxl : x.length ≤ 1000000 := by omega
  have hcs : x.length = (tl x).length := len_tl x
  have hl := (List.getElem?_eq_some_iff.mp hc).1
  have e1 : Ma (tl x) (a + 1) = ⟨fd, some (sg.getD []), .out, true⟩ := by rw [ma_step hc, h]; simp [stp]
  by_cases hb : a + 1 = (tl x).length
  · exfalso
    apply hcl
    rw [← ma_end, ← hb, e1]
    exact if_pos (.inr (.inr rfl))
  · have hc2 : (tl x)[a + 1]? = some (tl x)[a + 1] := List.getElem?_eq_getElem (by omega)
    generalize (tl x)[a + 1] = d at hc2
    have e2 : Ma (tl x) (a + 1 + 1) = ⟨fd, some (sg.getD [] ++ [(d, false)]), .out, false⟩ := by rw [ma_step hc2, e1]; simp [stp]
    have hat : atI x.cps.toList ((a : Int) + 1) = some d := atI_nat (j := a + 1) hc2
    have hne : ¬ ((a : Int) + 1 = (x.length : Int)) := by omega
    have hq : ((a : Int) + 1 == (x.length : Int)) = false := beq_eq_false_iff_ne.mpr hne
    obtain ⟨T, hp⟩ := plain_ok (y := (⟨#[d]⟩ : Str)) (show (1 : Nat) ≤ 2000 by decide) S
    rw [one_tl] at hp
    simp only [F_read_escaped, mkF, endF, startP, List.map_cons, List.map_nil, List.length_cons, List.length_nil, List.replicate, List.cons_append, List.nil_append, Nat.sub_zero, Nat.zero_add, Nat.reduceAdd, Nat.reduceSub, sSeq, sIf, sAsg, sRet, sRetN, sDrop, sNext, sBrk, sCont, sAug, stName, stSub, stTup, stCons, stNil, eVar, eC, eUn, eBin, eArg, eLst, eTup, aNil, aCons, eIf, eAnd, eOr, eNot, eChain, bChain, bCmp, bVal, bNot, bAnd, bOr, bTrue, eSl, oNone, oSome, eCall, eCall0, callF, eM, oBl, oB, oT, tr_bl, tr_int, tr_non, tr_tup, isT_str, beq_self_eq_true, vAdd, vSub, vMul, vDiv, vMod, vPow, vNeg, vIAdd, vIMul, vGt, vLt, vLe, vGe, lt2, ltP, vEq, vNe, eq_ii, eq_ss, eq_bb, eq_nn, vIx, seqP, lstP, newT, vSet, vLen, lenP, vAbs, vMax, vMin, cInt, vIsi, ty_non, ty_bl, ty_int, ty_str, ty_tup, ty_fl, Out.bind_ok, Out.bind_bad, wp_ok, wp_bind, List.getElem?_cons_zero, List.getElem?_cons_succ, List.getElem?_nil, List.set_cons_zero, List.set_cons_succ, List.append_nil, Option.map_some, Option.map_none, Option.bind_some, Option.bind_none, ga, ga0, gs, gs0, List.append_assoc, Nat.add_assoc, newL, LN, Nat.reduceLeDiff, Nat.reduceLT, kit_ss, kit_ts, kit_ls, kit_bs, kit_is, kit_ns, reduceCtorEq, a30, a31, a32, i30, i31, i32, decide_eq_true_eq, ne_eq, Int.reduceLT, Int.reduceLE, Int.reduceNeg, Int.reducePow, Int.reduceToNat, Int.reduceEq, Int.reduceNe, mulOk_l, List.length_set, List.length_append, imp_false, not_false_eq_true, implies_true, if_true, if_false, ite_true, ite_false, Bool.false_eq_true, Bool.not_true, Bool.not_false, forall_const, eq_self, and_true, true_and, and_self, PV.int.injEq, PV.str.injEq, PV.bl.injEq, decide_true, decide_false, hxl, hq, hat, hp]
    exact ⟨[(d, false)], a + 2, rfl, by omega, by omega, e2, T, rfl⟩
theorem sgl_run {cs : List Nat} {a : Nat} {fd : List Wd} {w : Wd} (h : Ma cs a = ⟨fd, some w, .sgl, false⟩) : ∀ e, a ≤ e → e ≤ cs.length → (∀ k, a ≤ k → k < e → cs[k]? ≠ some 39) →
    Ma cs e = ⟨fd, some (w ++ ((cs.drop a).take (e - a)).map fun c => (c, false)), .sgl, false⟩ := by
  intro e
  induction e with
  | zero => intro h1 h2 h3; obtain rfl : a = 0 := by omega
            rw [h]; simp
  | succ e ih =>
    intro h1 h2 h3
    by_cases he : a = e + 1
    · rw [← he, h]; simp
    · have i := ih (by omega) (by omega) fun k hk hke => h3 k hk (by omega)
      have hc : cs[e]? = some cs[e] := List.getElem?_eq_getElem (by omega)
      have hn := h3 e (by omega) (by omega)
      have hd : (cs.drop a)[e - a]? = some cs[e] := by rw [List.getElem?_drop, show a + (e - a) = e by omega]; exact hc
      rw [hc] at hn
      rw [ma_step hc, i, show e + 1 - a = e - a + 1 by omega, List.take_add_one, hd]
      have hn2 : ¬ cs[e] = 39 := fun z => hn (by rw [z])
      simp [stp, hn2]
theorem sgl_ok {x : Str} (hx : x.length ≤ 2000) (hcl : Closed (tl x)) {a : Nat} {fd : List Wd} {sg : Option Wd} (h : Ma (tl x) a = ⟨fd, sg, .out, false⟩) (hc : (tl x)[a]? = some 39) (S : Store) :
    Wp (F_read_single [.str x, .int (a : Int)] S) (PieceOk (tl x) a fd (sg.getD []) S) := by
  have hxl : x.length ≤ 1000000 := by omega
  have hcs : x.length = (tl x).length := len_tl x
  have hl := (List.getElem?_eq_some_iff.mp hc).1
  have e1 : Ma (tl x) (a + 1) = ⟨fd, some (sg.getD []), .sgl, false⟩ := by rw [ma_step hc, h]; simp [stp]
  rcases find_ok x 39 (Str.ofString "'") s_sq (a := a + 1) (by omega) with ⟨h1, h2⟩ | ⟨e, h1, h2, h3, h4⟩
  · exfalso
    apply hcl
    have := sgl_run e1 (tl x).length (by omega) (Nat.le_refl _) fun k hk _ => h2 k hk
    rw [← ma_end, this]
    exact if_pos (.inl rfl)
  · have hel := (List.getElem?_eq_some_iff.mp h3).1
    have e2 := sgl_run e1 e h2 (by omega) h4
    have e3 : Ma (tl x) (e + 1) = ⟨fd, some (sg.getD [] ++ (((tl x).drop (a + 1)).take (e - (a + 1))).map fun c => (c, false)), .out, false⟩ := by rw [ma_step h3, e2]; simp [stp]
    have hcut : tl (cutS x (some ((a : Int) + 1)) (some (e : Int))) = ((tl x).drop (a + 1)).take (e - (a + 1)) := by
      have := tl_cut x (a + 1) e
      rw [Nat.min_eq_left (by omega), Nat.min_eq_left (by omega)] at this
      exact this
    have hcl2 : (cutS x (some ((a : Int) + 1)) (some (e : Int))).length ≤ 2000 := by
      rw [len_tl, hcut, List.length_take, List.length_drop]; omega
    obtain ⟨T, hp⟩ := plain_ok hcl2 S
    rw [hcut] at hp
    have hn : ¬ ((e : Int) < 0) := by omega
    have h1' : Txt.find3 x (Str.ofString "'") ((a : Int) + 1) = (e : Int) := h1
    simp only [F_read_single, mkF, endF, startP, List.map_cons, List.map_nil, List.length_cons, List.length_nil, List.replicate, List.cons_append, List.nil_append, Nat.sub_zero, Nat.zero_add, Nat.reduceAdd, Nat.reduceSub, sSeq, sIf, sAsg, sRet, sRetN, sDrop, sNext, sBrk, sCont, sAug, stName, stSub, stTup, stCons, stNil, eVar, eC, eUn, eBin, eArg, eLst, eTup, aNil, aCons, eIf, eAnd, eOr, eNot, eChain, bChain, bCmp, bVal, bNot, bAnd, bOr, bTrue, eSl, oNone, oSome, eCall, eCall0, callF, eM, oBl, oB, oT, tr_bl, tr_int, tr_non, tr_tup, isT_str, beq_self_eq_true, vAdd, vSub, vMul, vDiv, vMod, vPow, vNeg, vIAdd, vIMul, vGt, vLt, vLe, vGe, lt2, ltP, vEq, vNe, eq_ii, eq_ss, eq_bb, eq_nn, vIx, seqP, lstP, newT, vSet, vLen, lenP, vAbs, vMax, vMin, cInt, vIsi, ty_non, ty_bl, ty_int, ty_str, ty_tup, ty_fl, Out.bind_ok, Out.bind_bad, wp_ok, wp_bind, List.getElem?_cons_zero, List.getElem?_cons_succ, List.getElem?_nil, List.set_cons_zero, List.set_cons_succ, List.append_nil, Option.map_some, Option.map_none, Option.bind_some, Option.bind_none, ga, ga0, gs, gs0, List.append_assoc, Nat.add_assoc, newL, LN, Nat.reduceLeDiff, Nat.reduceLT, kit_ss, kit_ts, kit_ls, kit_bs, kit_is, kit_ns, reduceCtorEq, a30, a31, a32, i30, i31, i32, decide_eq_true_eq, ne_eq, Int.reduceLT, Int.reduceLE, Int.reduceNeg, Int.reducePow, Int.reduceToNat, Int.reduceEq, Int.reduceNe, mulOk_l, List.length_set, List.length_append, imp_false, not_false_eq_true, implies_true, if_true, if_false, ite_true, ite_false, Bool.false_eq_true, Bool.not_true, Bool.not_false, forall_const, eq_self, and_true, true_and, and_self, PV.int.injEq, PV.str.injEq, PV.bl.injEq, decide_true, decide_false, hxl, mFindA, h1', hn, eSl, oSome, vSl, hp]
    exact ⟨_, e + 1, rfl, by omega, by omega, e3, T, rfl⟩
end Lw

namespace Lw
open PySem L2 G TL

theorem sk_q : PyData.strOk (Str.ofString "\"") = true := by decide +kernel
theorem sk_b : PyData.strOk (Str.ofString "\\") = true := by decide +kernel
theorem s_dq : (Str.ofString "\"") = ⟨#[34]⟩ := by decide +kernel
theorem s_bs : (Str.ofString "\\") = ⟨#[92]⟩ := by decide +kernel
theorem dec_one (a d : Nat) : decide ([a] = [d]) = decide (d = a) := by
  by_cases z : d = a
  · subst z; exact (decide_eq_true (rfl : [d] = [d])).trans (decide_eq_true (rfl : d = d)).symm
  · rw [decide_eq_false z]; exact decide_eq_false fun q => z (List.cons.inj q).1.symm
theorem vin_d2 {d : Nat} (hd : d < 1114112) {y : Str} (hy : tl y = [d]) (S : Store) : vIn (.str y) (.tup [.str (Str.ofString "\""), .str (Str.ofString "\\")]) S = .ok (.bl (decide (d = 34) || decide (d = 92))) S := by
  have hy' : y = ⟨#[d]⟩ := ext_tl hy
  subst hy'
  rw [vin2 (strOk_of fun c hc => by rw [one_tl] at hc; rw [List.mem_singleton.mp hc]; exact hd) sk_q sk_b]
  rw [str_beq, str_beq, s_dq, s_bs, one_tl, one_tl, one_tl]
  rw [dec_one, dec_one]
theorem vin_d0 {y : Str} (hy : tl y = []) (S : Store) : vIn (.str y) (.tup [.str (Str.ofString "\""), .str (Str.ofString "\\")]) S = .ok (.bl false) S := by
  rw [vin2 (strOk_of fun c hc => by rw [hy] at hc; cases hc) sk_q sk_b]
  rw [str_beq, str_beq, s_dq, s_bs, one_tl, one_tl, hy]
  rfl
abbrev dCond : SB := (bAnd (bCmp vLt (eVar 1) (eArg vLen (aCons (eVar 0) aNil))) (bCmp vNe (eBin vIx (eVar 0) (eVar 1)) (eC (.str "\""))))
abbrev dBody : SS := (sSeq (sIf (bAnd (bCmp vEq (eBin vIx (eVar 0) (eVar 1)) (eC (.str "\\"))) (bCmp vIn (eSl (eVar 0) (oSome (eBin vAdd (eVar 1) (eC (.int 1)))) (oSome (eBin vAdd (eVar 1) (eC (.int 2))))) (eTup (aCons (eC (.str "\"")) (aCons (eC (.str "\\")) aNil))))) (sAug 1 (eC (.int 1)) vIAdd) sNext)
  (sSeq (sDrop (eM "list" mAppend (eVar 3) (aCons (eTup (aCons (eBin vIx (eVar 0) (eVar 1)) (aCons (eC (.bl false)) aNil))) aNil)))
  (sAug 1 (eC (.int 1)) vIAdd)))
def DSt (cs : List Nat) (fd : List Wd) (w : Wd) (b : Nat) (u : Wd) : Prop :=
  Ma cs b = ⟨fd, some (w ++ u), .dbl, false⟩ ∨ ∃ u0, u = u0 ++ [(92, false)] ∧ Ma cs b = ⟨fd, some (w ++ u0), .dbl, true⟩ ∧ ∀ d, cs[b]? = some d → d ≠ 34 ∧ d ≠ 92
theorem dst_len {cs : List Nat} {fd : List Wd} {w u : Wd} {b : Nat} (h : DSt cs fd w b u) (hb : b ≤ cs.length) : u.length ≤ 2 * b + 1 := by
  have M := (mok (cs.take b)).gl
  rw [List.length_take, Nat.min_eq_left hb] at M
  rcases h with h | ⟨u0, rfl, h, _⟩
  · rw [show runM (cs.take b) = _ from h] at M
    simp at M
    omega
  · rw [show runM (cs.take b) = _ from h] at M
    simp at M
    simp
    omega
theorem dbl_ok {x : Str} (hx : x.length ≤ 2000) (hcp : ∀ c ∈ tl x, c < 1114112) (hcl : Closed (tl x)) {a : Nat} {fd : List Wd} {sg : Option Wd} (h : Ma (tl x) a = ⟨fd, sg, .out, false⟩) (hc : (tl x)[a]? = some 34) (S : Store) :
    Wp (F_read_double [.str x, .int (a : Int)] S) (PieceOk (tl x) a fd (sg.getD []) S) := by
  have hxl : x.length ≤ 1000000 := by omega
  have hcs : x.length = (tl x).length := len_tl x
  have hl := (List.getElem?_eq_some_iff.mp hc).1
  have e1 : Ma (tl x) (a + 1) = ⟨fd, some (sg.getD [] ++ []), .dbl, false⟩ := by rw [ma_step hc, h]; simp [stp]
  generalize sg.getD [] = w at e1
  rw [F_read_double, wp_mkF, wp_seq]
  simp only [sPar, mkF, endF, startP, List.map_cons, List.map_nil, List.length_cons, List.length_nil, List.replicate, List.cons_append, List.nil_append, Nat.sub_zero, Nat.zero_add, Nat.reduceAdd, Nat.reduceSub, sSeq, sIf, sAsg, sRet, sRetN, sDrop, sNext, sBrk, sCont, sAug, stName, stSub, stTup, stCons, stNil, eVar, eC, eUn, eBin, eArg, eLst, eTup, aNil, aCons, eIf, eAnd, eOr, eNot, eChain, bChain, bCmp, bVal, bNot, bAnd, bOr, bTrue, eSl, oNone, oSome, eCall, eCall0, callF, eM, oBl, oB, oT, tr_bl, tr_int, tr_non, tr_tup, isT_str, beq_self_eq_true, vAdd, vSub, vMul, vDiv, vMod, vPow, vNeg, vIAdd, vIMul, vGt, vLt, vLe, vGe, lt2, ltP, vEq, vNe, eq_ii, eq_ss, eq_bb, eq_nn, vIx, seqP, lstP, newT, vSet, vLen, lenP, vAbs, vMax, vMin, cInt, vIsi, ty_non, ty_bl, ty_int, ty_str, ty_tup, ty_fl, Out.bind_ok, Out.bind_bad, wp_ok, wp_bind, List.getElem?_cons_zero, List.getElem?_cons_succ, List.getElem?_nil, List.set_cons_zero, List.set_cons_succ, List.append_nil, Option.map_some, Option.map_none, Option.bind_some, Option.bind_none, ga, ga0, gs, gs0, List.append_assoc, Nat.add_assoc, newL, LN, Nat.reduceLeDiff, Nat.reduceLT, kit_ss, kit_ts, kit_ls, kit_bs, kit_is, kit_ns, reduceCtorEq, a30, a31, a32, i30, i31, i32, decide_eq_true_eq, ne_eq, Int.reduceLT, Int.reduceLE, Int.reduceNeg, Int.reducePow, Int.reduceToNat, Int.reduceEq, Int.reduceNe, mulOk_l, List.length_set, List.length_append, imp_false, not_false_eq_true, implies_true, if_true, if_false, ite_true, ite_false, Bool.false_eq_true, Bool.not_true, Bool.not_false, forall_const, eq_self, and_true, true_and, and_self, PV.int.injEq, PV.str.injEq, PV.bl.injEq, decide_true, decide_false, vIAdd]
  refine Wp.imp (P := fun fl S1 => ∃ (b : Nat) (u : Wd), fl = .nx [some (.str x), some (.int (b : Int)), some (.int (a : Int)), some (.loc S.length)] ∧ S1 = S ++ [.lst (u.map sgn)] ∧ a < b ∧ (tl x)[b]? = some 34 ∧ Ma (tl x) b = ⟨fd, some (w ++ u), .dbl, false⟩) ?_ ?_
  · refine while_inv (c := dCond) (b := dBody) (m := x.length - (a + 1)) (fun m τ S' => ∃ (b : Nat) (u : Wd), m = x.length - b ∧ τ = [some (.str x), some (.int (b : Int)), some (.int (a : Int)), some (.loc S.length)] ∧ S' = S ++ [.lst (u.map sgn)] ∧ a < b ∧ b ≤ (tl x).length ∧ DSt (tl x) fd w b u) ⟨a + 1, [], rfl, rfl, rfl, by omega, by omega, .inl e1⟩ (by omega) ?_
    rintro m τ S' ⟨b, u, rfl, rfl, rfl, hab, hbl, hD⟩
    have hul := dst_len hD hbl
    have hA : ∀ y, mAppend (.loc S.length) [y] (S ++ [.lst (u.map sgn)]) = .ok .non (S ++ [.lst (u.map sgn ++ [y])]) := fun y => by
      rw [vapp_l (snoc_get S _) (by rw [List.length_map]; omega), gs0]; rfl
    have hT : isTy "list" (.loc S.length) (S ++ [.lst (u.map sgn)]) = true := isT_lst (snoc_get S _)
    by_cases hb : b < (tl x).length
    · have hc : (tl x)[b]? = some (tl x)[b] := List.getElem?_eq_getElem hb
      have hcm : (tl x)[b] < 1114112 := hcp _ (List.getElem_mem hb)
      generalize (tl x)[b] = c at hc hcm
      have hat : atI x.cps.toList (b : Int) = some c := atI_nat hc
      have hlt : (b : Int) < (x.length : Int) := by omega
      by_cases q34 : c = 34
      · subst q34
        simp only [dCond, dBody, mkF, endF, startP, List.map_cons, List.map_nil, List.length_cons, List.length_nil, List.replicate, List.cons_append, List.nil_append, Nat.sub_zero, Nat.zero_add, Nat.reduceAdd, Nat.reduceSub, sSeq, sIf, sAsg, sRet, sRetN, sDrop, sNext, sBrk, sCont, sAug, stName, stSub, stTup, stCons, stNil, eVar, eC, eUn, eBin, eArg, eLst, eTup, aNil, aCons, eIf, eAnd, eOr, eNot, eChain, bChain, bCmp, bVal, bNot, bAnd, bOr, bTrue, eSl, oNone, oSome, eCall, eCall0, callF, eM, oBl, oB, oT, tr_bl, tr_int, tr_non, tr_tup, isT_str, beq_self_eq_true, vAdd, vSub, vMul, vDiv, vMod, vPow, vNeg, vIAdd, vIMul, vGt, vLt, vLe, vGe, lt2, ltP, vEq, vNe, eq_ii, eq_ss, eq_bb, eq_nn, vIx, seqP, lstP, newT, vSet, vLen, lenP, vAbs, vMax, vMin, cInt, vIsi, ty_non, ty_bl, ty_int, ty_str, ty_tup, ty_fl, Out.bind_ok, Out.bind_bad, wp_ok, wp_bind, List.getElem?_cons_zero, List.getElem?_cons_succ, List.getElem?_nil, List.set_cons_zero, List.set_cons_succ, List.append_nil, Option.map_some, Option.map_none, Option.bind_some, Option.bind_none, ga, ga0, gs, gs0, List.append_assoc, Nat.add_assoc, newL, LN, Nat.reduceLeDiff, Nat.reduceLT, kit_ss, kit_ts, kit_ls, kit_bs, kit_is, kit_ns, reduceCtorEq, a30, a31, a32, i30, i31, i32, decide_eq_true_eq, ne_eq, Int.reduceLT, Int.reduceLE, Int.reduceNeg, Int.reducePow, Int.reduceToNat, Int.reduceEq, Int.reduceNe, mulOk_l, List.length_set, List.length_append, imp_false, not_false_eq_true, implies_true, if_true, if_false, ite_true, ite_false, Bool.false_eq_true, Bool.not_true, Bool.not_false, forall_const, eq_self, and_true, true_and, and_self, PV.int.injEq, PV.str.injEq, PV.bl.injEq, decide_true, decide_false, hxl, hlt, hat, e34]
        refine .inr ⟨b, u, rfl, rfl, hab, hc, ?_⟩
        rcases hD with hD | ⟨u0, rfl, _, h2⟩
        · exact hD
        · exact absurd rfl (h2 34 hc).1
      · rcases hD with hD | ⟨u0, rfl, hD, h2⟩
        · by_cases q92 : c = 92
          · subst q92
            have e2 : Ma (tl x) (b + 1) = ⟨fd, some (w ++ u), .dbl, true⟩ := by rw [ma_step hc, hD]; simp [stp]
            have hcut : tl (cutS x (some ((b : Int) + 1)) (some ((b : Int) + 2))) = ((tl x).drop (b + 1)).take (min (b + 2) x.length - (b + 1)) := by
              have := tl_cut x (b + 1) (b + 2)
              rw [Nat.min_eq_left (show b + 1 ≤ x.length by omega)] at this
              exact this
            cases hd : (tl x)[b + 1]? with
            | none =>
              have hbn : b + 1 = (tl x).length := by
                have := List.getElem?_eq_none_iff.mp hd; omega
              have hcut0 : tl (cutS x (some ((b : Int) + 1)) (some ((b : Int) + 2))) = [] := by
                rw [hcut, show min (b + 2) x.length - (b + 1) = 0 by omega, List.take_zero]
              simp only [dCond, dBody, mkF, endF, startP, List.map_cons, List.map_nil, List.length_cons, List.length_nil, List.replicate, List.cons_append, List.nil_append, Nat.sub_zero, Nat.zero_add, Nat.reduceAdd, Nat.reduceSub, sSeq, sIf, sAsg, sRet, sRetN, sDrop, sNext, sBrk, sCont, sAug, stName, stSub, stTup, stCons, stNil, eVar, eC, eUn, eBin, eArg, eLst, eTup, aNil, aCons, eIf, eAnd, eOr, eNot, eChain, bChain, bCmp, bVal, bNot, bAnd, bOr, bTrue, eSl, oNone, oSome, eCall, eCall0, callF, eM, oBl, oB, oT, tr_bl, tr_int, tr_non, tr_tup, isT_str, beq_self_eq_true, vAdd, vSub, vMul, vDiv, vMod, vPow, vNeg, vIAdd, vIMul, vGt, vLt, vLe, vGe, lt2, ltP, vEq, vNe, eq_ii, eq_ss, eq_bb, eq_nn, vIx, seqP, lstP, newT, vSet, vLen, lenP, vAbs, vMax, vMin, cInt, vIsi, ty_non, ty_bl, ty_int, ty_str, ty_tup, ty_fl, Out.bind_ok, Out.bind_bad, wp_ok, wp_bind, List.getElem?_cons_zero, List.getElem?_cons_succ, List.getElem?_nil, List.set_cons_zero, List.set_cons_succ, List.append_nil, Option.map_some, Option.map_none, Option.bind_some, Option.bind_none, ga, ga0, gs, gs0, List.append_assoc, Nat.add_assoc, newL, LN, Nat.reduceLeDiff, Nat.reduceLT, kit_ss, kit_ts, kit_ls, kit_bs, kit_is, kit_ns, reduceCtorEq, a30, a31, a32, i30, i31, i32, decide_eq_true_eq, ne_eq, Int.reduceLT, Int.reduceLE, Int.reduceNeg, Int.reducePow, Int.reduceToNat, Int.reduceEq, Int.reduceNe, mulOk_l, List.length_set, List.length_append, imp_false, not_false_eq_true, implies_true, if_true, if_false, ite_true, ite_false, Bool.false_eq_true, Bool.not_true, Bool.not_false, forall_const, eq_self, and_true, true_and, and_self, PV.int.injEq, PV.str.injEq, PV.bl.injEq, decide_true, decide_false, hxl, hlt, hat, e34, e92, q34, eSl, oSome, vSl, vin_d0 hcut0, hT, hA, vIAdd]
              refine .inl ⟨_, _, .inl rfl, ?_, b + 1, u ++ [(92, false)], rfl, rfl, by rw [List.map_append]; rfl, by omega, by omega, .inr ⟨u, rfl, e2, fun d hd2 => by rw [hd] at hd2; cases hd2⟩⟩
              omega
            | some d =>
              have hdl := (List.getElem?_eq_some_iff.mp hd).1
              have hdm : d < 1114112 := hcp _ (List.mem_of_getElem? hd)
              have hcut1 : tl (cutS x (some ((b : Int) + 1)) (some ((b : Int) + 2))) = [d] := by
                rw [hcut, show min (b + 2) x.length - (b + 1) = 0 + 1 by omega, List.take_add_one, List.getElem?_drop, show b + 1 + 0 = b + 1 by omega, hd]; rfl
              have hatd : atI x.cps.toList ((b : Int) + 1) = some d := atI_nat (j := b + 1) hd
              by_cases qd : d = 34 ∨ d = 92
              · have hq : (decide (d = 34) || decide (d = 92)) = true := by rcases qd with rfl | rfl <;> rfl
                have e3 : Ma (tl x) (b + 1 + 1) = ⟨fd, some (w ++ (u ++ [(d, false)])), .dbl, false⟩ := by
                  rw [ma_step hd, e2]; simp [stp, qd]
                simp only [dCond, dBody, mkF, endF, startP, List.map_cons, List.map_nil, List.length_cons, List.length_nil, List.replicate, List.cons_append, List.nil_append, Nat.sub_zero, Nat.zero_add, Nat.reduceAdd, Nat.reduceSub, sSeq, sIf, sAsg, sRet, sRetN, sDrop, sNext, sBrk, sCont, sAug, stName, stSub, stTup, stCons, stNil, eVar, eC, eUn, eBin, eArg, eLst, eTup, aNil, aCons, eIf, eAnd, eOr, eNot, eChain, bChain, bCmp, bVal, bNot, bAnd, bOr, bTrue, eSl, oNone, oSome, eCall, eCall0, callF, eM, oBl, oB, oT, tr_bl, tr_int, tr_non, tr_tup, isT_str, beq_self_eq_true, vAdd, vSub, vMul, vDiv, vMod, vPow, vNeg, vIAdd, vIMul, vGt, vLt, vLe, vGe, lt2, ltP, vEq, vNe, eq_ii, eq_ss, eq_bb, eq_nn, vIx, seqP, lstP, newT, vSet, vLen, lenP, vAbs, vMax, vMin, cInt, vIsi, ty_non, ty_bl, ty_int, ty_str, ty_tup, ty_fl, Out.bind_ok, Out.bind_bad, wp_ok, wp_bind, List.getElem?_cons_zero, List.getElem?_cons_succ, List.getElem?_nil, List.set_cons_zero, List.set_cons_succ, List.append_nil, Option.map_some, Option.map_none, Option.bind_some, Option.bind_none, ga, ga0, gs, gs0, List.append_assoc, Nat.add_assoc, newL, LN, Nat.reduceLeDiff, Nat.reduceLT, kit_ss, kit_ts, kit_ls, kit_bs, kit_is, kit_ns, reduceCtorEq, a30, a31, a32, i30, i31, i32, decide_eq_true_eq, ne_eq, Int.reduceLT, Int.reduceLE, Int.reduceNeg, Int.reducePow, Int.reduceToNat, Int.reduceEq, Int.reduceNe, mulOk_l, List.length_set, List.length_append, imp_false, not_false_eq_true, implies_true, if_true, if_false, ite_true, ite_false, Bool.false_eq_true, Bool.not_true, Bool.not_false, forall_const, eq_self, and_true, true_and, and_self, PV.int.injEq, PV.str.injEq, PV.bl.injEq, decide_true, decide_false, hxl, hlt, hat, e34, e92, q34, eSl, oSome, vSl, vin_d2 hdm hcut1, hq, hatd, hT, hA, vIAdd]
                refine .inl ⟨_, _, .inl rfl, ?_, b + 2, u ++ [(d, false)], rfl, by rw [show ((b + 2 : Nat) : Int) = (b : Int) + (1 + 1) by omega]; rfl, by rw [List.map_append]; rfl, by omega, by omega, .inl e3⟩
                omega
              · have hq : (decide (d = 34) || decide (d = 92)) = false := by simpa using qd
                simp only [dCond, dBody, mkF, endF, startP, List.map_cons, List.map_nil, List.length_cons, List.length_nil, List.replicate, List.cons_append, List.nil_append, Nat.sub_zero, Nat.zero_add, Nat.reduceAdd, Nat.reduceSub, sSeq, sIf, sAsg, sRet, sRetN, sDrop, sNext, sBrk, sCont, sAug, stName, stSub, stTup, stCons, stNil, eVar, eC, eUn, eBin, eArg, eLst, eTup, aNil, aCons, eIf, eAnd, eOr, eNot, eChain, bChain, bCmp, bVal, bNot, bAnd, bOr, bTrue, eSl, oNone, oSome, eCall, eCall0, callF, eM, oBl, oB, oT, tr_bl, tr_int, tr_non, tr_tup, isT_str, beq_self_eq_true, vAdd, vSub, vMul, vDiv, vMod, vPow, vNeg, vIAdd, vIMul, vGt, vLt, vLe, vGe, lt2, ltP, vEq, vNe, eq_ii, eq_ss, eq_bb, eq_nn, vIx, seqP, lstP, newT, vSet, vLen, lenP, vAbs, vMax, vMin, cInt, vIsi, ty_non, ty_bl, ty_int, ty_str, ty_tup, ty_fl, Out.bind_ok, Out.bind_bad, wp_ok, wp_bind, List.getElem?_cons_zero, List.getElem?_cons_succ, List.getElem?_nil, List.set_cons_zero, List.set_cons_succ, List.append_nil, Option.map_some, Option.map_none, Option.bind_some, Option.bind_none, ga, ga0, gs, gs0, List.append_assoc, Nat.add_assoc, newL, LN, Nat.reduceLeDiff, Nat.reduceLT, kit_ss, kit_ts, kit_ls, kit_bs, kit_is, kit_ns, reduceCtorEq, a30, a31, a32, i30, i31, i32, decide_eq_true_eq, ne_eq, Int.reduceLT, Int.reduceLE, Int.reduceNeg, Int.reducePow, Int.reduceToNat, Int.reduceEq, Int.reduceNe, mulOk_l, List.length_set, List.length_append, imp_false, not_false_eq_true, implies_true, if_true, if_false, ite_true, ite_false, Bool.false_eq_true, Bool.not_true, Bool.not_false, forall_const, eq_self, and_true, true_and, and_self, PV.int.injEq, PV.str.injEq, PV.bl.injEq, decide_true, decide_false, hxl, hlt, hat, e34, e92, q34, eSl, oSome, vSl, vin_d2 hdm hcut1, hq, hT, hA, vIAdd]
                refine .inl ⟨_, _, .inl rfl, ?_, b + 1, u ++ [(92, false)], rfl, rfl, by rw [List.map_append]; rfl, by omega, by omega, .inr ⟨u, rfl, e2, fun d2 hd2 => by rw [hd] at hd2; cases hd2; exact ⟨fun z => qd (.inl z), fun z => qd (.inr z)⟩⟩⟩
                omega
          · have e2 : Ma (tl x) (b + 1) = ⟨fd, some (w ++ (u ++ [(c, false)])), .dbl, false⟩ := by rw [ma_step hc, hD]; simp [stp, q34, q92]
            simp only [dCond, dBody, mkF, endF, startP, List.map_cons, List.map_nil, List.length_cons, List.length_nil, List.replicate, List.cons_append, List.nil_append, Nat.sub_zero, Nat.zero_add, Nat.reduceAdd, Nat.reduceSub, sSeq, sIf, sAsg, sRet, sRetN, sDrop, sNext, sBrk, sCont, sAug, stName, stSub, stTup, stCons, stNil, eVar, eC, eUn, eBin, eArg, eLst, eTup, aNil, aCons, eIf, eAnd, eOr, eNot, eChain, bChain, bCmp, bVal, bNot, bAnd, bOr, bTrue, eSl, oNone, oSome, eCall, eCall0, callF, eM, oBl, oB, oT, tr_bl, tr_int, tr_non, tr_tup, isT_str, beq_self_eq_true, vAdd, vSub, vMul, vDiv, vMod, vPow, vNeg, vIAdd, vIMul, vGt, vLt, vLe, vGe, lt2, ltP, vEq, vNe, eq_ii, eq_ss, eq_bb, eq_nn, vIx, seqP, lstP, newT, vSet, vLen, lenP, vAbs, vMax, vMin, cInt, vIsi, ty_non, ty_bl, ty_int, ty_str, ty_tup, ty_fl, Out.bind_ok, Out.bind_bad, wp_ok, wp_bind, List.getElem?_cons_zero, List.getElem?_cons_succ, List.getElem?_nil, List.set_cons_zero, List.set_cons_succ, List.append_nil, Option.map_some, Option.map_none, Option.bind_some, Option.bind_none, ga, ga0, gs, gs0, List.append_assoc, Nat.add_assoc, newL, LN, Nat.reduceLeDiff, Nat.reduceLT, kit_ss, kit_ts, kit_ls, kit_bs, kit_is, kit_ns, reduceCtorEq, a30, a31, a32, i30, i31, i32, decide_eq_true_eq, ne_eq, Int.reduceLT, Int.reduceLE, Int.reduceNeg, Int.reducePow, Int.reduceToNat, Int.reduceEq, Int.reduceNe, mulOk_l, List.length_set, List.length_append, imp_false, not_false_eq_true, implies_true, if_true, if_false, ite_true, ite_false, Bool.false_eq_true, Bool.not_true, Bool.not_false, forall_const, eq_self, and_true, true_and, and_self, PV.int.injEq, PV.str.injEq, PV.bl.injEq, decide_true, decide_false, hxl, hlt, hat, e34, e92, q34, q92, hT, hA, vIAdd]
            refine .inl ⟨_, _, .inl rfl, ?_, b + 1, u ++ [(c, false)], rfl, rfl, by rw [List.map_append]; rfl, by omega, by omega, .inl e2⟩
            omega
        · have q92 : ¬ c = 92 := (h2 c hc).2
          have e2 : Ma (tl x) (b + 1) = ⟨fd, some (w ++ (u0 ++ [(92, false)] ++ [(c, false)])), .dbl, false⟩ := by rw [ma_step hc, hD]; simp [stp, q34, q92]
          simp only [dCond, dBody, mkF, endF, startP, List.map_cons, List.map_nil, List.length_cons, List.length_nil, List.replicate, List.cons_append, List.nil_append, Nat.sub_zero, Nat.zero_add, Nat.reduceAdd, Nat.reduceSub, sSeq, sIf, sAsg, sRet, sRetN, sDrop, sNext, sBrk, sCont, sAug, stName, stSub, stTup, stCons, stNil, eVar, eC, eUn, eBin, eArg, eLst, eTup, aNil, aCons, eIf, eAnd, eOr, eNot, eChain, bChain, bCmp, bVal, bNot, bAnd, bOr, bTrue, eSl, oNone, oSome, eCall, eCall0, callF, eM, oBl, oB, oT, tr_bl, tr_int, tr_non, tr_tup, isT_str, beq_self_eq_true, vAdd, vSub, vMul, vDiv, vMod, vPow, vNeg, vIAdd, vIMul, vGt, vLt, vLe, vGe, lt2, ltP, vEq, vNe, eq_ii, eq_ss, eq_bb, eq_nn, vIx, seqP, lstP, newT, vSet, vLen, lenP, vAbs, vMax, vMin, cInt, vIsi, ty_non, ty_bl, ty_int, ty_str, ty_tup, ty_fl, Out.bind_ok, Out.bind_bad, wp_ok, wp_bind, List.getElem?_cons_zero, List.getElem?_cons_succ, List.getElem?_nil, List.set_cons_zero, List.set_cons_succ, List.append_nil, Option.map_some, Option.map_none, Option.bind_some, Option.bind_none, ga, ga0, gs, gs0, List.append_assoc, Nat.add_assoc, newL, LN, Nat.reduceLeDiff, Nat.reduceLT, kit_ss, kit_ts, kit_ls, kit_bs, kit_is, kit_ns, reduceCtorEq, a30, a31, a32, i30, i31, i32, decide_eq_true_eq, ne_eq, Int.reduceLT, Int.reduceLE, Int.reduceNeg, Int.reducePow, Int.reduceToNat, Int.reduceEq, Int.reduceNe, mulOk_l, List.length_set, List.length_append, imp_false, not_false_eq_true, implies_true, if_true, if_false, ite_true, ite_false, Bool.false_eq_true, Bool.not_true, Bool.not_false, forall_const, eq_self, and_true, true_and, and_self, PV.int.injEq, PV.str.injEq, PV.bl.injEq, decide_true, decide_false, hxl, hlt, hat, e34, e92, q34, q92, hT, hA, vIAdd]
          refine .inl ⟨_, _, .inl rfl, ?_, b + 1, u0 ++ [(92, false)] ++ [(c, false)], rfl, rfl, by rw [List.map_append (l₁ := u0 ++ [(92, false)])]; rfl, by omega, by omega, .inl e2⟩
          omega
    · exfalso
      apply hcl
      have hbe : b = (tl x).length := by omega
      rw [← ma_end, ← hbe]
      rcases hD with hD | ⟨u0, _, hD, _⟩
      · rw [hD]; exact if_pos (.inr (.inl rfl))
      · rw [hD]; exact if_pos (.inr (.inl rfl))
  · rintro fl S1 ⟨b, u, rfl, rfl, hab, hc2, hM⟩
    have hbl := (List.getElem?_eq_some_iff.mp hc2).1
    have hq : ((b : Int) == (x.length : Int)) = false := beq_eq_false_iff_ne.mpr (by omega)
    have hV : vTuple [.loc S.length] (S ++ [.lst (u.map sgn)]) = .ok (.tup (u.map sgn)) (S ++ [.lst (u.map sgn)]) := vtup_l (snoc_get S _)
    have e3 : Ma (tl x) (b + 1) = ⟨fd, some (w ++ u), .out, false⟩ := by rw [ma_step hc2, hM]; simp [stp]
    simp only [mkF, endF, startP, List.map_cons, List.map_nil, List.length_cons, List.length_nil, List.replicate, List.cons_append, List.nil_append, Nat.sub_zero, Nat.zero_add, Nat.reduceAdd, Nat.reduceSub, sSeq, sIf, sAsg, sRet, sRetN, sDrop, sNext, sBrk, sCont, sAug, stName, stSub, stTup, stCons, stNil, eVar, eC, eUn, eBin, eArg, eLst, eTup, aNil, aCons, eIf, eAnd, eOr, eNot, eChain, bChain, bCmp, bVal, bNot, bAnd, bOr, bTrue, eSl, oNone, oSome, eCall, eCall0, callF, eM, oBl, oB, oT, tr_bl, tr_int, tr_non, tr_tup, isT_str, beq_self_eq_true, vAdd, vSub, vMul, vDiv, vMod, vPow, vNeg, vIAdd, vIMul, vGt, vLt, vLe, vGe, lt2, ltP, vEq, vNe, eq_ii, eq_ss, eq_bb, eq_nn, vIx, seqP, lstP, newT, vSet, vLen, lenP, vAbs, vMax, vMin, cInt, vIsi, ty_non, ty_bl, ty_int, ty_str, ty_tup, ty_fl, Out.bind_ok, Out.bind_bad, wp_ok, wp_bind, List.getElem?_cons_zero, List.getElem?_cons_succ, List.getElem?_nil, List.set_cons_zero, List.set_cons_succ, List.append_nil, Option.map_some, Option.map_none, Option.bind_some, Option.bind_none, ga, ga0, gs, gs0, List.append_assoc, Nat.add_assoc, newL, LN, Nat.reduceLeDiff, Nat.reduceLT, kit_ss, kit_ts, kit_ls, kit_bs, kit_is, kit_ns, reduceCtorEq, a30, a31, a32, i30, i31, i32, decide_eq_true_eq, ne_eq, Int.reduceLT, Int.reduceLE, Int.reduceNeg, Int.reducePow, Int.reduceToNat, Int.reduceEq, Int.reduceNe, mulOk_l, List.length_set, List.length_append, imp_false, not_false_eq_true, implies_true, if_true, if_false, ite_true, ite_false, Bool.false_eq_true, Bool.not_true, Bool.not_false, forall_const, eq_self, and_true, true_and, and_self, PV.int.injEq, PV.str.injEq, PV.bl.injEq, decide_true, decide_false, hxl, hq, hV]
    exact ⟨u, b + 1, rfl, by omega, by omega, e3, _, rfl⟩
end Lw

namespace Lw
open PySem L2 G TL

theorem m_ne {c d : Nat} {s : Str} (hs : s = ⟨#[d]⟩) (h : ¬ c = d) : ¬ ((⟨#[c]⟩ : Str) = s) := by
  subst hs
  intro e
  exact h (List.cons.inj (congrArg tl e)).1
theorem piece_ok {x : Str} (hx : x.length ≤ 2000) (hcp : ∀ c ∈ tl x, c < 1114112) (hcl : Closed (tl x)) {a c : Nat} {fd : List Wd} {sg : Option Wd} (h : Ma (tl x) a = ⟨fd, sg, .out, false⟩) (hc : (tl x)[a]? = some c) (h32 : ¬ (c = 32 ∨ c = 10)) (h35 : sg = none → c ≠ 35) (S : Store) :
    Wp (F_read_piece [.str x, .int (a : Int)] S) (PieceOk (tl x) a fd (sg.getD []) S) := by
  have hxl : x.length ≤ 1000000 := by omega
  have hl := (List.getElem?_eq_some_iff.mp hc).1
  have hat : atI x.cps.toList (a : Int) = some c := atI_nat hc
  have out : ∀ o : Out G.PV, Wp o (PieceOk (tl x) a fd (sg.getD []) S) → Wp o fun v S' => Wp (endF (.rt v) S') (PieceOk (tl x) a fd (sg.getD []) S) := fun o h => h
  by_cases q92 : c = 92
  · subst q92
    have e : (⟨#[92]⟩ : Str) = Str.ofString "\\" := s_bs.symm
    simp only [F_read_piece, sMatch, mStr, mkF, endF, startP, List.map_cons, List.map_nil, List.length_cons, List.length_nil, List.replicate, List.cons_append, List.nil_append, Nat.sub_zero, Nat.zero_add, Nat.reduceAdd, Nat.reduceSub, sSeq, sIf, sAsg, sRet, sRetN, sDrop, sNext, sBrk, sCont, sAug, stName, stSub, stTup, stCons, stNil, eVar, eC, eUn, eBin, eArg, eLst, eTup, aNil, aCons, eIf, eAnd, eOr, eNot, eChain, bChain, bCmp, bVal, bNot, bAnd, bOr, bTrue, eSl, oNone, oSome, eCall, eCall0, callF, eM, oBl, oB, oT, tr_bl, tr_int, tr_non, tr_tup, isT_str, beq_self_eq_true, vAdd, vSub, vMul, vDiv, vMod, vPow, vNeg, vIAdd, vIMul, vGt, vLt, vLe, vGe, lt2, ltP, vEq, vNe, eq_ii, eq_ss, eq_bb, eq_nn, vIx, seqP, lstP, newT, vSet, vLen, lenP, vAbs, vMax, vMin, cInt, vIsi, ty_non, ty_bl, ty_int, ty_str, ty_tup, ty_fl, Out.bind_ok, Out.bind_bad, wp_ok, wp_bind, List.getElem?_cons_zero, List.getElem?_cons_succ, List.getElem?_nil, List.set_cons_zero, List.set_cons_succ, List.append_nil, Option.map_some, Option.map_none, Option.bind_some, Option.bind_none, ga, ga0, gs, gs0, List.append_assoc, Nat.add_assoc, newL, LN, Nat.reduceLeDiff, Nat.reduceLT, kit_ss, kit_ts, kit_ls, kit_bs, kit_is, kit_ns, reduceCtorEq, a30, a31, a32, i30, i31, i32, decide_eq_true_eq, ne_eq, Int.reduceLT, Int.reduceLE, Int.reduceNeg, Int.reducePow, Int.reduceToNat, Int.reduceEq, Int.reduceNe, mulOk_l, List.length_set, List.length_append, imp_false, not_false_eq_true, implies_true, if_true, if_false, ite_true, ite_false, Bool.false_eq_true, Bool.not_true, Bool.not_false, forall_const, eq_self, and_true, true_and, and_self, PV.int.injEq, PV.str.injEq, PV.bl.injEq, decide_true, decide_false, hxl, hat, e]
    exact esc_ok hx hcl h hc S
  have n1 : ¬ ((⟨#[c]⟩ : Str) = Str.ofString "\\") := m_ne s_bs q92
  by_cases q39 : c = 39
  · subst q39
    have e : (⟨#[39]⟩ : Str) = Str.ofString "'" := s_sq.symm
    have n2 : ¬ (Str.ofString "'" = Str.ofString "\\") := by decide +kernel
    simp only [F_read_piece, sMatch, mStr, mkF, endF, startP, List.map_cons, List.map_nil, List.length_cons, List.length_nil, List.replicate, List.cons_append, List.nil_append, Nat.sub_zero, Nat.zero_add, Nat.reduceAdd, Nat.reduceSub, sSeq, sIf, sAsg, sRet, sRetN, sDrop, sNext, sBrk, sCont, sAug, stName, stSub, stTup, stCons, stNil, eVar, eC, eUn, eBin, eArg, eLst, eTup, aNil, aCons, eIf, eAnd, eOr, eNot, eChain, bChain, bCmp, bVal, bNot, bAnd, bOr, bTrue, eSl, oNone, oSome, eCall, eCall0, callF, eM, oBl, oB, oT, tr_bl, tr_int, tr_non, tr_tup, isT_str, beq_self_eq_true, vAdd, vSub, vMul, vDiv, vMod, vPow, vNeg, vIAdd, vIMul, vGt, vLt, vLe, vGe, lt2, ltP, vEq, vNe, eq_ii, eq_ss, eq_bb, eq_nn, vIx, seqP, lstP, newT, vSet, vLen, lenP, vAbs, vMax, vMin, cInt, vIsi, ty_non, ty_bl, ty_int, ty_str, ty_tup, ty_fl, Out.bind_ok, Out.bind_bad, wp_ok, wp_bind, List.getElem?_cons_zero, List.getElem?_cons_succ, List.getElem?_nil, List.set_cons_zero, List.set_cons_succ, List.append_nil, Option.map_some, Option.map_none, Option.bind_some, Option.bind_none, ga, ga0, gs, gs0, List.append_assoc, Nat.add_assoc, newL, LN, Nat.reduceLeDiff, Nat.reduceLT, kit_ss, kit_ts, kit_ls, kit_bs, kit_is, kit_ns, reduceCtorEq, a30, a31, a32, i30, i31, i32, decide_eq_true_eq, ne_eq, Int.reduceLT, Int.reduceLE, Int.reduceNeg, Int.reducePow, Int.reduceToNat, Int.reduceEq, Int.reduceNe, mulOk_l, List.length_set, List.length_append, imp_false, not_false_eq_true, implies_true, if_true, if_false, ite_true, ite_false, Bool.false_eq_true, Bool.not_true, Bool.not_false, forall_const, eq_self, and_true, true_and, and_self, PV.int.injEq, PV.str.injEq, PV.bl.injEq, decide_true, decide_false, hxl, hat, e, n2]
    exact sgl_ok hx hcl h hc S
  have n2 : ¬ ((⟨#[c]⟩ : Str) = Str.ofString "'") := m_ne s_sq q39
  by_cases q34 : c = 34
  · subst q34
    have e : (⟨#[34]⟩ : Str) = Str.ofString "\"" := s_dq.symm
    have n3 : ¬ (Str.ofString "\"" = Str.ofString "\\") := by decide +kernel
    have n4 : ¬ (Str.ofString "\"" = Str.ofString "'") := by decide +kernel
    simp only [F_read_piece, sMatch, mStr, mkF, endF, startP, List.map_cons, List.map_nil, List.length_cons, List.length_nil, List.replicate, List.cons_append, List.nil_append, Nat.sub_zero, Nat.zero_add, Nat.reduceAdd, Nat.reduceSub, sSeq, sIf, sAsg, sRet, sRetN, sDrop, sNext, sBrk, sCont, sAug, stName, stSub, stTup, stCons, stNil, eVar, eC, eUn, eBin, eArg, eLst, eTup, aNil, aCons, eIf, eAnd, eOr, eNot, eChain, bChain, bCmp, bVal, bNot, bAnd, bOr, bTrue, eSl, oNone, oSome, eCall, eCall0, callF, eM, oBl, oB, oT, tr_bl, tr_int, tr_non, tr_tup, isT_str, beq_self_eq_true, vAdd, vSub, vMul, vDiv, vMod, vPow, vNeg, vIAdd, vIMul, vGt, vLt, vLe, vGe, lt2, ltP, vEq, vNe, eq_ii, eq_ss, eq_bb, eq_nn, vIx, seqP, lstP, newT, vSet, vLen, lenP, vAbs, vMax, vMin, cInt, vIsi, ty_non, ty_bl, ty_int, ty_str, ty_tup, ty_fl, Out.bind_ok, Out.bind_bad, wp_ok, wp_bind, List.getElem?_cons_zero, List.getElem?_cons_succ, List.getElem?_nil, List.set_cons_zero, List.set_cons_succ, List.append_nil, Option.map_some, Option.map_none, Option.bind_some, Option.bind_none, ga, ga0, gs, gs0, List.append_assoc, Nat.add_assoc, newL, LN, Nat.reduceLeDiff, Nat.reduceLT, kit_ss, kit_ts, kit_ls, kit_bs, kit_is, kit_ns, reduceCtorEq, a30, a31, a32, i30, i31, i32, decide_eq_true_eq, ne_eq, Int.reduceLT, Int.reduceLE, Int.reduceNeg, Int.reducePow, Int.reduceToNat, Int.reduceEq, Int.reduceNe, mulOk_l, List.length_set, List.length_append, imp_false, not_false_eq_true, implies_true, if_true, if_false, ite_true, ite_false, Bool.false_eq_true, Bool.not_true, Bool.not_false, forall_const, eq_self, and_true, true_and, and_self, PV.int.injEq, PV.str.injEq, PV.bl.injEq, decide_true, decide_false, hxl, hat, e, n3, n4]
    exact dbl_ok hx hcp hcl h hc S
  have n3 : ¬ ((⟨#[c]⟩ : Str) = Str.ofString "\"") := m_ne s_dq q34
  simp only [F_read_piece, sMatch, mStr, mCap, mkF, endF, startP, List.map_cons, List.map_nil, List.length_cons, List.length_nil, List.replicate, List.cons_append, List.nil_append, Nat.sub_zero, Nat.zero_add, Nat.reduceAdd, Nat.reduceSub, sSeq, sIf, sAsg, sRet, sRetN, sDrop, sNext, sBrk, sCont, sAug, stName, stSub, stTup, stCons, stNil, eVar, eC, eUn, eBin, eArg, eLst, eTup, aNil, aCons, eIf, eAnd, eOr, eNot, eChain, bChain, bCmp, bVal, bNot, bAnd, bOr, bTrue, eSl, oNone, oSome, eCall, eCall0, callF, eM, oBl, oB, oT, tr_bl, tr_int, tr_non, tr_tup, isT_str, beq_self_eq_true, vAdd, vSub, vMul, vDiv, vMod, vPow, vNeg, vIAdd, vIMul, vGt, vLt, vLe, vGe, lt2, ltP, vEq, vNe, eq_ii, eq_ss, eq_bb, eq_nn, vIx, seqP, lstP, newT, vSet, vLen, lenP, vAbs, vMax, vMin, cInt, vIsi, ty_non, ty_bl, ty_int, ty_str, ty_tup, ty_fl, Out.bind_ok, Out.bind_bad, wp_ok, wp_bind, List.getElem?_cons_zero, List.getElem?_cons_succ, List.getElem?_nil, List.set_cons_zero, List.set_cons_succ, List.append_nil, Option.map_some, Option.map_none, Option.bind_some, Option.bind_none, ga, ga0, gs, gs0, List.append_assoc, Nat.add_assoc, newL, LN, Nat.reduceLeDiff, Nat.reduceLT, kit_ss, kit_ts, kit_ls, kit_bs, kit_is, kit_ns, reduceCtorEq, a30, a31, a32, i30, i31, i32, decide_eq_true_eq, ne_eq, Int.reduceLT, Int.reduceLE, Int.reduceNeg, Int.reducePow, Int.reduceToNat, Int.reduceEq, Int.reduceNe, mulOk_l, List.length_set, List.length_append, imp_false, not_false_eq_true, implies_true, if_true, if_false, ite_true, ite_false, Bool.false_eq_true, Bool.not_true, Bool.not_false, forall_const, eq_self, and_true, true_and, and_self, PV.int.injEq, PV.str.injEq, PV.bl.injEq, decide_true, decide_false, hxl, hat, n1, n2, n3, v_in]
  refine ⟨[(c, decide (c ∈ actL))], a + 1, rfl, by omega, by omega, ?_, [], by rw [List.append_nil]⟩
  rw [ma_step hc, h]
  have n35 : ¬ (c = 35 ∧ sg = none) := fun ⟨z1, z2⟩ => h35 z2 z1
  have n32 : ¬ (c = 32 ∨ c = 10) := h32
  show stp ⟨fd, sg, .out, false⟩ c = _
  unfold stp
  dsimp only
  rw [if_neg (by decide), if_neg n32, if_neg n35, if_neg q92, if_neg q39, if_neg q34]
def WordOk (cs : List Nat) (a : Nat) (fd : List Wd) (S : Store) (v : G.PV) (S' : Store) : Prop :=
  ∃ y : Wd, ∃ e : Nat, v = .tup [wd y, .int (e : Int)] ∧ a < e ∧ e ≤ cs.length ∧ Ma cs e = ⟨fd, some y, .out, false⟩ ∧ (e = cs.length ∨ cs[e]? = some 32 ∨ cs[e]? = some 10) ∧ Kp S S'
theorem word_ok {x : Str} (hx : x.length ≤ 2000) (hcp : ∀ c ∈ tl x, c < 1114112) (hcl : Closed (tl x)) {a c : Nat} {fd : List Wd} (h : Ma (tl x) a = ⟨fd, none, .out, false⟩) (hc : (tl x)[a]? = some c) (h32 : ¬ (c = 32 ∨ c = 10)) (h35 : c ≠ 35) (S : Store) :
    Wp (F_read_word [.str x, .int (a : Int)] S) (WordOk (tl x) a fd S) := by
  have hxl : x.length ≤ 1000000 := by omega
  have hcs : x.length = (tl x).length := len_tl x
  have hl := (List.getElem?_eq_some_iff.mp hc).1
  rw [F_read_word, wp_mkF, wp_seq]
  simp only [mkF, endF, startP, List.map_cons, List.map_nil, List.length_cons, List.length_nil, List.replicate, List.cons_append, List.nil_append, Nat.sub_zero, Nat.zero_add, Nat.reduceAdd, Nat.reduceSub, sSeq, sIf, sAsg, sRet, sRetN, sDrop, sNext, sBrk, sCont, sAug, stName, stSub, stTup, stCons, stNil, eVar, eC, eUn, eBin, eArg, eLst, eTup, aNil, aCons, eIf, eAnd, eOr, eNot, eChain, bChain, bCmp, bVal, bNot, bAnd, bOr, bTrue, eSl, oNone, oSome, eCall, eCall0, callF, eM, oBl, oB, oT, tr_bl, tr_int, tr_non, tr_tup, isT_str, beq_self_eq_true, vAdd, vSub, vMul, vDiv, vMod, vPow, vNeg, vIAdd, vIMul, vGt, vLt, vLe, vGe, lt2, ltP, vEq, vNe, eq_ii, eq_ss, eq_bb, eq_nn, vIx, seqP, lstP, newT, vSet, vLen, lenP, vAbs, vMax, vMin, cInt, vIsi, ty_non, ty_bl, ty_int, ty_str, ty_tup, ty_fl, Out.bind_ok, Out.bind_bad, wp_ok, wp_bind, List.getElem?_cons_zero, List.getElem?_cons_succ, List.getElem?_nil, List.set_cons_zero, List.set_cons_succ, List.append_nil, Option.map_some, Option.map_none, Option.bind_some, Option.bind_none, ga, ga0, gs, gs0, List.append_assoc, Nat.add_assoc, newL, LN, Nat.reduceLeDiff, Nat.reduceLT, kit_ss, kit_ts, kit_ls, kit_bs, kit_is, kit_ns, reduceCtorEq, a30, a31, a32, i30, i31, i32, decide_eq_true_eq, ne_eq, Int.reduceLT, Int.reduceLE, Int.reduceNeg, Int.reducePow, Int.reduceToNat, Int.reduceEq, Int.reduceNe, mulOk_l, List.length_set, List.length_append, imp_false, not_false_eq_true, implies_true, if_true, if_false, ite_true, ite_false, Bool.false_eq_true, Bool.not_true, Bool.not_false, forall_const, eq_self, and_true, true_and, and_self, PV.int.injEq, PV.str.injEq, PV.bl.injEq, decide_true, decide_false]
  refine Wp.imp (P := fun fl S1 => ∃ (b : Nat) (y : Wd) (v3 : Option G.PV), fl = .nx [some (.str x), some (.int (b : Int)), some (.loc S.length), v3] ∧ S1[S.length]? = some (.lst (y.map sgn)) ∧ Kp S S1 ∧ a < b ∧ b ≤ (tl x).length ∧ Ma (tl x) b = ⟨fd, some y, .out, false⟩ ∧ (b = (tl x).length ∨ (tl x)[b]? = some 32 ∨ (tl x)[b]? = some 10)) ?_ ?_
  · refine while_inv (m := x.length - a) (fun m τ S1 => ∃ (b : Nat) (sg : Option Wd) (v3 : Option G.PV), m = x.length - b ∧ τ = [some (.str x), some (.int (b : Int)), some (.loc S.length), v3] ∧ S1[S.length]? = some (.lst ((sg.getD []).map sgn)) ∧ Kp S S1 ∧ a ≤ b ∧ b ≤ (tl x).length ∧ Ma (tl x) b = ⟨fd, sg, .out, false⟩ ∧ (sg = none → b = a))
      ⟨a, none, none, rfl, rfl, by rw [snoc_get]; rfl, .app S _, Nat.le_refl _, by omega, h, fun _ => rfl⟩ (by omega) ?_
    rintro m τ S1 ⟨b, sg, v3, rfl, rfl, hf, hK, hab, hbl, hM, hs⟩
    by_cases hb : b < (tl x).length
    · have hc2 : (tl x)[b]? = some (tl x)[b] := List.getElem?_eq_getElem hb
      generalize (tl x)[b] = d at hc2
      have hat : atI x.cps.toList (b : Int) = some d := atI_nat hc2
      have hlt : (b : Int) < (x.length : Int) := by omega
      have hsn : ∀ z : sg = none, d = c := fun z => by
        rw [hs z, hc] at hc2; exact (Option.some.inj hc2).symm
      by_cases q32 : d = 32 ∨ d = 10
      · have in1 : decide (d ∈ tl (Str.ofString " \n")) = true := decide_eq_true (by rw [g1]; rcases q32 with rfl | rfl <;> simp)
        simp only [mkF, endF, startP, List.map_cons, List.map_nil, List.length_cons, List.length_nil, List.replicate, List.cons_append, List.nil_append, Nat.sub_zero, Nat.zero_add, Nat.reduceAdd, Nat.reduceSub, sSeq, sIf, sAsg, sRet, sRetN, sDrop, sNext, sBrk, sCont, sAug, stName, stSub, stTup, stCons, stNil, eVar, eC, eUn, eBin, eArg, eLst, eTup, aNil, aCons, eIf, eAnd, eOr, eNot, eChain, bChain, bCmp, bVal, bNot, bAnd, bOr, bTrue, eSl, oNone, oSome, eCall, eCall0, callF, eM, oBl, oB, oT, tr_bl, tr_int, tr_non, tr_tup, isT_str, beq_self_eq_true, vAdd, vSub, vMul, vDiv, vMod, vPow, vNeg, vIAdd, vIMul, vGt, vLt, vLe, vGe, lt2, ltP, vEq, vNe, eq_ii, eq_ss, eq_bb, eq_nn, vIx, seqP, lstP, newT, vSet, vLen, lenP, vAbs, vMax, vMin, cInt, vIsi, ty_non, ty_bl, ty_int, ty_str, ty_tup, ty_fl, Out.bind_ok, Out.bind_bad, wp_ok, wp_bind, List.getElem?_cons_zero, List.getElem?_cons_succ, List.getElem?_nil, List.set_cons_zero, List.set_cons_succ, List.append_nil, Option.map_some, Option.map_none, Option.bind_some, Option.bind_none, ga, ga0, gs, gs0, List.append_assoc, Nat.add_assoc, newL, LN, Nat.reduceLeDiff, Nat.reduceLT, kit_ss, kit_ts, kit_ls, kit_bs, kit_is, kit_ns, reduceCtorEq, a30, a31, a32, i30, i31, i32, decide_eq_true_eq, ne_eq, Int.reduceLT, Int.reduceLE, Int.reduceNeg, Int.reducePow, Int.reduceToNat, Int.reduceEq, Int.reduceNe, mulOk_l, List.length_set, List.length_append, imp_false, not_false_eq_true, implies_true, if_true, if_false, ite_true, ite_false, Bool.false_eq_true, Bool.not_true, Bool.not_false, forall_const, eq_self, and_true, true_and, and_self, PV.int.injEq, PV.str.injEq, PV.bl.injEq, decide_true, decide_false, hxl, hlt, hat, v_nin, in1]
        cases sg with
        | none => rw [hsn rfl] at q32; exact absurd q32 h32
        | some y =>
          have hne : a ≠ b := by
            intro z
            rw [← z, h] at hM
            cases hM
          exact .inr ⟨b, y, _, rfl, hf, hK, by omega, hbl, hM, by rcases q32 with rfl | rfl <;> simp [hc2]⟩
      · have in1 : decide (d ∈ tl (Str.ofString " \n")) = false := decide_eq_false (by rw [g1]; simpa using q32)
        simp only [mkF, endF, startP, List.map_cons, List.map_nil, List.length_cons, List.length_nil, List.replicate, List.cons_append, List.nil_append, Nat.sub_zero, Nat.zero_add, Nat.reduceAdd, Nat.reduceSub, sSeq, sIf, sAsg, sRet, sRetN, sDrop, sNext, sBrk, sCont, sAug, stName, stSub, stTup, stCons, stNil, eVar, eC, eUn, eBin, eArg, eLst, eTup, aNil, aCons, eIf, eAnd, eOr, eNot, eChain, bChain, bCmp, bVal, bNot, bAnd, bOr, bTrue, eSl, oNone, oSome, eCall, eCall0, callF, eM, oBl, oB, oT, tr_bl, tr_int, tr_non, tr_tup, isT_str, beq_self_eq_true, vAdd, vSub, vMul, vDiv, vMod, vPow, vNeg, vIAdd, vIMul, vGt, vLt, vLe, vGe, lt2, ltP, vEq, vNe, eq_ii, eq_ss, eq_bb, eq_nn, vIx, seqP, lstP, newT, vSet, vLen, lenP, vAbs, vMax, vMin, cInt, vIsi, ty_non, ty_bl, ty_int, ty_str, ty_tup, ty_fl, Out.bind_ok, Out.bind_bad, wp_ok, wp_bind, List.getElem?_cons_zero, List.getElem?_cons_succ, List.getElem?_nil, List.set_cons_zero, List.set_cons_succ, List.append_nil, Option.map_some, Option.map_none, Option.bind_some, Option.bind_none, ga, ga0, gs, gs0, List.append_assoc, Nat.add_assoc, newL, LN, Nat.reduceLeDiff, Nat.reduceLT, kit_ss, kit_ts, kit_ls, kit_bs, kit_is, kit_ns, reduceCtorEq, a30, a31, a32, i30, i31, i32, decide_eq_true_eq, ne_eq, Int.reduceLT, Int.reduceLE, Int.reduceNeg, Int.reducePow, Int.reduceToNat, Int.reduceEq, Int.reduceNe, mulOk_l, List.length_set, List.length_append, imp_false, not_false_eq_true, implies_true, if_true, if_false, ite_true, ite_false, Bool.false_eq_true, Bool.not_true, Bool.not_false, forall_const, eq_self, and_true, true_and, and_self, PV.int.injEq, PV.str.injEq, PV.bl.injEq, decide_true, decide_false, hxl, hlt, hat, v_nin, in1]
        refine .inl ((piece_ok hx hcp hcl hM hc2 q32 (fun z => by rw [hsn z]; exact h35) S1).imp fun v S2 ⟨y, e, hv, he1, he2, he3, T, hT⟩ => ?_)
        subst hv hT
        have hgl : (sg.getD [] ++ y).length ≤ 2 * e := by
          have := (mok ((tl x).take e)).gl
          rw [List.length_take, Nat.min_eq_left he2, show runM ((tl x).take e) = _ from he3] at this
          simpa using this
        have hf2 : (S1 ++ T)[S.length]? = some (.lst ((sg.getD []).map sgn)) := by
          rw [List.getElem?_append_left (List.getElem?_eq_some_iff.mp hf).1]; exact hf
        have hE : mExtend (.loc S.length) [.tup (y.map sgn)] (S1 ++ T) = .ok .non ((S1 ++ T).set S.length (.lst ((sg.getD []).map sgn ++ y.map sgn))) := vext_t hf2 (by
          rw [List.length_map, List.length_map]; rw [List.length_append] at hgl; omega)
        have hTy : isTy "list" (.loc S.length) (S1 ++ T) = true := isT_lst hf2
        have hfl := (List.getElem?_eq_some_iff.mp hf2).1
        simp only [wd, mkF, endF, startP, List.map_cons, List.map_nil, List.length_cons, List.length_nil, List.replicate, List.cons_append, List.nil_append, Nat.sub_zero, Nat.zero_add, Nat.reduceAdd, Nat.reduceSub, sSeq, sIf, sAsg, sRet, sRetN, sDrop, sNext, sBrk, sCont, sAug, stName, stSub, stTup, stCons, stNil, eVar, eC, eUn, eBin, eArg, eLst, eTup, aNil, aCons, eIf, eAnd, eOr, eNot, eChain, bChain, bCmp, bVal, bNot, bAnd, bOr, bTrue, eSl, oNone, oSome, eCall, eCall0, callF, eM, oBl, oB, oT, tr_bl, tr_int, tr_non, tr_tup, isT_str, beq_self_eq_true, vAdd, vSub, vMul, vDiv, vMod, vPow, vNeg, vIAdd, vIMul, vGt, vLt, vLe, vGe, lt2, ltP, vEq, vNe, eq_ii, eq_ss, eq_bb, eq_nn, vIx, seqP, lstP, newT, vSet, vLen, lenP, vAbs, vMax, vMin, cInt, vIsi, ty_non, ty_bl, ty_int, ty_str, ty_tup, ty_fl, Out.bind_ok, Out.bind_bad, wp_ok, wp_bind, List.getElem?_cons_zero, List.getElem?_cons_succ, List.getElem?_nil, List.set_cons_zero, List.set_cons_succ, List.append_nil, Option.map_some, Option.map_none, Option.bind_some, Option.bind_none, ga, ga0, gs, gs0, List.append_assoc, Nat.add_assoc, newL, LN, Nat.reduceLeDiff, Nat.reduceLT, kit_ss, kit_ts, kit_ls, kit_bs, kit_is, kit_ns, reduceCtorEq, a30, a31, a32, i30, i31, i32, decide_eq_true_eq, ne_eq, Int.reduceLT, Int.reduceLE, Int.reduceNeg, Int.reducePow, Int.reduceToNat, Int.reduceEq, Int.reduceNe, mulOk_l, List.length_set, List.length_append, imp_false, not_false_eq_true, implies_true, if_true, if_false, ite_true, ite_false, Bool.false_eq_true, Bool.not_true, Bool.not_false, forall_const, eq_self, and_true, true_and, and_self, PV.int.injEq, PV.str.injEq, PV.bl.injEq, decide_true, decide_false, hE, hTy]
        refine ⟨_, _, .inl rfl, ?_, e, some (sg.getD [] ++ y), _, rfl, rfl, ?_, (hK.app' T).set (Nat.le_refl _) _, by omega, he2, he3, fun z => by cases z⟩
        · omega
        · rw [List.getElem?_set_self hfl, ← List.map_append]; rfl
    · have hlt : ¬ (b : Int) < (x.length : Int) := by omega
      simp only [mkF, endF, startP, List.map_cons, List.map_nil, List.length_cons, List.length_nil, List.replicate, List.cons_append, List.nil_append, Nat.sub_zero, Nat.zero_add, Nat.reduceAdd, Nat.reduceSub, sSeq, sIf, sAsg, sRet, sRetN, sDrop, sNext, sBrk, sCont, sAug, stName, stSub, stTup, stCons, stNil, eVar, eC, eUn, eBin, eArg, eLst, eTup, aNil, aCons, eIf, eAnd, eOr, eNot, eChain, bChain, bCmp, bVal, bNot, bAnd, bOr, bTrue, eSl, oNone, oSome, eCall, eCall0, callF, eM, oBl, oB, oT, tr_bl, tr_int, tr_non, tr_tup, isT_str, beq_self_eq_true, vAdd, vSub, vMul, vDiv, vMod, vPow, vNeg, vIAdd, vIMul, vGt, vLt, vLe, vGe, lt2, ltP, vEq, vNe, eq_ii, eq_ss, eq_bb, eq_nn, vIx, seqP, lstP, newT, vSet, vLen, lenP, vAbs, vMax, vMin, cInt, vIsi, ty_non, ty_bl, ty_int, ty_str, ty_tup, ty_fl, Out.bind_ok, Out.bind_bad, wp_ok, wp_bind, List.getElem?_cons_zero, List.getElem?_cons_succ, List.getElem?_nil, List.set_cons_zero, List.set_cons_succ, List.append_nil, Option.map_some, Option.map_none, Option.bind_some, Option.bind_none, ga, ga0, gs, gs0, List.append_assoc, Nat.add_assoc, newL, LN, Nat.reduceLeDiff, Nat.reduceLT, kit_ss, kit_ts, kit_ls, kit_bs, kit_is, kit_ns, reduceCtorEq, a30, a31, a32, i30, i31, i32, decide_eq_true_eq, ne_eq, Int.reduceLT, Int.reduceLE, Int.reduceNeg, Int.reducePow, Int.reduceToNat, Int.reduceEq, Int.reduceNe, mulOk_l, List.length_set, List.length_append, imp_false, not_false_eq_true, implies_true, if_true, if_false, ite_true, ite_false, Bool.false_eq_true, Bool.not_true, Bool.not_false, forall_const, eq_self, and_true, true_and, and_self, PV.int.injEq, PV.str.injEq, PV.bl.injEq, decide_true, decide_false, hxl, hlt]
      cases sg with
      | none => have := hs rfl; omega
      | some y => exact .inr ⟨b, y, _, rfl, hf, hK, by omega, hbl, hM, .inl (by omega)⟩
  · rintro fl S1 ⟨b, y, v3, rfl, hf, hK, hab, hbl, hM, hend⟩
    have hV := vtup_l hf
    simp only [mkF, endF, startP, List.map_cons, List.map_nil, List.length_cons, List.length_nil, List.replicate, List.cons_append, List.nil_append, Nat.sub_zero, Nat.zero_add, Nat.reduceAdd, Nat.reduceSub, sSeq, sIf, sAsg, sRet, sRetN, sDrop, sNext, sBrk, sCont, sAug, stName, stSub, stTup, stCons, stNil, eVar, eC, eUn, eBin, eArg, eLst, eTup, aNil, aCons, eIf, eAnd, eOr, eNot, eChain, bChain, bCmp, bVal, bNot, bAnd, bOr, bTrue, eSl, oNone, oSome, eCall, eCall0, callF, eM, oBl, oB, oT, tr_bl, tr_int, tr_non, tr_tup, isT_str, beq_self_eq_true, vAdd, vSub, vMul, vDiv, vMod, vPow, vNeg, vIAdd, vIMul, vGt, vLt, vLe, vGe, lt2, ltP, vEq, vNe, eq_ii, eq_ss, eq_bb, eq_nn, vIx, seqP, lstP, newT, vSet, vLen, lenP, vAbs, vMax, vMin, cInt, vIsi, ty_non, ty_bl, ty_int, ty_str, ty_tup, ty_fl, Out.bind_ok, Out.bind_bad, wp_ok, wp_bind, List.getElem?_cons_zero, List.getElem?_cons_succ, List.getElem?_nil, List.set_cons_zero, List.set_cons_succ, List.append_nil, Option.map_some, Option.map_none, Option.bind_some, Option.bind_none, ga, ga0, gs, gs0, List.append_assoc, Nat.add_assoc, newL, LN, Nat.reduceLeDiff, Nat.reduceLT, kit_ss, kit_ts, kit_ls, kit_bs, kit_is, kit_ns, reduceCtorEq, a30, a31, a32, i30, i31, i32, decide_eq_true_eq, ne_eq, Int.reduceLT, Int.reduceLE, Int.reduceNeg, Int.reducePow, Int.reduceToNat, Int.reduceEq, Int.reduceNe, mulOk_l, List.length_set, List.length_append, imp_false, not_false_eq_true, implies_true, if_true, if_false, ite_true, ite_false, Bool.false_eq_true, Bool.not_true, Bool.not_false, forall_const, eq_self, and_true, true_and, and_self, PV.int.injEq, PV.str.injEq, PV.bl.injEq, decide_true, decide_false, hV]
    exact ⟨y, b, rfl, hab, hbl, hM, hend, hK⟩
theorem split_ok {x : Str} (hx : x.length ≤ 2000) (hcp : ∀ c ∈ tl x, c < 1114112) {ws : List Wd} (hcl : resM (runM (tl x)) = some ws) (S : Store) :
    Wp (F_split [.str x] S) fun v S' => v = .loc S.length ∧ S'[S.length]? = some (.lst (ws.map wd)) ∧ Kp S S' := by
  have hxl : x.length ≤ 1000000 := by omega
  have hcs : x.length = (tl x).length := len_tl x
  have hC : Closed (tl x) := by unfold Closed; rw [hcl]; simp
  have p0 : PreB (tl x) 0 [] := ⟨Nat.zero_le _, rfl, rfl, .inl ⟨rfl, .inl rfl⟩⟩
  rw [F_split, wp_mkF, wp_seq]
  simp only [mkF, endF, startP, List.map_cons, List.map_nil, List.length_cons, List.length_nil, List.replicate, List.cons_append, List.nil_append, Nat.sub_zero, Nat.zero_add, Nat.reduceAdd, Nat.reduceSub, sSeq, sIf, sAsg, sRet, sRetN, sDrop, sNext, sBrk, sCont, sAug, stName, stSub, stTup, stCons, stNil, eVar, eC, eUn, eBin, eArg, eLst, eTup, aNil, aCons, eIf, eAnd, eOr, eNot, eChain, bChain, bCmp, bVal, bNot, bAnd, bOr, bTrue, eSl, oNone, oSome, eCall, eCall0, callF, eM, oBl, oB, oT, tr_bl, tr_int, tr_non, tr_tup, isT_str, beq_self_eq_true, vAdd, vSub, vMul, vDiv, vMod, vPow, vNeg, vIAdd, vIMul, vGt, vLt, vLe, vGe, lt2, ltP, vEq, vNe, eq_ii, eq_ss, eq_bb, eq_nn, vIx, seqP, lstP, newT, vSet, vLen, lenP, vAbs, vMax, vMin, cInt, vIsi, ty_non, ty_bl, ty_int, ty_str, ty_tup, ty_fl, Out.bind_ok, Out.bind_bad, wp_ok, wp_bind, List.getElem?_cons_zero, List.getElem?_cons_succ, List.getElem?_nil, List.set_cons_zero, List.set_cons_succ, List.append_nil, Option.map_some, Option.map_none, Option.bind_some, Option.bind_none, ga, ga0, gs, gs0, List.append_assoc, Nat.add_assoc, newL, LN, Nat.reduceLeDiff, Nat.reduceLT, kit_ss, kit_ts, kit_ls, kit_bs, kit_is, kit_ns, reduceCtorEq, a30, a31, a32, i30, i31, i32, decide_eq_true_eq, ne_eq, Int.reduceLT, Int.reduceLE, Int.reduceNeg, Int.reducePow, Int.reduceToNat, Int.reduceEq, Int.reduceNe, mulOk_l, List.length_set, List.length_append, imp_false, not_false_eq_true, implies_true, if_true, if_false, ite_true, ite_false, Bool.false_eq_true, Bool.not_true, Bool.not_false, forall_const, eq_self, and_true, true_and, and_self, PV.int.injEq, PV.str.injEq, PV.bl.injEq, decide_true, decide_false, sPar, kit_ss]
  refine (wbeg_ok hx p0 (S ++ [.lst []])).imp fun v S1 ⟨h1, b, h2, h3, h4, h5⟩ => ?_
  subst h1 h2
  refine Wp.imp (P := fun fl S1 => ∃ (b : Nat) (v3 : Option G.PV), fl = .nx [some (.str x), some (.loc S.length), some (.int (b : Int)), v3] ∧ S1[S.length]? = some (.lst (ws.map wd)) ∧ Kp S S1) ?_ ?_
  · refine while_inv (m := x.length - b) (fun m τ S1 => ∃ (b : Nat) (us : List Wd) (v3 : Option G.PV), m = x.length - b ∧ τ = [some (.str x), some (.loc S.length), some (.int (b : Int)), v3] ∧ S1[S.length]? = some (.lst (us.map wd)) ∧ Kp S S1 ∧ PreB (tl x) b us ∧ Begun (tl x) b)
      ⟨b, [], none, rfl, rfl, by rw [snoc_get]; rfl, .app S _, h4, h5⟩ (by omega) ?_
    rintro m τ S1 ⟨b, us, v3, rfl, rfl, hf, hK, hP, hB⟩
    have hbl := hP.le
    have hfl := (List.getElem?_eq_some_iff.mp hf).1
    rcases hB with hB | ⟨c, hc, c32, c10, c35⟩
    · have hlt : ¬ (b : Int) < (x.length : Int) := by omega
      simp only [mkF, endF, startP, List.map_cons, List.map_nil, List.length_cons, List.length_nil, List.replicate, List.cons_append, List.nil_append, Nat.sub_zero, Nat.zero_add, Nat.reduceAdd, Nat.reduceSub, sSeq, sIf, sAsg, sRet, sRetN, sDrop, sNext, sBrk, sCont, sAug, stName, stSub, stTup, stCons, stNil, eVar, eC, eUn, eBin, eArg, eLst, eTup, aNil, aCons, eIf, eAnd, eOr, eNot, eChain, bChain, bCmp, bVal, bNot, bAnd, bOr, bTrue, eSl, oNone, oSome, eCall, eCall0, callF, eM, oBl, oB, oT, tr_bl, tr_int, tr_non, tr_tup, isT_str, beq_self_eq_true, vAdd, vSub, vMul, vDiv, vMod, vPow, vNeg, vIAdd, vIMul, vGt, vLt, vLe, vGe, lt2, ltP, vEq, vNe, eq_ii, eq_ss, eq_bb, eq_nn, vIx, seqP, lstP, newT, vSet, vLen, lenP, vAbs, vMax, vMin, cInt, vIsi, ty_non, ty_bl, ty_int, ty_str, ty_tup, ty_fl, Out.bind_ok, Out.bind_bad, wp_ok, wp_bind, List.getElem?_cons_zero, List.getElem?_cons_succ, List.getElem?_nil, List.set_cons_zero, List.set_cons_succ, List.append_nil, Option.map_some, Option.map_none, Option.bind_some, Option.bind_none, ga, ga0, gs, gs0, List.append_assoc, Nat.add_assoc, newL, LN, Nat.reduceLeDiff, Nat.reduceLT, kit_ss, kit_ts, kit_ls, kit_bs, kit_is, kit_ns, reduceCtorEq, a30, a31, a32, i30, i31, i32, decide_eq_true_eq, ne_eq, Int.reduceLT, Int.reduceLE, Int.reduceNeg, Int.reducePow, Int.reduceToNat, Int.reduceEq, Int.reduceNe, mulOk_l, List.length_set, List.length_append, imp_false, not_false_eq_true, implies_true, if_true, if_false, ite_true, ite_false, Bool.false_eq_true, Bool.not_true, Bool.not_false, forall_const, eq_self, and_true, true_and, and_self, PV.int.injEq, PV.str.injEq, PV.bl.injEq, decide_true, decide_false, hxl, hlt]
      refine .inr ⟨b, _, rfl, ?_, hK⟩
      obtain ⟨_, h2, h3, h4⟩ := hP
      rw [hB, ma_end] at h2 h3 h4
      have : resM (runM (tl x)) = some us := by
        unfold resM
        rw [if_neg, h3]
        rcases h4 with ⟨h4, _⟩ | ⟨h4, _⟩ <;> simp [h4, h2]
      rw [this] at hcl
      rw [← Option.some.inj hcl]
      exact hf
    · have hl := (List.getElem?_eq_some_iff.mp hc).1
      have hlt : (b : Int) < (x.length : Int) := by omega
      have hM : Ma (tl x) b = ⟨us, none, .out, false⟩ := by
        obtain ⟨_, h2, h3, h4⟩ := hP
        generalize Ma (tl x) b = m at h2 h3 h4
        obtain ⟨fd, sg, md, es⟩ := m
        dsimp only at h2 h3 h4
        subst h2
        rcases h4 with ⟨rfl, h4⟩ | ⟨_, _, h4⟩
        · rcases h4 with rfl | h | h | h
          · simp at h3; rw [h3]
          · omega
          · rw [hc] at h; exact absurd (Option.some.inj h) c32
          · rw [hc] at h; exact absurd (Option.some.inj h) c10
        · rcases h4 with h | h
          · omega
          · rw [hc] at h; exact absurd (Option.some.inj h) c10
      simp only [mkF, endF, startP, List.map_cons, List.map_nil, List.length_cons, List.length_nil, List.replicate, List.cons_append, List.nil_append, Nat.sub_zero, Nat.zero_add, Nat.reduceAdd, Nat.reduceSub, sSeq, sIf, sAsg, sRet, sRetN, sDrop, sNext, sBrk, sCont, sAug, stName, stSub, stTup, stCons, stNil, eVar, eC, eUn, eBin, eArg, eLst, eTup, aNil, aCons, eIf, eAnd, eOr, eNot, eChain, bChain, bCmp, bVal, bNot, bAnd, bOr, bTrue, eSl, oNone, oSome, eCall, eCall0, callF, eM, oBl, oB, oT, tr_bl, tr_int, tr_non, tr_tup, isT_str, beq_self_eq_true, vAdd, vSub, vMul, vDiv, vMod, vPow, vNeg, vIAdd, vIMul, vGt, vLt, vLe, vGe, lt2, ltP, vEq, vNe, eq_ii, eq_ss, eq_bb, eq_nn, vIx, seqP, lstP, newT, vSet, vLen, lenP, vAbs, vMax, vMin, cInt, vIsi, ty_non, ty_bl, ty_int, ty_str, ty_tup, ty_fl, Out.bind_ok, Out.bind_bad, wp_ok, wp_bind, List.getElem?_cons_zero, List.getElem?_cons_succ, List.getElem?_nil, List.set_cons_zero, List.set_cons_succ, List.append_nil, Option.map_some, Option.map_none, Option.bind_some, Option.bind_none, ga, ga0, gs, gs0, List.append_assoc, Nat.add_assoc, newL, LN, Nat.reduceLeDiff, Nat.reduceLT, kit_ss, kit_ts, kit_ls, kit_bs, kit_is, kit_ns, reduceCtorEq, a30, a31, a32, i30, i31, i32, decide_eq_true_eq, ne_eq, Int.reduceLT, Int.reduceLE, Int.reduceNeg, Int.reducePow, Int.reduceToNat, Int.reduceEq, Int.reduceNe, mulOk_l, List.length_set, List.length_append, imp_false, not_false_eq_true, implies_true, if_true, if_false, ite_true, ite_false, Bool.false_eq_true, Bool.not_true, Bool.not_false, forall_const, eq_self, and_true, true_and, and_self, PV.int.injEq, PV.str.injEq, PV.bl.injEq, decide_true, decide_false, hxl, hlt]
      refine .inl ((word_ok hx hcp hC hM hc (fun z => z.elim c32 c10) c35 S1).imp fun v S2 ⟨y, e, hv, he1, he2, he3, he4, hK2⟩ => ?_)
      subst hv
      have hf2 : S2[S.length]? = some (.lst (us.map wd)) := hK2.get hf
      have hfl2 := (List.getElem?_eq_some_iff.mp hf2).1
      have husl : us.length ≤ e := by
        have := (mok ((tl x).take e)).fl
        rw [List.length_take, Nat.min_eq_left he2, show runM ((tl x).take e) = _ from he3] at this
        simpa using this
      have hA : mAppend (.loc S.length) [wd y] S2 = .ok .non (S2.set S.length (.lst (us.map wd ++ [wd y]))) := vapp_l hf2 (by rw [List.length_map]; omega)
      have hTy : isTy "list" (.loc S.length) S2 = true := isT_lst hf2
      have hP2 : PreB (tl x) e (us ++ [y]) := ⟨he2, by rw [he3], by rw [he3]; rfl, .inl (by rw [he3]; exact ⟨rfl, .inr he4⟩)⟩
      simp only [mkF, endF, startP, List.map_cons, List.map_nil, List.length_cons, List.length_nil, List.replicate, List.cons_append, List.nil_append, Nat.sub_zero, Nat.zero_add, Nat.reduceAdd, Nat.reduceSub, sSeq, sIf, sAsg, sRet, sRetN, sDrop, sNext, sBrk, sCont, sAug, stName, stSub, stTup, stCons, stNil, eVar, eC, eUn, eBin, eArg, eLst, eTup, aNil, aCons, eIf, eAnd, eOr, eNot, eChain, bChain, bCmp, bVal, bNot, bAnd, bOr, bTrue, eSl, oNone, oSome, eCall, eCall0, callF, eM, oBl, oB, oT, tr_bl, tr_int, tr_non, tr_tup, isT_str, beq_self_eq_true, vAdd, vSub, vMul, vDiv, vMod, vPow, vNeg, vIAdd, vIMul, vGt, vLt, vLe, vGe, lt2, ltP, vEq, vNe, eq_ii, eq_ss, eq_bb, eq_nn, vIx, seqP, lstP, newT, vSet, vLen, lenP, vAbs, vMax, vMin, cInt, vIsi, ty_non, ty_bl, ty_int, ty_str, ty_tup, ty_fl, Out.bind_ok, Out.bind_bad, wp_ok, wp_bind, List.getElem?_cons_zero, List.getElem?_cons_succ, List.getElem?_nil, List.set_cons_zero, List.set_cons_succ, List.append_nil, Option.map_some, Option.map_none, Option.bind_some, Option.bind_none, ga, ga0, gs, gs0, List.append_assoc, Nat.add_assoc, newL, LN, Nat.reduceLeDiff, Nat.reduceLT, kit_ss, kit_ts, kit_ls, kit_bs, kit_is, kit_ns, reduceCtorEq, a30, a31, a32, i30, i31, i32, decide_eq_true_eq, ne_eq, Int.reduceLT, Int.reduceLE, Int.reduceNeg, Int.reducePow, Int.reduceToNat, Int.reduceEq, Int.reduceNe, mulOk_l, List.length_set, List.length_append, imp_false, not_false_eq_true, implies_true, if_true, if_false, ite_true, ite_false, Bool.false_eq_true, Bool.not_true, Bool.not_false, forall_const, eq_self, and_true, true_and, and_self, PV.int.injEq, PV.str.injEq, PV.bl.injEq, decide_true, decide_false, hA, hTy]
      refine (wbeg_ok hx hP2 _).imp fun v S3 ⟨h1, b2, h2, h3, h4, h5⟩ => ?_
      subst h1 h2
      have hb2 := h4.le
      refine ⟨_, _, .inl rfl, ?_, b2, us ++ [y], _, rfl, rfl, ?_, (hK.trans hK2).set (Nat.le_refl _) _, h4, h5⟩
      · omega
      · rw [List.getElem?_set_self hfl2, List.map_append]; rfl
  · rintro fl S1 ⟨b, v3, rfl, hf, hK⟩
    simp only [mkF, endF, startP, List.map_cons, List.map_nil, List.length_cons, List.length_nil, List.replicate, List.cons_append, List.nil_append, Nat.sub_zero, Nat.zero_add, Nat.reduceAdd, Nat.reduceSub, sSeq, sIf, sAsg, sRet, sRetN, sDrop, sNext, sBrk, sCont, sAug, stName, stSub, stTup, stCons, stNil, eVar, eC, eUn, eBin, eArg, eLst, eTup, aNil, aCons, eIf, eAnd, eOr, eNot, eChain, bChain, bCmp, bVal, bNot, bAnd, bOr, bTrue, eSl, oNone, oSome, eCall, eCall0, callF, eM, oBl, oB, oT, tr_bl, tr_int, tr_non, tr_tup, isT_str, beq_self_eq_true, vAdd, vSub, vMul, vDiv, vMod, vPow, vNeg, vIAdd, vIMul, vGt, vLt, vLe, vGe, lt2, ltP, vEq, vNe, eq_ii, eq_ss, eq_bb, eq_nn, vIx, seqP, lstP, newT, vSet, vLen, lenP, vAbs, vMax, vMin, cInt, vIsi, ty_non, ty_bl, ty_int, ty_str, ty_tup, ty_fl, Out.bind_ok, Out.bind_bad, wp_ok, wp_bind, List.getElem?_cons_zero, List.getElem?_cons_succ, List.getElem?_nil, List.set_cons_zero, List.set_cons_succ, List.append_nil, Option.map_some, Option.map_none, Option.bind_some, Option.bind_none, ga, ga0, gs, gs0, List.append_assoc, Nat.add_assoc, newL, LN, Nat.reduceLeDiff, Nat.reduceLT, kit_ss, kit_ts, kit_ls, kit_bs, kit_is, kit_ns, reduceCtorEq, a30, a31, a32, i30, i31, i32, decide_eq_true_eq, ne_eq, Int.reduceLT, Int.reduceLE, Int.reduceNeg, Int.reducePow, Int.reduceToNat, Int.reduceEq, Int.reduceNe, mulOk_l, List.length_set, List.length_append, imp_false, not_false_eq_true, implies_true, if_true, if_false, ite_true, ite_false, Bool.false_eq_true, Bool.not_true, Bool.not_false, forall_const, eq_self, and_true, true_and, and_self, PV.int.injEq, PV.str.injEq, PV.bl.injEq, decide_true, decide_false]
    exact ⟨hf, hK⟩
end Lw

namespace Lw
open PySem L2 G TL

def Gp (n : Nat) (v : G.PV) : Prop := ∃ y : Str, v = .str y ∧ y.length ≤ n ∧ ∀ c ∈ tl y, c < 1114112
def gpB (n : Nat) (y : Str) : Bool := decide (y.length ≤ n) && (tl y).all (fun c => decide (c < 1114112))
theorem gp_of {n : Nat} {y : Str} (h : gpB n y = true) : Gp n (.str y) := by
  unfold gpB at h
  rw [Bool.and_eq_true_iff] at h
  exact ⟨y, rfl, of_decide_eq_true h.1, fun c hc => of_decide_eq_true (List.all_eq_true.mp h.2 c hc)⟩
theorem strs_gp {n : Nat} : ∀ ys : List G.PV, (∀ y ∈ ys, Gp n y) → ∃ zs, strsP ys = some zs ∧ zs.length = ys.length ∧ (zs.map (·.length)).sum ≤ n * ys.length ∧ ∀ z ∈ zs, ∀ c ∈ tl z, c < 1114112
  | [], _ => ⟨[], rfl, rfl, Nat.le_refl _, fun z h => by cases h⟩
  | y :: ys, h => by
    obtain ⟨x, rfl, hx, hc⟩ := h y List.mem_cons_self
    obtain ⟨zs, h1, h2, h3, h4⟩ := strs_gp ys fun z hz => h z (List.mem_cons_of_mem _ hz)
    refine ⟨x :: zs, ?_, by rw [List.length_cons, List.length_cons, h2], ?_, fun z hz => ?_⟩
    · show (strsP ys).map (x :: ·) = _
      rw [h1]; rfl
    · rw [List.map_cons, List.sum_cons, List.length_cons, Nat.mul_succ]; omega
    · rcases List.mem_cons.mp hz with rfl | hz
      · exact hc
      · exact h4 z hz
theorem joinL_mem {c : Nat} : ∀ ls : List (List Nat), c ∈ joinL [] ls → ∃ l ∈ ls, c ∈ l
  | [], h => by cases h
  | [p], h => ⟨p, List.mem_cons_self, h⟩
  | p :: q :: r, h => by
    have h' : c ∈ p ++ ([] ++ joinL [] (q :: r)) := h
    rcases List.mem_append.mp h' with h | h
    · exact ⟨p, List.mem_cons_self, h⟩
    · obtain ⟨l, hl, hc⟩ := joinL_mem (q :: r) h
      exact ⟨l, List.mem_cons_of_mem _ hl, hc⟩
theorem join_gp {n k : Nat} {zs : List Str} (h1 : (zs.map (·.length)).sum ≤ n) (h2 : ∀ z ∈ zs, ∀ c ∈ tl z, c < 1114112) : Gp n (.str (Txt.join (Str.ofString "") zs)) := by
  refine ⟨_, rfl, ?_, fun c hc => ?_⟩
  · have h := PySem.StrLaws.join_length_le (Str.ofString "") zs
    rw [show (Str.ofString "").length = 0 from by decide +kernel, Nat.mul_zero, Nat.add_zero] at h
    rw [join_eq]
    exact Nat.le_trans h h1
  · rw [join_eq, tl_join, show tl (Str.ofString "") = [] from rfl] at hc
    obtain ⟨l, hl, hcl⟩ := joinL_mem _ hc
    obtain ⟨z, hz, rfl⟩ := List.mem_map.mp hl
    exact h2 z hz c hcl
def pieces : List Str := (["a", "b", ".", "0", "-", " ", "\n", "#", "\\", "'", "\"", "*", "?", "[", "]", "{", "}", ",", "!", "/", "'a b'", "\"c\"", "''", "\"\"", "\\ ", "\\\n", "\"\\\"", "Ab~", " #x\n", "**", "{a,b}", "'#'", "a#", "\"\\\\\"", "'\\'", "\"\\a\"", "\\\\", "[!a-c]"] : List String).map Str.ofString
theorem pieces_gp : ∀ z ∈ pieces.map G.PV.str, Gp 6 z := by
  intro z hz
  obtain ⟨y, hy, rfl⟩ := List.mem_map.mp hz
  have : pieces.all (gpB 6) = true := by decide +kernel
  exact gp_of (List.all_eq_true.mp this y hy)
theorem text_ok {S : Store} {b : Nat} {k : Int} {sz : Int} (h : BagAt S b k) (hk : k ≤ 50000) (h0 : 0 ≤ sz) (h1 : sz ≤ 100) :
    Wp (F__law_text [.loc b, .int sz] S) fun v S' => Gp 600 v ∧ BagAt S' b (k + 200) ∧ S.length ≤ S'.length := by
  have hb := bag_lt h
  simp only [F__law_text, mkF, endF, startP, List.map_cons, List.map_nil, List.length_cons, List.length_nil, List.replicate, List.cons_append, List.nil_append, Nat.sub_zero, Nat.zero_add, Nat.reduceAdd, Nat.reduceSub, sSeq, sIf, sAsg, sRet, sRetN, sDrop, sNext, sBrk, sCont, sAug, stName, stSub, stTup, stCons, stNil, eVar, eC, eUn, eBin, eArg, eLst, eTup, aNil, aCons, eIf, eAnd, eOr, eNot, eChain, bChain, bCmp, bVal, bNot, bAnd, bOr, bTrue, eSl, oNone, oSome, eCall, eCall0, callF, eM, oBl, oB, oT, tr_bl, tr_int, tr_non, tr_tup, isT_str, beq_self_eq_true, vAdd, vSub, vMul, vDiv, vMod, vPow, vNeg, vIAdd, vIMul, vGt, vLt, vLe, vGe, lt2, ltP, vEq, vNe, eq_ii, eq_ss, eq_bb, eq_nn, vIx, seqP, lstP, newT, vSet, vLen, lenP, vAbs, vMax, vMin, cInt, vIsi, ty_non, ty_bl, ty_int, ty_str, ty_tup, ty_fl, Out.bind_ok, Out.bind_bad, wp_ok, wp_bind, List.getElem?_cons_zero, List.getElem?_cons_succ, List.getElem?_nil, List.set_cons_zero, List.set_cons_succ, List.append_nil, Option.map_some, Option.map_none, Option.bind_some, Option.bind_none, ga, ga0, gs, gs0, List.append_assoc, Nat.add_assoc, newL, LN, Nat.reduceLeDiff, Nat.reduceLT, kit_ss, kit_ts, kit_ls, kit_bs, kit_is, kit_ns, reduceCtorEq, a30, a31, a32, i30, i31, i32, decide_eq_true_eq, ne_eq, Int.reduceLT, Int.reduceLE, Int.reduceNeg, Int.reducePow, Int.reduceToNat, Int.reduceEq, Int.reduceNe, mulOk_l, List.length_set, List.length_append, imp_false, not_false_eq_true, implies_true, if_true, if_false, ite_true, ite_false, Bool.false_eq_true, Bool.not_true, Bool.not_false, forall_const, eq_self, and_true, true_and, and_self, PV.int.injEq, PV.str.injEq, PV.bl.injEq, decide_true, decide_false]
  refine (take_ok (n := sz + 1) (bag_app h _) (by omega) (by omega) (by omega)).imp fun v S1 ⟨r, hv, rLow, r2, r3, o, r4⟩ => ?_
  subst hv
  have hP : S1[S.length + 4]? = some (.lst (pieces.map G.PV.str)) := by
    rw [r4, List.getElem?_set_ne (by omega), ga]; rfl
  have hL : S.length + 5 ≤ S1.length := by rw [r4, List.length_set, List.length_append]; simp
  clear r4
  have hi : (iRange (aCons (eVar 3) aNil)) [some (.loc b), some (.int sz), some (.loc (S.length + 4)), some (.int r), none] S1 = .ok (srcSeq (rangeP 0 r)) S1 := by
    obtain ⟨n, rfl⟩ : ∃ n : Nat, r = (n : Int) := ⟨r.toNat, by omega⟩
    exact (iRange_of (xs := [.int (n : Int)]) (S1 := S1) rfl).trans (rng_ok (by omega))
  have hn : (rangeP 0 r).length = r.toNat := by unfold rangeP; rw [List.length_map, List.length_range, Int.sub_zero]
  have lc : Wp (eLc (iRange (aCons (eVar 3) aNil)) (ctName 4) bTrue (eBin vIx (eVar 2) (eCall 2 F__law_take [] (aCons (eVar 0) (aCons (eArg vLen (aCons (eVar 2) aNil)) aNil)))) [4] [some (.loc b), some (.int sz), some (.loc (S.length + 4)), some (.int r), none] S1)
      fun v S' => BagAt S' b (k + 150) ∧ S1.length ≤ S'.length ∧ ∃ n ys, v = .loc n ∧ S'[n]? = some (.lst ys) ∧ ys.length ≤ 100 ∧ ∀ y ∈ ys, Gp 6 y := by
    refine lc_invG (rangeP 0 r) (fun j S' => BagAt S' b (k + 1 + j) ∧ S'[S.length + 4]? = some (.lst (pieces.map G.PV.str)) ∧ S1.length ≤ S'.length) (Gp 6) hi (by rw [hn]; show _ < 1000000; omega)
      ⟨bag_keep (bag_app r3 _) rfl (by omega), by rw [List.getElem?_append_left (by omega)]; exact hP, by rw [List.length_append]; omega⟩ (fun i S' _ => rfl) ?_ ?_
    · intro i x S' hx ⟨hI, hP', hL'⟩
      have hi8 : i < 101 := by
        have := (List.getElem?_eq_some_iff.mp hx).1
        rw [hn] at this; omega
      refine ⟨_, rfl, ?_⟩
      have hlen : (pieces.map G.PV.str).length = 38 := rfl
      simp only [mkF, endF, startP, List.map_cons, List.map_nil, List.length_cons, List.length_nil, List.replicate, List.cons_append, List.nil_append, Nat.sub_zero, Nat.zero_add, Nat.reduceAdd, Nat.reduceSub, sSeq, sIf, sAsg, sRet, sRetN, sDrop, sNext, sBrk, sCont, sAug, stName, stSub, stTup, stCons, stNil, eVar, eC, eUn, eBin, eArg, eLst, eTup, aNil, aCons, eIf, eAnd, eOr, eNot, eChain, bChain, bCmp, bVal, bNot, bAnd, bOr, bTrue, eSl, oNone, oSome, eCall, eCall0, callF, eM, oBl, oB, oT, tr_bl, tr_int, tr_non, tr_tup, isT_str, beq_self_eq_true, vAdd, vSub, vMul, vDiv, vMod, vPow, vNeg, vIAdd, vIMul, vGt, vLt, vLe, vGe, lt2, ltP, vEq, vNe, eq_ii, eq_ss, eq_bb, eq_nn, vIx, seqP, lstP, newT, vSet, vLen, lenP, vAbs, vMax, vMin, cInt, vIsi, ty_non, ty_bl, ty_int, ty_str, ty_tup, ty_fl, Out.bind_ok, Out.bind_bad, wp_ok, wp_bind, List.getElem?_cons_zero, List.getElem?_cons_succ, List.getElem?_nil, List.set_cons_zero, List.set_cons_succ, List.append_nil, Option.map_some, Option.map_none, Option.bind_some, Option.bind_none, ga, ga0, gs, gs0, List.append_assoc, Nat.add_assoc, newL, LN, Nat.reduceLeDiff, Nat.reduceLT, kit_ss, kit_ts, kit_ls, kit_bs, kit_is, kit_ns, reduceCtorEq, a30, a31, a32, i30, i31, i32, decide_eq_true_eq, ne_eq, Int.reduceLT, Int.reduceLE, Int.reduceNeg, Int.reducePow, Int.reduceToNat, Int.reduceEq, Int.reduceNe, mulOk_l, List.length_set, List.length_append, imp_false, not_false_eq_true, implies_true, if_true, if_false, ite_true, ite_false, Bool.false_eq_true, Bool.not_true, Bool.not_false, forall_const, eq_self, and_true, true_and, and_self, PV.int.injEq, PV.str.injEq, PV.bl.injEq, decide_true, decide_false, wipeP, hP', hlen]
      refine (take_ok (n := 38) hI (by omega) (by decide) (by decide)).imp fun v S3 ⟨r3', hv, p1, p2, p3, o3, p4⟩ => ?_
      subst hv
      have hP3 : S3[S.length + 4]? = some (.lst (pieces.map G.PV.str)) := by rw [p4, List.getElem?_set_ne (by omega)]; exact hP'
      obtain ⟨z, hz, hm⟩ := atI_in (xs := pieces.map G.PV.str) p1 (by rw [hlen]; exact p2)
      simp only [mkF, endF, startP, List.map_cons, List.map_nil, List.length_cons, List.length_nil, List.replicate, List.cons_append, List.nil_append, Nat.sub_zero, Nat.zero_add, Nat.reduceAdd, Nat.reduceSub, sSeq, sIf, sAsg, sRet, sRetN, sDrop, sNext, sBrk, sCont, sAug, stName, stSub, stTup, stCons, stNil, eVar, eC, eUn, eBin, eArg, eLst, eTup, aNil, aCons, eIf, eAnd, eOr, eNot, eChain, bChain, bCmp, bVal, bNot, bAnd, bOr, bTrue, eSl, oNone, oSome, eCall, eCall0, callF, eM, oBl, oB, oT, tr_bl, tr_int, tr_non, tr_tup, isT_str, beq_self_eq_true, vAdd, vSub, vMul, vDiv, vMod, vPow, vNeg, vIAdd, vIMul, vGt, vLt, vLe, vGe, lt2, ltP, vEq, vNe, eq_ii, eq_ss, eq_bb, eq_nn, vIx, seqP, lstP, newT, vSet, vLen, lenP, vAbs, vMax, vMin, cInt, vIsi, ty_non, ty_bl, ty_int, ty_str, ty_tup, ty_fl, Out.bind_ok, Out.bind_bad, wp_ok, wp_bind, List.getElem?_cons_zero, List.getElem?_cons_succ, List.getElem?_nil, List.set_cons_zero, List.set_cons_succ, List.append_nil, Option.map_some, Option.map_none, Option.bind_some, Option.bind_none, ga, ga0, gs, gs0, List.append_assoc, Nat.add_assoc, newL, LN, Nat.reduceLeDiff, Nat.reduceLT, kit_ss, kit_ts, kit_ls, kit_bs, kit_is, kit_ns, reduceCtorEq, a30, a31, a32, i30, i31, i32, decide_eq_true_eq, ne_eq, Int.reduceLT, Int.reduceLE, Int.reduceNeg, Int.reducePow, Int.reduceToNat, Int.reduceEq, Int.reduceNe, mulOk_l, List.length_set, List.length_append, imp_false, not_false_eq_true, implies_true, if_true, if_false, ite_true, ite_false, Bool.false_eq_true, Bool.not_true, Bool.not_false, forall_const, eq_self, and_true, true_and, and_self, PV.int.injEq, PV.str.injEq, PV.bl.injEq, decide_true, decide_false, hP3, hz]
      refine ⟨pieces_gp z hm, by rw [p4, List.getElem?_set_ne (by omega)], fun a => ⟨?_, ?_, ?_⟩⟩
      · exact bag_keep p3 (List.getElem?_set_ne (by omega)) (by omega)
      · rw [List.getElem?_set_ne (by omega)]; exact hP3
      · rw [p4, List.length_set]; exact hL'
    · intro S' ys ⟨q1, _, q3⟩ h2 h3 h4
      refine ⟨bag_keep q1 rfl (by rw [hn]; omega), q3, _, ys, rfl, h2, by rw [h3, hn]; omega, h4⟩
  refine lc.imp fun v S2 ⟨q1, q0, n, ys, hv, q2, q3, q4⟩ => ?_
  subst hv
  obtain ⟨zs, z1, z2, z3, z4⟩ := strs_gp ys q4
  have jc : (zs.map (·.length)).sum + zs.length * (Str.ofString "").length ≤ 1000000 := by
    rw [show (Str.ofString "").length = 0 from by decide +kernel]; omega
  simp only [mkF, endF, startP, List.map_cons, List.map_nil, List.length_cons, List.length_nil, List.replicate, List.cons_append, List.nil_append, Nat.sub_zero, Nat.zero_add, Nat.reduceAdd, Nat.reduceSub, sSeq, sIf, sAsg, sRet, sRetN, sDrop, sNext, sBrk, sCont, sAug, stName, stSub, stTup, stCons, stNil, eVar, eC, eUn, eBin, eArg, eLst, eTup, aNil, aCons, eIf, eAnd, eOr, eNot, eChain, bChain, bCmp, bVal, bNot, bAnd, bOr, bTrue, eSl, oNone, oSome, eCall, eCall0, callF, eM, oBl, oB, oT, tr_bl, tr_int, tr_non, tr_tup, isT_str, beq_self_eq_true, vAdd, vSub, vMul, vDiv, vMod, vPow, vNeg, vIAdd, vIMul, vGt, vLt, vLe, vGe, lt2, ltP, vEq, vNe, eq_ii, eq_ss, eq_bb, eq_nn, vIx, seqP, lstP, newT, vSet, vLen, lenP, vAbs, vMax, vMin, cInt, vIsi, ty_non, ty_bl, ty_int, ty_str, ty_tup, ty_fl, Out.bind_ok, Out.bind_bad, wp_ok, wp_bind, List.getElem?_cons_zero, List.getElem?_cons_succ, List.getElem?_nil, List.set_cons_zero, List.set_cons_succ, List.append_nil, Option.map_some, Option.map_none, Option.bind_some, Option.bind_none, ga, ga0, gs, gs0, List.append_assoc, Nat.add_assoc, newL, LN, Nat.reduceLeDiff, Nat.reduceLT, kit_ss, kit_ts, kit_ls, kit_bs, kit_is, kit_ns, reduceCtorEq, a30, a31, a32, i30, i31, i32, decide_eq_true_eq, ne_eq, Int.reduceLT, Int.reduceLE, Int.reduceNeg, Int.reducePow, Int.reduceToNat, Int.reduceEq, Int.reduceNe, mulOk_l, List.length_set, List.length_append, imp_false, not_false_eq_true, implies_true, if_true, if_false, ite_true, ite_false, Bool.false_eq_true, Bool.not_true, Bool.not_false, forall_const, eq_self, and_true, true_and, and_self, PV.int.injEq, PV.str.injEq, PV.bl.injEq, decide_true, decide_false, mJoin, q2, z1, jc]
  exact ⟨join_gp (k := 0) (by omega) z4, bag_keep q1 rfl (by omega), by omega⟩
end Lw

namespace Lw
open PySem L2 G TL

/-! codes of what was read -/
structure COk (s : Mc) : Prop where
  fd : ∀ w ∈ s.fd, ∀ p ∈ w, p.1 < 1114112
  sg : ∀ p ∈ s.sg.getD [], p.1 < 1114112
theorem cok_stp {s : Mc} {c : Nat} (h : COk s) (hc : c < 1114112) : COk (stp s c) := by
  obtain ⟨fd, sg, md, es⟩ := s
  obtain ⟨h1, h2⟩ := h
  dsimp only at h1 h2
  have ap : ∀ b, ∀ p ∈ sg.getD [] ++ [(c, b)], p.1 < 1114112 := fun b p hp => by
    rcases List.mem_append.mp hp with hp | hp
    · exact h2 p hp
    · rw [List.mem_singleton.mp hp]; exact hc
  have ap2 : ∀ p ∈ sg.getD [] ++ [(92, false), (c, false)], p.1 < 1114112 := fun p hp => by
    rcases List.mem_append.mp hp with hp | hp
    · exact h2 p hp
    · rcases List.mem_cons.mp hp with rfl | hp
      · decide
      · rw [List.mem_singleton.mp hp]; exact hc
  have gap : ∀ w ∈ fd ++ sg.toList, ∀ p ∈ w, p.1 < 1114112 := fun w hw => by
    rcases List.mem_append.mp hw with hw | hw
    · exact h1 w hw
    · cases sg with
      | none => cases hw
      | some z => rw [List.mem_singleton.mp hw]; exact h2
  unfold stp
  dsimp only
  cases md <;> dsimp only
  all_goals (repeat' split)
  all_goals first
    | exact ⟨h1, h2⟩
    | exact ⟨h1, ap _⟩
    | exact ⟨h1, ap2⟩
    | exact ⟨gap, fun p hp => by cases hp⟩
theorem cok : ∀ (l : List Nat) (s : Mc), COk s → (∀ c ∈ l, c < 1114112) → COk (l.foldl stp s)
  | [], s, h, _ => h
  | c :: l, s, h, hl => cok l (stp s c) (cok_stp h (hl c List.mem_cons_self)) fun d hd => hl d (List.mem_cons_of_mem _ hd)
theorem res_ok {l : List Nat} {ws : List Wd} (hl : ∀ c ∈ l, c < 1114112) (h : resM (runM l) = some ws) : (∀ w ∈ ws, ∀ p ∈ w, p.1 < 1114112) ∧ ws.length ≤ l.length + 1 ∧ (ws.map List.length).sum ≤ 2 * l.length := by
  have C : COk (runM l) := cok l mc0 ⟨fun w hw => (by cases hw), fun p hp => (by cases hp)⟩ hl
  have M := mok l
  unfold resM at h
  split at h
  · cases h
  · cases h
    obtain ⟨m1, m2, m3, m4, m5, m6⟩ := M
    obtain ⟨c1, c2⟩ := C
    generalize runM l = m at *
    obtain ⟨fd, sg, md, es⟩ := m
    dsimp only at *
    cases sg with
    | none => refine ⟨fun w hw => c1 w (by simpa using hw), by simp; omega, by simpa using m6⟩
    | some z =>
      refine ⟨fun w hw => ?_, by simp; omega, by simpa using m6⟩
      rcases List.mem_append.mp hw with hw | hw
      · exact c1 w hw
      · rw [List.mem_singleton.mp hw]; exact c2

/-! the written form of words -/
def sgD (p : Nat × Bool) : PyData := .tuple [.str ⟨#[p.1]⟩, .bool p.2]
def wdD (w : Wd) : PyData := .tuple (w.map sgD)
theorem dall_map {α : Type} (f : G.PV → Option PyData) (g : α → G.PV) (d : α → PyData) (h : ∀ a, f (g a) = some (d a)) : ∀ l : List α, dAll f (l.map g) = some (l.map d)
  | [] => rfl
  | a :: l => by
    rw [List.map_cons, List.map_cons]
    unfold dAll
    rw [h a, dall_map f g d h l]
theorem dof_sgn (S : Store) (n : Nat) (p : Nat × Bool) : dOf S (n + 2) (sgn p) = some (sgD p) := rfl
theorem dof_wd (S : Store) (n : Nat) (w : Wd) : dOf S (n + 3) (wd w) = some (wdD w) := by
  show (dAll (dOf S (n + 2)) (w.map sgn)).map PyData.tuple = _
  rw [dall_map _ _ sgD (dof_sgn S n)]
  rfl
theorem dof_ws {S : Store} {n : Nat} {ws : List Wd} (h : S[n]? = some (.lst (ws.map wd))) : dOf S 20 (.loc n) = some (.list (ws.map wdD)) := by
  unfold dOf
  rw [h]
  show (dAll (dOf S 19) (ws.map wd)).map PyData.list = _
  rw [dall_map _ _ wdD (dof_wd S 16)]
  rfl
theorem showAll {α : Type} (f : α → PyData) (h : ∀ a, (f a).showable = true) : ∀ l : List α, PyData.showableAll (l.map f) = true
  | [] => by simp [PyData.showableAll]
  | a :: l => by simp [PyData.showableAll, h a, showAll f h l]
theorem dictAll {α : Type} (f : α → PyData) (h : ∀ a, (f a).hasDict = false) : ∀ l : List α, PyData.hasDictAll (l.map f) = false
  | [] => by simp [PyData.hasDictAll]
  | a :: l => by simp [PyData.hasDictAll, h a, dictAll f h l]
theorem depAll {α : Type} (f : α → PyData) (n : Nat) (h : ∀ a, (f a).depth ≤ n) : ∀ l : List α, PyData.depthAll (l.map f) ≤ n
  | [] => by simp [PyData.depthAll]
  | a :: l => by
    have := depAll f n h l
    have := h a
    simp [PyData.depthAll]; omega
theorem sg_show (p : Nat × Bool) : (sgD p).showable = true := by simp [sgD, PyData.showable, PyData.showableAll]
theorem sg_dict (p : Nat × Bool) : (sgD p).hasDict = false := by simp [sgD, PyData.hasDict, PyData.hasDictAll]
theorem sg_dep (p : Nat × Bool) : (sgD p).depth ≤ 1 := by simp [sgD, PyData.depth, PyData.depthAll]
theorem wd_show (w : Wd) : (wdD w).showable = true := by simp only [wdD, PyData.showable]; exact showAll _ sg_show w
theorem wd_dict (w : Wd) : (wdD w).hasDict = false := by simp only [wdD, PyData.hasDict]; exact dictAll _ sg_dict w
theorem wd_dep (w : Wd) : (wdD w).depth ≤ 2 := by
  have := depAll _ 1 sg_dep w
  simp only [wdD, PyData.depth]; omega
theorem len_app (a b : Str) : (a ++ b).length = a.length + b.length := by rw [len_tl, tl_append, List.length_append, ← len_tl, ← len_tl]
theorem tupT_len (ts : List Str) : (tupleText ts).length ≤ (ts.map (·.length)).sum + 2 * ts.length + 4 := by
  unfold tupleText
  have h := PySem.StrLaws.join_length_le (Str.ofString ", ") ts
  rw [show (Str.ofString ", ").length = 2 from by decide +kernel] at h
  rw [len_app, len_app]
  have h1 : (Str.ofString "(").length = 1 := by decide +kernel
  have h2 : (Str.ofString (if ts.length == 1 then ",)" else ")")).length ≤ 2 := by split <;> decide +kernel
  omega
theorem textF_len : ∀ (ts : List Str) (k : Nat) (acc : Str), (textFrom k acc ts).length ≤ acc.length + (ts.map (·.length)).sum + 2 * ts.length
  | [], k, acc => by show acc.length ≤ _; omega
  | t :: r, k, acc => by
    have ih := textF_len r (k + 1) (acc ++ (Str.ofString (if k > 0 then ", " else "")) ++ t)
    have h2 : (Str.ofString (if k > 0 then ", " else "")).length ≤ 2 := by split <;> decide +kernel
    rw [len_app, len_app] at ih
    show (textFrom (k + 1) (acc ++ (Str.ofString (if k > 0 then ", " else "")) ++ t) r).length ≤ _
    rw [List.map_cons, List.sum_cons, List.length_cons]
    omega
theorem lstT_len (ts : List Str) : (listText ts).length ≤ (ts.map (·.length)).sum + 2 * ts.length + 2 := by
  unfold listText
  have h := textF_len ts 0 (Str.ofString "[")
  have h1 : (Str.ofString "[").length = 1 := by decide +kernel
  have h2 : (Str.ofString "]").length = 1 := by decide +kernel
  rw [len_app]
  omega
theorem shAll {α : Type} (f : α → PyData) : ∀ l : List α, PyData.shownAll (l.map f) = l.map fun a => (f a).shown
  | [] => by simp [PyData.shownAll]
  | a :: l => by simp [PyData.shownAll, shAll f l]
theorem sum_le {α : Type} (f : α → Str) (n : Nat) : ∀ l : List α, (∀ a ∈ l, (f a).length ≤ n) → ((l.map f).map (·.length)).sum ≤ n * l.length
  | [], _ => Nat.le_refl _
  | a :: l, h => by
    have := sum_le f n l fun b hb => h b (List.mem_cons_of_mem _ hb)
    have := h a List.mem_cons_self
    rw [List.map_cons, List.map_cons, List.sum_cons, List.length_cons, Nat.mul_succ]; omega
theorem sg_len {p : Nat × Bool} (h : p.1 < 1114112) : (sgD p).shown.length ≤ 25 := by
  have h1 := PySem.StrLaws.reprText_len (⟨#[p.1]⟩ : Str) fun c hc => by
    have : c ∈ [p.1] := hc
    rw [List.mem_singleton.mp this]; exact Nat.lt_of_lt_of_le h (by decide)
  have h2 : (⟨#[p.1]⟩ : Str).length = 1 := rfl
  have h3 : (PyData.bool p.2).shown.length ≤ 5 := by cases p.2 <;> simp [PyData.shown] <;> decide +kernel
  have h4 := tupT_len [reprText (⟨#[p.1]⟩ : Str), (PyData.bool p.2).shown]
  have h5 : (sgD p).shown = tupleText [reprText (⟨#[p.1]⟩ : Str), (PyData.bool p.2).shown] := by simp [sgD, PyData.shown, PyData.shownAll]
  rw [h5]
  simp at h4
  omega
theorem wd_len {w : Wd} (h : ∀ p ∈ w, p.1 < 1114112) : (wdD w).shown.length ≤ 27 * w.length + 4 := by
  have h5 : (wdD w).shown = tupleText (w.map fun p => (sgD p).shown) := by simp only [wdD, PyData.shown]; rw [shAll]
  rw [h5]
  have h1 := tupT_len (w.map fun p => (sgD p).shown)
  have h2 := sum_le (fun p => (sgD p).shown) 25 w fun p hp => sg_len (h p hp)
  rw [List.length_map] at h1
  omega
theorem sum_wd : ∀ ws : List Wd, (∀ w ∈ ws, ∀ p ∈ w, p.1 < 1114112) → ((ws.map fun w => (wdD w).shown).map (·.length)).sum ≤ 27 * (ws.map List.length).sum + 4 * ws.length
  | [], _ => Nat.le_refl _
  | w :: ws, h => by
    have i := sum_wd ws fun v hv => h v (List.mem_cons_of_mem _ hv)
    have := wd_len (h w List.mem_cons_self)
    rw [List.map_cons, List.map_cons, List.sum_cons, List.map_cons, List.sum_cons, List.length_cons]; omega
theorem repr_ws {S : Store} {n : Nat} {ws : List Wd} (h : S[n]? = some (.lst (ws.map wd))) (hc : ∀ w ∈ ws, ∀ p ∈ w, p.1 < 1114112) (h1 : ws.length ≤ 10000) (h2 : (ws.map List.length).sum ≤ 10000) : vRepr [.loc n] S = .ok (.str (PyData.list (ws.map wdD)).shown) S := by
  unfold vRepr reprP
  dsimp only
  rw [dof_ws h]
  have e : (PyData.list (ws.map wdD)).shown = listText (ws.map fun w => (wdD w).shown) := by simp only [PyData.shown]; rw [shAll]
  have l1 := lstT_len (ws.map fun w => (wdD w).shown)
  have l2 := sum_wd ws hc
  rw [List.length_map] at l1
  have l3 := depAll _ 2 wd_dep ws
  have c : ((PyData.list (ws.map wdD)).showable && !(PyData.list (ws.map wdD)).hasDict && decide ((PyData.list (ws.map wdD)).shown.length ≤ LN) && decide ((PyData.list (ws.map wdD)).depth ≤ 64)) = true := by
    have c1 : (PyData.list (ws.map wdD)).showable = true := by simp only [PyData.showable]; exact showAll _ wd_show ws
    have c2 : (PyData.list (ws.map wdD)).hasDict = false := by simp only [PyData.hasDict]; exact dictAll _ wd_dict ws
    have c3 : (PyData.list (ws.map wdD)).shown.length ≤ LN := by rw [e]; show _ ≤ 1000000; omega
    have c4 : (PyData.list (ws.map wdD)).depth ≤ 64 := by simp only [PyData.depth]; omega
    rw [c1, c2, decide_eq_true c3, decide_eq_true c4]
    rfl
  dsimp only
  rw [if_pos c]
end Lw

namespace Lw
open PySem L2 G TL

theorem forL_out {g : ST} {b : SS} {P : Fl → Store → Prop} (I : En → Store → Prop) : ∀ (xs : List G.PV) (τ : En) (S : Store), I τ S →
    (∀ x ∈ xs, ∀ τ S, I τ S → Wp (g x τ S) fun τ1 S1 => Wp (b τ1 S1) fun fl S2 => (∃ τ2, (fl = .nx τ2 ∨ fl = .ct τ2) ∧ I τ2 S2) ∨ (∃ v, fl = .rt v ∧ P (.rt v) S2)) →
    (∀ τ S, I τ S → P (.nx τ) S) → Wp (forL g b xs τ S) P
  | [], τ, S, h0, _, hd => hd τ S h0
  | x :: xs, τ, S, h0, hs, hd => by
    unfold forL
    rw [wp_bind]
    refine (hs x List.mem_cons_self τ S h0).imp fun τ1 S1 h1 => ?_
    rw [wp_bind]
    refine h1.imp fun fl S2 h2 => ?_
    rcases h2 with ⟨τ2, rfl | rfl, h2⟩ | ⟨v, rfl, h2⟩
    · exact forL_out I xs τ2 S2 h2 (fun y hy => hs y (List.mem_cons_of_mem _ hy)) hd
    · exact forL_out I xs τ2 S2 h2 (fun y hy => hs y (List.mem_cons_of_mem _ hy)) hd
    · exact h2
theorem kit_il : kitB "int" "list" = some false := by decide +kernel
theorem kp_read {S S' : Store} {l : List Nat} {v : G.PV} (h : ReadP S l v S') : Kp S S' := ⟨h.2.1, h.1⟩
theorem gp_add {n k : Nat} {y z : Str} (h1 : Gp n (.str y)) (h2 : Gp k (.str z)) : Gp (n + k) (.str (y ++ z)) := by
  obtain ⟨y', e, a1, a2⟩ := h1
  cases e
  obtain ⟨z', e, b1, b2⟩ := h2
  cases e
  refine ⟨_, rfl, by rw [len_app]; omega, fun c hc => ?_⟩
  rw [tl_append] at hc
  rcases List.mem_append.mp hc with hc | hc
  · exact a2 c hc
  · exact b2 c hc
theorem closed_ok {t : Str} (ht : Gp 600 (.str t)) (S : Store) : Wp (F__law_closed [.str t] S) fun v S' => Gp 601 v ∧ Kp S S' := by
  have tl6 : t.length ≤ 600 := by
    obtain ⟨y, e, a1, a2⟩ := ht
    cases e; exact a1
  have e0 : ∀ b, sFor (iVal (eTup (aCons (eC (.str "")) (aCons (eC (.str "'")) (aCons (eC (.str "\"")) (aCons (eC (.str "a")) aNil)))))) (stName 1) b [some (.str t), none] S = forL (stName 1) b [.str "", .str "'", .str "\"", .str "a"] [some (.str t), none] S := fun b => by
    have : (iVal (eTup (aCons (eC (.str "")) (aCons (eC (.str "'")) (aCons (eC (.str "\"")) (aCons (eC (.str "a")) aNil)))))) [some (.str t), none] S = .ok (srcSeq [.str "", .str "'", .str "\"", .str "a"]) S := by
      simp only [mkF, endF, startP, List.map_cons, List.map_nil, List.length_cons, List.length_nil, List.replicate, List.cons_append, List.nil_append, Nat.sub_zero, Nat.zero_add, Nat.reduceAdd, Nat.reduceSub, sSeq, sIf, sAsg, sRet, sRetN, sDrop, sNext, sBrk, sCont, sAug, stName, stSub, stTup, stCons, stNil, eVar, eC, eUn, eBin, eArg, eLst, eTup, aNil, aCons, eIf, eAnd, eOr, eNot, eChain, bChain, bCmp, bVal, bNot, bAnd, bOr, bTrue, eSl, oNone, oSome, eCall, eCall0, callF, eM, oBl, oB, oT, tr_bl, tr_int, tr_non, tr_tup, isT_str, beq_self_eq_true, vAdd, vSub, vMul, vDiv, vMod, vPow, vNeg, vIAdd, vIMul, vGt, vLt, vLe, vGe, lt2, ltP, vEq, vNe, eq_ii, eq_ss, eq_bb, eq_nn, vIx, seqP, lstP, newT, vSet, vLen, lenP, vAbs, vMax, vMin, cInt, vIsi, ty_non, ty_bl, ty_int, ty_str, ty_tup, ty_fl, Out.bind_ok, Out.bind_bad, wp_ok, wp_bind, List.getElem?_cons_zero, List.getElem?_cons_succ, List.getElem?_nil, List.set_cons_zero, List.set_cons_succ, List.append_nil, Option.map_some, Option.map_none, Option.bind_some, Option.bind_none, ga, ga0, gs, gs0, List.append_assoc, Nat.add_assoc, newL, LN, Nat.reduceLeDiff, Nat.reduceLT, kit_ss, kit_ts, kit_ls, kit_bs, kit_is, kit_ns, reduceCtorEq, a30, a31, a32, i30, i31, i32, decide_eq_true_eq, ne_eq, Int.reduceLT, Int.reduceLE, Int.reduceNeg, Int.reducePow, Int.reduceToNat, Int.reduceEq, Int.reduceNe, mulOk_l, List.length_set, List.length_append, imp_false, not_false_eq_true, implies_true, if_true, if_false, ite_true, ite_false, Bool.false_eq_true, Bool.not_true, Bool.not_false, forall_const, eq_self, and_true, true_and, and_self, PV.int.injEq, PV.str.injEq, PV.bl.injEq, decide_true, decide_false, iVal, srcOf]
    unfold sFor
    rw [this, Out.bind_ok]
    exact for_seq (xs := [.str (Str.ofString ""), .str (Str.ofString "'"), .str (Str.ofString "\""), .str (Str.ofString "a")]) (by show 4 < 1000000; decide)
  rw [F__law_closed, wp_mkF, wp_seq]
  show Wp (sFor _ _ _ [some (.str t), none] S) _
  rw [e0]
  refine forL_out (fun τ S' => Kp S S' ∧ ∃ w, τ = [some (.str t), w]) _ _ S ⟨.rfl, _, rfl⟩ ?_ ?_
  · rintro x hx τ S1 ⟨hK, w, rfl⟩
    obtain ⟨z, rfl, hz⟩ : ∃ z, x = .str z ∧ Gp 1 (.str z) := by
      simp only [List.mem_cons, List.not_mem_nil, or_false] at hx
      rcases hx with rfl | rfl | rfl | rfl <;> exact ⟨_, rfl, gp_of (by decide +kernel)⟩
    have hg := gp_add ht hz
    have zl : z.length ≤ 1 := by
      obtain ⟨y, e, a1, a2⟩ := hz
      cases e; exact a1
    have hl : t.length + z.length ≤ 1000000 := by omega
    have hl2 : (t ++ z).length ≤ 2000 := by rw [len_app]; omega
    simp only [mkF, endF, startP, List.map_cons, List.map_nil, List.length_cons, List.length_nil, List.replicate, List.cons_append, List.nil_append, Nat.sub_zero, Nat.zero_add, Nat.reduceAdd, Nat.reduceSub, sSeq, sIf, sAsg, sRet, sRetN, sDrop, sNext, sBrk, sCont, sAug, stName, stSub, stTup, stCons, stNil, eVar, eC, eUn, eBin, eArg, eLst, eTup, aNil, aCons, eIf, eAnd, eOr, eNot, eChain, bChain, bCmp, bVal, bNot, bAnd, bOr, bTrue, eSl, oNone, oSome, eCall, eCall0, callF, eM, oBl, oB, oT, tr_bl, tr_int, tr_non, tr_tup, isT_str, beq_self_eq_true, vAdd, vSub, vMul, vDiv, vMod, vPow, vNeg, vIAdd, vIMul, vGt, vLt, vLe, vGe, lt2, ltP, vEq, vNe, eq_ii, eq_ss, eq_bb, eq_nn, vIx, seqP, lstP, newT, vSet, vLen, lenP, vAbs, vMax, vMin, cInt, vIsi, ty_non, ty_bl, ty_int, ty_str, ty_tup, ty_fl, Out.bind_ok, Out.bind_bad, wp_ok, wp_bind, List.getElem?_cons_zero, List.getElem?_cons_succ, List.getElem?_nil, List.set_cons_zero, List.set_cons_succ, List.append_nil, Option.map_some, Option.map_none, Option.bind_some, Option.bind_none, ga, ga0, gs, gs0, List.append_assoc, Nat.add_assoc, newL, LN, Nat.reduceLeDiff, Nat.reduceLT, kit_ss, kit_ts, kit_ls, kit_bs, kit_is, kit_ns, reduceCtorEq, a30, a31, a32, i30, i31, i32, decide_eq_true_eq, ne_eq, Int.reduceLT, Int.reduceLE, Int.reduceNeg, Int.reducePow, Int.reduceToNat, Int.reduceEq, Int.reduceNe, mulOk_l, List.length_set, List.length_append, imp_false, not_false_eq_true, implies_true, if_true, if_false, ite_true, ite_false, Bool.false_eq_true, Bool.not_true, Bool.not_false, forall_const, eq_self, and_true, true_and, and_self, PV.int.injEq, PV.str.injEq, PV.bl.injEq, decide_true, decide_false, hl]
    refine (read_ok hl2 (S := S1)).imp fun v S2 hR => ?_
    have hK2 := kp_read hR
    obtain ⟨_, _, hR⟩ := hR
    cases hm : resM (runM (tl (t ++ z))) with
    | none =>
      rw [hm] at hR
      obtain ⟨b, rfl⟩ := hR
      simp only [mkF, endF, startP, List.map_cons, List.map_nil, List.length_cons, List.length_nil, List.replicate, List.cons_append, List.nil_append, Nat.sub_zero, Nat.zero_add, Nat.reduceAdd, Nat.reduceSub, sSeq, sIf, sAsg, sRet, sRetN, sDrop, sNext, sBrk, sCont, sAug, stName, stSub, stTup, stCons, stNil, eVar, eC, eUn, eBin, eArg, eLst, eTup, aNil, aCons, eIf, eAnd, eOr, eNot, eChain, bChain, bCmp, bVal, bNot, bAnd, bOr, bTrue, eSl, oNone, oSome, eCall, eCall0, callF, eM, oBl, oB, oT, tr_bl, tr_int, tr_non, tr_tup, isT_str, beq_self_eq_true, vAdd, vSub, vMul, vDiv, vMod, vPow, vNeg, vIAdd, vIMul, vGt, vLt, vLe, vGe, lt2, ltP, vEq, vNe, eq_ii, eq_ss, eq_bb, eq_nn, vIx, seqP, lstP, newT, vSet, vLen, lenP, vAbs, vMax, vMin, cInt, vIsi, ty_non, ty_bl, ty_int, ty_str, ty_tup, ty_fl, Out.bind_ok, Out.bind_bad, wp_ok, wp_bind, List.getElem?_cons_zero, List.getElem?_cons_succ, List.getElem?_nil, List.set_cons_zero, List.set_cons_succ, List.append_nil, Option.map_some, Option.map_none, Option.bind_some, Option.bind_none, ga, ga0, gs, gs0, List.append_assoc, Nat.add_assoc, newL, LN, Nat.reduceLeDiff, Nat.reduceLT, kit_ss, kit_ts, kit_ls, kit_bs, kit_is, kit_ns, reduceCtorEq, a30, a31, a32, i30, i31, i32, decide_eq_true_eq, ne_eq, Int.reduceLT, Int.reduceLE, Int.reduceNeg, Int.reducePow, Int.reduceToNat, Int.reduceEq, Int.reduceNe, mulOk_l, List.length_set, List.length_append, imp_false, not_false_eq_true, implies_true, if_true, if_false, ite_true, ite_false, Bool.false_eq_true, Bool.not_true, Bool.not_false, forall_const, eq_self, and_true, true_and, and_self, PV.int.injEq, PV.str.injEq, PV.bl.injEq, decide_true, decide_false, kit_il]
      exact .inl ⟨_, .inl rfl, hK.trans hK2, _, rfl⟩
    | some ws =>
      rw [hm] at hR
      obtain ⟨f, rfl, _, hf⟩ := hR
      simp only [mkF, endF, startP, List.map_cons, List.map_nil, List.length_cons, List.length_nil, List.replicate, List.cons_append, List.nil_append, Nat.sub_zero, Nat.zero_add, Nat.reduceAdd, Nat.reduceSub, sSeq, sIf, sAsg, sRet, sRetN, sDrop, sNext, sBrk, sCont, sAug, stName, stSub, stTup, stCons, stNil, eVar, eC, eUn, eBin, eArg, eLst, eTup, aNil, aCons, eIf, eAnd, eOr, eNot, eChain, bChain, bCmp, bVal, bNot, bAnd, bOr, bTrue, eSl, oNone, oSome, eCall, eCall0, callF, eM, oBl, oB, oT, tr_bl, tr_int, tr_non, tr_tup, isT_str, beq_self_eq_true, vAdd, vSub, vMul, vDiv, vMod, vPow, vNeg, vIAdd, vIMul, vGt, vLt, vLe, vGe, lt2, ltP, vEq, vNe, eq_ii, eq_ss, eq_bb, eq_nn, vIx, seqP, lstP, newT, vSet, vLen, lenP, vAbs, vMax, vMin, cInt, vIsi, ty_non, ty_bl, ty_int, ty_str, ty_tup, ty_fl, Out.bind_ok, Out.bind_bad, wp_ok, wp_bind, List.getElem?_cons_zero, List.getElem?_cons_succ, List.getElem?_nil, List.set_cons_zero, List.set_cons_succ, List.append_nil, Option.map_some, Option.map_none, Option.bind_some, Option.bind_none, ga, ga0, gs, gs0, List.append_assoc, Nat.add_assoc, newL, LN, Nat.reduceLeDiff, Nat.reduceLT, kit_ss, kit_ts, kit_ls, kit_bs, kit_is, kit_ns, reduceCtorEq, a30, a31, a32, i30, i31, i32, decide_eq_true_eq, ne_eq, Int.reduceLT, Int.reduceLE, Int.reduceNeg, Int.reducePow, Int.reduceToNat, Int.reduceEq, Int.reduceNe, mulOk_l, List.length_set, List.length_append, imp_false, not_false_eq_true, implies_true, if_true, if_false, ite_true, ite_false, Bool.false_eq_true, Bool.not_true, Bool.not_false, forall_const, eq_self, and_true, true_and, and_self, PV.int.injEq, PV.str.injEq, PV.bl.injEq, decide_true, decide_false, ty_lst hf, kit_ll, hl]
      exact .inr ⟨_, rfl, hg, hK.trans hK2⟩
  · rintro τ S1 ⟨hK, w, rfl⟩
    simp only [mkF, endF, startP, List.map_cons, List.map_nil, List.length_cons, List.length_nil, List.replicate, List.cons_append, List.nil_append, Nat.sub_zero, Nat.zero_add, Nat.reduceAdd, Nat.reduceSub, sSeq, sIf, sAsg, sRet, sRetN, sDrop, sNext, sBrk, sCont, sAug, stName, stSub, stTup, stCons, stNil, eVar, eC, eUn, eBin, eArg, eLst, eTup, aNil, aCons, eIf, eAnd, eOr, eNot, eChain, bChain, bCmp, bVal, bNot, bAnd, bOr, bTrue, eSl, oNone, oSome, eCall, eCall0, callF, eM, oBl, oB, oT, tr_bl, tr_int, tr_non, tr_tup, isT_str, beq_self_eq_true, vAdd, vSub, vMul, vDiv, vMod, vPow, vNeg, vIAdd, vIMul, vGt, vLt, vLe, vGe, lt2, ltP, vEq, vNe, eq_ii, eq_ss, eq_bb, eq_nn, vIx, seqP, lstP, newT, vSet, vLen, lenP, vAbs, vMax, vMin, cInt, vIsi, ty_non, ty_bl, ty_int, ty_str, ty_tup, ty_fl, Out.bind_ok, Out.bind_bad, wp_ok, wp_bind, List.getElem?_cons_zero, List.getElem?_cons_succ, List.getElem?_nil, List.set_cons_zero, List.set_cons_succ, List.append_nil, Option.map_some, Option.map_none, Option.bind_some, Option.bind_none, ga, ga0, gs, gs0, List.append_assoc, Nat.add_assoc, newL, LN, Nat.reduceLeDiff, Nat.reduceLT, kit_ss, kit_ts, kit_ls, kit_bs, kit_is, kit_ns, reduceCtorEq, a30, a31, a32, i30, i31, i32, decide_eq_true_eq, ne_eq, Int.reduceLT, Int.reduceLE, Int.reduceNeg, Int.reducePow, Int.reduceToNat, Int.reduceEq, Int.reduceNe, mulOk_l, List.length_set, List.length_append, imp_false, not_false_eq_true, implies_true, if_true, if_false, ite_true, ite_false, Bool.false_eq_true, Bool.not_true, Bool.not_false, forall_const, eq_self, and_true, true_and, and_self, PV.int.injEq, PV.str.injEq, PV.bl.injEq, decide_true, decide_false]
    obtain ⟨y, e, a1, a2⟩ := ht
    cases e
    exact ⟨⟨_, rfl, by omega, a2⟩, hK⟩
end Lw

namespace Lw
open PySem L2 G TL

abbrev turnB : SS := (sSeq (sAsg (eCall 1 F__law_closed [] (aCons (eCall 2 F__law_text [] (aCons (eVar 2) (aCons (eC (.int 18)) aNil))) aNil)) (stName 4))
  (sSeq (sAsg (eCall 1 F__law_read [] (aCons (eVar 4) aNil)) (stName 5))
  (sIf (bVal (eArg vIsi (aCons (eVar 5) (aCons (eC (.ty "list")) aNil)))) (sSeq (sAsg (eCall 1 F_split [] (aCons (eVar 4) aNil)) (stName 6))
  (sSeq (sIf (bOr (bNot (bVal (eArg vIsi (aCons (eVar 6) (aCons (eC (.ty "list")) aNil))))) (bCmp vNe (eArg vRepr (aCons (eVar 6) aNil)) (eArg vRepr (aCons (eVar 5) aNil)))) (sRet (eC (.bl false))) sNext)
  (sSeq (sDrop (eM "list" mAppend (eVar 6) (aCons (eC (.str "changed")) aNil)))
  (sIf (bCmp vNe (eArg vRepr (aCons (eCall 1 F_split [] (aCons (eVar 4) aNil)) aNil)) (eArg vRepr (aCons (eVar 5) aNil))) (sRet (eC (.bl false))) sNext)))) sNext)))
theorem turn_ok {a0 a1 a3 a4 a5 a6 : Option G.PV} {b : Nat} {k : Int} {S : Store} (h : BagAt S b k) (hk : k ≤ 10000) :
    Wp (turnB [a0, a1, some (.loc b), a3, a4, a5, a6] S) fun fl S' => ∃ a4 a5 a6, fl = .nx [a0, a1, some (.loc b), a3, a4, a5, a6] ∧ BagAt S' b (k + 200) := by
  rw [turnB, wp_seq, wp_asg]
  simp only [mkF, endF, startP, List.map_cons, List.map_nil, List.length_cons, List.length_nil, List.replicate, List.cons_append, List.nil_append, Nat.sub_zero, Nat.zero_add, Nat.reduceAdd, Nat.reduceSub, sSeq, sIf, sAsg, sRet, sRetN, sDrop, sNext, sBrk, sCont, sAug, stName, stSub, stTup, stCons, stNil, eVar, eC, eUn, eBin, eArg, eLst, eTup, aNil, aCons, eIf, eAnd, eOr, eNot, eChain, bChain, bCmp, bVal, bNot, bAnd, bOr, bTrue, eSl, oNone, oSome, eCall, eCall0, callF, eM, oBl, oB, oT, tr_bl, tr_int, tr_non, tr_tup, isT_str, beq_self_eq_true, vAdd, vSub, vMul, vDiv, vMod, vPow, vNeg, vIAdd, vIMul, vGt, vLt, vLe, vGe, lt2, ltP, vEq, vNe, eq_ii, eq_ss, eq_bb, eq_nn, vIx, seqP, lstP, newT, vSet, vLen, lenP, vAbs, vMax, vMin, cInt, vIsi, ty_non, ty_bl, ty_int, ty_str, ty_tup, ty_fl, Out.bind_ok, Out.bind_bad, wp_ok, wp_bind, List.getElem?_cons_zero, List.getElem?_cons_succ, List.getElem?_nil, List.set_cons_zero, List.set_cons_succ, List.append_nil, Option.map_some, Option.map_none, Option.bind_some, Option.bind_none, ga, ga0, gs, gs0, List.append_assoc, Nat.add_assoc, newL, LN, Nat.reduceLeDiff, Nat.reduceLT, kit_ss, kit_ts, kit_ls, kit_bs, kit_is, kit_ns, reduceCtorEq, a30, a31, a32, i30, i31, i32, decide_eq_true_eq, ne_eq, Int.reduceLT, Int.reduceLE, Int.reduceNeg, Int.reducePow, Int.reduceToNat, Int.reduceEq, Int.reduceNe, mulOk_l, List.length_set, List.length_append, imp_false, not_false_eq_true, implies_true, if_true, if_false, ite_true, ite_false, Bool.false_eq_true, Bool.not_true, Bool.not_false, forall_const, eq_self, and_true, true_and, and_self, PV.int.injEq, PV.str.injEq, PV.bl.injEq, decide_true, decide_false]
  refine (text_ok h (by omega) (by decide) (by decide)).imp fun v S1 ⟨hG, hB, _⟩ => ?_
  obtain ⟨t, rfl, _⟩ := id hG
  refine (closed_ok hG S1).imp fun v S2 ⟨hG2, hK2⟩ => ?_
  obtain ⟨y, rfl, y1, y2⟩ := hG2
  have hB2 : BagAt S2 b (k + 200) := bag_keep hB (hK2.2 _ (bag_lt hB)) (Int.le_refl _)
  refine (read_ok (x := y) (by omega) (S := S2)).imp fun v S3 hR => ?_
  have hK3 := kp_read hR
  have hB3 : BagAt S3 b (k + 200) := bag_keep hB2 (hK3.2 _ (bag_lt hB2)) (Int.le_refl _)
  obtain ⟨_, _, hR⟩ := hR
  cases hm : resM (runM (tl y)) with
  | none =>
    rw [hm] at hR
    obtain ⟨z, rfl⟩ := hR
    simp only [mkF, endF, startP, List.map_cons, List.map_nil, List.length_cons, List.length_nil, List.replicate, List.cons_append, List.nil_append, Nat.sub_zero, Nat.zero_add, Nat.reduceAdd, Nat.reduceSub, sSeq, sIf, sAsg, sRet, sRetN, sDrop, sNext, sBrk, sCont, sAug, stName, stSub, stTup, stCons, stNil, eVar, eC, eUn, eBin, eArg, eLst, eTup, aNil, aCons, eIf, eAnd, eOr, eNot, eChain, bChain, bCmp, bVal, bNot, bAnd, bOr, bTrue, eSl, oNone, oSome, eCall, eCall0, callF, eM, oBl, oB, oT, tr_bl, tr_int, tr_non, tr_tup, isT_str, beq_self_eq_true, vAdd, vSub, vMul, vDiv, vMod, vPow, vNeg, vIAdd, vIMul, vGt, vLt, vLe, vGe, lt2, ltP, vEq, vNe, eq_ii, eq_ss, eq_bb, eq_nn, vIx, seqP, lstP, newT, vSet, vLen, lenP, vAbs, vMax, vMin, cInt, vIsi, ty_non, ty_bl, ty_int, ty_str, ty_tup, ty_fl, Out.bind_ok, Out.bind_bad, wp_ok, wp_bind, List.getElem?_cons_zero, List.getElem?_cons_succ, List.getElem?_nil, List.set_cons_zero, List.set_cons_succ, List.append_nil, Option.map_some, Option.map_none, Option.bind_some, Option.bind_none, ga, ga0, gs, gs0, List.append_assoc, Nat.add_assoc, newL, LN, Nat.reduceLeDiff, Nat.reduceLT, kit_ss, kit_ts, kit_ls, kit_bs, kit_is, kit_ns, reduceCtorEq, a30, a31, a32, i30, i31, i32, decide_eq_true_eq, ne_eq, Int.reduceLT, Int.reduceLE, Int.reduceNeg, Int.reducePow, Int.reduceToNat, Int.reduceEq, Int.reduceNe, mulOk_l, List.length_set, List.length_append, imp_false, not_false_eq_true, implies_true, if_true, if_false, ite_true, ite_false, Bool.false_eq_true, Bool.not_true, Bool.not_false, forall_const, eq_self, and_true, true_and, and_self, PV.int.injEq, PV.str.injEq, PV.bl.injEq, decide_true, decide_false, kit_il]
    exact ⟨_, _, _, rfl, hB3⟩
  | some ws =>
    rw [hm] at hR
    obtain ⟨f, rfl, _, hf⟩ := hR
    obtain ⟨w1, w2, w3⟩ := res_ok y2 hm
    rw [← len_tl] at w2 w3
    have hfl := (List.getElem?_eq_some_iff.mp hf).1
    have wl : (ws.map wd).length < 1000000 := by rw [List.length_map]; omega
    simp only [mkF, endF, startP, List.map_cons, List.map_nil, List.length_cons, List.length_nil, List.replicate, List.cons_append, List.nil_append, Nat.sub_zero, Nat.zero_add, Nat.reduceAdd, Nat.reduceSub, sSeq, sIf, sAsg, sRet, sRetN, sDrop, sNext, sBrk, sCont, sAug, stName, stSub, stTup, stCons, stNil, eVar, eC, eUn, eBin, eArg, eLst, eTup, aNil, aCons, eIf, eAnd, eOr, eNot, eChain, bChain, bCmp, bVal, bNot, bAnd, bOr, bTrue, eSl, oNone, oSome, eCall, eCall0, callF, eM, oBl, oB, oT, tr_bl, tr_int, tr_non, tr_tup, isT_str, beq_self_eq_true, vAdd, vSub, vMul, vDiv, vMod, vPow, vNeg, vIAdd, vIMul, vGt, vLt, vLe, vGe, lt2, ltP, vEq, vNe, eq_ii, eq_ss, eq_bb, eq_nn, vIx, seqP, lstP, newT, vSet, vLen, lenP, vAbs, vMax, vMin, cInt, vIsi, ty_non, ty_bl, ty_int, ty_str, ty_tup, ty_fl, Out.bind_ok, Out.bind_bad, wp_ok, wp_bind, List.getElem?_cons_zero, List.getElem?_cons_succ, List.getElem?_nil, List.set_cons_zero, List.set_cons_succ, List.append_nil, Option.map_some, Option.map_none, Option.bind_some, Option.bind_none, ga, ga0, gs, gs0, List.append_assoc, Nat.add_assoc, newL, LN, Nat.reduceLeDiff, Nat.reduceLT, kit_ss, kit_ts, kit_ls, kit_bs, kit_is, kit_ns, reduceCtorEq, a30, a31, a32, i30, i31, i32, decide_eq_true_eq, ne_eq, Int.reduceLT, Int.reduceLE, Int.reduceNeg, Int.reducePow, Int.reduceToNat, Int.reduceEq, Int.reduceNe, mulOk_l, List.length_set, List.length_append, imp_false, not_false_eq_true, implies_true, if_true, if_false, ite_true, ite_false, Bool.false_eq_true, Bool.not_true, Bool.not_false, forall_const, eq_self, and_true, true_and, and_self, PV.int.injEq, PV.str.injEq, PV.bl.injEq, decide_true, decide_false, ty_lst hf, kit_ll]
    refine (split_ok (x := y) (by omega) y2 hm S3).imp fun v S4 ⟨hv, hs, hK4⟩ => ?_
    subst hv
    have hB4 : BagAt S4 b (k + 200) := bag_keep hB3 (hK4.2 _ (bag_lt hB3)) (Int.le_refl _)
    have hf4 : S4[f]? = some (.lst (ws.map wd)) := hK4.get hf
    have hs4 := (List.getElem?_eq_some_iff.mp hs).1
    have hrep : ∃ sh : Str, ∀ (S : Store) (n : Nat), S[n]? = some (.lst (ws.map wd)) → vRepr [.loc n] S = .ok (.str sh) S := ⟨_, fun S n h => repr_ws h w1 (by omega) (by omega)⟩
    obtain ⟨sh, hrep⟩ := hrep
    have hA : mAppend (.loc S3.length) [.str (Str.ofString "changed")] S4 = .ok .non (S4.set S3.length (.lst (ws.map wd ++ [.str (Str.ofString "changed")]))) := vapp_l hs wl
    have r1 := hrep _ _ hs
    have r2 := hrep _ _ hf4
    simp only [mkF, endF, startP, List.map_cons, List.map_nil, List.length_cons, List.length_nil, List.replicate, List.cons_append, List.nil_append, Nat.sub_zero, Nat.zero_add, Nat.reduceAdd, Nat.reduceSub, sSeq, sIf, sAsg, sRet, sRetN, sDrop, sNext, sBrk, sCont, sAug, stName, stSub, stTup, stCons, stNil, eVar, eC, eUn, eBin, eArg, eLst, eTup, aNil, aCons, eIf, eAnd, eOr, eNot, eChain, bChain, bCmp, bVal, bNot, bAnd, bOr, bTrue, eSl, oNone, oSome, eCall, eCall0, callF, eM, oBl, oB, oT, tr_bl, tr_int, tr_non, tr_tup, isT_str, beq_self_eq_true, vAdd, vSub, vMul, vDiv, vMod, vPow, vNeg, vIAdd, vIMul, vGt, vLt, vLe, vGe, lt2, ltP, vEq, vNe, eq_ii, eq_ss, eq_bb, eq_nn, vIx, seqP, lstP, newT, vSet, vLen, lenP, vAbs, vMax, vMin, cInt, vIsi, ty_non, ty_bl, ty_int, ty_str, ty_tup, ty_fl, Out.bind_ok, Out.bind_bad, wp_ok, wp_bind, List.getElem?_cons_zero, List.getElem?_cons_succ, List.getElem?_nil, List.set_cons_zero, List.set_cons_succ, List.append_nil, Option.map_some, Option.map_none, Option.bind_some, Option.bind_none, ga, ga0, gs, gs0, List.append_assoc, Nat.add_assoc, newL, LN, Nat.reduceLeDiff, Nat.reduceLT, kit_ss, kit_ts, kit_ls, kit_bs, kit_is, kit_ns, reduceCtorEq, a30, a31, a32, i30, i31, i32, decide_eq_true_eq, ne_eq, Int.reduceLT, Int.reduceLE, Int.reduceNeg, Int.reducePow, Int.reduceToNat, Int.reduceEq, Int.reduceNe, mulOk_l, List.length_set, List.length_append, imp_false, not_false_eq_true, implies_true, if_true, if_false, ite_true, ite_false, Bool.false_eq_true, Bool.not_true, Bool.not_false, forall_const, eq_self, and_true, true_and, and_self, PV.int.injEq, PV.str.injEq, PV.bl.injEq, decide_true, decide_false, ty_lst hs, kit_ll, r1, r2, isT_lst hs, hA]
    have yl : y.length ≤ 2000 := Nat.le_trans y1 (by decide)
    have bl := bag_lt hB3
    have hf5 : (S4.set S3.length (PO.lst (ws.map wd ++ [.str (Str.ofString "changed")])))[f]? = some (.lst (ws.map wd)) := by rw [List.getElem?_set_ne (by omega)]; exact hf4
    have hB5 : BagAt (S4.set S3.length (PO.lst (ws.map wd ++ [.str (Str.ofString "changed")]))) b (k + 200) := bag_keep hB4 (List.getElem?_set_ne (by omega)) (Int.le_refl _)
    generalize (S4.set S3.length (PO.lst (ws.map wd ++ [.str (Str.ofString "changed")]))) = S5 at hf5 hB5
    refine Wp.imp (split_ok (x := y) yl y2 hm S5) ?_
    rintro v S6 ⟨rfl, hs6, hK6⟩
    have hf6 : S6[f]? = some (.lst (ws.map wd)) := hK6.get hf5
    have hB6 : BagAt S6 b (k + 200) := bag_keep hB5 (hK6.2 _ (bag_lt hB5)) (Int.le_refl _)
    have r3 := hrep _ _ hs6
    have r4 := hrep _ _ hf6
    simp only [mkF, endF, startP, List.map_cons, List.map_nil, List.length_cons, List.length_nil, List.replicate, List.cons_append, List.nil_append, Nat.sub_zero, Nat.zero_add, Nat.reduceAdd, Nat.reduceSub, sSeq, sIf, sAsg, sRet, sRetN, sDrop, sNext, sBrk, sCont, sAug, stName, stSub, stTup, stCons, stNil, eVar, eC, eUn, eBin, eArg, eLst, eTup, aNil, aCons, eIf, eAnd, eOr, eNot, eChain, bChain, bCmp, bVal, bNot, bAnd, bOr, bTrue, eSl, oNone, oSome, eCall, eCall0, callF, eM, oBl, oB, oT, tr_bl, tr_int, tr_non, tr_tup, isT_str, beq_self_eq_true, vAdd, vSub, vMul, vDiv, vMod, vPow, vNeg, vIAdd, vIMul, vGt, vLt, vLe, vGe, lt2, ltP, vEq, vNe, eq_ii, eq_ss, eq_bb, eq_nn, vIx, seqP, lstP, newT, vSet, vLen, lenP, vAbs, vMax, vMin, cInt, vIsi, ty_non, ty_bl, ty_int, ty_str, ty_tup, ty_fl, Out.bind_ok, Out.bind_bad, wp_ok, wp_bind, List.getElem?_cons_zero, List.getElem?_cons_succ, List.getElem?_nil, List.set_cons_zero, List.set_cons_succ, List.append_nil, Option.map_some, Option.map_none, Option.bind_some, Option.bind_none, ga, ga0, gs, gs0, List.append_assoc, Nat.add_assoc, newL, LN, Nat.reduceLeDiff, Nat.reduceLT, kit_ss, kit_ts, kit_ls, kit_bs, kit_is, kit_ns, reduceCtorEq, a30, a31, a32, i30, i31, i32, decide_eq_true_eq, ne_eq, Int.reduceLT, Int.reduceLE, Int.reduceNeg, Int.reducePow, Int.reduceToNat, Int.reduceEq, Int.reduceNe, mulOk_l, List.length_set, List.length_append, imp_false, not_false_eq_true, implies_true, if_true, if_false, ite_true, ite_false, Bool.false_eq_true, Bool.not_true, Bool.not_false, forall_const, eq_self, and_true, true_and, and_self, PV.int.injEq, PV.str.injEq, PV.bl.injEq, decide_true, decide_false, r3, r4]
    exact ⟨_, _, _, rfl, hB6⟩
end Lw

namespace Lw
open PySem L2 G TL

theorem inner_ok {a0 a1 a3 a4 a5 a6 : Option G.PV} {b : Nat} {S : Store} (h : BagAt S b 0) :
    Wp (sFor (iRange (aCons (eC (.int 12)) aNil)) (stName 3) turnB [a0, a1, some (.loc b), a3, a4, a5, a6] S) fun fl S' => ∃ a3 a4 a5 a6, fl = .nx [a0, a1, some (.loc b), a3, a4, a5, a6] := by
  refine for_inv (rangeP 0 12) (src := srcSeq (rangeP 0 12)) (by simp only [mkF, endF, startP, List.map_cons, List.map_nil, List.length_cons, List.length_nil, List.replicate, List.cons_append, List.nil_append, Nat.sub_zero, Nat.zero_add, Nat.reduceAdd, Nat.reduceSub, sSeq, sIf, sAsg, sRet, sRetN, sDrop, sNext, sBrk, sCont, sAug, stName, stSub, stTup, stCons, stNil, eVar, eC, eUn, eBin, eArg, eLst, eTup, aNil, aCons, eIf, eAnd, eOr, eNot, eChain, bChain, bCmp, bVal, bNot, bAnd, bOr, bTrue, eSl, oNone, oSome, eCall, eCall0, callF, eM, oBl, oB, oT, tr_bl, tr_int, tr_non, tr_tup, isT_str, beq_self_eq_true, vAdd, vSub, vMul, vDiv, vMod, vPow, vNeg, vIAdd, vIMul, vGt, vLt, vLe, vGe, lt2, ltP, vEq, vNe, eq_ii, eq_ss, eq_bb, eq_nn, vIx, seqP, lstP, newT, vSet, vLen, lenP, vAbs, vMax, vMin, cInt, vIsi, ty_non, ty_bl, ty_int, ty_str, ty_tup, ty_fl, Out.bind_ok, Out.bind_bad, wp_ok, wp_bind, List.getElem?_cons_zero, List.getElem?_cons_succ, List.getElem?_nil, List.set_cons_zero, List.set_cons_succ, List.append_nil, Option.map_some, Option.map_none, Option.bind_some, Option.bind_none, ga, ga0, gs, gs0, List.append_assoc, Nat.add_assoc, newL, LN, Nat.reduceLeDiff, Nat.reduceLT, kit_ss, kit_ts, kit_ls, kit_bs, kit_is, kit_ns, reduceCtorEq, a30, a31, a32, i30, i31, i32, decide_eq_true_eq, ne_eq, Int.reduceLT, Int.reduceLE, Int.reduceNeg, Int.reducePow, Int.reduceToNat, Int.reduceEq, Int.reduceNe, mulOk_l, List.length_set, List.length_append, imp_false, not_false_eq_true, implies_true, if_true, if_false, ite_true, ite_false, Bool.false_eq_true, Bool.not_true, Bool.not_false, forall_const, eq_self, and_true, true_and, and_self, PV.int.injEq, PV.str.injEq, PV.bl.injEq, decide_true, decide_false, iRange, rngOf]) (fun i τ S => BagAt S b (200 * i) ∧ ∃ a3 a4 a5 a6, τ = [a0, a1, some (.loc b), a3, a4, a5, a6]) (by decide) ⟨h, _, _, _, _, rfl⟩ (fun _ _ _ _ => rfl) ?_ ?_
  · rintro i x τ S hx ⟨hI, a3, a4, a5, a6, rfl⟩
    have hi : i < 12 := by
      have := (List.getElem?_eq_some_iff.mp hx).1
      simpa [rangeP] using this
    simp only [stName, wp_bind, wp_ok, List.set_cons_zero, List.set_cons_succ]
    refine (turn_ok (a3 := some x) hI (by omega)).imp fun fl S' ⟨a4, a5, a6, e, hB⟩ => ⟨_, .inl e, bag_keep hB rfl (by omega), _, _, _, _, rfl⟩
  · rintro τ S ⟨_, a3, a4, a5, a6, rfl⟩
    exact ⟨_, _, _, _, rfl⟩
theorem law_true : LawTrue F_law := by
  intro ns hns
  suffices h : Wp (F_law [scrP ns] []) fun v S => v = .bl true by
    obtain ⟨v, S, e, rfl⟩ := h.ex
    exact ⟨S, e⟩
  rw [F_law, wp_mkF, wp_seq]
  obtain ⟨j, hj, hj6⟩ : ∃ j : Int, (iRange (aCons (eArg vMax (aCons (eC (.int 2)) (aCons (eArg vMin (aCons (eC (.int 4)) (aCons (eArg vLen (aCons (eVar 0) aNil)) aNil))) aNil))) aNil)) (startP 7 [scrP ns]) [] = .ok (srcSeq (rangeP 0 j)) [] ∧ j ≤ 4 := by
    refine ⟨_, by simp only [mkF, endF, startP, List.map_cons, List.map_nil, List.length_cons, List.length_nil, List.replicate, List.cons_append, List.nil_append, Nat.sub_zero, Nat.zero_add, Nat.reduceAdd, Nat.reduceSub, sSeq, sIf, sAsg, sRet, sRetN, sDrop, sNext, sBrk, sCont, sAug, stName, stSub, stTup, stCons, stNil, eVar, eC, eUn, eBin, eArg, eLst, eTup, aNil, aCons, eIf, eAnd, eOr, eNot, eChain, bChain, bCmp, bVal, bNot, bAnd, bOr, bTrue, eSl, oNone, oSome, eCall, eCall0, callF, eM, oBl, oB, oT, tr_bl, tr_int, tr_non, tr_tup, isT_str, beq_self_eq_true, vAdd, vSub, vMul, vDiv, vMod, vPow, vNeg, vIAdd, vIMul, vGt, vLt, vLe, vGe, lt2, ltP, vEq, vNe, eq_ii, eq_ss, eq_bb, eq_nn, vIx, seqP, lstP, newT, vSet, vLen, lenP, vAbs, vMax, vMin, cInt, vIsi, ty_non, ty_bl, ty_int, ty_str, ty_tup, ty_fl, Out.bind_ok, Out.bind_bad, wp_ok, wp_bind, List.getElem?_cons_zero, List.getElem?_cons_succ, List.getElem?_nil, List.set_cons_zero, List.set_cons_succ, List.append_nil, Option.map_some, Option.map_none, Option.bind_some, Option.bind_none, ga, ga0, gs, gs0, List.append_assoc, Nat.add_assoc, newL, LN, Nat.reduceLeDiff, Nat.reduceLT, kit_ss, kit_ts, kit_ls, kit_bs, kit_is, kit_ns, reduceCtorEq, a30, a31, a32, i30, i31, i32, decide_eq_true_eq, ne_eq, Int.reduceLT, Int.reduceLE, Int.reduceNeg, Int.reducePow, Int.reduceToNat, Int.reduceEq, Int.reduceNe, mulOk_l, List.length_set, List.length_append, imp_false, not_false_eq_true, implies_true, if_true, if_false, ite_true, ite_false, Bool.false_eq_true, Bool.not_true, Bool.not_false, forall_const, eq_self, and_true, true_and, and_self, PV.int.injEq, PV.str.injEq, PV.bl.injEq, decide_true, decide_false, iRange, scrP, List.length_map, rngOf]; rw [if_pos (by split <;> split <;> omega)], by split <;> split <;> omega⟩
  have hn : (rangeP 0 j).length = j.toNat := by unfold rangeP; rw [List.length_map, List.length_range, Int.sub_zero]
  refine for_inv (rangeP 0 j) hj (fun i τ S => ∃ a1 a2 a3 a4 a5 a6, τ = [some (scrP ns), a1, a2, a3, a4, a5, a6]) (by rw [hn]; show _ < 1000000; omega) ⟨_, _, _, _, _, _, rfl⟩ (fun _ _ _ _ => rfl) ?_ ?_
  · rintro i x τ S hx ⟨a1, a2, a3, a4, a5, a6, rfl⟩
    obtain ⟨t, ht, rfl⟩ : ∃ t : Nat, t < 4 ∧ x = .int t := by
      unfold rangeP at hx
      rw [List.getElem?_map] at hx
      cases e : (List.range (j - 0).toNat)[i]? with
      | none => rw [e] at hx; cases hx
      | some t =>
        rw [e] at hx
        obtain ⟨h1, e2⟩ := List.getElem?_eq_some_iff.mp e
        rw [List.getElem_range] at e2
        subst e2
        rw [List.length_range] at h1
        exact ⟨i, by omega, by rw [← Option.some.inj hx]; simp⟩
    simp only [stName, wp_bind, wp_ok, List.set_cons_zero, List.set_cons_succ]
    rw [wp_seq, wp_asg]
    simp only [eCall, aCons, aNil, eVar, mkF, endF, startP, List.map_cons, List.map_nil, List.length_cons, List.length_nil, List.replicate, List.cons_append, List.nil_append, Nat.sub_zero, Nat.zero_add, Nat.reduceAdd, Nat.reduceSub, sSeq, sIf, sAsg, sRet, sRetN, sDrop, sNext, sBrk, sCont, sAug, stName, stSub, stTup, stCons, stNil, eVar, eC, eUn, eBin, eArg, eLst, eTup, aNil, aCons, eIf, eAnd, eOr, eNot, eChain, bChain, bCmp, bVal, bNot, bAnd, bOr, bTrue, eSl, oNone, oSome, eCall, eCall0, callF, eM, oBl, oB, oT, tr_bl, tr_int, tr_non, tr_tup, isT_str, beq_self_eq_true, vAdd, vSub, vMul, vDiv, vMod, vPow, vNeg, vIAdd, vIMul, vGt, vLt, vLe, vGe, lt2, ltP, vEq, vNe, eq_ii, eq_ss, eq_bb, eq_nn, vIx, seqP, lstP, newT, vSet, vLen, lenP, vAbs, vMax, vMin, cInt, vIsi, ty_non, ty_bl, ty_int, ty_str, ty_tup, ty_fl, Out.bind_ok, Out.bind_bad, wp_ok, wp_bind, List.getElem?_cons_zero, List.getElem?_cons_succ, List.getElem?_nil, List.set_cons_zero, List.set_cons_succ, List.append_nil, Option.map_some, Option.map_none, Option.bind_some, Option.bind_none, ga, ga0, gs, gs0, List.append_assoc, Nat.add_assoc, newL, LN, Nat.reduceLeDiff, Nat.reduceLT, kit_ss, kit_ts, kit_ls, kit_bs, kit_is, kit_ns, reduceCtorEq, a30, a31, a32, i30, i31, i32, decide_eq_true_eq, ne_eq, Int.reduceLT, Int.reduceLE, Int.reduceNeg, Int.reducePow, Int.reduceToNat, Int.reduceEq, Int.reduceNe, mulOk_l, List.length_set, List.length_append, imp_false, not_false_eq_true, implies_true, if_true, if_false, ite_true, ite_false, Bool.false_eq_true, Bool.not_true, Bool.not_false, forall_const, eq_self, and_true, true_and, and_self, PV.int.injEq, PV.str.injEq, PV.bl.injEq, decide_true, decide_false]
    refine (bag_ok (ns := ns) (i := (t : Int)) (by omega) (by omega)).imp fun v S1 ⟨hv, o, e, hB⟩ => ?_
    subst hv
    exact (inner_ok hB).imp fun fl S2 ⟨a3, a4, a5, a6, e⟩ => ⟨_, .inl e, _, _, _, _, _, _, rfl⟩
  · rintro τ S ⟨a1, a2, a3, a4, a5, a6, rfl⟩
    simp only [mkF, endF, startP, List.map_cons, List.map_nil, List.length_cons, List.length_nil, List.replicate, List.cons_append, List.nil_append, Nat.sub_zero, Nat.zero_add, Nat.reduceAdd, Nat.reduceSub, sSeq, sIf, sAsg, sRet, sRetN, sDrop, sNext, sBrk, sCont, sAug, stName, stSub, stTup, stCons, stNil, eVar, eC, eUn, eBin, eArg, eLst, eTup, aNil, aCons, eIf, eAnd, eOr, eNot, eChain, bChain, bCmp, bVal, bNot, bAnd, bOr, bTrue, eSl, oNone, oSome, eCall, eCall0, callF, eM, oBl, oB, oT, tr_bl, tr_int, tr_non, tr_tup, isT_str, beq_self_eq_true, vAdd, vSub, vMul, vDiv, vMod, vPow, vNeg, vIAdd, vIMul, vGt, vLt, vLe, vGe, lt2, ltP, vEq, vNe, eq_ii, eq_ss, eq_bb, eq_nn, vIx, seqP, lstP, newT, vSet, vLen, lenP, vAbs, vMax, vMin, cInt, vIsi, ty_non, ty_bl, ty_int, ty_str, ty_tup, ty_fl, Out.bind_ok, Out.bind_bad, wp_ok, wp_bind, List.getElem?_cons_zero, List.getElem?_cons_succ, List.getElem?_nil, List.set_cons_zero, List.set_cons_succ, List.append_nil, Option.map_some, Option.map_none, Option.bind_some, Option.bind_none, ga, ga0, gs, gs0, List.append_assoc, Nat.add_assoc, newL, LN, Nat.reduceLeDiff, Nat.reduceLT, kit_ss, kit_ts, kit_ls, kit_bs, kit_is, kit_ns, reduceCtorEq, a30, a31, a32, i30, i31, i32, decide_eq_true_eq, ne_eq, Int.reduceLT, Int.reduceLE, Int.reduceNeg, Int.reducePow, Int.reduceToNat, Int.reduceEq, Int.reduceNe, mulOk_l, List.length_set, List.length_append, imp_false, not_false_eq_true, implies_true, if_true, if_false, ite_true, ite_false, Bool.false_eq_true, Bool.not_true, Bool.not_false, forall_const, eq_self, and_true, true_and, and_self, PV.int.injEq, PV.str.injEq, PV.bl.injEq, decide_true, decide_false]
end Lw

namespace Lw
open PySem PySem.Spec PyProof.Rows L2 G

def top (i : Nat) : Stmt := PySem.Challenge.pw_globhouse_k30_words_read.main.body.getD i (.Pass ⟨0, 0, 0, 0⟩)

structure Txt (K : PySem.W.Frag) (mg : Str → Option Value) where
  f_plain : Addr
  fd_plain : FuncData
  F_plain : Fun K "plain" "plain" (top 10) f_plain fd_plain
  g_plain : mg "plain" = some (.ref f_plain)
  b_plain : L2.Binds K fd_plain ["string"] []
  f_comment_end : Addr
  fd_comment_end : FuncData
  F_comment_end : Fun K "comment_end" "comment_end" (top 11) f_comment_end fd_comment_end
  g_comment_end : mg "comment_end" = some (.ref f_comment_end)
  b_comment_end : L2.Binds K fd_comment_end ["text", "at"] []
  f_word_begin : Addr
  fd_word_begin : FuncData
  F_word_begin : Fun K "word_begin" "word_begin" (top 12) f_word_begin fd_word_begin
  g_word_begin : mg "word_begin" = some (.ref f_word_begin)
  b_word_begin : L2.Binds K fd_word_begin ["text", "at"] []
  f_read_escaped : Addr
  fd_read_escaped : FuncData
  F_read_escaped : Fun K "read_escaped" "read_escaped" (top 13) f_read_escaped fd_read_escaped
  g_read_escaped : mg "read_escaped" = some (.ref f_read_escaped)
  b_read_escaped : L2.Binds K fd_read_escaped ["text", "at"] []
  f_read_single : Addr
  fd_read_single : FuncData
  F_read_single : Fun K "read_single" "read_single" (top 14) f_read_single fd_read_single
  g_read_single : mg "read_single" = some (.ref f_read_single)
  b_read_single : L2.Binds K fd_read_single ["text", "at"] []
  f_read_double : Addr
  fd_read_double : FuncData
  F_read_double : Fun K "read_double" "read_double" (top 15) f_read_double fd_read_double
  g_read_double : mg "read_double" = some (.ref f_read_double)
  b_read_double : L2.Binds K fd_read_double ["text", "at"] []
  f_read_piece : Addr
  fd_read_piece : FuncData
  F_read_piece : Fun K "read_piece" "read_piece" (top 16) f_read_piece fd_read_piece
  g_read_piece : mg "read_piece" = some (.ref f_read_piece)
  b_read_piece : L2.Binds K fd_read_piece ["text", "at"] []
  f_read_word : Addr
  fd_read_word : FuncData
  F_read_word : Fun K "read_word" "read_word" (top 17) f_read_word fd_read_word
  g_read_word : mg "read_word" = some (.ref f_read_word)
  b_read_word : L2.Binds K fd_read_word ["text", "at"] []
  f_split : Addr
  fd_split : FuncData
  F_split : Fun K "split" "split" (top 18) f_split fd_split
  g_split : mg "split" = some (.ref f_split)
  b_split : L2.Binds K fd_split ["text"] []
  f__law_bag : Addr
  fd__law_bag : FuncData
  F__law_bag : Fun K "_law_bag" "_law_bag" (top 20) f__law_bag fd__law_bag
  g__law_bag : mg "_law_bag" = some (.ref f__law_bag)
  b__law_bag : L2.Binds K fd__law_bag ["_law_script", "_law_at"] []
  f__law_take : Addr
  fd__law_take : FuncData
  F__law_take : Fun K "_law_take" "_law_take" (top 21) f__law_take fd__law_take
  g__law_take : mg "_law_take" = some (.ref f__law_take)
  b__law_take : L2.Binds K fd__law_take ["_law_bag_here", "_law_count"] []
  f__law_text : Addr
  fd__law_text : FuncData
  F__law_text : Fun K "_law_text" "_law_text" (top 22) f__law_text fd__law_text
  g__law_text : mg "_law_text" = some (.ref f__law_text)
  b__law_text : L2.Binds K fd__law_text ["_law_bag_here", "_law_size"] []
  f__law_read : Addr
  fd__law_read : FuncData
  F__law_read : Fun K "_law_read" "_law_read" (top 23) f__law_read fd__law_read
  g__law_read : mg "_law_read" = some (.ref f__law_read)
  b__law_read : L2.Binds K fd__law_read ["_law_text_here"] []
  f__law_closed : Addr
  fd__law_closed : FuncData
  F__law_closed : Fun K "_law_closed" "_law_closed" (top 24) f__law_closed fd__law_closed
  g__law_closed : mg "_law_closed" = some (.ref f__law_closed)
  b__law_closed : L2.Binds K fd__law_closed ["_law_text_here"] []
  f_law : Addr
  fd_law : FuncData
  F_law : Fun K "law" "law" (top 25) f_law fd_law
  g_law : mg "law" = some (.ref f_law)
  b_law : L2.Binds K fd_law ["_law_script"] []
  t_ACTIVE : Tok
  c_ACTIVE : mg "ACTIVE" = some (.str "*?[]{},!-" t_ACTIVE)
  t_BACKSLASH : Tok
  c_BACKSLASH : mg "BACKSLASH" = some (.str "\\" t_BACKSLASH)
  t_COMMENT : Tok
  c_COMMENT : mg "COMMENT" = some (.str "#" t_COMMENT)
  t_DOUBLE : Tok
  c_DOUBLE : mg "DOUBLE" = some (.str "\"" t_DOUBLE)
  t_GAPS : Tok
  c_GAPS : mg "GAPS" = some (.str " \n" t_GAPS)
  t_SINGLE : Tok
  c_SINGLE : mg "SINGLE" = some (.str "'" t_SINGLE)
  z_abs : mg "abs" = none
  z_int : mg "int" = none
  z_isinstance : mg "isinstance" = none
  z_len : mg "len" = none
  z_list : mg "list" = none
  z_max : mg "max" = none
  z_min : mg "min" = none
  z_range : mg "range" = none
  z_repr : mg "repr" = none
  z_str : mg "str" = none
  z_tuple : mg "tuple" = none
section
variable {P : Program} {w : World} {K : PySem.W.Frag} {mg : Str → Option Value} {base : Heap}
theorem sc_plain : FnScope ["string", "character"] ["string"] (defScope (top 10)) := ⟨rfl, rfl, rfl, by decide +kernel, rfl, by decide +kernel, by decide +kernel⟩
theorem ok_plain (T : Txt K mg) : FnG P w K mg base (L2.CX P w) 1 T.f_plain T.fd_plain ["string"] (spF K 1 F_plain) := fnG_mk T.F_plain sc_plain fun cdv A outer s H E hr hA h64 h70 h0 =>
  (h_one (h_ret (g_callTy c_tuple (by rfl) T.z_tuple (by decide +kernel) (ga_cons (g_lc (own := [("character", 1)]) rfl sc_plain.nd (i_val (g_var (pv 0))) (blkOk_by (own := [("character", 1)]) (by rfl)) (ct_name (i := 1) (by decide)) (fun _ _ _ _ _ => (pg_name (i := 1) sc_plain.nd (by rfl) (by first | exact Or.inl rfl | exact Or.inr rfl))) (fun _ _ _ _ _ => ts_nil) (fun _ _ _ _ _ => (g_tup (ga_cons (g_var (pv 1)) (ga_cons g_bl ga_nil))))) ga_nil))))
theorem sc_comment_end : FnScope ["text", "at", "end"] ["text", "at"] (defScope (top 11)) := ⟨rfl, rfl, rfl, by decide +kernel, rfl, by decide +kernel, by decide +kernel⟩
theorem ok_comment_end (T : Txt K mg) : FnG P w K mg base (L2.CX P w) 1 T.f_comment_end T.fd_comment_end ["text", "at"] (spF K 2 F_comment_end) := fnG_mk T.F_comment_end sc_comment_end fun cdv A outer s H E hr hA h64 h70 h0 =>
  (h_cons (h_asg (g_m PySem.F.plainAttrs_str PySem.F.slot_str_find PySem.F.type_str_find m_findA (g_var (pv 0)) (ga_cons g_str (ga_cons (g_var (pv 1)) ga_nil))) (s_name (i := 2) sc_comment_end.nd (by rfl) (by first | exact Or.inl rfl | exact Or.inr rfl)))
    (h_one (h_ret (g_if (t_cmp (o_lt h0) (g_var (pv 2)) g_int (nomark _)) (g_callB c_len (by rfl) T.z_len (by decide +kernel) (ga_cons (g_var (pv 0)) ga_nil)) (g_var (pv 2))))))
theorem sc_word_begin : FnScope ["text", "at"] ["text", "at"] (defScope (top 12)) := ⟨rfl, rfl, rfl, by decide +kernel, rfl, by decide +kernel, by decide +kernel⟩
theorem ok_word_begin (T : Txt K mg) : FnG P w K mg base (L2.CX P w) 2 T.f_word_begin T.fd_word_begin ["text", "at"] (spF K 2 F_word_begin) := fnG_mk T.F_word_begin sc_word_begin fun cdv A outer s H E hr hA h64 h70 h0 =>
  (h_cons (h_while (passes_of rfl) (PW.pt (tw_and (t_cmp (o_lt h0) (g_var (pv 1)) (g_callB c_len (by rfl) T.z_len (by decide +kernel) (ga_cons (g_var (pv 0)) ga_nil)) (nomark _)) (tw_and1 (PW.pt (tw_or (t_cmp (o_in h70) (g_ix (g_var (pv 0)) (g_var (pv 1)) (fun _ _ => rfl)) (g_c (v := .str " \n") (pe_glob (by rfl) T.c_GAPS ⟨_, rfl⟩) (fun _ _ => .str _)) (by rfl)) (tw_or1 (t_cmp (o_eq h64) (g_ix (g_var (pv 0)) (g_var (pv 1)) (fun _ _ => rfl)) (g_c (v := .str "#") (pe_glob (by rfl) T.c_COMMENT ⟨_, rfl⟩) (fun _ _ => .str _)) (nomark _)))))))) (h_one (h_asg (g_if (t_cmp (o_eq h64) (g_ix (g_var (pv 0)) (g_var (pv 1)) (fun _ _ => rfl)) (g_c (v := .str "#") (pe_glob (by rfl) T.c_COMMENT ⟨_, rfl⟩) (fun _ _ => .str _)) (nomark _)) (g_call (ok_comment_end T) (hr.mono (by decide)) hA (by rfl) T.g_comment_end T.F_comment_end.kp T.b_comment_end .nil (fun _ _ => .nil) (passes_call (takes_of rfl rfl rfl rfl) (fun _ _ _ _ h => h)) (ga_cons (g_var (pv 0)) (ga_cons (g_var (pv 1)) ga_nil))) (g_op o_add (g_var (pv 1)) g_int)) (s_name (i := 1) sc_word_begin.nd (by rfl) (by first | exact Or.inl rfl | exact Or.inr rfl)))))
    (h_one (h_ret (g_var (pv 1)))))
theorem sc_read_escaped : FnScope ["text", "at"] ["text", "at"] (defScope (top 13)) := ⟨rfl, rfl, rfl, by decide +kernel, rfl, by decide +kernel, by decide +kernel⟩
theorem ok_read_escaped (T : Txt K mg) : FnG P w K mg base (L2.CX P w) 2 T.f_read_escaped T.fd_read_escaped ["text", "at"] (spF K 2 F_read_escaped) := fnG_mk T.F_read_escaped sc_read_escaped fun cdv A outer s H E hr hA h64 h70 h0 =>
  (h_cons (h_if (t_cmp (o_eq h64) (g_op o_add (g_var (pv 1)) g_int) (g_callB c_len (by rfl) T.z_len (by decide +kernel) (ga_cons (g_var (pv 0)) ga_nil)) (nomark _)) (h_one h_bad) h_nil)
    (h_one (h_ret (g_tup (ga_cons (g_call (ok_plain T) (hr.mono (by decide)) hA (by rfl) T.g_plain T.F_plain.kp T.b_plain .nil (fun _ _ => .nil) (passes_call (takes_of rfl rfl rfl rfl) (fun _ _ _ _ h => h)) (ga_cons (g_ix (g_var (pv 0)) (g_op o_add (g_var (pv 1)) g_int) (fun _ _ => rfl)) ga_nil)) (ga_cons (g_op o_add (g_var (pv 1)) g_int) ga_nil))))))
theorem sc_read_single : FnScope ["text", "at", "end"] ["text", "at"] (defScope (top 14)) := ⟨rfl, rfl, rfl, by decide +kernel, rfl, by decide +kernel, by decide +kernel⟩
theorem ok_read_single (T : Txt K mg) : FnG P w K mg base (L2.CX P w) 2 T.f_read_single T.fd_read_single ["text", "at"] (spF K 2 F_read_single) := fnG_mk T.F_read_single sc_read_single fun cdv A outer s H E hr hA h64 h70 h0 =>
  (h_cons (h_asg (g_m PySem.F.plainAttrs_str PySem.F.slot_str_find PySem.F.type_str_find m_findA (g_var (pv 0)) (ga_cons (g_c (v := .str "'") (pe_glob (by rfl) T.c_SINGLE ⟨_, rfl⟩) (fun _ _ => .str _)) (ga_cons (g_op o_add (g_var (pv 1)) g_int) ga_nil))) (s_name (i := 2) sc_read_single.nd (by rfl) (by first | exact Or.inl rfl | exact Or.inr rfl)))
    (h_cons (h_if (t_cmp (o_lt h0) (g_var (pv 2)) g_int (nomark _)) (h_one h_bad) h_nil)
    (h_one (h_ret (g_tup (ga_cons (g_call (ok_plain T) (hr.mono (by decide)) hA (by rfl) T.g_plain T.F_plain.kp T.b_plain .nil (fun _ _ => .nil) (passes_call (takes_of rfl rfl rfl rfl) (fun _ _ _ _ h => h)) (ga_cons (g_sl (g_var (pv 0)) (go_some (g_op o_add (g_var (pv 1)) g_int)) (go_some (g_var (pv 2)))) ga_nil)) (ga_cons (g_op o_add (g_var (pv 2)) g_int) ga_nil)))))))
theorem sc_read_double : FnScope ["text", "at", "begin", "found"] ["text", "at"] (defScope (top 15)) := ⟨rfl, rfl, rfl, by decide +kernel, rfl, by decide +kernel, by decide +kernel⟩
theorem ok_read_double (T : Txt K mg) : FnG P w K mg base (L2.CX P w) 1 T.f_read_double T.fd_read_double ["text", "at"] (spF K 2 F_read_double) := fnG_mk T.F_read_double sc_read_double fun cdv A outer s H E hr hA h64 h70 h0 =>
  (h_cons (h_par (i := 2) (j := 3) rfl sc_read_double.nd (by rfl) (by rfl) (by decide) (by rfl) (by rfl) (ga_cons (g_var (pv 1)) (ga_cons (g_lst ga_nil) ga_nil)) rfl)
    (h_cons (h_aug (i := 1) sc_read_double.nd (by rfl) (by first | exact Or.inl rfl | exact Or.inr rfl) g_int o_iadd)
    (h_cons (h_while (passes_of rfl) (PW.pt (tw_and (t_cmp (o_lt h0) (g_var (pv 1)) (g_callB c_len (by rfl) T.z_len (by decide +kernel) (ga_cons (g_var (pv 0)) ga_nil)) (nomark _)) (tw_and1 (t_cmp (o_ne h64) (g_ix (g_var (pv 0)) (g_var (pv 1)) (fun _ _ => rfl)) (g_c (v := .str "\"") (pe_glob (by rfl) T.c_DOUBLE ⟨_, rfl⟩) (fun _ _ => .str _)) (nomark _))))) (h_cons (h_if (PW.pt (tw_and (t_cmp (o_eq h64) (g_ix (g_var (pv 0)) (g_var (pv 1)) (fun _ _ => rfl)) (g_c (v := .str "\\") (pe_glob (by rfl) T.c_BACKSLASH ⟨_, rfl⟩) (fun _ _ => .str _)) (nomark _)) (tw_and1 (t_cmp (o_in h70) (g_sl (g_var (pv 0)) (go_some (g_op o_add (g_var (pv 1)) g_int)) (go_some (g_op o_add (g_var (pv 1)) g_int))) (g_tup (ga_cons (g_c (v := .str "\"") (pe_glob (by rfl) T.c_DOUBLE ⟨_, rfl⟩) (fun _ _ => .str _)) (ga_cons (g_c (v := .str "\\") (pe_glob (by rfl) T.c_BACKSLASH ⟨_, rfl⟩) (fun _ _ => .str _)) ga_nil))) (by rfl))))) (h_one (h_aug (i := 1) sc_read_double.nd (by rfl) (by first | exact Or.inl rfl | exact Or.inr rfl) g_int o_iadd)) h_nil)
    (h_cons (h_expr (g_m PySem.F.plainAttrs_list PySem.F.slot_list_append PySem.F.type_list_append m_append (g_var (pv 3)) (ga_cons (g_tup (ga_cons (g_ix (g_var (pv 0)) (g_var (pv 1)) (fun _ _ => rfl)) (ga_cons g_bl ga_nil))) ga_nil)))
    (h_one (h_aug (i := 1) sc_read_double.nd (by rfl) (by first | exact Or.inl rfl | exact Or.inr rfl) g_int o_iadd)))))
    (h_cons (h_if (t_cmp (o_eq h64) (g_var (pv 1)) (g_callB c_len (by rfl) T.z_len (by decide +kernel) (ga_cons (g_var (pv 0)) ga_nil)) (nomark _)) (h_one h_bad) h_nil)
    (h_one (h_ret (g_tup (ga_cons (g_callTy c_tuple (by rfl) T.z_tuple (by decide +kernel) (ga_cons (g_var (pv 3)) ga_nil)) (ga_cons (g_op o_add (g_var (pv 1)) g_int) ga_nil)))))))))
theorem sc_read_piece : FnScope ["text", "at", "character"] ["text", "at"] (defScope (top 16)) := ⟨rfl, rfl, rfl, by decide +kernel, rfl, by decide +kernel, by decide +kernel⟩
theorem ok_read_piece (T : Txt K mg) : FnG P w K mg base (L2.CX P w) 3 T.f_read_piece T.fd_read_piece ["text", "at"] (spF K 2 F_read_piece) := fnG_mk T.F_read_piece sc_read_piece fun cdv A outer s H E hr hA h64 h70 h0 =>
  (h_one (h_match (g_ix (g_var (pv 0)) (g_var (pv 1)) (fun _ _ => rfl)) (m_str (h_one (h_ret (g_call (ok_read_escaped T) (hr.mono (by decide)) hA (by rfl) T.g_read_escaped T.F_read_escaped.kp T.b_read_escaped .nil (fun _ _ => .nil) (passes_call (takes_of rfl rfl rfl rfl) (fun _ _ _ _ h => h)) (ga_cons (g_var (pv 0)) (ga_cons (g_var (pv 1)) ga_nil))))) (m_str (h_one (h_ret (g_call (ok_read_single T) (hr.mono (by decide)) hA (by rfl) T.g_read_single T.F_read_single.kp T.b_read_single .nil (fun _ _ => .nil) (passes_call (takes_of rfl rfl rfl rfl) (fun _ _ _ _ h => h)) (ga_cons (g_var (pv 0)) (ga_cons (g_var (pv 1)) ga_nil))))) (m_str (h_one (h_ret (g_call (ok_read_double T) (hr.mono (by decide)) hA (by rfl) T.g_read_double T.F_read_double.kp T.b_read_double .nil (fun _ _ => .nil) (passes_call (takes_of rfl rfl rfl rfl) (fun _ _ _ _ h => h)) (ga_cons (g_var (pv 0)) (ga_cons (g_var (pv 1)) ga_nil))))) (m_cap (i := 2) sc_read_piece.nd (by rfl) (by rfl) (h_one (h_ret (g_tup (ga_cons (g_tup (ga_cons (g_tup (ga_cons (g_var (pv 2)) (ga_cons (g_cmp (o_in h70) (g_var (pv 2)) (g_c (v := .str "*?[]{},!-") (pe_glob (by rfl) T.c_ACTIVE ⟨_, rfl⟩) (fun _ _ => .str _)) (by rfl)) ga_nil))) ga_nil)) (ga_cons (g_op o_add (g_var (pv 1)) g_int) ga_nil)))))))))))
theorem sc_read_word : FnScope ["text", "at", "found", "signs"] ["text", "at"] (defScope (top 17)) := ⟨rfl, rfl, rfl, by decide +kernel, rfl, by decide +kernel, by decide +kernel⟩
theorem ok_read_word (T : Txt K mg) : FnG P w K mg base (L2.CX P w) 4 T.f_read_word T.fd_read_word ["text", "at"] (spF K 2 F_read_word) := fnG_mk T.F_read_word sc_read_word fun cdv A outer s H E hr hA h64 h70 h0 =>
  (h_cons (h_asg (g_lst ga_nil) (s_name (i := 2) sc_read_word.nd (by rfl) (by first | exact Or.inl rfl | exact Or.inr rfl)))
    (h_cons (h_while (passes_of rfl) (PW.pt (tw_and (t_cmp (o_lt h0) (g_var (pv 1)) (g_callB c_len (by rfl) T.z_len (by decide +kernel) (ga_cons (g_var (pv 0)) ga_nil)) (nomark _)) (tw_and1 (t_cmp (o_notIn h70) (g_ix (g_var (pv 0)) (g_var (pv 1)) (fun _ _ => rfl)) (g_c (v := .str " \n") (pe_glob (by rfl) T.c_GAPS ⟨_, rfl⟩) (fun _ _ => .str _)) (by rfl))))) (h_cons (h_asg (g_call (ok_read_piece T) (hr.mono (by decide)) hA (by rfl) T.g_read_piece T.F_read_piece.kp T.b_read_piece .nil (fun _ _ => .nil) (passes_call (takes_of rfl rfl rfl rfl) (fun _ _ _ _ h => h)) (ga_cons (g_var (pv 0)) (ga_cons (g_var (pv 1)) ga_nil))) (s_tup (n := 2) rfl (s_cons (s_name (i := 3) sc_read_word.nd (by rfl) (by first | exact Or.inl rfl | exact Or.inr rfl)) (s_cons (s_name (i := 1) sc_read_word.nd (by rfl) (by first | exact Or.inl rfl | exact Or.inr rfl)) s_nil))))
    (h_one (h_expr (g_m PySem.F.plainAttrs_list PySem.F.slot_list_extend PySem.F.type_list_extend m_extend (g_var (pv 2)) (ga_cons (g_var (pv 3)) ga_nil))))))
    (h_one (h_ret (g_tup (ga_cons (g_callTy c_tuple (by rfl) T.z_tuple (by decide +kernel) (ga_cons (g_var (pv 2)) ga_nil)) (ga_cons (g_var (pv 1)) ga_nil)))))))
theorem sc_split : FnScope ["text", "found", "at", "word"] ["text"] (defScope (top 18)) := ⟨rfl, rfl, rfl, by decide +kernel, rfl, by decide +kernel, by decide +kernel⟩
theorem ok_split (T : Txt K mg) : FnG P w K mg base (L2.CX P w) 5 T.f_split T.fd_split ["text"] (spF K 1 F_split) := fnG_mk T.F_split sc_split fun cdv A outer s H E hr hA h64 h70 h0 =>
  (h_cons (h_if (t_not (t_val (g_callB c_isi (by rfl) T.z_isinstance (by decide +kernel) (ga_cons (g_var (pv 0)) (ga_cons (g_c (v := .ty "str") (pe_bltn (by rfl) T.z_str (by decide +kernel) rfl) (fun _ _ => .ty _)) ga_nil))) (by intro _; rfl))) (h_one h_bad) h_nil)
    (h_cons (h_par (i := 1) (j := 2) rfl sc_split.nd (by rfl) (by rfl) (by decide) (by rfl) (by rfl) (ga_cons (g_lst ga_nil) (ga_cons (g_call (ok_word_begin T) (hr.mono (by decide)) hA (by rfl) T.g_word_begin T.F_word_begin.kp T.b_word_begin .nil (fun _ _ => .nil) (passes_call (takes_of rfl rfl rfl rfl) (fun _ _ _ _ h => h)) (ga_cons (g_var (pv 0)) (ga_cons g_int ga_nil))) ga_nil)) rfl)
    (h_cons (h_while (passes_of rfl) (t_cmp (o_lt h0) (g_var (pv 2)) (g_callB c_len (by rfl) T.z_len (by decide +kernel) (ga_cons (g_var (pv 0)) ga_nil)) (nomark _)) (h_cons (h_asg (g_call (ok_read_word T) (hr.mono (by decide)) hA (by rfl) T.g_read_word T.F_read_word.kp T.b_read_word .nil (fun _ _ => .nil) (passes_call (takes_of rfl rfl rfl rfl) (fun _ _ _ _ h => h)) (ga_cons (g_var (pv 0)) (ga_cons (g_var (pv 2)) ga_nil))) (s_tup (n := 2) rfl (s_cons (s_name (i := 3) sc_split.nd (by rfl) (by first | exact Or.inl rfl | exact Or.inr rfl)) (s_cons (s_name (i := 2) sc_split.nd (by rfl) (by first | exact Or.inl rfl | exact Or.inr rfl)) s_nil))))
    (h_cons (h_expr (g_m PySem.F.plainAttrs_list PySem.F.slot_list_append PySem.F.type_list_append m_append (g_var (pv 1)) (ga_cons (g_var (pv 3)) ga_nil)))
    (h_one (h_asg (g_call (ok_word_begin T) (hr.mono (by decide)) hA (by rfl) T.g_word_begin T.F_word_begin.kp T.b_word_begin .nil (fun _ _ => .nil) (passes_call (takes_of rfl rfl rfl rfl) (fun _ _ _ _ h => h)) (ga_cons (g_var (pv 0)) (ga_cons (g_var (pv 2)) ga_nil))) (s_name (i := 2) sc_split.nd (by rfl) (by first | exact Or.inl rfl | exact Or.inr rfl)))))))
    (h_one (h_ret (g_var (pv 1)))))))
theorem sc__law_bag : FnScope ["_law_script", "_law_at", "_law_cell", "_law_far", "_law_low"] ["_law_script", "_law_at"] (defScope (top 20)) := ⟨rfl, rfl, rfl, by decide +kernel, rfl, by decide +kernel, by decide +kernel⟩
theorem ok__law_bag (T : Txt K mg) : FnG P w K mg base (L2.CX P w) 1 T.f__law_bag T.fd__law_bag ["_law_script", "_law_at"] (spF K 2 F__law_bag) := fnG_mk T.F__law_bag sc__law_bag fun cdv A outer s H E hr hA h64 h70 h0 =>
  (h_cons (h_asg (g_if (t_cmp (o_lt h0) (g_var (pv 1)) (g_callB c_len (by rfl) T.z_len (by decide +kernel) (ga_cons (g_var (pv 0)) ga_nil)) (nomark _)) (g_ix (g_var (pv 0)) (g_var (pv 1)) (fun _ _ => rfl)) g_int) (s_name (i := 2) sc__law_bag.nd (by rfl) (by first | exact Or.inl rfl | exact Or.inr rfl)))
    (h_cons (h_asg (g_callB c_abs (by rfl) T.z_abs (by decide +kernel) (ga_cons (g_var (pv 2)) ga_nil)) (s_name (i := 3) sc__law_bag.nd (by rfl) (by first | exact Or.inl rfl | exact Or.inr rfl)))
    (h_cons (h_asg (g_op o_add (g_op o_mul (g_op o_add (g_op o_mod (g_var (pv 2)) g_int) g_int) (g_op o_add (g_op o_mul g_int (g_var (pv 1))) g_int)) (g_op o_mul g_int (g_var (pv 1)))) (s_name (i := 4) sc__law_bag.nd (by rfl) (by first | exact Or.inl rfl | exact Or.inr rfl)))
    (h_one (h_ret (g_lst (ga_cons (g_op o_mul (g_var (pv 3)) (g_callTy c_int (by rfl) T.z_int (by decide +kernel) (ga_cons (g_cmp o_ge (g_var (pv 3)) (g_op o_pow g_int g_int) (nomark _)) ga_nil))) (ga_cons (g_var (pv 4)) (ga_cons g_int ga_nil)))))))))
theorem sc__law_take : FnScope ["_law_bag_here", "_law_count", "_law_digit", "_law_low", "_law_found"] ["_law_bag_here", "_law_count"] (defScope (top 21)) := ⟨rfl, rfl, rfl, by decide +kernel, rfl, by decide +kernel, by decide +kernel⟩
theorem ok__law_take (T : Txt K mg) : FnG P w K mg base (L2.CX P w) 1 T.f__law_take T.fd__law_take ["_law_bag_here", "_law_count"] (spF K 2 F__law_take) := fnG_mk T.F__law_take sc__law_take fun cdv A outer s H E hr hA h64 h70 h0 =>
  (h_cons (h_if (t_cmp o_gt (g_ix (g_var (pv 0)) g_int (fun _ _ => rfl)) g_int (nomark _)) (h_cons (h_asg (g_op o_mod (g_ix (g_var (pv 0)) g_int (fun _ _ => rfl)) (g_var (pv 1))) (s_name (i := 2) sc__law_take.nd (by rfl) (by first | exact Or.inl rfl | exact Or.inr rfl)))
    (h_cons (h_asg (g_op o_div (g_ix (g_var (pv 0)) g_int (fun _ _ => rfl)) (g_var (pv 1))) (s_sub (g_var (pv 0)) g_int o_set))
    (h_one (h_ret (g_var (pv 2)))))) h_nil)
    (h_cons (h_asg (g_op o_add (g_ix (g_var (pv 0)) g_int (fun _ _ => rfl)) g_int) (s_sub (g_var (pv 0)) g_int o_set))
    (h_cons (h_asg (g_op o_add (g_op o_add (g_op o_mul (g_ix (g_var (pv 0)) g_int (fun _ _ => rfl)) (g_op o_add (g_op o_mul g_int (g_ix (g_var (pv 0)) g_int (fun _ _ => rfl))) g_int)) (g_op o_mul (g_op o_mul g_int (g_ix (g_var (pv 0)) g_int (fun _ _ => rfl))) (g_ix (g_var (pv 0)) g_int (fun _ _ => rfl)))) g_int) (s_name (i := 3) sc__law_take.nd (by rfl) (by first | exact Or.inl rfl | exact Or.inr rfl)))
    (h_cons (h_asg (g_op o_mod (g_op o_pow (g_var (pv 3)) g_int) g_int) (s_name (i := 4) sc__law_take.nd (by rfl) (by first | exact Or.inl rfl | exact Or.inr rfl)))
    (h_one (h_ret (g_op o_mod (g_op o_div (g_op o_mod (g_op o_mul (g_var (pv 4)) (g_op o_add (g_op o_div (g_var (pv 4)) g_int) (g_ix (g_var (pv 0)) g_int (fun _ _ => rfl)))) g_int) g_int) (g_var (pv 1)))))))))
theorem sc__law_text : FnScope ["_law_bag_here", "_law_size", "_law_some", "_law_many", "_law_turn"] ["_law_bag_here", "_law_size"] (defScope (top 22)) := ⟨rfl, rfl, rfl, by decide +kernel, rfl, by decide +kernel, by decide +kernel⟩
theorem ok__law_text (T : Txt K mg) : FnG P w K mg base (L2.CX P w) 2 T.f__law_text T.fd__law_text ["_law_bag_here", "_law_size"] (spF K 2 F__law_text) := fnG_mk T.F__law_text sc__law_text fun cdv A outer s H E hr hA h64 h70 h0 =>
  (h_cons (h_asg (g_lst (ga_cons g_str (ga_cons g_str (ga_cons g_str (ga_cons g_str (ga_cons g_str (ga_cons g_str (ga_cons g_str (ga_cons g_str (ga_cons g_str (ga_cons g_str (ga_cons g_str (ga_cons g_str (ga_cons g_str (ga_cons g_str (ga_cons g_str (ga_cons g_str (ga_cons g_str (ga_cons g_str (ga_cons g_str (ga_cons g_str ga_nil))))))))))))))))))))) (s_name (i := 2) sc__law_text.nd (by rfl) (by first | exact Or.inl rfl | exact Or.inr rfl)))
    (h_cons (h_asg (g_op o_add (g_var (pv 2)) (g_lst (ga_cons g_str (ga_cons g_str (ga_cons g_str (ga_cons g_str (ga_cons g_str (ga_cons g_str (ga_cons g_str (ga_cons g_str (ga_cons g_str (ga_cons g_str ga_nil)))))))))))) (s_name (i := 2) sc__law_text.nd (by rfl) (by first | exact Or.inl rfl | exact Or.inr rfl)))
    (h_cons (h_asg (g_op o_add (g_var (pv 2)) (g_lst (ga_cons g_str (ga_cons g_str (ga_cons g_str (ga_cons g_str (ga_cons g_str (ga_cons g_str (ga_cons g_str (ga_cons g_str ga_nil)))))))))) (s_name (i := 2) sc__law_text.nd (by rfl) (by first | exact Or.inl rfl | exact Or.inr rfl)))
    (h_cons (h_asg (g_call (ok__law_take T) (hr.mono (by decide)) hA (by rfl) T.g__law_take T.F__law_take.kp T.b__law_take .nil (fun _ _ => .nil) (passes_call (takes_of rfl rfl rfl rfl) (fun _ _ _ _ h => h)) (ga_cons (g_var (pv 0)) (ga_cons (g_op o_add (g_var (pv 1)) g_int) ga_nil))) (s_name (i := 3) sc__law_text.nd (by rfl) (by first | exact Or.inl rfl | exact Or.inr rfl)))
    (h_one (h_ret (g_m PySem.F.plainAttrs_str PySem.F.slot_str_join PySem.F.type_str_join m_join g_str (ga_cons (g_lc (own := [("_law_turn", 4)]) rfl sc__law_text.nd (i_range1 (by rfl) T.z_range (ga_cons (g_var (pv 3)) ga_nil)) (blkOk_by (own := [("_law_turn", 4)]) (by rfl)) (ct_name (i := 4) (by decide)) (fun _ _ _ _ _ => (pg_name (i := 4) sc__law_text.nd (by rfl) (by first | exact Or.inl rfl | exact Or.inr rfl))) (fun _ _ _ _ _ => ts_nil) (fun _ _ _ _ _ => (g_ix (g_var (pv 2)) (g_call (ok__law_take T) (hr.mono (by decide)) hA (by rfl) T.g__law_take T.F__law_take.kp T.b__law_take .nil (fun _ _ => .nil) passL (ga_cons (g_var (pv 0)) (ga_cons (g_callB c_len (by rfl) T.z_len (by decide +kernel) (ga_cons (g_var (pv 2)) ga_nil)) ga_nil))) (fun _ _ => rfl)))) ga_nil))))))))
theorem sc__law_read : FnScope ["_law_text_here", "_law_found", "_law_signs", "_law_mode", "_law_begin", "_law_is_escaped", "_law_at", "_law_sign"] ["_law_text_here"] (defScope (top 23)) := ⟨rfl, rfl, rfl, by decide +kernel, rfl, by decide +kernel, by decide +kernel⟩
theorem ok__law_read (T : Txt K mg) : FnG P w K mg base (L2.CX P w) 1 T.f__law_read T.fd__law_read ["_law_text_here"] (spF K 1 F__law_read) := fnG_mk T.F__law_read sc__law_read fun cdv A outer s H E hr hA h64 h70 h0 =>
  (h_cons (h_asg (g_tup (ga_cons (g_lst ga_nil) (ga_cons g_non (ga_cons g_str (ga_cons (g_un o_neg g_int) (ga_cons g_bl ga_nil)))))) (s_tup (n := 5) rfl (s_cons (s_name (i := 1) sc__law_read.nd (by rfl) (by first | exact Or.inl rfl | exact Or.inr rfl)) (s_cons (s_name (i := 2) sc__law_read.nd (by rfl) (by first | exact Or.inl rfl | exact Or.inr rfl)) (s_cons (s_name (i := 3) sc__law_read.nd (by rfl) (by first | exact Or.inl rfl | exact Or.inr rfl)) (s_cons (s_name (i := 4) sc__law_read.nd (by rfl) (by first | exact Or.inl rfl | exact Or.inr rfl)) (s_cons (s_name (i := 5) sc__law_read.nd (by rfl) (by first | exact Or.inl rfl | exact Or.inr rfl)) s_nil)))))))
    (h_cons (h_for (passes_of rfl) rfl (i_range1 (by rfl) T.z_range (ga_cons (g_callB c_len (by rfl) T.z_len (by decide +kernel) (ga_cons (g_var (pv 0)) ga_nil)) ga_nil)) (s_name (i := 6) sc__law_read.nd (by rfl) (by first | exact Or.inl rfl | exact Or.inr rfl)) (h_cons (h_asg (g_ix (g_var (pv 0)) (g_var (pv 6)) (fun _ _ => rfl)) (s_name (i := 7) sc__law_read.nd (by rfl) (by first | exact Or.inl rfl | exact Or.inr rfl)))
    (h_one (h_if (t_cmp (o_eq h64) (g_var (pv 3)) g_str (nomark _)) (h_one (h_asg (g_if (t_cmp (o_eq h64) (g_var (pv 7)) g_str (nomark _)) g_str (g_var (pv 3))) (s_name (i := 3) sc__law_read.nd (by rfl) (by first | exact Or.inl rfl | exact Or.inr rfl)))) (h_one (h_if (t_val (g_var (pv 5)) (by intro _; rfl)) (h_cons (h_if (PW.pt (tw_and (t_cmp (o_eq h64) (g_var (pv 3)) g_str (nomark _)) (tw_and1 (t_cmp (o_notIn h70) (g_var (pv 7)) g_str (by rfl))))) (h_one (h_expr (g_m PySem.F.plainAttrs_list PySem.F.slot_list_append PySem.F.type_list_append m_append (g_var (pv 2)) (ga_cons (g_tup (ga_cons g_str (ga_cons g_bl ga_nil))) ga_nil)))) h_nil)
    (h_cons (h_expr (g_m PySem.F.plainAttrs_list PySem.F.slot_list_append PySem.F.type_list_append m_append (g_var (pv 2)) (ga_cons (g_tup (ga_cons (g_var (pv 7)) (ga_cons g_bl ga_nil))) ga_nil)))
    (h_one (h_asg g_bl (s_name (i := 5) sc__law_read.nd (by rfl) (by first | exact Or.inl rfl | exact Or.inr rfl)))))) (h_one (h_if (PW.pt (tw_and (t_cmp (o_eq h64) (g_var (pv 3)) g_str (nomark _)) (tw_and1 (t_cmp (o_in h70) (g_var (pv 7)) g_str (by rfl))))) (h_cons (h_asg (g_op o_add (g_var (pv 1)) (g_if (t_cmp o_isNot (g_var (pv 2)) g_non (nomark _)) (g_lst (ga_cons (g_callTy c_tuple (by rfl) T.z_tuple (by decide +kernel) (ga_cons (g_var (pv 2)) ga_nil)) ga_nil)) (g_lst ga_nil))) (s_name (i := 1) sc__law_read.nd (by rfl) (by first | exact Or.inl rfl | exact Or.inr rfl)))
    (h_one (h_asg g_non (s_name (i := 2) sc__law_read.nd (by rfl) (by first | exact Or.inl rfl | exact Or.inr rfl))))) (h_one (h_if (PW.pt (tw_and (t_cmp (o_eq h64) (g_var (pv 3)) g_str (nomark _)) (tw_and (t_cmp (o_eq h64) (g_var (pv 7)) g_str (nomark _)) (tw_and1 (t_cmp o_is (g_var (pv 2)) g_non (nomark _)))))) (h_one (h_asg g_str (s_name (i := 3) sc__law_read.nd (by rfl) (by first | exact Or.inl rfl | exact Or.inr rfl)))) (h_cons (h_asg (g_if (t_cmp o_is (g_var (pv 2)) g_non (nomark _)) (g_lst ga_nil) (g_var (pv 2))) (s_name (i := 2) sc__law_read.nd (by rfl) (by first | exact Or.inl rfl | exact Or.inr rfl)))
    (h_one (h_if (PW.pt (tw_and (t_cmp (o_eq h64) (g_var (pv 7)) g_str (nomark _)) (tw_and1 (t_cmp (o_ne h64) (g_var (pv 3)) g_str (nomark _))))) (h_one (h_par (i := 4) (j := 5) rfl sc__law_read.nd (by rfl) (by rfl) (by decide) (by rfl) (by rfl) (ga_cons (g_if (t_cmp (o_eq h64) (g_var (pv 3)) g_str (nomark _)) (g_var (pv 6)) (g_var (pv 4))) (ga_cons g_bl ga_nil)) rfl)) (h_one (h_if (PW.pt (tw_and (t_cmp (o_eq h64) (g_var (pv 3)) g_str (nomark _)) (tw_and1 (t_cmp (o_in h70) (g_var (pv 7)) g_str (by rfl))))) (h_one (h_par (i := 4) (j := 3) rfl sc__law_read.nd (by rfl) (by rfl) (by decide) (by rfl) (by rfl) (ga_cons (g_var (pv 6)) (ga_cons (g_if (t_cmp (o_eq h64) (g_var (pv 7)) g_str (nomark _)) g_str g_str) ga_nil)) rfl)) (h_one (h_if (PW.pt (tw_and (t_cmp (o_ne h64) (g_var (pv 3)) g_str (nomark _)) (tw_and1 (t_cmp (o_eq h64) (g_var (pv 7)) (g_dk (kvs := [("single", "'"), ("double", "\"")]) (pps_cons pe_str pe_str (pps_cons pe_str pe_str pps_nil)) (pv 3) (Nat.lt_of_le_of_lt (Nat.add_le_add_left (by decide) _) h64) (by simp) (by decide) (by decide) rfl rfl (fun _ _ => rfl)) (nomark _))))) (h_one (h_asg g_str (s_name (i := 3) sc__law_read.nd (by rfl) (by first | exact Or.inl rfl | exact Or.inr rfl)))) (h_one (h_expr (g_m PySem.F.plainAttrs_list PySem.F.slot_list_append PySem.F.type_list_append m_append (g_var (pv 2)) (ga_cons (g_tup (ga_cons (g_var (pv 7)) (ga_cons (g_and (g_cmp (o_eq h64) (g_var (pv 3)) g_str (nomark _)) (g_one (g_cmp (o_in h70) (g_var (pv 7)) g_str (by rfl)))) ga_nil))) ga_nil)))))))))))))))))))))
    (h_cons (h_if (PW.pt (tw_or (t_cmp (o_in h70) (g_var (pv 3)) (g_tup (ga_cons g_str (ga_cons g_str ga_nil))) (by rfl)) (tw_or1 (t_val (g_var (pv 5)) (by intro _; rfl))))) (h_one (h_ret (g_var (pv 4)))) h_nil)
    (h_one (h_ret (g_op o_add (g_var (pv 1)) (g_if (t_cmp o_isNot (g_var (pv 2)) g_non (nomark _)) (g_lst (ga_cons (g_callTy c_tuple (by rfl) T.z_tuple (by decide +kernel) (ga_cons (g_var (pv 2)) ga_nil)) ga_nil)) (g_lst ga_nil))))))))
theorem sc__law_closed : FnScope ["_law_text_here", "_law_last"] ["_law_text_here"] (defScope (top 24)) := ⟨rfl, rfl, rfl, by decide +kernel, rfl, by decide +kernel, by decide +kernel⟩
theorem ok__law_closed (T : Txt K mg) : FnG P w K mg base (L2.CX P w) 2 T.f__law_closed T.fd__law_closed ["_law_text_here"] (spF K 1 F__law_closed) := fnG_mk T.F__law_closed sc__law_closed fun cdv A outer s H E hr hA h64 h70 h0 =>
  (h_cons (h_for (passes_of rfl) rfl (i_val (g_tup (ga_cons g_str (ga_cons g_str (ga_cons g_str (ga_cons g_str ga_nil)))))) (s_name (i := 1) sc__law_closed.nd (by rfl) (by first | exact Or.inl rfl | exact Or.inr rfl)) (h_one (h_if (t_val (g_callB c_isi (by rfl) T.z_isinstance (by decide +kernel) (ga_cons (g_call (ok__law_read T) (hr.mono (by decide)) hA (by rfl) T.g__law_read T.F__law_read.kp T.b__law_read .nil (fun _ _ => .nil) (passes_call (takes_of rfl rfl rfl rfl) (fun _ _ _ _ h => h)) (ga_cons (g_op o_add (g_var (pv 0)) (g_var (pv 1))) ga_nil)) (ga_cons (g_c (v := .ty "list") (pe_bltn (by rfl) T.z_list (by decide +kernel) rfl) (fun _ _ => .ty _)) ga_nil))) (by intro _; rfl)) (h_one (h_ret (g_op o_add (g_var (pv 0)) (g_var (pv 1))))) h_nil)))
    (h_one (h_ret (g_var (pv 0)))))
theorem sc_law : FnScope ["_law_script", "_law_at", "_law_bag_here", "_law_turn", "_law_text_here", "_law_due", "_law_found"] ["_law_script"] (defScope (top 25)) := ⟨rfl, rfl, rfl, by decide +kernel, rfl, by decide +kernel, by decide +kernel⟩
theorem ok_law (T : Txt K mg) : FnG P w K mg base (L2.CX P w) 6 T.f_law T.fd_law ["_law_script"] (spF K 1 F_law) := fnG_mk T.F_law sc_law fun cdv A outer s H E hr hA h64 h70 h0 =>
  (h_cons (h_for (passes_of rfl) rfl (i_range1 (by rfl) T.z_range (ga_cons (g_callB (c_max rfl) (by rfl) T.z_max (by decide +kernel) (ga_cons g_int (ga_cons (g_callB (c_min rfl) (by rfl) T.z_min (by decide +kernel) (ga_cons g_int (ga_cons (g_callB c_len (by rfl) T.z_len (by decide +kernel) (ga_cons (g_var (pv 0)) ga_nil)) ga_nil))) ga_nil))) ga_nil)) (s_name (i := 1) sc_law.nd (by rfl) (by first | exact Or.inl rfl | exact Or.inr rfl)) (h_cons (h_asg (g_call (ok__law_bag T) (hr.mono (by decide)) hA (by rfl) T.g__law_bag T.F__law_bag.kp T.b__law_bag .nil (fun _ _ => .nil) (passes_call (takes_of rfl rfl rfl rfl) (fun _ _ _ _ h => h)) (ga_cons (g_var (pv 0)) (ga_cons (g_var (pv 1)) ga_nil))) (s_name (i := 2) sc_law.nd (by rfl) (by first | exact Or.inl rfl | exact Or.inr rfl)))
    (h_one (h_for (passes_of rfl) rfl (i_range1 (by rfl) T.z_range (ga_cons g_int ga_nil)) (s_name (i := 3) sc_law.nd (by rfl) (by first | exact Or.inl rfl | exact Or.inr rfl)) (h_cons (h_asg (g_call (ok__law_closed T) (hr.mono (by decide)) hA (by rfl) T.g__law_closed T.F__law_closed.kp T.b__law_closed .nil (fun _ _ => .nil) (passes_call (takes_of rfl rfl rfl rfl) (fun _ _ _ _ h => h)) (ga_cons (g_call (ok__law_text T) (hr.mono (by decide)) hA (by rfl) T.g__law_text T.F__law_text.kp T.b__law_text .nil (fun _ _ => .nil) (passes_call (takes_of rfl rfl rfl rfl) (fun _ _ _ _ h => h)) (ga_cons (g_var (pv 2)) (ga_cons g_int ga_nil))) ga_nil)) (s_name (i := 4) sc_law.nd (by rfl) (by first | exact Or.inl rfl | exact Or.inr rfl)))
    (h_cons (h_asg (g_call (ok__law_read T) (hr.mono (by decide)) hA (by rfl) T.g__law_read T.F__law_read.kp T.b__law_read .nil (fun _ _ => .nil) (passes_call (takes_of rfl rfl rfl rfl) (fun _ _ _ _ h => h)) (ga_cons (g_var (pv 4)) ga_nil)) (s_name (i := 5) sc_law.nd (by rfl) (by first | exact Or.inl rfl | exact Or.inr rfl)))
    (h_one (h_if (t_val (g_callB c_isi (by rfl) T.z_isinstance (by decide +kernel) (ga_cons (g_var (pv 5)) (ga_cons (g_c (v := .ty "list") (pe_bltn (by rfl) T.z_list (by decide +kernel) rfl) (fun _ _ => .ty _)) ga_nil))) (by intro _; rfl)) (h_cons (h_asg (g_call (ok_split T) (hr.mono (by decide)) hA (by rfl) T.g_split T.F_split.kp T.b_split .nil (fun _ _ => .nil) (passes_call (takes_of rfl rfl rfl rfl) (fun _ _ _ _ h => h)) (ga_cons (g_var (pv 4)) ga_nil)) (s_name (i := 6) sc_law.nd (by rfl) (by first | exact Or.inl rfl | exact Or.inr rfl)))
    (h_cons (h_if (PW.pt (tw_or (t_not (t_val (g_callB c_isi (by rfl) T.z_isinstance (by decide +kernel) (ga_cons (g_var (pv 6)) (ga_cons (g_c (v := .ty "list") (pe_bltn (by rfl) T.z_list (by decide +kernel) rfl) (fun _ _ => .ty _)) ga_nil))) (by intro _; rfl))) (tw_or1 (t_cmp (o_ne h64) (g_callB (c_repr hA h70) (by rfl) T.z_repr (by decide +kernel) (ga_cons (g_var (pv 6)) ga_nil)) (g_callB (c_repr hA h70) (by rfl) T.z_repr (by decide +kernel) (ga_cons (g_var (pv 5)) ga_nil)) (nomark _))))) (h_one (h_ret g_bl)) h_nil)
    (h_cons (h_expr (g_m PySem.F.plainAttrs_list PySem.F.slot_list_append PySem.F.type_list_append m_append (g_var (pv 6)) (ga_cons g_str ga_nil)))
    (h_one (h_if (t_cmp (o_ne h64) (g_callB (c_repr hA h70) (by rfl) T.z_repr (by decide +kernel) (ga_cons (g_call (ok_split T) (hr.mono (by decide)) hA (by rfl) T.g_split T.F_split.kp T.b_split .nil (fun _ _ => .nil) (passes_call (takes_of rfl rfl rfl rfl) (fun _ _ _ _ h => h)) (ga_cons (g_var (pv 4)) ga_nil)) ga_nil)) (g_callB (c_repr hA h70) (by rfl) T.z_repr (by decide +kernel) (ga_cons (g_var (pv 5)) ga_nil)) (nomark _)) (h_one (h_ret g_bl)) h_nil))))) h_nil))))))))
    (h_one (h_ret g_bl)))
end

theorem all_mk {l : PySem.W.OpenLaw} {w : World} {K : PySem.W.Frag} {h : Heap} {mg : Str → Option Value} {fa : Addr} (X : K.In h) (Gn : h.Ns mainGlobals mg) (hfa : mg "law" = some (.ref fa))
    {f0 : Addr} {od0 an0 : Option Addr} {sl0 : Array (Option Value)} {oc0 kV0 dc0 pm0 cd0 ct0 : Value}
    {f1 : Addr} {od1 an1 : Option Addr} {sl1 : Array (Option Value)} {oc1 kV1 dc1 pm1 cd1 ct1 : Value}
    {f2 : Addr} {od2 an2 : Option Addr} {sl2 : Array (Option Value)} {oc2 kV2 dc2 pm2 cd2 ct2 : Value}
    {f3 : Addr} {od3 an3 : Option Addr} {sl3 : Array (Option Value)} {oc3 kV3 dc3 pm3 cd3 ct3 : Value}
    {f4 : Addr} {od4 an4 : Option Addr} {sl4 : Array (Option Value)} {oc4 kV4 dc4 pm4 cd4 ct4 : Value}
    {f5 : Addr} {od5 an5 : Option Addr} {sl5 : Array (Option Value)} {oc5 kV5 dc5 pm5 cd5 ct5 : Value}
    {f6 : Addr} {od6 an6 : Option Addr} {sl6 : Array (Option Value)} {oc6 kV6 dc6 pm6 cd6 ct6 : Value}
    {f7 : Addr} {od7 an7 : Option Addr} {sl7 : Array (Option Value)} {oc7 kV7 dc7 pm7 cd7 ct7 : Value}
    {f8 : Addr} {od8 an8 : Option Addr} {sl8 : Array (Option Value)} {oc8 kV8 dc8 pm8 cd8 ct8 : Value}
    {f9 : Addr} {od9 an9 : Option Addr} {sl9 : Array (Option Value)} {oc9 kV9 dc9 pm9 cd9 ct9 : Value}
    {f10 : Addr} {od10 an10 : Option Addr} {sl10 : Array (Option Value)} {oc10 kV10 dc10 pm10 cd10 ct10 : Value}
    {f11 : Addr} {od11 an11 : Option Addr} {sl11 : Array (Option Value)} {oc11 kV11 dc11 pm11 cd11 ct11 : Value}
    {f12 : Addr} {od12 an12 : Option Addr} {sl12 : Array (Option Value)} {oc12 kV12 dc12 pm12 cd12 ct12 : Value}
    {f13 : Addr} {od13 an13 : Option Addr} {sl13 : Array (Option Value)} {oc13 kV13 dc13 pm13 cd13 ct13 : Value}
    {f14 : Addr} {od14 an14 : Option Addr} {sl14 : Array (Option Value)} {oc14 kV14 dc14 pm14 cd14 ct14 : Value}
    {t_ACTIVE : Tok}
    {t_BACKSLASH : Tok}
    {t_COMMENT : Tok}
    {t_DOUBLE : Tok}
    {t_GAPS : Tok}
    {t_SINGLE : Tok}
    (a0 : PySem.W.nsIn K mainGlobals "plain" = some (some (.ref f0)))
    (l0 : K.lookup f0 = some ⟨oc0, od0, .func (PySem.W.fnOf "plain" "plain" (defArgs (top 10)) (defBody (top 10)) (defScope (top 10)) .none kV0 dc0 pm0 an0 cd0 ct0), sl0⟩)
    (d0 : PySem.W.codeIn K cd0 "plain" = true)
    (k0 : PySem.W.keepIn K (.ref f0) = true)
    (a1 : PySem.W.nsIn K mainGlobals "comment_end" = some (some (.ref f1)))
    (l1 : K.lookup f1 = some ⟨oc1, od1, .func (PySem.W.fnOf "comment_end" "comment_end" (defArgs (top 11)) (defBody (top 11)) (defScope (top 11)) .none kV1 dc1 pm1 an1 cd1 ct1), sl1⟩)
    (d1 : PySem.W.codeIn K cd1 "comment_end" = true)
    (k1 : PySem.W.keepIn K (.ref f1) = true)
    (a2 : PySem.W.nsIn K mainGlobals "word_begin" = some (some (.ref f2)))
    (l2 : K.lookup f2 = some ⟨oc2, od2, .func (PySem.W.fnOf "word_begin" "word_begin" (defArgs (top 12)) (defBody (top 12)) (defScope (top 12)) .none kV2 dc2 pm2 an2 cd2 ct2), sl2⟩)
    (d2 : PySem.W.codeIn K cd2 "word_begin" = true)
    (k2 : PySem.W.keepIn K (.ref f2) = true)
    (a3 : PySem.W.nsIn K mainGlobals "read_escaped" = some (some (.ref f3)))
    (l3 : K.lookup f3 = some ⟨oc3, od3, .func (PySem.W.fnOf "read_escaped" "read_escaped" (defArgs (top 13)) (defBody (top 13)) (defScope (top 13)) .none kV3 dc3 pm3 an3 cd3 ct3), sl3⟩)
    (d3 : PySem.W.codeIn K cd3 "read_escaped" = true)
    (k3 : PySem.W.keepIn K (.ref f3) = true)
    (a4 : PySem.W.nsIn K mainGlobals "read_single" = some (some (.ref f4)))
    (l4 : K.lookup f4 = some ⟨oc4, od4, .func (PySem.W.fnOf "read_single" "read_single" (defArgs (top 14)) (defBody (top 14)) (defScope (top 14)) .none kV4 dc4 pm4 an4 cd4 ct4), sl4⟩)
    (d4 : PySem.W.codeIn K cd4 "read_single" = true)
    (k4 : PySem.W.keepIn K (.ref f4) = true)
    (a5 : PySem.W.nsIn K mainGlobals "read_double" = some (some (.ref f5)))
    (l5 : K.lookup f5 = some ⟨oc5, od5, .func (PySem.W.fnOf "read_double" "read_double" (defArgs (top 15)) (defBody (top 15)) (defScope (top 15)) .none kV5 dc5 pm5 an5 cd5 ct5), sl5⟩)
    (d5 : PySem.W.codeIn K cd5 "read_double" = true)
    (k5 : PySem.W.keepIn K (.ref f5) = true)
    (a6 : PySem.W.nsIn K mainGlobals "read_piece" = some (some (.ref f6)))
    (l6 : K.lookup f6 = some ⟨oc6, od6, .func (PySem.W.fnOf "read_piece" "read_piece" (defArgs (top 16)) (defBody (top 16)) (defScope (top 16)) .none kV6 dc6 pm6 an6 cd6 ct6), sl6⟩)
    (d6 : PySem.W.codeIn K cd6 "read_piece" = true)
    (k6 : PySem.W.keepIn K (.ref f6) = true)
    (a7 : PySem.W.nsIn K mainGlobals "read_word" = some (some (.ref f7)))
    (l7 : K.lookup f7 = some ⟨oc7, od7, .func (PySem.W.fnOf "read_word" "read_word" (defArgs (top 17)) (defBody (top 17)) (defScope (top 17)) .none kV7 dc7 pm7 an7 cd7 ct7), sl7⟩)
    (d7 : PySem.W.codeIn K cd7 "read_word" = true)
    (k7 : PySem.W.keepIn K (.ref f7) = true)
    (a8 : PySem.W.nsIn K mainGlobals "split" = some (some (.ref f8)))
    (l8 : K.lookup f8 = some ⟨oc8, od8, .func (PySem.W.fnOf "split" "split" (defArgs (top 18)) (defBody (top 18)) (defScope (top 18)) .none kV8 dc8 pm8 an8 cd8 ct8), sl8⟩)
    (d8 : PySem.W.codeIn K cd8 "split" = true)
    (k8 : PySem.W.keepIn K (.ref f8) = true)
    (a9 : PySem.W.nsIn K mainGlobals "_law_bag" = some (some (.ref f9)))
    (l9 : K.lookup f9 = some ⟨oc9, od9, .func (PySem.W.fnOf "_law_bag" "_law_bag" (defArgs (top 20)) (defBody (top 20)) (defScope (top 20)) .none kV9 dc9 pm9 an9 cd9 ct9), sl9⟩)
    (d9 : PySem.W.codeIn K cd9 "_law_bag" = true)
    (k9 : PySem.W.keepIn K (.ref f9) = true)
    (a10 : PySem.W.nsIn K mainGlobals "_law_take" = some (some (.ref f10)))
    (l10 : K.lookup f10 = some ⟨oc10, od10, .func (PySem.W.fnOf "_law_take" "_law_take" (defArgs (top 21)) (defBody (top 21)) (defScope (top 21)) .none kV10 dc10 pm10 an10 cd10 ct10), sl10⟩)
    (d10 : PySem.W.codeIn K cd10 "_law_take" = true)
    (k10 : PySem.W.keepIn K (.ref f10) = true)
    (a11 : PySem.W.nsIn K mainGlobals "_law_text" = some (some (.ref f11)))
    (l11 : K.lookup f11 = some ⟨oc11, od11, .func (PySem.W.fnOf "_law_text" "_law_text" (defArgs (top 22)) (defBody (top 22)) (defScope (top 22)) .none kV11 dc11 pm11 an11 cd11 ct11), sl11⟩)
    (d11 : PySem.W.codeIn K cd11 "_law_text" = true)
    (k11 : PySem.W.keepIn K (.ref f11) = true)
    (a12 : PySem.W.nsIn K mainGlobals "_law_read" = some (some (.ref f12)))
    (l12 : K.lookup f12 = some ⟨oc12, od12, .func (PySem.W.fnOf "_law_read" "_law_read" (defArgs (top 23)) (defBody (top 23)) (defScope (top 23)) .none kV12 dc12 pm12 an12 cd12 ct12), sl12⟩)
    (d12 : PySem.W.codeIn K cd12 "_law_read" = true)
    (k12 : PySem.W.keepIn K (.ref f12) = true)
    (a13 : PySem.W.nsIn K mainGlobals "_law_closed" = some (some (.ref f13)))
    (l13 : K.lookup f13 = some ⟨oc13, od13, .func (PySem.W.fnOf "_law_closed" "_law_closed" (defArgs (top 24)) (defBody (top 24)) (defScope (top 24)) .none kV13 dc13 pm13 an13 cd13 ct13), sl13⟩)
    (d13 : PySem.W.codeIn K cd13 "_law_closed" = true)
    (k13 : PySem.W.keepIn K (.ref f13) = true)
    (a14 : PySem.W.nsIn K mainGlobals "law" = some (some (.ref f14)))
    (l14 : K.lookup f14 = some ⟨oc14, od14, .func (PySem.W.fnOf "law" "law" (defArgs (top 25)) (defBody (top 25)) (defScope (top 25)) .none kV14 dc14 pm14 an14 cd14 ct14), sl14⟩)
    (d14 : PySem.W.codeIn K cd14 "law" = true)
    (k14 : PySem.W.keepIn K (.ref f14) = true)
    (c_ACTIVE : PySem.W.nsIn K mainGlobals "ACTIVE" = some (some (.str "*?[]{},!-" t_ACTIVE)))
    (c_BACKSLASH : PySem.W.nsIn K mainGlobals "BACKSLASH" = some (some (.str "\\" t_BACKSLASH)))
    (c_COMMENT : PySem.W.nsIn K mainGlobals "COMMENT" = some (some (.str "#" t_COMMENT)))
    (c_DOUBLE : PySem.W.nsIn K mainGlobals "DOUBLE" = some (some (.str "\"" t_DOUBLE)))
    (c_GAPS : PySem.W.nsIn K mainGlobals "GAPS" = some (some (.str " \n" t_GAPS)))
    (c_SINGLE : PySem.W.nsIn K mainGlobals "SINGLE" = some (some (.str "'" t_SINGLE)))
    (z_abs : PySem.W.nsIn K mainGlobals "abs" = some none)
    (z_int : PySem.W.nsIn K mainGlobals "int" = some none)
    (z_isinstance : PySem.W.nsIn K mainGlobals "isinstance" = some none)
    (z_len : PySem.W.nsIn K mainGlobals "len" = some none)
    (z_list : PySem.W.nsIn K mainGlobals "list" = some none)
    (z_max : PySem.W.nsIn K mainGlobals "max" = some none)
    (z_min : PySem.W.nsIn K mainGlobals "min" = some none)
    (z_range : PySem.W.nsIn K mainGlobals "range" = some none)
    (z_repr : PySem.W.nsIn K mainGlobals "repr" = some none)
    (z_str : PySem.W.nsIn K mainGlobals "str" = some none)
    (z_tuple : PySem.W.nsIn K mainGlobals "tuple" = some none) :
    ∃ fd : FuncData, (∀ (s : Shared) (v : Value), BindsTo s fd ⟨[v], []⟩ [("_law_script", v)]) ∧ ∀ base : Heap, K.In base → base.Ns mainGlobals mg → FnG l.prog w K mg base (L2.CX l.prog w) 6 fa fd ["_law_script"] (spF K 1 F_law) := by
  have e := (PySem.W.mg_of X Gn a14).symm.trans hfa
  have e2 : f14 = fa := Value.ref.inj (Option.some.inj e)
  subst e2
  let T : Txt K mg := {
    f_plain := f0,
    fd_plain := _,
    F_plain := fun_mk (st := top 10) l0 d0 k0,
    g_plain := PySem.W.mg_of X Gn a0,
    b_plain := (fun_mk (st := top 10) l0 d0 k0).binds (ps := ["string"]) fun _ _ _ _ _ _ us hl => match us, hl with | [_], _ => rfl,
    f_comment_end := f1,
    fd_comment_end := _,
    F_comment_end := fun_mk (st := top 11) l1 d1 k1,
    g_comment_end := PySem.W.mg_of X Gn a1,
    b_comment_end := (fun_mk (st := top 11) l1 d1 k1).binds (ps := ["text", "at"]) fun _ _ _ _ _ _ us hl => match us, hl with | [_, _], _ => rfl,
    f_word_begin := f2,
    fd_word_begin := _,
    F_word_begin := fun_mk (st := top 12) l2 d2 k2,
    g_word_begin := PySem.W.mg_of X Gn a2,
    b_word_begin := (fun_mk (st := top 12) l2 d2 k2).binds (ps := ["text", "at"]) fun _ _ _ _ _ _ us hl => match us, hl with | [_, _], _ => rfl,
    f_read_escaped := f3,
    fd_read_escaped := _,
    F_read_escaped := fun_mk (st := top 13) l3 d3 k3,
    g_read_escaped := PySem.W.mg_of X Gn a3,
    b_read_escaped := (fun_mk (st := top 13) l3 d3 k3).binds (ps := ["text", "at"]) fun _ _ _ _ _ _ us hl => match us, hl with | [_, _], _ => rfl,
    f_read_single := f4,
    fd_read_single := _,
    F_read_single := fun_mk (st := top 14) l4 d4 k4,
    g_read_single := PySem.W.mg_of X Gn a4,
    b_read_single := (fun_mk (st := top 14) l4 d4 k4).binds (ps := ["text", "at"]) fun _ _ _ _ _ _ us hl => match us, hl with | [_, _], _ => rfl,
    f_read_double := f5,
    fd_read_double := _,
    F_read_double := fun_mk (st := top 15) l5 d5 k5,
    g_read_double := PySem.W.mg_of X Gn a5,
    b_read_double := (fun_mk (st := top 15) l5 d5 k5).binds (ps := ["text", "at"]) fun _ _ _ _ _ _ us hl => match us, hl with | [_, _], _ => rfl,
    f_read_piece := f6,
    fd_read_piece := _,
    F_read_piece := fun_mk (st := top 16) l6 d6 k6,
    g_read_piece := PySem.W.mg_of X Gn a6,
    b_read_piece := (fun_mk (st := top 16) l6 d6 k6).binds (ps := ["text", "at"]) fun _ _ _ _ _ _ us hl => match us, hl with | [_, _], _ => rfl,
    f_read_word := f7,
    fd_read_word := _,
    F_read_word := fun_mk (st := top 17) l7 d7 k7,
    g_read_word := PySem.W.mg_of X Gn a7,
    b_read_word := (fun_mk (st := top 17) l7 d7 k7).binds (ps := ["text", "at"]) fun _ _ _ _ _ _ us hl => match us, hl with | [_, _], _ => rfl,
    f_split := f8,
    fd_split := _,
    F_split := fun_mk (st := top 18) l8 d8 k8,
    g_split := PySem.W.mg_of X Gn a8,
    b_split := (fun_mk (st := top 18) l8 d8 k8).binds (ps := ["text"]) fun _ _ _ _ _ _ us hl => match us, hl with | [_], _ => rfl,
    f__law_bag := f9,
    fd__law_bag := _,
    F__law_bag := fun_mk (st := top 20) l9 d9 k9,
    g__law_bag := PySem.W.mg_of X Gn a9,
    b__law_bag := (fun_mk (st := top 20) l9 d9 k9).binds (ps := ["_law_script", "_law_at"]) fun _ _ _ _ _ _ us hl => match us, hl with | [_, _], _ => rfl,
    f__law_take := f10,
    fd__law_take := _,
    F__law_take := fun_mk (st := top 21) l10 d10 k10,
    g__law_take := PySem.W.mg_of X Gn a10,
    b__law_take := (fun_mk (st := top 21) l10 d10 k10).binds (ps := ["_law_bag_here", "_law_count"]) fun _ _ _ _ _ _ us hl => match us, hl with | [_, _], _ => rfl,
    f__law_text := f11,
    fd__law_text := _,
    F__law_text := fun_mk (st := top 22) l11 d11 k11,
    g__law_text := PySem.W.mg_of X Gn a11,
    b__law_text := (fun_mk (st := top 22) l11 d11 k11).binds (ps := ["_law_bag_here", "_law_size"]) fun _ _ _ _ _ _ us hl => match us, hl with | [_, _], _ => rfl,
    f__law_read := f12,
    fd__law_read := _,
    F__law_read := fun_mk (st := top 23) l12 d12 k12,
    g__law_read := PySem.W.mg_of X Gn a12,
    b__law_read := (fun_mk (st := top 23) l12 d12 k12).binds (ps := ["_law_text_here"]) fun _ _ _ _ _ _ us hl => match us, hl with | [_], _ => rfl,
    f__law_closed := f13,
    fd__law_closed := _,
    F__law_closed := fun_mk (st := top 24) l13 d13 k13,
    g__law_closed := PySem.W.mg_of X Gn a13,
    b__law_closed := (fun_mk (st := top 24) l13 d13 k13).binds (ps := ["_law_text_here"]) fun _ _ _ _ _ _ us hl => match us, hl with | [_], _ => rfl,
    f_law := f14,
    fd_law := _,
    F_law := fun_mk (st := top 25) l14 d14 k14,
    g_law := PySem.W.mg_of X Gn a14,
    b_law := (fun_mk (st := top 25) l14 d14 k14).binds (ps := ["_law_script"]) fun _ _ _ _ _ _ us hl => match us, hl with | [_], _ => rfl,
    t_ACTIVE := _,
    c_ACTIVE := PySem.W.mg_of X Gn c_ACTIVE,
    t_BACKSLASH := _,
    c_BACKSLASH := PySem.W.mg_of X Gn c_BACKSLASH,
    t_COMMENT := _,
    c_COMMENT := PySem.W.mg_of X Gn c_COMMENT,
    t_DOUBLE := _,
    c_DOUBLE := PySem.W.mg_of X Gn c_DOUBLE,
    t_GAPS := _,
    c_GAPS := PySem.W.mg_of X Gn c_GAPS,
    t_SINGLE := _,
    c_SINGLE := PySem.W.mg_of X Gn c_SINGLE,
    z_abs := PySem.W.mg_none_of X Gn z_abs,
    z_int := PySem.W.mg_none_of X Gn z_int,
    z_isinstance := PySem.W.mg_none_of X Gn z_isinstance,
    z_len := PySem.W.mg_none_of X Gn z_len,
    z_list := PySem.W.mg_none_of X Gn z_list,
    z_max := PySem.W.mg_none_of X Gn z_max,
    z_min := PySem.W.mg_none_of X Gn z_min,
    z_range := PySem.W.mg_none_of X Gn z_range,
    z_repr := PySem.W.mg_none_of X Gn z_repr,
    z_str := PySem.W.mg_none_of X Gn z_str,
    z_tuple := PySem.W.mg_none_of X Gn z_tuple }
  exact ⟨_, fun s v => .of_eq rfl, fun base _ _ => ok_law T⟩

end Lw

open PySem PySem.W PyProof.Rows in
set_option maxRecDepth 100000 in
set_option maxHeartbeats 0 in
theorem PySem.Challenge.cw_globhouse_k30_words_read_holds : PySem.Challenge.rw_globhouse_k30_words_read.Holds := by
  w_on; o_law; k_head; (case hw => w_witness2)
  k_fill
  refine G.walkLaw (l := PySem.Challenge.rw_globhouse_k30_words_read) (k := 6) (x := "_law_script") (F := Lw.F_law) rfl rfl ⟨rfl, by decide, by decide⟩ (fun w h Y => PySem.W.kIn_of Y) ?F Lw.law_true
  case F =>
    intro w mg fa h KX Gn hmg
    refine' Lw.all_mk KX Gn hmg ?a0 ?l0 ?d0 ?k0 ?a1 ?l1 ?d1 ?k1 ?a2 ?l2 ?d2 ?k2 ?a3 ?l3 ?d3 ?k3 ?a4 ?l4 ?d4 ?k4 ?a5 ?l5 ?d5 ?k5 ?a6 ?l6 ?d6 ?k6 ?a7 ?l7 ?d7 ?k7 ?a8 ?l8 ?d8 ?k8 ?a9 ?l9 ?d9 ?k9 ?a10 ?l10 ?d10 ?k10 ?a11 ?l11 ?d11 ?k11 ?a12 ?l12 ?d12 ?k12 ?a13 ?l13 ?d13 ?k13 ?a14 ?l14 ?d14 ?k14 ?c_ACTIVE ?c_BACKSLASH ?c_COMMENT ?c_DOUBLE ?c_GAPS ?c_SINGLE ?z_abs ?z_int ?z_isinstance ?z_len ?z_list ?z_max ?z_min ?z_range ?z_repr ?z_str ?z_tuple
    (case a0 => k_is)
    (case l0 => k_is)
    (case d0 => k_is)
    (case k0 => k_is)
    (case a1 => k_is)
    (case l1 => k_is)
    (case d1 => k_is)
    (case k1 => k_is)
    (case a2 => k_is)
    (case l2 => k_is)
    (case d2 => k_is)
    (case k2 => k_is)
    (case a3 => k_is)
    (case l3 => k_is)
    (case d3 => k_is)
    (case k3 => k_is)
    (case a4 => k_is)
    (case l4 => k_is)
    (case d4 => k_is)
    (case k4 => k_is)
    (case a5 => k_is)
    (case l5 => k_is)
    (case d5 => k_is)
    (case k5 => k_is)
    (case a6 => k_is)
    (case l6 => k_is)
    (case d6 => k_is)
    (case k6 => k_is)
    (case a7 => k_is)
    (case l7 => k_is)
    (case d7 => k_is)
    (case k7 => k_is)
    (case a8 => k_is)
    (case l8 => k_is)
    (case d8 => k_is)
    (case k8 => k_is)
    (case a9 => k_is)
    (case l9 => k_is)
    (case d9 => k_is)
    (case k9 => k_is)
    (case a10 => k_is)
    (case l10 => k_is)
    (case d10 => k_is)
    (case k10 => k_is)
    (case a11 => k_is)
    (case l11 => k_is)
    (case d11 => k_is)
    (case k11 => k_is)
    (case a12 => k_is)
    (case l12 => k_is)
    (case d12 => k_is)
    (case k12 => k_is)
    (case a13 => k_is)
    (case l13 => k_is)
    (case d13 => k_is)
    (case k13 => k_is)
    (case a14 => k_is)
    (case l14 => k_is)
    (case d14 => k_is)
    (case k14 => k_is)
    (case c_ACTIVE => k_is)
    (case c_BACKSLASH => k_is)
    (case c_COMMENT => k_is)
    (case c_DOUBLE => k_is)
    (case c_GAPS => k_is)
    (case c_SINGLE => k_is)
    (case z_abs => k_is)
    (case z_int => k_is)
    (case z_isinstance => k_is)
    (case z_len => k_is)
    (case z_list => k_is)
    (case z_max => k_is)
    (case z_min => k_is)
    (case z_range => k_is)
    (case z_repr => k_is)
    (case z_str => k_is)
    (case z_tuple => k_is)
