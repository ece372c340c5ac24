import PyProof.Rows.All
import Wide.All
import OpenK.AllK
import Wide.FinOn
import HandS.ForMost
import HandS.Exc
import HandS.Flow
import HandS.IsInst
import HandS.Wide
import HandS.TupAny
import HandS.StrMore
import HandS.Deep
import HandS.RaiseMore
import HandS.TupLe
import HandS.WordsExc
import HandS.Star
import HandS.Style
import HandS.Dict
import PyProof.RulesMatch
import PySem.Challenge.RW_globhouse_k01_names_paths_entries
set_option Elab.async false
set_option linter.all false
set_option maxRecDepth 100000
set_option maxHeartbeats 8000000

/-! G, part A: what a def promises where no repr is under way (guards are empty): FnG. -/
namespace G
open PySem PySem.Spec PyProof.Rows L2

structure FnG (P : Program) (w : World) (K : PySem.W.Frag) (mg : Str → Option Value) (base : Heap) (T : CXT) (k : Nat) (f : Addr) (fd : FuncData) (ps : List Str) (sp : Sp) : Prop where
  len : ∀ vs H Q E, sp vs H Q E → vs.length = ps.length
  run : ∀ (A : Around) (outer : List Env) (s : Shared) (H : Hp) (args : Args) (us : List Value) (vs : List V) (Q : VK) (E : XK), Room k A → A.guards = some [] →
    Env0 P w K mg base A outer s H → BindsTo s fd args (ps.zip us) → Vals vs us → sp vs H Q E → codeAny (model P w) A (.call (.ref f) args) (CR T outer P w H s Q E) s

theorem FnG.mono {P : Program} {w : World} {K : PySem.W.Frag} {mg : Str → Option Value} {base : Heap} {T : CXT} {i j : Nat} {f : Addr} {fd : FuncData} {ps : List Str} {sp : Sp}
    (F : FnG P w K mg base T i f fd ps sp) (h : i ≤ j) : FnG P w K mg base T j f fd ps sp :=
  ⟨F.len, fun A o s H as us vs Q E r => F.run A o s H as us vs Q E (r.mono h)⟩

/-- a def of the text, by its body: the library's rule for a def that binds (StX.run_bnd), with nothing made while it binds -/
theorem fnG_of {P : Program} {w : World} {K : PySem.W.Frag} {mg : Str → Option Value} {base : Heap} {x qual : Str} {st : Stmt} {f : Addr} {fd : FuncData} {N ps : List Str} {k : Nat} {sp : Sp}
    (F : Fun K x qual st f fd) (S : FnScope N ps (defScope st)) (len : ∀ vs H Q E, sp vs H Q E → vs.length = ps.length)
    (body : ∀ (cdv : Value) (A : Around) (outer : List Env) (s : Shared) (H : Hp) (vs : List V) (Q : VK) (E : XK), Room k (A.deeper (envOfC qual (defScope st) s.heap.objs.size f cdv)) → A.guards = some [] → sp vs H Q E →
      ∃ t, PSs (cxOf (L2.CX P w) P w K mg base N qual (defScope st) f cdv A outer s H E) (defBody st) t ∧ t { nx := fun _ H' => Q .non H', rt := Q } (start N vs) H) :
    FnG P w K mg base (L2.CX P w) (k + 1) f fd ps sp where
  len := len
  run := by
    obtain ⟨_, _, _, _, _, _, cdv, _, _, rfl, lk, hcd⟩ := F.ex
    intro A outer s H args us vs Q E room quiet env binds vals prom
    refine StX.run_bnd lk hcd S room env (G := fun v' H' => v' = vs ∧ H' = H) (fun A' Ex Q' go => binds _ A' Ex Q' (go s H vs us env .refl rfl (fun _ _ c => c) vals (len _ _ _ _ prom) ⟨rfl, rfl⟩)) fun s2 H2 v2 same room2 => ?_
    rw [same.1, same.2]
    exact body cdv A outer s2 H vs Q E room2 quiet prom
section
variable {X : Cx} {T : CXT} {k : Nat} {f C : Addr} {fd : FuncData} {ps : List Str} {sp : Sp} {dvs : List V} {ds : List Value} {E : XK} {x m : Str} {p pos apos : Pos} {e o : Expr} {es : List Expr} {ta : TE} {t : TA}
/-- what a caller has when the called def is done -/
def Back (X : Cx) (pins : List (Addr × Obj)) (σ : L2.St) (Q : VK) : Result → Shared → Prop
  | .ok (.ret v), s' => EP X pins σ Q v s'
  | .ok _, _ => False
  | .error e, s' => X.xe e s'
theorem back_of {pins : List (Addr × Obj)} {σ : L2.St} {H : Hp} {s : Shared} {Q : VK} (pass : Passes T X E) (I : Inv X pins σ H s) : ∀ r s', CR T X.stack X.prog X.w H s Q E r s' → Back X pins σ Q r s'
  | .ok (.ret _), _, q => I.after q
  | .ok .next, _, q | .ok .brk, _, q | .ok .cont, _, q => q
  | .error e, s', q => pass pins σ H s e s' I q
theorem runG {pins : List (Addr × Obj)} {σ : L2.St} {H : Hp} {s : Shared} {Q : VK} {us : List Value} {vs : List V} (F : FnG X.prog X.w X.K X.mg X.base T k f fd ps sp) (hr : Room k X.A) (hA : X.A.guards = some [])
    (hb : Binds X.K fd ps ds) (hd : Vals dvs ds) (hx : Passes T X E) (I : Inv X pins σ H s) (r : Vals vs us) (h : sp (vs ++ dvs) H Q E) : wpAny (model X.prog X.w) X.A (call (.ref f) us) (EP X pins σ Q) X.xe s := by
  have all := r.append hd
  have ran := F.run X.A X.stack s H ⟨us, []⟩ (us ++ ds) (vs ++ dvs) Q E hr hA I.env0 (hb s us I.kIn (by rw [← all.length, F.len _ _ _ _ h])) all h
  exact wpAny_call (codeAny_mono ran fun r s' q => by
    have z := back_of hx I r s' q
    match r, z with
    | .ok (.ret _), z => exact z
    | .error _, z => exact z
    | .ok .next, z | .ok .brk, z | .ok .cont, z => exact z.elim)
/-- f(e, ..), f a global name: the arguments' values, then the def -/
theorem peG_call (F : FnG X.prog X.w X.K X.mg X.base T k f fd ps sp) (hr : Room k X.A) (hA : X.A.guards = some []) (hg : Gl X x) (hm : X.mg x = some (.ref f)) (hk : PySem.W.keepIn X.K (.ref f) = true)
    (hb : Binds X.K fd ps ds) (hd : Vals dvs ds) (hx : Passes T X E) (ha : PA X (e :: es) t)
    (hdb : (x == ("__debug__" : Str)) = false := by decide) (he : starEach (e :: es) X.env = (false, eval e X.env) :: starEach es X.env := by rfl) (hpl : (backTo pos (starEach es X.env)).any (·.1) = false := by rfl) :
    PE X (.Call (.Name x p) (e :: es) [] pos) (tCall sp dvs E t) where
  run := fun pins s σ H Q I h =>
    have args := thn (ha.run pos pins s σ H _ I h) fun us s1 ⟨_, _, I1, r, q⟩ => (⟨I1.kIn, runG F hr hA hb hd hx I1 r q⟩ : X.K.In s1.heap ∧ wpAny (model X.prog X.w) X.A (call (.ref f) us) (EP X pins σ Q) X.xe s1)
    wpAny_Call_Name_kw (ld_glob I hg hm (PySem.W.callWith_K (h₀ := X.base) I.ok.mod.kin hk args he hpl) hdb)
theorem peG_call0 (F : FnG X.prog X.w X.K X.mg X.base T k f fd ps sp) (hr : Room k X.A) (hA : X.A.guards = some []) (hg : Gl X x) (hm : X.mg x = some (.ref f)) (hk : PySem.W.keepIn X.K (.ref f) = true)
    (hb : Binds X.K fd ps ds) (hd : Vals dvs ds) (hx : Passes T X E) (hdb : (x == ("__debug__" : Str)) = false := by decide) : PE X (.Call (.Name x p) [] [] pos) (tCall sp dvs E tNil) where
  run := fun _ _ _ _ _ I h => wpAny_Call_Name_kw (ld_glob I hg hm (PySem.W.callWith_K0 I.kIn hk (runG (us := []) F hr hA hb hd hx I .nil h)) hdb)
end

/-! the law's own call: what stands on the heap when the top is done, and what the call leaves of it -/
section
variable {K : PySem.W.Frag} {mg mb : Str → Option Value} {s : Shared} {H : Hp} {a : Addr} {oa : Obj}
/-- the base of the law's run is the heap without the script: all that the top made is still there -/
theorem base_of (KX : K.In s.heap) (hns : s.heap.Ns mainGlobals mg) (hb : s.heap.Ns builtinsNs mb) (hbb : ∀ x : Str, x ≠ "__name__" → mb x = bootBuiltins x) (hlim : s.heap.NoLimit)
    (ha : s.heap.get? a = some oa) (nod : ∀ es ep, oa.data ≠ .dict es ep) (only : ∀ b, H b ≠ none → b = a ∧ K.lookup b = none) : Mod K mg (hidT s.heap H) := by
  have free : ∀ b, b ≠ a ∨ K.lookup b ≠ none → H b = none := fun b h => Classical.byContradiction fun n => h.elim (fun z => z (only b n).1) fun z => z (only b n).2
  have dict : ∀ {b : Addr} {m : Str → Option Value}, s.heap.Ns b m → (hidT s.heap H).Ns b m := by
    rintro b m ⟨o, es, ep, e, d, more⟩
    have nb : b ≠ a := by
      intro z
      subst z
      rw [ha] at e
      exact nod es ep (by cases e; exact d)
    exact ⟨o, es, ep, hidT_get e (free b (.inl nb)), d, more⟩
  obtain ⟨mc, l1, l2⟩ := hlim
  exact { kin := fun b o e => hidT_get (KX b o e) (free b (.inr (by rw [e]; exact nofun))), glob := dict hns, blt := ⟨mb, dict hb, hbb⟩, nolimit := ⟨mc, dict l1, l2⟩ }
/-- what is read only stays -/
theorem old_of {P : Program} {w : World} {fs : List Addr} {H' : Hp} {h h' : Heap} (nofs : ∀ b, b ∉ fs) (un : Un fs [] H H' h h') (hok : HOk P w H h) (hok' : HOk P w H' h') (only : Only H) : OldK h h' := by
  refine OldK.of_keep fun b o e => ?_
  rcases only b with z | ⟨ob, xs, z⟩
  · exact un.keep b o e z (nofs b) nofun
  · have was := (hok b _ z).1
    rw [e] at was
    have is := (hok' b _ (un.frzs b ob _ z)).1
    rw [is, Option.some.inj was]
end
section
variable {P : Program} {w : World} {K : PySem.W.Frag} {mg mb : Str → Option Value} {T : CXT} {k : Nat} {fa a : Addr} {fd : FuncData} {x : Str} {sp : Sp} {s₁ : Shared}
/-- one call of the law's def over a tracked heap in which all is frozen -/
theorem law_run {H : Hp} (hr : Room k callerA) (hg : s₁.gens = #[]) (md : Mod K mg (hidT s₁.heap H)) (hok : HOk P w H s₁.heap) (only : Only H) (F : FnG P w K mg (hidT s₁.heap H) T k fa fd [x] sp)
    (hbind : ∀ (s : Shared) (u : Value), BindsTo s fd ⟨[u], []⟩ [(x, u)]) (h : sp [.ref a] H (fun v _ => v = .bl true) fun _ _ _ => False) (hT : ∀ e s', T [] H s₁ (fun _ _ _ => False) e s' → False) :
    codeAny (model P w) callerA (.call (.ref fa) ⟨[.ref a], []⟩) (fun r s' => r = .ok (.ret (.bool true)) ∧ OldK s₁.heap s'.heap ∧ s'.os = s₁.os ∧ AllBare s'.gens) s₁ := by
  have env : Env0 P w K mg (hidT s₁.heap H) callerA [] s₁ H := ⟨rfl, md, fun _ _ => of_hidT, by rw [hidT_size]; exact Nat.le_refl _, trivial, fun _ z => (List.not_mem_nil z).elim, hok, .of_eq hg⟩
  refine codeAny_mono (F.run callerA [] s₁ H ⟨[.ref a], []⟩ [.ref a] [.ref a] _ _ hr rfl env (hbind s₁ (.ref a)) (.cons rfl .nil) h) ?_
  rintro (e | (_ | _ | _ | u)) s' q
  · exact (hT e s' q).elim
  · exact False.elim q
  · exact False.elim q
  · exact False.elim q
  · obtain ⟨v, H', os, bare, un, hok', r', v'⟩ := q
    have tt : v = .bl true := v'
    subst tt
    have ut : u = Value.bool true := r'
    exact ⟨by rw [ut], old_of (fun _ z => List.not_mem_nil z) un hok hok' only, os, bare⟩
/-- the law's own head, for FnG: the script is of the module's fixed part, or is tracked -/
theorem lawG {vs : List Value} {ns : List Int}
    (KX : K.In s₁.heap) (hns : s₁.heap.Ns mainGlobals mg) (hb : s₁.heap.Ns builtinsNs mb) (hbb : ∀ x : Str, x ≠ "__name__" → mb x = bootBuiltins x) (hlim : s₁.heap.NoLimit) (hg : s₁.gens = #[])
    (ha : s₁.heap.get? a = some { cls := .type "list", data := .seq vs.toArray }) (hi : IntsAre vs ns) (hl : ns.length ≤ sizeLine) (hr : Room k callerA)
    (F : ∀ base : Heap, K.In base → base.Ns mainGlobals mg → FnG P w K mg base T k fa fd [x] sp) (hbind : ∀ (s : Shared) (u : Value), BindsTo s fd ⟨[u], []⟩ [(x, u)])
    (hsp : ∀ H : Hp, Only H → SqL K H a (ns.map V.int) → sp [.ref a] H (fun v _ => v = .bl true) fun _ _ _ => False)
    (hT : ∀ H e s', T [] H s₁ (fun _ _ _ => False) e s' → False) :
    codeAny (model P w) callerA (.call (.ref fa) ⟨[.ref a], []⟩) (fun r s' => r = .ok (.ret (.bool true)) ∧ OldK s₁.heap s'.heap ∧ s'.os = s₁.os ∧ AllBare s'.gens) s₁ := by
  have go : ∀ H : Hp, Only H → SqL K H a (ns.map V.int) → HOk P w H s₁.heap → (∀ b, H b ≠ none → b = a ∧ K.lookup b = none) → _ := fun H only sq hok tr =>
    let md := base_of (mb := mb) KX hns hb hbb hlim ha (by intro es ep z; cases z) tr
    law_run (a := a) hr hg md hok only (F _ md.kin md.glob) hbind (hsp H only sq) (hT H)
  by_cases fixed : K.lookup a = none
  · refine go (upd (fun _ => none) a (.frz { cls := .type "list", data := .seq vs.toArray } (.lst (ns.map V.int)))) (fun b => ?_) (.inl (.inr ⟨_, upd_same⟩)) (fun b u e => ?_) fun b n => ?_
    · by_cases z : b = a
      · exact .inr ⟨_, _, by rw [z, upd_same]⟩
      · exact .inl (upd_ne z)
    · by_cases z : b = a
      · rw [z, upd_same] at e
        rw [z, ← Option.some.inj e]
        exact ⟨ha, by rw [List.length_map]; exact hl, vs, _, vals_ints hi, ha⟩
      · rw [upd_ne z] at e
        cases e
    · by_cases z : b = a
      · exact ⟨z, by rw [z]; exact fixed⟩
      · exact absurd (upd_ne z) n
  · obtain ⟨o, e⟩ := Option.ne_none_iff_exists'.mp fixed
    have same := KX a o e
    rw [ha] at same
    refine go (fun _ => none) (fun _ => .inl rfl) (.inr ⟨_, vs.toArray, 0, e, ?_⟩) (fun _ _ z => absurd z nofun) fun _ z => absurd rfl z
    rw [← Option.some.inj same]
    exact ⟨rfl, rfl, rfl, by rw [List.size_toArray, hi.length]; exact hl, by rw [List.toList_toArray]; exact vals_ints hi⟩
end
theorem walkG {l : PySem.W.OpenLaw} {n k : Nat} {q : Program} {loose : List Str} {XP : (Str → Option Value) → Heap → Prop} {YP : World → Heap → Prop} {d : DefRec} {K : Params → PySem.W.Frag} {T : World → CXT} {sp : World → Sp} {x : Str}
    (hn : l.most = some n) (hn2 : n ≤ sizeLine) (hdf : d.params.defaults = []) (hr : Room k callerA) (hY : ∀ (w : World) (h : Heap), YP w h → (K w.params).In h)
    (F : ∀ (w : World) (mg : Str → Option Value) (fa : Addr) (h : Heap), (K w.params).In h → h.Ns mainGlobals mg → mg d.name = some (.ref fa) →
      ∃ fd : FuncData, (∀ (s : Shared) (u : Value), BindsTo s fd ⟨[u], []⟩ [(x, u)]) ∧ ∀ base : Heap, (K w.params).In base → base.Ns mainGlobals mg → FnG l.prog w (K w.params) mg base (T w) k fa fd [x] (sp w))
    (hsp : ∀ (w : World) (H : Hp) (a : Addr) (ns : List Int), ns.length ≤ n → Only H → SqL (K w.params) H a (ns.map V.int) → sp w [.ref a] H (fun v _ => v = .bl true) fun _ _ _ => False)
    (hT : ∀ (w : World) (H : Hp) (s : Shared) (e : Value) (s' : Shared), T w [] H s (fun _ _ _ => False) e s' → False) : PySem.W.WalkO q loose XP YP l.row.toRowW d [] (fun f vs => PySem.call f vs) :=
  Att.attach_call hn hdf fun w s₀ s₁ mg mb fa o pm cd doc a vs ns G Y ho hd hcd hmg hobj hints hlen hg =>
    let base := hY w _ Y
    let ⟨_, binds, ran⟩ := F w mg fa _ base G.T.g hmg
    lawG base G.T.g G.T.b G.T.builtins G.T.nolimit hg hobj hints (Nat.le_trans hlen hn2) hr ran binds (fun H only sq => hsp w H a ns hlen only sq) fun H e s' => hT w H s₁ e s'
end G

/-! G, part B: values, the store, outcomes; the relation to the layer's heap; readings by semantic functions. -/
namespace G
open PySem PySem.Spec PyProof.Rows L2

/-- a value: tuples are pure data; fl: a list that is never changed (the script); loc: an object of the store -/
inductive PV where
  | non | bl (b : Bool) | int (i : Int) | str (x : Str) | ty (n : String) | ref (a : Addr)
  | tup (xs : List PV) | fl (xs : List PV) | loc (n : Nat)
instance : Inhabited PV := ⟨.non⟩
inductive PO where
  | lst (xs : List PV)
  | dk (kvs : List (Key × PV))
  | dt (kvs : List (List Key × PV))
  | ins (C : Addr) (fs : List (Str × PV))
  | xd (fs : List (Str × PV))
abbrev Store := List PO
inductive Out (α : Type) where
  | ok (a : α) (S : Store)
  | exc (C : Addr) (fs : List (Str × PV)) (S : Store)
  | bad
def Out.bind {α β : Type} (o : Out α) (k : α → Store → Out β) : Out β := match o with
  | .ok a S => k a S
  | .exc C fs S => .exc C fs S
  | .bad => .bad
theorem Out.bind_ok {α β : Type} (a : α) (S : Store) (k : α → Store → Out β) : (Out.ok a S).bind k = k a S := rfl
theorem Out.bind_bad {α β : Type} (k : α → Store → Out β) : (Out.bad : Out α).bind k = .bad := rfl
theorem Out.bind_exc {α β : Type} (C : Addr) (fs : List (Str × PV)) (S : Store) (k : α → Store → Out β) : (Out.exc C fs S : Out α).bind k = .exc C fs S := rfl
theorem Out.bind_bind {α β γ : Type} (o : Out α) (k : α → Store → Out β) (l : β → Store → Out γ) : (o.bind k).bind l = o.bind fun a S => (k a S).bind l := by
  cases o <;> rfl

/-- a list object of the written part -/
def WrL (K : PySem.W.Frag) (a : Addr) (vs : List V) : Prop :=
  ∃ (o : Obj) (its : Array Value) (n : Nat), K.lookup a = some o ∧ o.cls = .type "list" ∧ o.dict = none ∧ o.data = .seq its n ∧ its.size ≤ sizeLine ∧ Vals vs its.toList
def FzL (K : PySem.W.Frag) (H : Hp) (a : Addr) (vs : List V) : Prop := (∃ o, H a = some (.frz o (.lst vs))) ∨ WrL K a vs
theorem FzL.sq {K : PySem.W.Frag} {H : Hp} {a : Addr} {vs : List V} (h : FzL K H a vs) : SqL K H a vs := by
  rcases h with ⟨o, h⟩ | h
  · exact .inl (.inr ⟨o, h⟩)
  · exact .inr h

mutual
inductive Rl (K : PySem.W.Frag) (m : List Addr) (H : Hp) : PV → V → Prop
  | non : Rl K m H .non .non
  | bl (b : Bool) : Rl K m H (.bl b) (.bl b)
  | int (i : Int) : Rl K m H (.int i) (.int i)
  | str (x : Str) : Rl K m H (.str x) (.str x)
  | ty (n : String) : Rl K m H (.ty n) (.ty n)
  | ref (a : Addr) : Rl K m H (.ref a) (.ref a)
  | tup {xs : List PV} {vs : List V} {a : Addr} (h : SqT K H a vs) (r : Rls K m H xs vs) : Rl K m H (.tup xs) (.ref a)
  | fl {xs : List PV} {vs : List V} {a : Addr} (h : FzL K H a vs) (r : Rls K m H xs vs) : Rl K m H (.fl xs) (.ref a)
  | loc {n : Nat} {a : Addr} (h : m[n]? = some a) : Rl K m H (.loc n) (.ref a)
inductive Rls (K : PySem.W.Frag) (m : List Addr) (H : Hp) : List PV → List V → Prop
  | nil : Rls K m H [] []
  | cons {x : PV} {v : V} {xs : List PV} {vs : List V} (h : Rl K m H x v) (r : Rls K m H xs vs) : Rls K m H (x :: xs) (v :: vs)
end

/-- tuples and known things stay -/
def Ext (H H' : Hp) : Prop := (∀ b xs, H b = some (.tup xs) → H' b = some (.tup xs)) ∧ ∀ b o u, H b = some (.frz o u) → H' b = some (.frz o u)
theorem Ext.refl (H : Hp) : Ext H H := ⟨fun _ _ h => h, fun _ _ _ h => h⟩
theorem Ext.trans {H H1 H2 : Hp} (a : Ext H H1) (b : Ext H1 H2) : Ext H H2 := ⟨fun p xs h => b.1 p xs (a.1 p xs h), fun p o u h => b.2 p o u (a.2 p o u h)⟩
theorem Ext.new {H : Hp} {p : Addr} {o : HO} (h : H p = none) : Ext H (upd H p o) :=
  ⟨fun b xs e => by rw [upd_ne (ne_of_none e h)]; exact e, fun b o u e => by rw [upd_ne (ne_of_none e h)]; exact e⟩
/-- what is neither a tuple nor known may be written -/
theorem Ext.write {H : Hp} {p : Addr} {o u : HO} (h : H p = some u) (h1 : ∀ xs, u ≠ .tup xs) (h2 : ∀ ob v, u ≠ .frz ob v) : Ext H (upd H p o) := by
  refine ⟨fun b xs e => ?_, fun b ob v e => ?_⟩
  · rw [upd_ne (ne_of e h fun z => h1 xs z.symm)]; exact e
  · rw [upd_ne (ne_of e h fun z => h2 ob v z.symm)]; exact e
theorem Ext.sqT {K : PySem.W.Frag} {H H' : Hp} {a : Addr} {xs : List V} (e : Ext H H') (h : SqT K H a xs) : SqT K H' a xs := by
  rcases h with (h | ⟨o, h⟩) | h
  · exact .inl (.inl (e.1 _ _ h))
  · exact .inl (.inr ⟨o, e.2 _ _ _ h⟩)
  · exact .inr h
theorem Ext.fz {K : PySem.W.Frag} {H H' : Hp} {a : Addr} {xs : List V} (e : Ext H H') (h : FzL K H a xs) : FzL K H' a xs := by
  rcases h with ⟨o, h⟩ | h
  · exact .inl ⟨o, e.2 _ _ _ h⟩
  · exact .inr h
abbrev Pre (m m' : List Addr) : Prop := ∀ (n : Nat) (a : Addr), m[n]? = some a → m'[n]? = some a
theorem Pre.refl (m : List Addr) : Pre m m := fun _ _ h => h
theorem Pre.trans {m m1 m2 : List Addr} (a : Pre m m1) (b : Pre m1 m2) : Pre m m2 := fun n x h => b n x (a n x h)
theorem Pre.snoc (m : List Addr) (p : Addr) : Pre m (m ++ [p]) := fun n a h => by
  rw [List.getElem?_append_left (List.getElem?_eq_some_iff.mp h).1]; exact h

section
variable {K : PySem.W.Frag} {m m' : List Addr} {H H' : Hp}
mutual
theorem Rl.mono (l : Pre m m') (e : Ext H H') : ∀ {x : PV} {v : V}, Rl K m H x v → Rl K m' H' x v
  | _, _, .non => .non
  | _, _, .bl b => .bl b
  | _, _, .int i => .int i
  | _, _, .str x => .str x
  | _, _, .ty n => .ty n
  | _, _, .ref a => .ref a
  | _, _, .tup h r => .tup (e.sqT h) (Rls.mono l e r)
  | _, _, .fl h r => .fl (e.fz h) (Rls.mono l e r)
  | _, _, .loc h => .loc (l _ _ h)
theorem Rls.mono (l : Pre m m') (e : Ext H H') : ∀ {xs : List PV} {vs : List V}, Rls K m H xs vs → Rls K m' H' xs vs
  | _, _, .nil => .nil
  | _, _, .cons h r => .cons (Rl.mono l e h) (Rls.mono l e r)
end
theorem Rls.length : ∀ {xs : List PV} {vs : List V}, Rls K m H xs vs → xs.length = vs.length
  | _, _, .nil => rfl
  | _, _, .cons _ r => congrArg (· + 1) r.length
theorem Rls.get : ∀ {xs : List PV} {vs : List V} {i : Nat} {x : PV}, Rls K m H xs vs → xs[i]? = some x → ∃ v, vs[i]? = some v ∧ Rl K m H x v
  | _, _, 0, _, .cons h _, e => by cases e; exact ⟨_, rfl, h⟩
  | _, _, i + 1, _, .cons _ r, e => Rls.get (i := i) r e
  | _, _, _, _, .nil, e => by cases e
theorem Rls.get' : ∀ {xs : List PV} {vs : List V} {i : Nat} {v : V}, Rls K m H xs vs → vs[i]? = some v → ∃ x, xs[i]? = some x ∧ Rl K m H x v
  | _, _, 0, _, .cons h _, e => by cases e; exact ⟨_, rfl, h⟩
  | _, _, i + 1, _, .cons _ r, e => Rls.get' (i := i) r e
  | _, _, _, _, .nil, e => by cases e
theorem Rls.append : ∀ {xs ys : List PV} {us vs : List V}, Rls K m H xs us → Rls K m H ys vs → Rls K m H (xs ++ ys) (us ++ vs)
  | _, _, _, _, .nil, s => s
  | _, _, _, _, .cons h r, s => .cons h (Rls.append r s)
theorem Rls.one {x : PV} {v : V} (h : Rl K m H x v) : Rls K m H [x] [v] := .cons h .nil
theorem Rls.take : ∀ {xs : List PV} {vs : List V} (n : Nat), Rls K m H xs vs → Rls K m H (xs.take n) (vs.take n)
  | _, _, 0, _ => .nil
  | _, _, _ + 1, .nil => .nil
  | _, _, n + 1, .cons h r => .cons h (Rls.take n r)
theorem Rls.drop : ∀ {xs : List PV} {vs : List V} (n : Nat), Rls K m H xs vs → Rls K m H (xs.drop n) (vs.drop n)
  | _, _, 0, r => r
  | _, _, _ + 1, .nil => .nil
  | _, _, n + 1, .cons _ r => Rls.drop n r
theorem Rls.set : ∀ {xs : List PV} {vs : List V} (n : Nat) {x : PV} {v : V}, Rl K m H x v → Rls K m H xs vs → Rls K m H (xs.set n x) (vs.set n v)
  | _, _, _, _, _, _, .nil => .nil
  | _, _, 0, _, _, h, .cons _ r => .cons h r
  | _, _, n + 1, _, _, h, .cons g r => .cons g (Rls.set n h r)
theorem Rls.reverse : ∀ {xs : List PV} {vs : List V}, Rls K m H xs vs → Rls K m H xs.reverse vs.reverse
  | _, _, .nil => .nil
  | _, _, .cons h r => by rw [List.reverse_cons, List.reverse_cons]; exact (Rls.reverse r).append (.one h)
theorem Rls.dropLast {xs : List PV} {vs : List V} (r : Rls K m H xs vs) : Rls K m H xs.dropLast vs.dropLast := by
  rw [List.dropLast_eq_take, List.dropLast_eq_take, r.length]; exact r.take _
theorem Rls.erase : ∀ {xs : List PV} {vs : List V} (n : Nat), Rls K m H xs vs → Rls K m H (xs.eraseIdx n) (vs.eraseIdx n)
  | _, _, _, .nil => .nil
  | _, _, 0, .cons _ r => r
  | _, _, n + 1, .cons g r => .cons g (Rls.erase n r)
end

/-- attributes, by name -/
def RF (K : PySem.W.Frag) (m : List Addr) (H : Hp) (fs : List (Str × PV)) (us : List (Str × V)) : Prop := fs.map (·.1) = us.map (·.1) ∧ Rls K m H (fs.map (·.2)) (us.map (·.2))
theorem RF.mono {K : PySem.W.Frag} {m m' : List Addr} {H H' : Hp} {fs : List (Str × PV)} {us : List (Str × V)} (l : Pre m m') (e : Ext H H') (h : RF K m H fs us) : RF K m' H' fs us := ⟨h.1, h.2.mono l e⟩
def RD {κ : Type} (K : PySem.W.Frag) (m : List Addr) (H : Hp) (fs : List (κ × PV)) (us : List (κ × V)) : Prop := fs.map (·.1) = us.map (·.1) ∧ Rls K m H (fs.map (·.2)) (us.map (·.2))
theorem RD.mono {κ : Type} {K : PySem.W.Frag} {m m' : List Addr} {H H' : Hp} {fs : List (κ × PV)} {us : List (κ × V)} (l : Pre m m') (e : Ext H H') (h : RD K m H fs us) : RD K m' H' fs us := ⟨h.1, h.2.mono l e⟩

def RO (K : PySem.W.Frag) (m : List Addr) (H : Hp) (a : Addr) : PO → Prop
  | .lst xs => ∃ vs, H a = some (.lst vs) ∧ Rls K m H xs vs
  | .dk kvs => ∃ us, H a = some (.dK us) ∧ RD K m H kvs us
  | .dt kvs => ∃ us, H a = some (.dT us) ∧ RD K m H kvs us
  | .ins C fs => ∃ dx us, H a = some (.ins C dx us) ∧ RF K m H fs us
  | .xd fs => ∃ us, H a = some (.xd us) ∧ RF K m H fs us
structure RS (K : PySem.W.Frag) (m : List Addr) (S : Store) (H : Hp) : Prop where
  len : m.length = S.length
  inj : ∀ (i j : Nat) (a : Addr), m[i]? = some a → m[j]? = some a → i = j
  at_ : ∀ (i : Nat) (o : PO) (a : Addr), S[i]? = some o → m[i]? = some a → RO K m H a o
section
variable {K : PySem.W.Frag} {m m' : List Addr} {H H' : Hp} {S : Store}
theorem RO.there {a : Addr} {o : PO} (h : RO K m H a o) : ∃ u, H a = some u ∧ (∀ xs, u ≠ .tup xs) ∧ ∀ ob v, u ≠ .frz ob v := by
  cases o with
  | lst xs => obtain ⟨vs, e, _⟩ := h; exact ⟨_, e, (fun _ z => by cases z), (fun _ _ z => by cases z)⟩
  | dk xs => obtain ⟨vs, e, _⟩ := h; exact ⟨_, e, (fun _ z => by cases z), (fun _ _ z => by cases z)⟩
  | dt xs => obtain ⟨vs, e, _⟩ := h; exact ⟨_, e, (fun _ z => by cases z), (fun _ _ z => by cases z)⟩
  | ins C xs => obtain ⟨dx, vs, e, _⟩ := h; exact ⟨_, e, (fun _ z => by cases z), (fun _ _ z => by cases z)⟩
  | xd xs => obtain ⟨vs, e, _⟩ := h; exact ⟨_, e, (fun _ z => by cases z), (fun _ _ z => by cases z)⟩
/-- the relation of an object hangs on its own place, the map and the tuples -/
theorem RO.keep {a : Addr} {o : PO} (l : Pre m m') (e : Ext H H') (q : H' a = H a) (h : RO K m H a o) : RO K m' H' a o := by
  cases o with
  | lst xs => obtain ⟨vs, x, r⟩ := h; exact ⟨vs, q.trans x, r.mono l e⟩
  | dk xs => obtain ⟨vs, x, r⟩ := h; exact ⟨vs, q.trans x, r.mono l e⟩
  | dt xs => obtain ⟨vs, x, r⟩ := h; exact ⟨vs, q.trans x, r.mono l e⟩
  | ins C xs => obtain ⟨dx, vs, x, r⟩ := h; exact ⟨dx, vs, q.trans x, r.mono l e⟩
  | xd xs => obtain ⟨vs, x, r⟩ := h; exact ⟨vs, q.trans x, r.mono l e⟩
theorem RS.get {i : Nat} {o : PO} (r : RS K m S H) (h : S[i]? = some o) : ∃ a, m[i]? = some a ∧ RO K m H a o := by
  have hi : i < m.length := by rw [r.len]; exact (List.getElem?_eq_some_iff.mp h).1
  exact ⟨m[i], List.getElem?_eq_getElem hi, r.at_ i o _ h (List.getElem?_eq_getElem hi)⟩
theorem RS.mem {i : Nat} {a : Addr} (r : RS K m S H) (h : m[i]? = some a) : ∃ o, S[i]? = some o ∧ RO K m H a o := by
  have hi : i < S.length := by rw [← r.len]; exact (List.getElem?_eq_some_iff.mp h).1
  exact ⟨S[i], List.getElem?_eq_getElem hi, r.at_ i _ a (List.getElem?_eq_getElem hi) h⟩
/-- nothing of the store is touched -/
theorem RS.keep (r : RS K m S H) (e : Ext H H') (k : ∀ (i : Nat) (a : Addr), m[i]? = some a → H' a = H a) : RS K m S H' :=
  ⟨r.len, r.inj, fun i o a h1 h2 => (r.at_ i o a h1 h2).keep (.refl m) e (k i a h2)⟩
theorem RS.tup (r : RS K m S H) {p : Addr} {u : HO} (h : H p = none) : RS K m S (upd H p u) :=
  r.keep (.new h) fun i a q => by
    obtain ⟨o, _, ro⟩ := r.mem q
    obtain ⟨u, e, _⟩ := ro.there
    exact upd_ne (ne_of_none e h)
/-- a new object -/
theorem RS.alloc (r : RS K m S H) {p : Addr} {u : HO} {o : PO} (h : H p = none) (ro : RO K (m ++ [p]) (upd H p u) p o) : RS K (m ++ [p]) (S ++ [o]) (upd H p u) := by
  have nm : ∀ (i : Nat) (a : Addr), m[i]? = some a → a ≠ p := fun i a q => by
    obtain ⟨o, _, ro⟩ := r.mem q
    obtain ⟨u, e, _⟩ := ro.there
    exact ne_of_none e h
  have cs : ∀ (i : Nat) (a : Addr), (m ++ [p])[i]? = some a → m[i]? = some a ∨ (i = m.length ∧ a = p) := fun i a q => by
    by_cases hi : i < m.length
    · rw [List.getElem?_append_left hi] at q; exact .inl q
    · rw [List.getElem?_append_right (Nat.le_of_not_lt hi)] at q
      have hi2 := (List.getElem?_eq_some_iff.mp q).1
      simp at hi2
      have e : i = m.length := by omega
      subst e
      simp at q
      exact .inr ⟨rfl, q.symm⟩
  refine ⟨by simp [r.len], fun i j a q1 q2 => ?_, fun i ob a q1 q2 => ?_⟩
  · rcases cs i a q1 with c1 | ⟨c1, c1'⟩ <;> rcases cs j a q2 with c2 | ⟨c2, c2'⟩
    · exact r.inj i j a c1 c2
    · exact absurd c2' (nm i a c1)
    · exact absurd c1' (nm j a c2)
    · rw [c1, c2]
  · rcases cs i a q2 with c | ⟨c, c'⟩
    · have hi : i < S.length := by rw [← r.len]; exact (List.getElem?_eq_some_iff.mp c).1
      rw [List.getElem?_append_left hi] at q1
      exact (r.at_ i ob a q1 c).keep (.snoc m p) (.new h) (upd_ne (nm i a c))
    · subst c; subst c'
      rw [r.len, List.getElem?_append_right (Nat.le_refl _)] at q1
      simp at q1
      subst q1
      exact ro
/-- an object is written -/
theorem RS.write (r : RS K m S H) {i : Nat} {a : Addr} {u : HO} {o o' : PO} (h : S[i]? = some o) (h2 : m[i]? = some a) (e : Ext H (upd H a u)) (ro : RO K m (upd H a u) a o') : RS K m (S.set i o') (upd H a u) := by
  refine ⟨by simp [r.len], r.inj, fun j ob b q1 q2 => ?_⟩
  by_cases hj : j = i
  · subst hj
    rw [h2] at q2; cases q2
    rw [List.getElem?_set_self (List.getElem?_eq_some_iff.mp h).1] at q1
    cases q1
    exact ro
  · rw [List.getElem?_set_ne (Ne.symm hj)] at q1
    exact (r.at_ j ob b q1 q2).keep (.refl m) e (upd_ne fun z => hj (r.inj j i b q2 (z ▸ h2)))
end

/-! ### slots -/
abbrev En := List (Option PV)
def RE (K : PySem.W.Frag) (m : List Addr) (H : Hp) (τ : En) (σ : L2.St) : Prop := τ.length = σ.length ∧ ∀ (i : Nat) (x : PV), τ[i]? = some (some x) → ∃ v, σ[i]? = some (some v) ∧ Rl K m H x v
section
variable {K : PySem.W.Frag} {m m' : List Addr} {H H' : Hp} {τ : En} {σ : L2.St}
theorem RE.mono (l : Pre m m') (e : Ext H H') (h : RE K m H τ σ) : RE K m' H' τ σ := ⟨h.1, fun i x q => let ⟨v, a, b⟩ := h.2 i x q; ⟨v, a, b.mono l e⟩⟩
theorem RE.set (h : RE K m H τ σ) (i : Nat) {x : PV} {v : V} (r : Rl K m H x v) : RE K m H (τ.set i (some x)) (σ.set i (some v)) := by
  refine ⟨by simp [h.1], fun j y q => ?_⟩
  by_cases hj : j = i
  · subst hj
    have hi : j < τ.length := by
      have := (List.getElem?_eq_some_iff.mp q).1
      simpa using this
    rw [List.getElem?_set_self hi] at q
    cases q
    exact ⟨v, List.getElem?_set_self (h.1 ▸ hi), r⟩
  · rw [List.getElem?_set_ne (Ne.symm hj)] at q
    rw [List.getElem?_set_ne (Ne.symm hj)]
    exact h.2 j y q
def startP (n : Nat) (xs : List PV) : En := xs.map some ++ List.replicate (n - xs.length) none
theorem RE.start {N : List Str} {xs : List PV} {vs : List V} (r : Rls K m H xs vs) : RE K m H (startP N.length xs) (L2.start N vs) := by
  have hl := r.length
  refine ⟨by unfold startP L2.start; simp [hl], fun i x q => ?_⟩
  unfold startP at q
  unfold L2.start
  by_cases hi : i < xs.length
  · rw [List.getElem?_append_left (by simpa using hi), List.getElem?_map] at q
    cases e : xs[i]? with
    | none => rw [e] at q; cases q
    | some y =>
      rw [e] at q
      cases q
      obtain ⟨v, h1, h2⟩ := r.get e
      exact ⟨v, by rw [List.getElem?_append_left (by simpa [← hl] using hi), List.getElem?_map, h1]; rfl, h2⟩
  · rw [List.getElem?_append_right (by simpa using Nat.le_of_not_lt hi)] at q
    exact absurd (List.mem_replicate.mp (List.mem_of_getElem? q)).2 (by simp)
def wipeP (τ : En) : List Nat → En
  | [] => τ
  | i :: r => (wipeP τ r).set i none
theorem RE.wipe1 (h : RE K m H τ σ) (i : Nat) : RE K m H (τ.set i none) (σ.set i none) := by
  refine ⟨by simp [h.1], fun j y q => ?_⟩
  by_cases hj : j = i
  · subst hj
    have hi : j < τ.length := by
      have := (List.getElem?_eq_some_iff.mp q).1
      simpa using this
    rw [List.getElem?_set_self hi] at q
    cases q
  · rw [List.getElem?_set_ne (Ne.symm hj)] at q
    rw [List.getElem?_set_ne (Ne.symm hj)]
    exact h.2 j y q
end

theorem RE.wipe {K : PySem.W.Frag} {m : List Addr} {H : Hp} {τ : En} {σ : L2.St} (h : RE K m H τ σ) : ∀ vs : List Nat, RE K m H (wipeP τ vs) (L2.wipe σ vs)
  | [] => h
  | v :: vs => (RE.wipe h vs).wipe1 v

/-! ### outcomes and readings -/
def Fin {α β : Type} (K : PySem.W.Frag) (R : List Addr → Hp → α → β → Prop) (E : XK) (m : List Addr) (H : Hp) (Q : β → Hp → Prop) : Out α → Prop
  | .ok a S => ∀ m' H' b, Pre m m' → Ext H H' → RS K m' S H' → R m' H' a b → Q b H'
  | .exc C fs S => ∀ m' H' d us, Pre m m' → Ext H H' → RS K m' S H' → H' d = some (.xd us) → RF K m' H' fs us → E (.ref C) (some d) H'
  | .bad => False
section
variable {α β γ δ : Type} {K : PySem.W.Frag} {m m' : List Addr} {H H' : Hp} {E : XK} {R : List Addr → Hp → α → β → Prop} {R' : List Addr → Hp → γ → δ → Prop} {Q Q1 : β → Hp → Prop} {Q' : δ → Hp → Prop} {o : Out α} {k : α → Store → Out γ} {S : Store}
theorem Fin.base (l : Pre m m') (e : Ext H H') (h : Fin K R E m H Q o) : Fin K R E m' H' Q o := by
  cases o with
  | ok a S => exact fun m1 H1 b l1 e1 => h m1 H1 b (l.trans l1) (e.trans e1)
  | exc C fs S => exact fun m1 H1 d us l1 e1 => h m1 H1 d us (l.trans l1) (e.trans e1)
  | bad => exact h
theorem Fin.imp (h : Fin K R E m H Q o) (i : ∀ b H', Q b H' → Q1 b H') : Fin K R E m H Q1 o := by
  cases o with
  | ok a S => exact fun m1 H1 b l1 e1 r x => i _ _ (h m1 H1 b l1 e1 r x)
  | exc C fs S => exact h
  | bad => exact h
theorem Fin.bind (h : Fin K R' E m H Q' (o.bind k)) (i : ∀ m1 H1 S1 a b, Pre m m1 → Ext H H1 → RS K m1 S1 H1 → R m1 H1 a b → Fin K R' E m1 H1 Q' (k a S1) → Q b H1) : Fin K R E m H Q o := by
  cases o with
  | ok a S => exact fun m1 H1 b l1 e1 r x => i m1 H1 S a b l1 e1 r x (Fin.base l1 e1 (show Fin K R' E m H Q' (k a S) from h))
  | exc C fs S => exact h
  | bad => exact h
/-- at an end that is reached now -/
theorem Fin.now {a : α} {b : β} (h : Fin K R E m H Q (.ok a S)) (r : RS K m S H) (x : R m H a b) : Q b H := h m H b (.refl m) (.refl H) r x
end
abbrev SE := En → Store → Out PV
abbrev SB := En → Store → Out Bool
abbrev SA := En → Store → Out (List PV)
abbrev SO := En → Store → Out (Option Int)
def tE (K : PySem.W.Frag) (E : XK) (f : SE) : TE := fun σ H Q => ∃ m S τ, RS K m S H ∧ RE K m H τ σ ∧ Fin K (Rl K) E m H Q (f τ S)
def tT (K : PySem.W.Frag) (E : XK) (f : SB) : TT := fun σ H Q => ∃ m S τ, RS K m S H ∧ RE K m H τ σ ∧ Fin K (fun _ _ a b => a = b) E m H Q (f τ S)
def tA (K : PySem.W.Frag) (E : XK) (f : SA) : TA := fun σ H Q => ∃ m S τ, RS K m S H ∧ RE K m H τ σ ∧ Fin K (Rls K) E m H Q (f τ S)
def tO (K : PySem.W.Frag) (E : XK) (f : SO) : TO := fun σ H Q => ∃ m S τ, RS K m S H ∧ RE K m H τ σ ∧ Fin K (fun _ _ a b => a = b) E m H Q (f τ S)
inductive Fl where | nx (τ : En) | rt (v : PV) | bk (τ : En) | ct (τ : En)
inductive FV where | nx (σ : L2.St) | rt (v : V) | bk (σ : L2.St) | ct (σ : L2.St)
def RFl (K : PySem.W.Frag) (m : List Addr) (H : Hp) : Fl → FV → Prop
  | .nx τ, .nx σ => RE K m H τ σ
  | .rt x, .rt v => Rl K m H x v
  | .bk τ, .bk σ => RE K m H τ σ
  | .ct τ, .ct σ => RE K m H τ σ
  | _, _ => False
def qD (D : Ends) : FV → Hp → Prop
  | .nx σ, H => D.nx σ H
  | .rt v, H => D.rt v H
  | .bk σ, H => D.bk σ H
  | .ct σ, H => D.ct σ H
abbrev SS := En → Store → Out Fl
def tS (K : PySem.W.Frag) (E : XK) (f : SS) : TS := fun D σ H => ∃ m S τ, RS K m S H ∧ RE K m H τ σ ∧ Fin K (RFl K) E m H (qD D) (f τ S)
theorem peI {X : Cx} {e : Expr} {t t' : TE} (h : PE X e t) (i : ∀ σ H Q, t' σ H Q → t σ H Q) : PE X e t' := ⟨fun pins s σ H Q I w => h.run pins s σ H Q I (i _ _ _ w)⟩
theorem ptI {X : Cx} {e : Expr} {t t' : TT} (h : PT X e t) (i : ∀ σ H Q, t' σ H Q → t σ H Q) : PT X e t' := ⟨fun pins s σ H Q I w => h.run pins s σ H Q I (i _ _ _ w)⟩
theorem pwI {X : Cx} {e : Expr} {t t' : TT} (h : PW X e t) (i : ∀ σ H Q, t' σ H Q → t σ H Q) : PW X e t' := ⟨fun wh pins s σ H Q I w => h.run wh pins s σ H Q I (i _ _ _ w)⟩
theorem paI {X : Cx} {es : List Expr} {t t' : TA} (h : PA X es t) (i : ∀ σ H Q, t' σ H Q → t σ H Q) : PA X es t' := ⟨fun pos pins s σ H Q I w => h.run pos pins s σ H Q I (i _ _ _ w)⟩
theorem psI {X : Cx} {st : Stmt} {t t' : TS} (h : PS X st t) (i : ∀ D σ H, t' D σ H → t D σ H) : PS X st t' := ⟨fun pins s σ H D I w => h.run pins s σ H D I (i _ _ _ w)⟩
theorem pssI {X : Cx} {st : List Stmt} {t t' : TS} (h : PSs X st t) (i : ∀ D σ H, t' D σ H → t D σ H) : PSs X st t' := ⟨fun pins s σ H D I w => h.run pins s σ H D I (i _ _ _ w)⟩
end G

/-! G, part C: expressions. -/
namespace G
open PySem PySem.Spec PyProof.Rows L2

/-- the greatest length that is made here -/
abbrev LN : Nat := 1000000
theorem ln_ok {n : Nat} (h : n ≤ LN) : n ≤ sizeLine := Nat.le_trans h (by decide)
theorem ln_lt {n : Nat} (h : n ≤ LN) : n < sizeLine := Nat.lt_of_le_of_lt h (by decide)
def newL (xs : List PV) (S : Store) : Out PV := if xs.length ≤ LN then .ok (.loc S.length) (S ++ [.lst xs]) else .bad

section
variable {K : PySem.W.Frag} {m : List Addr} {H : Hp} {S : Store} {E : XK} {Q : VK}
theorem RS.snoc_get (r : RS K m S H) (p : Addr) : (m ++ [p])[S.length]? = some p := by rw [← r.len]; simp
theorem fin_newL {xs : List PV} {vs : List V} (r : RS K m S H) (rx : Rls K m H xs vs) (h : Fin K (Rl K) E m H Q (newL xs S)) : vs.length ≤ sizeLine ∧ ∀ p, H p = none → Q (.ref p) (upd H p (.lst vs)) := by
  unfold newL at h
  split at h
  · rename_i hl
    refine ⟨ln_ok (rx.length ▸ hl), fun p hp => ?_⟩
    exact h (m ++ [p]) _ _ (.snoc m p) (.new hp) (r.alloc hp ⟨vs, upd_same, rx.mono (.snoc m p) (.new hp)⟩) (.loc (r.snoc_get p))
  · exact h.elim
theorem fin_tup {xs : List PV} {vs : List V} (r : RS K m S H) (rx : Rls K m H xs vs) (h : Fin K (Rl K) E m H Q (.ok (.tup xs) S)) {p : Addr} (hp : H p = none) : Q (.ref p) (upd H p (.tup vs)) :=
  h m _ _ (.refl m) (.new hp) (r.tup hp) (.tup (.inl (.inl upd_same)) (rx.mono (.refl m) (.new hp)))
theorem fin_val {x : PV} {v : V} (r : RS K m S H) (rx : Rl K m H x v) (h : Fin K (Rl K) E m H Q (.ok x S)) : Q v H := h.now r rx
theorem RS.lst {n : Nat} {a : Addr} {xs : List PV} (r : RS K m S H) (h : S[n]? = some (.lst xs)) (ha : m[n]? = some a) : ∃ vs, H a = some (.lst vs) ∧ Rls K m H xs vs := r.at_ n _ a h ha
end

/-! ### what is in a sequence -/
def seqP (S : Store) : PV → Option (List PV)
  | .tup xs => some xs
  | .fl xs => some xs
  | .loc n => match S[n]? with
    | some (.lst xs) => some xs
    | _ => none
  | _ => none
section
variable {K : PySem.W.Frag} {m : List Addr} {H : Hp} {S : Store}
theorem RS.seq {x : PV} {v : V} {xs : List PV} (r : RS K m S H) (rx : Rl K m H x v) (h : seqP S x = some xs) : ∃ a vs, v = .ref a ∧ (SqL K H a vs ∨ SqT K H a vs) ∧ Rls K m H xs vs := by
  cases rx with
  | tup ht rs => cases h; exact ⟨_, _, rfl, .inr ht, rs⟩
  | fl ht rs => cases h; exact ⟨_, _, rfl, .inl ht.sq, rs⟩
  | @loc n a hn =>
    have h' : (match S[n]? with | some (.lst xs) => some xs | _ => none) = some xs := h
    split at h'
    · rename_i xs' e
      cases h'
      obtain ⟨vs, h1, h2⟩ := r.lst e hn
      exact ⟨a, vs, rfl, .inl (SqL.of h1), h2⟩
    · cases h'
  | _ => cases h
end

/-! ### values as data -/
def dAll (f : PV → Option PyData) : List PV → Option (List PyData)
  | [] => some []
  | x :: xs => match f x, dAll f xs with
    | some d, some ds => some (d :: ds)
    | _, _ => none
def dOf (S : Store) : Nat → PV → Option PyData
  | 0, _ => none
  | _ + 1, .non => some .none
  | _ + 1, .bl b => some (.bool b)
  | _ + 1, .int i => some (.int i)
  | _ + 1, .str x => some (.str x)
  | n + 1, .tup xs => (dAll (dOf S n) xs).map .tuple
  | n + 1, .fl xs => (dAll (dOf S n) xs).map .list
  | n + 1, .loc l => match S[l]? with
    | some (.lst xs) => (dAll (dOf S n) xs).map .list
    | _ => none
  | _, _ => none
section
variable {K : PySem.W.Frag} {m : List Addr} {H : Hp} {S : Store}
theorem dp_all {n : Nat} (f : ∀ x v d, Rl K m H x v → dOf S n x = some d → Dp K H v d) : ∀ {xs : List PV} {vs : List V} {ds : List PyData}, Rls K m H xs vs → dAll (dOf S n) xs = some ds → DpAll K H vs ds
  | _, _, _, .nil, h => by cases h; exact .nil
  | _, _, _, .cons (x := x) (xs := xs) h r, e => by
    unfold dAll at e
    split at e
    · rename_i d ds e1 e2
      cases e
      exact .cons (f _ _ _ h e1) (dp_all f r e2)
    · cases e
theorem dp_of (r : RS K m S H) : ∀ (n : Nat) (x : PV) (v : V) (d : PyData), Rl K m H x v → dOf S n x = some d → Dp K H v d := by
  intro n
  induction n with
  | zero => intro x v d _ e; cases e
  | succ n ih =>
    intro x v d rx e
    cases rx with
    | non => cases e; exact .non
    | bl b => cases e; exact .bl b
    | int i => cases e; exact .int i
    | str x => cases e; exact .str x
    | ty n => cases e
    | ref a => cases e
    | @tup xs vs a ht rs =>
      have e' : (dAll (dOf S n) xs).map PyData.tuple = some d := e
      cases q : dAll (dOf S n) xs with
      | none => rw [q] at e'; cases e'
      | some ds => rw [q] at e'; cases e'; exact .tup ht (dp_all ih rs q)
    | @fl xs vs a ht rs =>
      have e' : (dAll (dOf S n) xs).map PyData.list = some d := e
      cases q : dAll (dOf S n) xs with
      | none => rw [q] at e'; cases e'
      | some ds => rw [q] at e'; cases e'; exact .lst ht.sq (dp_all ih rs q)
    | @loc l a hl =>
      have e' : (match S[l]? with | some (.lst xs) => (dAll (dOf S n) xs).map PyData.list | _ => none) = some d := e
      split at e'
      · rename_i xs q0
        obtain ⟨vs, h1, rs⟩ := r.lst q0 hl
        cases q : dAll (dOf S n) xs with
        | none => rw [q] at e'; cases e'
        | some ds => rw [q] at e'; cases e'; exact .lst (SqL.of h1) (dp_all ih rs q)
      · cases e'
end

/-! ### rules by values -/
def r1 (K : PySem.W.Frag) (E : XK) (g : PV → Store → Out PV) : V → Hp → VK → Prop := fun v H Q => ∃ m S x, RS K m S H ∧ Rl K m H x v ∧ Fin K (Rl K) E m H Q (g x S)
def r2 (K : PySem.W.Frag) (E : XK) (g : PV → PV → Store → Out PV) : R2 := fun v u H Q => ∃ m S x y, RS K m S H ∧ Rl K m H x v ∧ Rl K m H y u ∧ Fin K (Rl K) E m H Q (g x y S)
def rL (K : PySem.W.Frag) (E : XK) (g : List PV → Store → Out PV) : List V → Hp → VK → Prop := fun vs H Q => ∃ m S xs, RS K m S H ∧ Rls K m H xs vs ∧ Fin K (Rl K) E m H Q (g xs S)
def rM (K : PySem.W.Frag) (E : XK) (g : PV → List PV → Store → Out PV) : V → List V → Hp → VK → Prop := fun v vs H Q => ∃ m S x xs, RS K m S H ∧ Rl K m H x v ∧ Rls K m H xs vs ∧ Fin K (Rl K) E m H Q (g x xs S)

def eVar (i : Nat) : SE := fun τ S => match τ[i]? with
  | some (some x) => .ok x S
  | _ => .bad
def eC (x : PV) : SE := fun _ S => .ok x S
def eUn (g : PV → Store → Out PV) (f : SE) : SE := fun τ S => (f τ S).bind g
def eBin (g : PV → PV → Store → Out PV) (f f' : SE) : SE := fun τ S => (f τ S).bind fun x S1 => (f' τ S1).bind fun y S2 => g x y S2
def aNil : SA := fun _ S => .ok [] S
def aCons (f : SE) (fs : SA) : SA := fun τ S => (f τ S).bind fun x S1 => (fs τ S1).bind fun xs S2 => .ok (x :: xs) S2
def eArg (g : List PV → Store → Out PV) (fs : SA) : SE := fun τ S => (fs τ S).bind g
def eMt (g : PV → List PV → Store → Out PV) (f : SE) (fs : SA) : SE := fun τ S => (f τ S).bind fun x S1 => (fs τ S1).bind fun xs S2 => g x xs S2
def newT (xs : List PV) (S : Store) : Out PV := if xs.length ≤ LN then .ok (.tup xs) S else .bad
def eTup (fs : SA) : SE := fun τ S => (fs τ S).bind newT
def eLst (fs : SA) : SE := fun τ S => (fs τ S).bind newL

section
variable {X : Cx} {e a b : Expr} {es : List Expr} {E : XK} {f f' : SE} {fs : SA} {pos : Pos} {g : PV → PV → Store → Out PV} {g1 : PV → Store → Out PV} {gl : List PV → Store → Out PV} {gm : PV → List PV → Store → Out PV}
theorem g_var {i : Nat} (h : PE X e (tVar i)) : PE X e (tE X.K E (eVar i)) := peI h fun σ H Q ⟨m, S, τ, rs, re, fin⟩ => by
  unfold eVar at fin
  split at fin
  · rename_i x q
    obtain ⟨v, h1, h2⟩ := re.2 i x q
    exact ⟨v, h1, fin.now rs h2⟩
  · exact fin.elim
theorem g_c {v : V} {x : PV} (h : PE X e (tC v)) (r : ∀ m H, Rl X.K m H x v) : PE X e (tE X.K E (eC x)) := peI h fun σ H Q ⟨m, S, τ, rs, re, fin⟩ => fin.now rs (r m H)
theorem g_int {i : Int} {j pos} : PE X (.Constant (.int i) j pos) (tE X.K E (eC (.int i))) := g_c pe_int fun _ _ => .int i
theorem g_bl {i : Bool} {j pos} : PE X (.Constant (.bool i) j pos) (tE X.K E (eC (.bl i))) := g_c pe_bl fun _ _ => .bl i
theorem g_str {i : Str} {j pos} : PE X (.Constant (.str i) j pos) (tE X.K E (eC (.str i))) := g_c pe_str fun _ _ => .str i
theorem g_non {j pos} : PE X (.Constant .none j pos) (tE X.K E (eC .non)) := g_c pe_non fun _ _ => .non
theorem g_un {op : UnaryOp} (ho : UnR X (unaryOp op) (r1 X.K E g1)) (ha : PE X a (tE X.K E f)) : PE X (.UnaryOp op a pos) (tE X.K E (eUn g1 f)) := peI (pe_un ho ha) fun σ H Q ⟨m, S, τ, rs, re, fin⟩ =>
  ⟨m, S, τ, rs, re, Fin.bind fin fun m1 H1 S1 x v l e rs1 rx fin1 => ⟨m1, S1, x, rs1, rx, fin1⟩⟩
theorem binI {t : TE} {r : R2} (i : ∀ σ H Q, tOp r (tE X.K E f) (tE X.K E f') σ H Q → t σ H Q) (hr : ∀ x y H Q, r2 X.K E g x y H Q → r x y H Q) : ∀ σ H Q, tE X.K E (eBin g f f') σ H Q → t σ H Q := fun σ H Q ⟨m, S, τ, rs, re, fin⟩ => i σ H Q
  ⟨m, S, τ, rs, re, Fin.bind fin fun m1 H1 S1 x v l e rs1 rx fin1 => ⟨m1, S1, τ, rs1, re.mono l e, Fin.bind fin1 fun m2 H2 S2 y u l2 e2 rs2 ry fin2 => hr _ _ _ _ ⟨m2, S2, x, y, rs2, rx.mono l2 e2, ry, fin2⟩⟩⟩
theorem g_op {op : Operator} (ho : OpR X (binaryOp op) (r2 X.K E g)) (ha : PE X a (tE X.K E f)) (hb : PE X b (tE X.K E f')) : PE X (.BinOp a op b pos) (tE X.K E (eBin g f f')) :=
  peI (pe_op ho ha hb) (binI (fun _ _ _ h => h) fun _ _ _ _ h => h)
theorem g_cmp {op : CmpOp} (ho : OpR X (compareOp op) (r2 X.K E g)) (ha : PE X a (tE X.K E f)) (hb : PE X b (tE X.K E f')) (hm : behindInMarks op b = false) : PE X (.Compare a [op] [b] pos) (tE X.K E (eBin g f f')) :=
  peI (pe_cmpR ho ha hb hm) (binI (fun _ _ _ h => h) fun _ _ _ _ h => h)
theorem ga_nil : PA X [] (tA X.K E aNil) := paI pa_nil fun σ H Q ⟨m, S, τ, rs, re, fin⟩ => fin.now rs .nil
theorem ga_cons (ha : PE X a (tE X.K E f)) (hr : PA X es (tA X.K E fs)) (hs : starEach (a :: es) X.env = (false, eval a X.env) :: starEach es X.env := by rfl) : PA X (a :: es) (tA X.K E (aCons f fs)) :=
  paI (pa_cons ha hr hs) fun σ H Q ⟨m, S, τ, rs, re, fin⟩ =>
  ⟨m, S, τ, rs, re, Fin.bind fin fun m1 H1 S1 x v l e rs1 rx fin1 => ⟨m1, S1, τ, rs1, re.mono l e, Fin.bind fin1 fun m2 H2 S2 xs vs l2 e2 rs2 rxs fin2 => fin2.now rs2 (.cons (rx.mono l2 e2) rxs)⟩⟩
theorem argI {t : TE} {r : List V → Hp → VK → Prop} (i : ∀ σ H Q, tA X.K E fs σ H (fun vs H1 => r vs H1 Q) → t σ H Q) (hr : ∀ vs H Q, rL X.K E gl vs H Q → r vs H Q) : ∀ σ H Q, tE X.K E (eArg gl fs) σ H Q → t σ H Q := fun σ H Q ⟨m, S, τ, rs, re, fin⟩ =>
  i σ H Q ⟨m, S, τ, rs, re, Fin.bind fin fun m1 H1 S1 xs vs l e rs1 rx fin1 => hr _ _ _ ⟨m1, S1, xs, rs1, rx, fin1⟩⟩
theorem g_tup {k} (h : PA X es (tA X.K E fs)) : PE X (.Tuple es k pos) (tE X.K E (eTup fs)) := peI (pe_tup h) (argI (fun _ _ _ h => h) fun vs H Q ⟨m, S, xs, rs, rx, fin⟩ => by
  unfold newT at fin
  split at fin
  · rename_i hl
    exact ⟨ln_ok (rx.length ▸ hl), fun p hp => fin_tup rs rx fin hp⟩
  · exact fin.elim)
theorem g_lst (h : PA X es (tA X.K E fs)) : PE X (.List es pos) (tE X.K E (eLst fs)) := peI (pe_lst h) (argI (fun _ _ _ h => h) fun vs H Q ⟨m, S, xs, rs, rx, fin⟩ => fin_newL rs rx fin)
theorem g_callB {x : Str} {p : Pos} {id : String} (hc : CallR X (.builtin id) (rL X.K E gl)) (hg : Gl X x) (hm : X.mg x = none) (hv : bootBuiltins x = some (.builtin id)) (ha : PA X (a :: es) (tA X.K E fs)) (hn : x ≠ "__name__" := by decide) (hdb : (x == ("__debug__" : Str)) = false := by decide)
    (he : starEach (a :: es) X.env = (false, eval a X.env) :: starEach es X.env := by rfl) (hpl : (backTo pos (starEach es X.env)).any (·.1) = false := by rfl) : PE X (.Call (.Name x p) (a :: es) [] pos) (tE X.K E (eArg gl fs)) :=
  peI (pe_callB hc hg hm hv ha hn hdb he hpl) (argI (fun _ _ _ h => h) fun _ _ _ h => h)
theorem g_callTy {x : Str} {p : Pos} {T : String} (hc : CallR X (.type T) (rL X.K E gl)) (hg : Gl X x) (hm : X.mg x = none) (hv : bootBuiltins x = some (.type T)) (ha : PA X (a :: es) (tA X.K E fs)) (hn : x ≠ "__name__" := by decide) (hdb : (x == ("__debug__" : Str)) = false := by decide)
    (he : starEach (a :: es) X.env = (false, eval a X.env) :: starEach es X.env := by rfl) (hpl : (backTo pos (starEach es X.env)).any (·.1) = false := by rfl) : PE X (.Call (.Name x p) (a :: es) [] pos) (tE X.K E (eArg gl fs)) :=
  peI (pe_callTy hc hg hm hv ha hn hdb he hpl) (argI (fun _ _ _ h => h) fun _ _ _ h => h)
end

/-! ### calls of defs -/
def spF (K : PySem.W.Frag) (n : Nat) (F : List PV → Store → Out PV) : Sp := fun vs H Q E => vs.length = n ∧ ∃ m S xs, RS K m S H ∧ Rls K m H xs vs ∧ Fin K (Rl K) E m H Q (F xs S)
/-- a call with n arguments; ds: the defaults that fill up -/
def callF (n : Nat) (F : List PV → Store → Out PV) (ds : List PV) (xs : List PV) (S : Store) : Out PV := if (xs ++ ds).length = n then F (xs ++ ds) S else .bad
def eCall (n : Nat) (F : List PV → Store → Out PV) (ds : List PV) (fs : SA) : SE := fun τ S => (fs τ S).bind (callF n F ds)
section
variable {X : Cx} {e a b : Expr} {es : List Expr} {E : XK} {fs : SA} {pos p : Pos} {k n : Nat} {f : Addr} {fd : FuncData} {ps : List Str} {F : List PV → Store → Out PV} {x : Str} {T : CXT} {ds : List Value} {dvs : List V} {dps : List PV}
theorem g_call (FG : FnG X.prog X.w X.K X.mg X.base T k f fd ps (spF X.K n F)) (hr : Room k X.A) (hA : X.A.guards = some []) (hg : Gl X x) (hm : X.mg x = some (.ref f)) (hk : PySem.W.keepIn X.K (.ref f) = true)
    (hb : Binds X.K fd ps ds) (hd : Vals dvs ds) (rd : ∀ m H, Rls X.K m H dps dvs) (hx : Passes T X E) (ha : PA X (a :: es) (tA X.K E fs))
    (hdb : (x == ("__debug__" : Str)) = false := by decide) (he : starEach (a :: es) X.env = (false, eval a X.env) :: starEach es X.env := by rfl) (hpl : (backTo pos (starEach es X.env)).any (·.1) = false := by rfl) :
    PE X (.Call (.Name x p) (a :: es) [] pos) (tE X.K E (eCall n F dps fs)) :=
  peI (peG_call FG hr hA hg hm hk hb hd hx ha hdb he hpl) (argI (r := fun vs H Q => spF X.K n F (vs ++ dvs) H Q E) (fun _ _ _ h => h) fun vs H Q ⟨m, S, xs, rs, rx, fin⟩ => by
    unfold callF at fin
    split at fin
    · rename_i hl
      have rr := rx.append (rd m H)
      exact ⟨rr.length ▸ hl, m, S, _, rs, rr, fin⟩
    · exact fin.elim)
def eCall0 (n : Nat) (F : List PV → Store → Out PV) (ds : List PV) : SE := fun _ S => callF n F ds [] S
theorem g_call0 (FG : FnG X.prog X.w X.K X.mg X.base T k f fd ps (spF X.K n F)) (hr : Room k X.A) (hA : X.A.guards = some []) (hg : Gl X x) (hm : X.mg x = some (.ref f)) (hk : PySem.W.keepIn X.K (.ref f) = true)
    (hb : Binds X.K fd ps ds) (hd : Vals dvs ds) (rd : ∀ m H, Rls X.K m H dps dvs) (hx : Passes T X E) (hdb : (x == ("__debug__" : Str)) = false := by decide) : PE X (.Call (.Name x p) [] [] pos) (tE X.K E (eCall0 n F dps)) :=
  peI (peG_call0 FG hr hA hg hm hk hb hd hx hdb) fun σ H Q ⟨m, S, τ, rs, re, fin⟩ => by
    unfold eCall0 callF at fin
    rw [List.nil_append] at fin
    split at fin
    · rename_i hl
      exact ⟨(rd m H).length ▸ hl, m, S, _, rs, rd m H, fin⟩
    · exact fin.elim
end
end G

/-! G, part D: operations by values. -/
namespace G
open PySem PySem.Spec PyProof.Rows L2

/-! ### arithmetic -/
def vAdd (x y : PV) (S : Store) : Out PV := match x, y with
  | .int i, .int j => .ok (.int (i + j)) S
  | .int i, .bl k => .ok (.int (i + b2i k)) S
  | .str a, .str b => if a.length + b.length ≤ LN then .ok (.str (a ++ b)) S else .bad
  | .tup xs, .tup ys => if xs.length + ys.length ≤ LN then .ok (.tup (xs ++ ys)) S else .bad
  | .loc i, .loc j => match S[i]?, S[j]? with
    | some (.lst xs), some (.lst ys) => newL (xs ++ ys) S
    | _, _ => .bad
  | _, _ => .bad
def vSub (x y : PV) (S : Store) : Out PV := match x, y with
  | .int i, .int j => .ok (.int (i - j)) S
  | _, _ => .bad
def mulOk (i j : Int) : Bool := decide ((-(2 ^ 64) < i ∧ i < 2 ^ 64) ∨ (-(2 ^ 64) < j ∧ j < 2 ^ 64))
theorem mulOk_ok {i j : Int} (h : mulOk i j = true) : CMul i j := of_decide_eq_true (p := (-(2 ^ 64) < i ∧ i < 2 ^ 64) ∨ (-(2 ^ 64) < j ∧ j < 2 ^ 64)) h
def vMul (x y : PV) (S : Store) : Out PV := match x, y with
  | .int i, .int j => if mulOk i j then .ok (.int (i * j)) S else .bad
  | .str a, .int j => if j ≤ 100000 ∧ -100000 ≤ j ∧ a.length * j.toNat ≤ LN then .ok (.str (Txt.mul a j)) S else .bad
  | _, _ => .bad
def vDiv (x y : PV) (S : Store) : Out PV := match x, y with
  | .int i, .int j => if j ≠ 0 ∧ -1073741824 < j ∧ j < 1073741824 then .ok (.int (i.fdiv j)) S else .bad
  | _, _ => .bad
def vMod (x y : PV) (S : Store) : Out PV := match x, y with
  | .int i, .int j => if j ≠ 0 then .ok (.int (i.fmod j)) S else .bad
  | _, _ => .bad
def vPow (x y : PV) (S : Store) : Out PV := match x, y with
  | .int i, .int j => if 0 ≤ j ∧ j ≤ 1000 ∧ -18446744073709551616 < i ∧ i < 18446744073709551616 then .ok (.int (i ^ j.toNat)) S else .bad
  | _, _ => .bad
def vNeg (x : PV) (S : Store) : Out PV := match x with
  | .int i => .ok (.int (-i)) S
  | _ => .bad
section
variable {X : Cx} {E : XK}
theorem o_add : OpR X (binaryOp .Add) (r2 X.K E vAdd) := by
  intro pins s σ H v u v' u' Q I rv ru ⟨m, S, x, y, rs, rx, ry, fin⟩
  unfold vAdd at fin
  split at fin
  · cases rx; cases ry; exact op_add pins s σ H _ _ v' u' Q I rv ru ⟨_, _, rfl, rfl, fin.now rs (.int _)⟩
  · cases rx; cases ry; exact op_add_ib pins s σ H _ _ v' u' Q I rv ru ⟨_, _, rfl, rfl, fin.now rs (.int _)⟩
  · split at fin
    · rename_i hl
      cases rx; cases ry; exact op_add_str pins s σ H _ _ v' u' Q I rv ru ⟨_, _, rfl, rfl, ln_ok hl, fin.now rs (.str _)⟩
    · exact fin.elim
  · split at fin
    · rename_i xs ys hl
      cases rx with
      | tup ha ra =>
        cases ry with
        | tup hb rb =>
          refine op_catA pins s σ H _ _ v' u' Q I rv ru ⟨_, _, _, _, rfl, rfl, ha, hb, ln_ok (by rw [← ra.length, ← rb.length]; exact hl), fun e => ?_, fun _ e => ?_, fun _ _ p hp => ?_⟩
          · subst e
            have e0 : xs = [] := List.length_eq_zero_iff.mp ra.length
            subst e0
            exact fin.now rs (.tup hb rb)
          · subst e
            have e0 : ys = [] := List.length_eq_zero_iff.mp rb.length
            subst e0
            rw [List.append_nil] at fin
            exact fin.now rs (.tup ha ra)
          · exact fin_tup rs (ra.append rb) fin hp
    · exact fin.elim
  · split at fin
    · rename_i i j xs ys e1 e2
      cases rx with
      | loc h1 =>
        cases ry with
        | loc h2 =>
          obtain ⟨vs, q1, ra⟩ := rs.lst e1 h1
          obtain ⟨us, q2, rb⟩ := rs.lst e2 h2
          have z := fin_newL rs (ra.append rb) fin
          exact op_cat pins s σ H _ _ v' u' Q I rv ru ⟨_, _, _, _, rfl, rfl, q1, q2, by rw [← List.length_append]; exact z.1, z.2⟩
    · exact fin.elim
  · exact fin.elim
theorem o_sub : OpR X (binaryOp .Sub) (r2 X.K E vSub) := by
  intro pins s σ H v u v' u' Q I rv ru ⟨m, S, x, y, rs, rx, ry, fin⟩
  unfold vSub at fin
  split at fin
  · cases rx; cases ry; exact op_sub pins s σ H _ _ v' u' Q I rv ru ⟨_, _, rfl, rfl, fin.now rs (.int _)⟩
  · exact fin.elim
theorem o_mul : OpR X (binaryOp .Mult) (r2 X.K E vMul) := by
  intro pins s σ H v u v' u' Q I rv ru ⟨m, S, x, y, rs, rx, ry, fin⟩
  unfold vMul at fin
  split at fin
  · split at fin
    · rename_i hc
      cases rx; cases ry; exact op_mul pins s σ H _ _ v' u' Q I rv ru ⟨_, _, rfl, rfl, mulOk_ok hc, fin.now rs (.int _)⟩
    · exact fin.elim
  · split at fin
    · rename_i a j hc
      obtain ⟨h1, h2, h3⟩ := hc
      cases rx; cases ry
      obtain ⟨t, rfl⟩ := rv
      obtain ⟨t', rfl⟩ := ru
      refine PySem.SB.mul ⟨?_, fun hj hl => ?_, fun _ _ => ?_⟩ fun t'' k => ⟨.str _, H, I.tok _, ⟨_, rfl⟩, fin.now rs (.str _)⟩
      · rw [decide_eq_false (by omega), decide_eq_false (by omega)]; rfl
      · have h3' : a.length * j.toNat ≤ 1000000 := h3
        have hj : ((j.toNat : Nat) : Int) = j := Int.toNat_of_nonneg (by omega)
        have h4 : (a.length : Int) * j ≤ 1000000 := by
          rw [← hj]
          rw [← Int.natCast_mul]
          exact Int.ofNat_le.mpr h3'
        have h5 : (a.length : Int) ≤ (2 ^ 63 - 1) / j := Int.le_ediv_of_mul_le (by omega) (by omega)
        omega
      · exact decide_eq_false (Nat.not_lt.mpr (ln_ok h3))
    · exact fin.elim
  · exact fin.elim
theorem o_div : OpR X (binaryOp .FloorDiv) (r2 X.K E vDiv) := by
  intro pins s σ H v u v' u' Q I rv ru ⟨m, S, x, y, rs, rx, ry, fin⟩
  unfold vDiv at fin
  split at fin
  · split at fin
    · rename_i hc
      cases rx; cases ry; exact op_fdivN pins s σ H _ _ v' u' Q I rv ru ⟨_, _, rfl, rfl, ⟨hc.1, by omega⟩, fin.now rs (.int _)⟩
    · exact fin.elim
  · exact fin.elim
theorem o_mod : OpR X (binaryOp .Mod) (r2 X.K E vMod) := by
  intro pins s σ H v u v' u' Q I rv ru ⟨m, S, x, y, rs, rx, ry, fin⟩
  unfold vMod at fin
  split at fin
  · split at fin
    · rename_i hc
      cases rx; cases ry; exact op_modN pins s σ H _ _ v' u' Q I rv ru ⟨_, _, rfl, rfl, hc, fin.now rs (.int _)⟩
    · exact fin.elim
  · exact fin.elim
theorem o_pow : OpR X (binaryOp .Pow) (r2 X.K E vPow) := by
  intro pins s σ H v u v' u' Q I rv ru ⟨m, S, x, y, rs, rx, ry, fin⟩
  unfold vPow at fin
  split at fin
  · split at fin
    · rename_i hc
      cases rx; cases ry; exact op_pow pins s σ H _ _ v' u' Q I rv ru ⟨_, _, rfl, rfl, ⟨hc.1, by omega, by omega⟩, fin.now rs (.int _)⟩
    · exact fin.elim
  · exact fin.elim
theorem o_neg : UnR X (unaryOp .USub) (r1 X.K E vNeg) := by
  intro pins s σ H v v' Q I rv ⟨m, S, x, rs, rx, fin⟩
  unfold vNeg at fin
  split at fin
  · cases rx; exact un_neg pins s σ H _ v' Q I rv ⟨_, rfl, fin.now rs (.int _)⟩
  · exact fin.elim
end
/-- name += e: ints and texts -/
def vIAdd (x y : PV) (S : Store) : Out PV := match x, y with
  | .int i, .int j => .ok (.int (i + j)) S
  | .str a, .str b => if a.length + b.length ≤ LN then .ok (.str (a ++ b)) S else .bad
  | _, _ => .bad
def vIMul (x y : PV) (S : Store) : Out PV := match x, y with
  | .int i, .int j => if mulOk i j then .ok (.int (i * j)) S else .bad
  | _, _ => .bad
section
variable {X : Cx} {E : XK}
theorem o_iadd : OpR X (inplaceOp .Add) (r2 X.K E vIAdd) := by
  intro pins s σ H v u v' u' Q I rv ru ⟨m, S, x, y, rs, rx, ry, fin⟩
  unfold vIAdd at fin
  split at fin
  · cases rx; cases ry; exact iop_add pins s σ H _ _ v' u' Q I rv ru ⟨_, _, rfl, rfl, fin.now rs (.int _)⟩
  · split at fin
    · rename_i hl
      cases rx; cases ry; exact iop_add_str pins s σ H _ _ v' u' Q I rv ru ⟨_, _, rfl, rfl, ln_ok hl, fin.now rs (.str _)⟩
    · exact fin.elim
  · exact fin.elim
theorem o_isub : OpR X (inplaceOp .Sub) (r2 X.K E vSub) := by
  intro pins s σ H v u v' u' Q I rv ru ⟨m, S, x, y, rs, rx, ry, fin⟩
  unfold vSub at fin
  split at fin
  · cases rx; cases ry; exact iop_sub pins s σ H _ _ v' u' Q I rv ru ⟨_, _, rfl, rfl, fin.now rs (.int _)⟩
  · exact fin.elim
theorem o_imul : OpR X (inplaceOp .Mult) (r2 X.K E vIMul) := by
  intro pins s σ H v u v' u' Q I rv ru ⟨m, S, x, y, rs, rx, ry, fin⟩
  unfold vIMul at fin
  split at fin
  · split at fin
    · rename_i hc
      cases rx; cases ry; exact iop_mul pins s σ H _ _ v' u' Q I rv ru ⟨_, _, rfl, rfl, mulOk_ok hc, fin.now rs (.int _)⟩
    · exact fin.elim
  · exact fin.elim
end

/-! ### comparisons -/
def eqD (x y : PV) (S : Store) : Option Bool := match dOf S 20 x, dOf S 20 y with
  | some d, some e => if SeqAt.shaped d && SeqAt.shaped e then some (PyData.eqv d e) else none
  | _, _ => none
/-- == of values: scalars at once, the rest as data -/
def eqP (x y : PV) (S : Store) : Option Bool := match x, y with
  | .int i, .int j => some (i == j)
  | .str a, .str b => some (a == b)
  | .bl a, .bl b => some (a == b)
  | .non, .non => some true
  | x, y => eqD x y S
def oB (o : Option Bool) (S : Store) : Out PV := match o with
  | some b => .ok (.bl b) S
  | none => .bad
def vEq (x y : PV) (S : Store) : Out PV := oB (eqP x y S) S
def vNe (x y : PV) (S : Store) : Out PV := oB ((eqP x y S).map (!·)) S
section
variable {X : Cx} {E : XK}
theorem fin_oB {K : PySem.W.Frag} {m : List Addr} {H : Hp} {Q : VK} {o : Option Bool} {S : Store} (rs : RS K m S H) (fin : Fin K (Rl K) E m H Q (oB o S)) : ∃ b, o = some b ∧ Q (.bl b) H := by
  cases o with
  | none => exact fin.elim
  | some b => exact ⟨b, rfl, Fin.now (S := S) fin rs (.bl b)⟩
theorem eqD_dp {K : PySem.W.Frag} {m : List Addr} {H : Hp} {x y : PV} {v u : V} {S : Store} {b : Bool} (rs : RS K m S H) (rx : Rl K m H x v) (ry : Rl K m H y u) (h : eqD x y S = some b) :
    ∃ d e, Dp K H v d ∧ Dp K H u e ∧ SeqAt.shaped d = true ∧ SeqAt.shaped e = true ∧ PyData.eqv d e = b := by
  unfold eqD at h
  split at h
  · rename_i d e h1 h2
    split at h
    · rename_i h3
      cases h
      exact ⟨d, e, dp_of rs 20 x v d rx h1, dp_of rs 20 y u e ry h2, (Bool.and_eq_true_iff.mp h3).1, (Bool.and_eq_true_iff.mp h3).2, rfl⟩
    · cases h
  · cases h
theorem dec_of {α : Type} [DecidableEq α] {x y : V} {a b : α} [BEq α] [LawfulBEq α] (h : x = y ↔ a = b) : decide (x = y) = (a == b) := by
  by_cases e : a = b
  · rw [decide_eq_true (h.mpr e), e, beq_self_eq_true]
  · rw [decide_eq_false (fun z => e (h.mp z))]
    exact (beq_eq_false_iff_ne.mpr e).symm
theorem o_eq (hu : X.A.units + 64 < cLine) : OpR X (compareOp .Eq) (r2 X.K E vEq) := by
  intro pins s σ H v u v' u' Q I rv ru ⟨m, S, x, y, rs, rx, ry, fin⟩
  obtain ⟨b, hb, q⟩ := fin_oB rs fin
  unfold eqP at hb
  split at hb
  · cases hb; cases rx; cases ry; exact op_eq pins s σ H _ _ v' u' Q I rv ru ⟨rfl, by rw [dec_int]; exact q⟩
  · cases hb; cases rx; cases ry; exact op_eq pins s σ H _ _ v' u' Q I rv ru ⟨rfl, by rw [dec_str]; exact q⟩
  · cases hb; cases rx; cases ry; exact op_eq pins s σ H _ _ v' u' Q I rv ru ⟨rfl, by rw [dec_bl]; exact q⟩
  · cases hb; cases rx; cases ry; exact op_eq pins s σ H _ _ v' u' Q I rv ru ⟨rfl, by exact q⟩
  · obtain ⟨d, e, h1, h2, h3, h4, h5⟩ := eqD_dp rs rx ry hb
    exact op_eqD hu pins s σ H _ _ v' u' Q I rv ru ⟨d, e, h1, h2, h3, h4, by rw [h5]; exact q⟩
theorem o_ne (hu : X.A.units + 64 < cLine) : OpR X (compareOp .NotEq) (r2 X.K E vNe) := by
  intro pins s σ H v u v' u' Q I rv ru ⟨m, S, x, y, rs, rx, ry, fin⟩
  obtain ⟨b', hb', q⟩ := fin_oB rs fin
  obtain ⟨b, hb, rfl⟩ := Option.map_eq_some_iff.mp hb'
  unfold eqP at hb
  split at hb
  · cases hb; cases rx; cases ry; exact op_ne pins s σ H _ _ v' u' Q I rv ru ⟨rfl, by rw [dec_int]; exact q⟩
  · cases hb; cases rx; cases ry; exact op_ne pins s σ H _ _ v' u' Q I rv ru ⟨rfl, by rw [dec_str]; exact q⟩
  · cases hb; cases rx; cases ry; exact op_ne pins s σ H _ _ v' u' Q I rv ru ⟨rfl, by rw [dec_bl]; exact q⟩
  · cases hb; cases rx; cases ry; exact op_ne pins s σ H _ _ v' u' Q I rv ru ⟨rfl, by exact q⟩
  · obtain ⟨d, e, h1, h2, h3, h4, h5⟩ := eqD_dp rs rx ry hb
    exact op_neD hu pins s σ H _ _ v' u' Q I rv ru ⟨d, e, h1, h2, h3, h4, by rw [h5]; exact q⟩
end
/-- < on ints, texts, tuples of ints -/
def intsP : List PV → Option (List Int)
  | [] => some []
  | .int i :: r => (intsP r).map (i :: ·)
  | _ => none
theorem ints_of {K : PySem.W.Frag} {m : List Addr} {H : Hp} : ∀ {xs : List PV} {vs : List V} {ns : List Int}, Rls K m H xs vs → intsP xs = some ns → vs = ns.map V.int
  | _, _, _, .nil, h => by cases h; rfl
  | _, _, _, .cons (x := x) (xs := xs) h r, e => by
    cases h with
    | int i =>
      have e' : (intsP xs).map (i :: ·) = some _ := e
      obtain ⟨ns, h1, h2⟩ := Option.map_eq_some_iff.mp e'
      subst h2
      rw [ints_of r h1]; rfl
    | _ => cases e
def ltP (x y : PV) : Option Bool := match x, y with
  | .int i, .int j => some (decide (i < j))
  | .str a, .str b => some (decide (a.cps.toList < b.cps.toList))
  | .tup xs, .tup ys => match intsP xs, intsP ys with
    | some ns, some ms => some (HT.lexLt ns ms)
    | _, _ => none
  | _, _ => none
def lt2 (x y : PV) : Option Bool := match x, y with
  | .int i, .int j => some (decide (i < j))
  | .str a, .str b => some (decide (a.cps.toList < b.cps.toList))
  | _, _ => none
def vLt (x y : PV) (S : Store) : Out PV := oB (ltP x y) S
def vGt (x y : PV) (S : Store) : Out PV := oB (lt2 y x) S
def vLe (x y : PV) (S : Store) : Out PV := oB ((lt2 y x).map (!·)) S
def vGe (x y : PV) (S : Store) : Out PV := oB ((lt2 x y).map (!·)) S
section
variable {X : Cx} {E : XK}
theorem not_lt_dec {i j : Int} : (!decide (i < j)) = decide (j ≤ i) := by
  by_cases h : i < j
  · rw [decide_eq_true h, decide_eq_false (by omega)]; rfl
  · rw [decide_eq_false h, decide_eq_true (by omega)]; rfl
theorem o_lt (hu : X.A.units < cLine) : OpR X (compareOp .Lt) (r2 X.K E vLt) := by
  intro pins s σ H v u v' u' Q I rv ru ⟨m, S, x, y, rs, rx, ry, fin⟩
  obtain ⟨b, hb, q⟩ := fin_oB rs fin
  unfold ltP at hb
  split at hb
  · cases hb; cases rx; cases ry; exact op_lt pins s σ H _ _ v' u' Q I rv ru ⟨_, _, rfl, rfl, q⟩
  · cases hb; cases rx; cases ry; exact op_lt_str pins s σ H _ _ v' u' Q I rv ru ⟨_, _, rfl, rfl, q⟩
  · split at hb
    · rename_i h1 h2
      cases hb
      cases rx with
      | tup ha ra =>
        cases ry with
        | tup hb rb =>
          rw [ints_of ra h1] at ha
          rw [ints_of rb h2] at hb
          exact op_ltT hu pins s σ H _ _ v' u' Q I rv ru ⟨_, _, _, _, rfl, rfl, ha, hb, q⟩
    · cases hb
  · cases hb
theorem o_gt : OpR X (compareOp .Gt) (r2 X.K E vGt) := by
  intro pins s σ H v u v' u' Q I rv ru ⟨m, S, x, y, rs, rx, ry, fin⟩
  obtain ⟨b, hb, q⟩ := fin_oB rs fin
  unfold lt2 at hb
  split at hb
  · cases hb; cases rx; cases ry; exact op_gt pins s σ H _ _ v' u' Q I rv ru ⟨_, _, rfl, rfl, q⟩
  · cases hb; cases rx; cases ry; exact op_gt_str pins s σ H _ _ v' u' Q I rv ru ⟨_, _, rfl, rfl, q⟩
  · cases hb
theorem o_le : OpR X (compareOp .LtE) (r2 X.K E vLe) := by
  intro pins s σ H v u v' u' Q I rv ru ⟨m, S, x, y, rs, rx, ry, fin⟩
  obtain ⟨b', hb', q⟩ := fin_oB rs fin
  obtain ⟨b, hb, rfl⟩ := Option.map_eq_some_iff.mp hb'
  unfold lt2 at hb
  split at hb
  · cases hb; cases rx; cases ry; exact op_le pins s σ H _ _ v' u' Q I rv ru ⟨_, _, rfl, rfl, by show Q (.bl (decide _)) H; rw [← not_lt_dec]; exact q⟩
  · cases hb; cases rx; cases ry; exact op_le_str pins s σ H _ _ v' u' Q I rv ru ⟨_, _, rfl, rfl, q⟩
  · cases hb
theorem o_ge : OpR X (compareOp .GtE) (r2 X.K E vGe) := by
  intro pins s σ H v u v' u' Q I rv ru ⟨m, S, x, y, rs, rx, ry, fin⟩
  obtain ⟨b', hb', q⟩ := fin_oB rs fin
  obtain ⟨b, hb, rfl⟩ := Option.map_eq_some_iff.mp hb'
  unfold lt2 at hb
  split at hb
  · cases hb; cases rx; cases ry; exact op_ge pins s σ H _ _ v' u' Q I rv ru ⟨_, _, rfl, rfl, by show Q (.bl (decide _)) H; rw [← not_lt_dec]; exact q⟩
  · cases hb; cases rx; cases ry; exact op_ge_str pins s σ H _ _ v' u' Q I rv ru ⟨_, _, rfl, rfl, q⟩
  · cases hb
end
/-! ### is -/
def vIs (x y : PV) (S : Store) : Out PV := match x, y with
  | .bl a, .bl b => .ok (.bl (decide (a = b))) S
  | .non, .non => .ok (.bl true) S
  | .ref _, .non => .bad
  | _, .non => .ok (.bl false) S
  | _, _ => .bad
def vIsNot (x y : PV) (S : Store) : Out PV := match x, y with
  | .bl a, .bl b => .ok (.bl (!decide (a = b))) S
  | .non, .non => .ok (.bl false) S
  | .ref _, .non => .bad
  | _, .non => .ok (.bl true) S
  | _, _ => .bad
end G

/-! G, part E: membership, is, subscripts, slices, built-in functions and methods. -/
namespace G
open PySem PySem.Spec PyProof.Rows L2

section
variable {X : Cx} {E : XK}
theorem isN_rl {K : PySem.W.Frag} {m : List Addr} {H : Hp} {x : PV} {v : V} (r : Rl K m H x v) : decide (v = .non) = match x with | .non => true | _ => false := by
  cases r <;> rfl
theorem o_is : OpR X (compareOp .Is) (r2 X.K E vIs) := by
  intro pins s σ H v u v' u' Q I rv ru ⟨m, S, x, y, rs, rx, ry, fin⟩
  unfold vIs at fin
  split at fin
  · cases rx; cases ry
    refine op_is_bl pins s σ H _ _ v' u' Q I rv ru ⟨_, _, rfl, rfl, fin.now rs (.bl _)⟩
  · cases ry; refine op_isN pins s σ H _ _ v' u' Q I rv ru ⟨rfl, ?_⟩; rw [isN_rl rx]; exact fin.now rs (.bl _)
  · exact fin.elim
  · rename_i h1 h2
    cases ry
    refine op_isN pins s σ H _ _ v' u' Q I rv ru ⟨rfl, ?_⟩
    rw [isN_rl rx]
    cases x with
    | non => exact (h1 rfl).elim
    | _ => exact fin.now rs (.bl _)
  · exact fin.elim
theorem o_isNot : OpR X (compareOp .IsNot) (r2 X.K E vIsNot) := by
  intro pins s σ H v u v' u' Q I rv ru ⟨m, S, x, y, rs, rx, ry, fin⟩
  unfold vIsNot at fin
  split at fin
  · cases rx; cases ry
    refine op_isnot_bl pins s σ H _ _ v' u' Q I rv ru ⟨_, _, rfl, rfl, fin.now rs (.bl _)⟩
  · cases ry; refine op_notN pins s σ H _ _ v' u' Q I rv ru ⟨rfl, ?_⟩; rw [isN_rl rx]; exact fin.now rs (.bl _)
  · exact fin.elim
  · rename_i h1 h2
    cases ry
    refine op_notN pins s σ H _ _ v' u' Q I rv ru ⟨rfl, ?_⟩
    rw [isN_rl rx]
    cases x with
    | non => exact (h1 rfl).elim
    | _ => exact fin.now rs (.bl _)
  · exact fin.elim
end

/-! ### in -/
def inS (a b : Str) : Bool := match a.cps.toList with
  | [c] => decide (c ∈ b.cps.toList)
  | _ => !(Builtin.Str.occurrences b a 0 b.length 1).isEmpty
def inD (x y : PV) (S : Store) : Option Bool := match dOf S 20 x, dOf S 20 y with
  | some d, some (.list ds) => if SeqAt.shaped d && SeqAt.shaped (.list ds) then some (ds.any fun z => PyData.eqv z d) else none
  | some d, some (.tuple ds) => if SeqAt.shaped d && SeqAt.shaped (.tuple ds) then some (ds.any fun z => PyData.eqv z d) else none
  | _, _ => none
def inP (x y : PV) (S : Store) : Option Bool := match x, y with
  | .str a, .str b => some (inS a b)
  | x, y => inD x y S
def vIn (x y : PV) (S : Store) : Out PV := oB (inP x y S) S
def vNotIn (x y : PV) (S : Store) : Out PV := oB ((inP x y S).map (!·)) S
theorem one_sign {a : Str} {c : Nat} (h : a.cps.toList = [c]) : a = ⟨#[c]⟩ := by
  cases a with
  | mk cps =>
    have : cps = #[c] := by
      apply Array.ext'
      exact h
    rw [this]
section
variable {X : Cx} {E : XK}
theorem inD_dp {K : PySem.W.Frag} {m : List Addr} {H : Hp} {x y : PV} {v u : V} {S : Store} {b : Bool} (rs : RS K m S H) (rx : Rl K m H x v) (ry : Rl K m H y u) (h : inD x y S = some b) :
    ∃ d ds, Dp K H v d ∧ SeqAt.shaped d = true ∧ (ds.any fun z => PyData.eqv z d) = b ∧ ((Dp K H u (.list ds) ∧ SeqAt.shaped (.list ds) = true) ∨ (Dp K H u (.tuple ds) ∧ SeqAt.shaped (.tuple ds) = true)) := by
  unfold inD at h
  split at h
  · rename_i d ds h1 h2
    split at h
    · rename_i h3
      cases h
      exact ⟨d, ds, dp_of rs 20 x v d rx h1, (Bool.and_eq_true_iff.mp h3).1, rfl, .inl ⟨dp_of rs 20 y u _ ry h2, (Bool.and_eq_true_iff.mp h3).2⟩⟩
    · cases h
  · rename_i d ds h1 h2
    split at h
    · rename_i h3
      cases h
      exact ⟨d, ds, dp_of rs 20 x v d rx h1, (Bool.and_eq_true_iff.mp h3).1, rfl, .inr ⟨dp_of rs 20 y u _ ry h2, (Bool.and_eq_true_iff.mp h3).2⟩⟩
    · cases h
  · cases h
theorem o_in (hu : X.A.units + 70 < cLine) : OpR X (compareOp .In) (r2 X.K E vIn) := by
  intro pins s σ H v u v' u' Q I rv ru ⟨m, S, x, y, rs, rx, ry, fin⟩
  obtain ⟨b, hb, q⟩ := fin_oB rs fin
  unfold inP at hb
  split at hb
  · cases hb; cases rx; cases ry
    unfold inS at q
    split at q
    · rename_i c e
      rw [one_sign e] at rv
      exact op_in_sign pins s σ H _ _ v' u' Q I rv ru ⟨c, _, rfl, rfl, q⟩
    · exact op_in_str pins s σ H _ _ v' u' Q I rv ru ⟨_, _, rfl, rfl, q⟩
  · obtain ⟨d, ds, h1, h2, h3, ⟨h4, h5⟩ | ⟨h4, h5⟩⟩ := inD_dp rs rx ry hb
    · exact op_inD (by omega) pins s σ H _ _ v' u' Q I rv ru ⟨d, ds, h1, h4, h2, h5, by rw [h3]; exact q⟩
    · obtain ⟨as, p1⟩ := Dp.reads I d v v' h1 rv
      obtain ⟨bs, p2⟩ := Dp.reads I (.tuple ds) u u' h4 ru
      refine SeqAt.in_tuple_reads p2 p1 (SeqAt.canLay_of_shaped h5) (SeqAt.canLay_of_shaped h2) ?_ ⟨.bl b, H, I, by rw [h3]; rfl, q⟩
      have l1 := SeqAt.depth_of_shaped h2
      have l2 := Nat.min_le_right (PyData.depthAll ds) d.depth
      omega
theorem o_notIn (hu : X.A.units + 70 < cLine) : OpR X (compareOp .NotIn) (r2 X.K E vNotIn) := by
  intro pins s σ H v u v' u' Q I rv ru ⟨m, S, x, y, rs, rx, ry, fin⟩
  obtain ⟨b', hb', q⟩ := fin_oB rs fin
  obtain ⟨b, hb, rfl⟩ := Option.map_eq_some_iff.mp hb'
  unfold inP at hb
  split at hb
  · cases hb; cases rx; cases ry
    unfold inS at q
    split at q
    · rename_i c e
      rw [one_sign e] at rv
      exact op_notIn_sign pins s σ H _ _ v' u' Q I rv ru ⟨c, _, rfl, rfl, q⟩
    · exact op_notIn_str pins s σ H _ _ v' u' Q I rv ru ⟨_, _, rfl, rfl, q⟩
  · obtain ⟨d, ds, h1, h2, h3, ⟨h4, h5⟩ | ⟨h4, h5⟩⟩ := inD_dp rs rx ry hb
    · exact op_notInD (by omega) pins s σ H _ _ v' u' Q I rv ru ⟨d, ds, h1, h4, h2, h5, by rw [h3]; exact q⟩
    · obtain ⟨as, p1⟩ := Dp.reads I d v v' h1 rv
      obtain ⟨bs, p2⟩ := Dp.reads I (.tuple ds) u u' h4 ru
      refine SeqAt.notIn_tuple_reads p2 p1 (SeqAt.canLay_of_shaped h5) (SeqAt.canLay_of_shaped h2) ?_ ⟨.bl (!b), H, I, by rw [h3]; rfl, q⟩
      have l1 := SeqAt.depth_of_shaped h2
      have l2 := Nat.min_le_right (PyData.depthAll ds) d.depth
      omega
end

/-! ### subscripts, slices -/
def vIx (x y : PV) (S : Store) : Out PV := match x, y with
  | .str a, .int i => if a.length ≤ LN then (match atI a.cps.toList i with | some c => .ok (.str ⟨#[c]⟩) S | none => .bad) else .bad
  | x, .int i => match seqP S x with
    | some xs => match atI xs i with
      | some z => .ok z S
      | none => .bad
    | none => .bad
  | _, _ => .bad
theorem Rls.atI {K : PySem.W.Frag} {m : List Addr} {H : Hp} {xs : List PV} {vs : List V} {i : Int} {x : PV} (r : Rls K m H xs vs) (h : L2.atI xs i = some x) : ∃ v, L2.atI vs i = some v ∧ Rl K m H x v := by
  unfold L2.atI at h ⊢
  rw [← r.length]
  cases e : ixN xs.length i with
  | none => rw [e] at h; cases h
  | some j =>
    rw [e] at h
    exact r.get h
def sIxP (xs : List PV) (lo hi : Option Int) : List PV := (xs.drop (HT.sIx xs.length 0 lo)).take (HT.sIx xs.length xs.length hi - HT.sIx xs.length 0 lo)
def vSl (x : PV) (lo hi : Option Int) (S : Store) : Out PV := match x with
  | .str a => if a.length ≤ LN then .ok (.str (cutS a lo hi)) S else .bad
  | .tup xs => .ok (.tup (sIxP xs lo hi)) S
  | .fl xs => newL (sIxP xs lo hi) S
  | .loc n => match S[n]? with
    | some (.lst xs) => newL (sIxP xs lo hi) S
    | _ => .bad
  | _ => .bad
theorem Rls.cut {K : PySem.W.Frag} {m : List Addr} {H : Hp} {xs : List PV} {vs : List V} (r : Rls K m H xs vs) (lo hi : Option Int) : Rls K m H (sIxP xs lo hi) (cutV vs lo hi) := by
  unfold sIxP cutV
  rw [r.length]
  exact (r.drop _).take _
def oNone : SO := fun _ S => .ok none S
def oSome (f : SE) : SO := fun τ S => (f τ S).bind fun x S1 => match x with
  | .int i => .ok (some i) S1
  | _ => .bad
def eSl (f : SE) (lo hi : SO) : SE := fun τ S => (f τ S).bind fun x S1 => (lo τ S1).bind fun l S2 => (hi τ S2).bind fun u S3 => vSl x l u S3
section
variable {X : Cx} {e a b : Expr} {E : XK} {f f' : SE} {fo fo' : SO} {pos p2 : Pos} {lo hi : Option Expr}
theorem ix_all : IxR X (r2 X.K E vIx) := by
  intro eV eS pins s σ H v u v' u' Q I rv ru ⟨m, S, x, y, rs, rx, ry, fin⟩ hss
  unfold vIx at fin
  split at fin
  · split at fin
    · rename_i hl
      split at fin
      · rename_i c hc
        cases rx; cases ry
        exact ix_str eV eS pins s σ H _ _ v' u' Q I rv ru ⟨_, _, c, rfl, rfl, ln_ok hl, hc, fin.now rs (.str _)⟩ hss
      · exact fin.elim
    · exact fin.elim
  · split at fin
    · rename_i xs hs
      split at fin
      · rename_i z hz
        cases ry
        obtain ⟨a, vs, rfl, h, rr⟩ := rs.seq rx hs
        obtain ⟨w, hw, rw'⟩ := rr.atI hz
        rcases h with h | h
        · exact ix_list eV eS pins s σ H _ _ v' u' Q I rv ru ⟨a, vs, _, w, rfl, rfl, h, hw, fin.now rs rw'⟩ hss
        · exact ix_tup eV eS pins s σ H _ _ v' u' Q I rv ru ⟨a, vs, _, w, rfl, rfl, h, hw, fin.now rs rw'⟩ hss
      · exact fin.elim
    · exact fin.elim
  · exact fin.elim
theorem g_ix (ha : PE X a (tE X.K E f)) (hb : PE X b (tE X.K E f')) (hs : PlainIx b) : PE X (.Subscript a b pos) (tE X.K E (eBin vIx f f')) := peI (pe_ix ix_all ha hb hs) (binI (fun _ _ _ h => h) fun _ _ _ _ h => h)
theorem go_none : L2.PO X none (tO X.K E oNone) := ⟨fun pins s σ H Q I h => (po_none (X := X)).run pins s σ H Q I (by
  obtain ⟨m, S, τ, rs, re, fin⟩ := h
  exact fin.now rs rfl)⟩
theorem go_some (h : PE X e (tE X.K E f)) : L2.PO X (some e) (tO X.K E (oSome f)) := ⟨fun pins s σ H Q I hq => (po_some h).run pins s σ H Q I (by
  obtain ⟨m, S, τ, rs, re, fin⟩ := hq
  refine ⟨m, S, τ, rs, re, Fin.bind fin fun m1 H1 S1 x v l e rs1 rx fin1 => ?_⟩
  split at fin1
  · cases rx; exact ⟨_, rfl, fin1.now rs1 rfl⟩
  · exact fin1.elim)⟩
def rSlG (K : PySem.W.Frag) (E : XK) : V → Option Int → Option Int → Hp → VK → Prop := fun v lo hi H Q => ∃ m S x, RS K m S H ∧ Rl K m H x v ∧ Fin K (Rl K) E m H Q (vSl x lo hi S)
theorem sl_all : SlR X (rSlG X.K E) := by
  intro pins s σ H v v' vl vu lo hi sl Q I rv hs pl pu ⟨m, S, x, rs, rx, fin⟩
  unfold vSl at fin
  split at fin
  · split at fin
    · rename_i hl
      cases rx; exact sl_str pins s σ H _ v' vl vu lo hi sl Q I rv hs pl pu ⟨_, rfl, ln_ok hl, fin.now rs (.str _)⟩
    · exact fin.elim
  · rename_i xs
    cases rx with
    | @tup _ vs a ht rr =>
      refine sl_tupA pins s σ H _ v' vl vu lo hi sl Q I rv hs pl pu ⟨_, _, rfl, ht, fun hw => ?_, fun _ p hp => fin_tup rs (rr.cut lo hi) fin hp⟩
      have e : sIxP xs lo hi = xs := by
        unfold sIxP
        rw [rr.length, hw.1, hw.2, List.drop_zero, Nat.sub_zero, ← rr.length, List.take_length]
      rw [e] at fin
      exact fin.now rs (.tup ht rr)
  · cases rx with
    | fl ht rr => exact sl_list pins s σ H _ v' vl vu lo hi sl Q I rv hs pl pu ⟨_, _, rfl, ht.sq, (fin_newL rs (rr.cut lo hi) fin).2⟩
  · split at fin
    · rename_i h
      cases rx with
      | loc hn =>
        obtain ⟨vs, h1, rr⟩ := rs.lst h hn
        exact sl_list pins s σ H _ v' vl vu lo hi sl Q I rv hs pl pu ⟨_, _, rfl, SqL.of h1, (fin_newL rs (rr.cut lo hi) fin).2⟩
    · exact fin.elim
  · exact fin.elim
theorem g_sl (he : PE X e (tE X.K E f)) (hl : L2.PO X lo (tO X.K E fo)) (hh : L2.PO X hi (tO X.K E fo')) : PE X (.Subscript e (.Slice lo hi none p2) pos) (tE X.K E (eSl f fo fo')) :=
  peI (pe_slice sl_all he hl hh) fun σ H Q ⟨m, S, τ, rs, re, fin⟩ =>
  ⟨m, S, τ, rs, re, Fin.bind fin fun m1 H1 S1 x v l e rs1 rx fin1 => ⟨m1, S1, τ, rs1, re.mono l e, Fin.bind fin1 fun m2 H2 S2 y u l2 e2 rs2 ry fin2 =>
    ⟨m2, S2, τ, rs2, (re.mono l e).mono l2 e2, Fin.bind fin2 fun m3 H3 S3 z w l3 e3 rs3 rz fin3 => by
      cases ry; cases rz
      exact ⟨m3, S3, x, rs3, (rx.mono l2 e2).mono l3 e3, fin3⟩⟩⟩⟩
end

/-! ### built-in functions -/
def lenP (S : Store) : PV → Option Nat
  | .str a => if a.length ≤ LN then some a.length else none
  | x => (seqP S x).map (·.length)
def vLen (xs : List PV) (S : Store) : Out PV := match xs with
  | [x] => match lenP S x with
    | some n => .ok (.int n) S
    | none => .bad
  | _ => .bad
def vAbs (xs : List PV) (S : Store) : Out PV := match xs with
  | [.int i] => .ok (.int (if i < 0 then -i else i)) S
  | _ => .bad
def vMax (xs : List PV) (S : Store) : Out PV := match xs with
  | [.int i, .int j] => .ok (.int (if j > i then j else i)) S
  | _ => .bad
def vMin (xs : List PV) (S : Store) : Out PV := match xs with
  | [.int i, .int j] => .ok (.int (if j < i then j else i)) S
  | _ => .bad
def cInt (xs : List PV) (S : Store) : Out PV := match xs with
  | [.int i] => .ok (.int i) S
  | [.bl k] => .ok (.int (if k then 1 else 0)) S
  | _ => .bad
def blsP : List PV → Option (List Bool)
  | [] => some []
  | .bl b :: r => (blsP r).map (b :: ·)
  | _ => none
theorem bls_of {K : PySem.W.Frag} {m : List Addr} {H : Hp} : ∀ {xs : List PV} {vs : List V} {bs : List Bool}, Rls K m H xs vs → blsP xs = some bs → vs = bs.map V.bl
  | _, _, _, .nil, h => by cases h; rfl
  | _, _, _, .cons (x := x) (xs := xs) h r, e => by
    cases h with
    | bl i =>
      have e' : (blsP xs).map (i :: ·) = some _ := e
      obtain ⟨ns, h1, h2⟩ := Option.map_eq_some_iff.mp e'
      subst h2
      rw [bls_of r h1]; rfl
    | _ => cases e
/-- a list (not a tuple) of the store or known -/
def lstP (S : Store) : PV → Option (List PV)
  | .fl xs => some xs
  | .loc n => match S[n]? with
    | some (.lst xs) => some xs
    | _ => none
  | _ => none
theorem RS.lstP {K : PySem.W.Frag} {m : List Addr} {H : Hp} {S : Store} {x : PV} {v : V} {xs : List PV} (r : RS K m S H) (rx : Rl K m H x v) (h : lstP S x = some xs) : ∃ a vs, v = .ref a ∧ SqL K H a vs ∧ Rls K m H xs vs := by
  cases rx with
  | fl ht rs => cases h; exact ⟨_, _, rfl, ht.sq, rs⟩
  | @loc n a hn =>
    have h' : (match S[n]? with | some (.lst xs) => some xs | _ => none) = some xs := h
    split at h'
    · rename_i xs' e
      cases h'
      obtain ⟨vs, h1, h2⟩ := r.lst e hn
      exact ⟨a, vs, rfl, SqL.of h1, h2⟩
    · cases h'
  | _ => cases h
def vAll (xs : List PV) (S : Store) : Out PV := match xs with
  | [x] => match (lstP S x).bind blsP with
    | some bs => .ok (.bl (bs.all id)) S
    | none => .bad
  | _ => .bad
def vAny (xs : List PV) (S : Store) : Out PV := match xs with
  | [x] => match (lstP S x).bind blsP with
    | some bs => .ok (.bl (bs.any id)) S
    | none => .bad
  | _ => .bad
def tyP (S : Store) : PV → Option String
  | .non => some "NoneType"
  | .bl _ => some "bool"
  | .int _ => some "int"
  | .str _ => some "str"
  | .tup _ => some "tuple"
  | .fl _ => some "list"
  | .loc n => match S[n]? with
    | some (.lst _) => some "list"
    | some (.dk _) => some "dict"
    | some (.dt _) => some "dict"
    | _ => none
  | _ => none
def vIsi (xs : List PV) (S : Store) : Out PV := match xs with
  | [x, .ty n] => match tyP S x with
    | some t => match kitB t n with
      | some b => .ok (.bl b) S
      | none => .bad
    | none => .bad
  | _ => .bad
def reprP (S : Store) (x : PV) : Option Str := match dOf S 20 x with
  | some d => if d.showable && !d.hasDict && decide (d.shown.length ≤ LN) && decide (d.depth ≤ 64) then some d.shown else none
  | none => none
def vRepr (xs : List PV) (S : Store) : Out PV := match xs with
  | [x] => match reprP S x with
    | some z => .ok (.str z) S
    | none => .bad
  | _ => .bad
theorem tyX_of {K : PySem.W.Frag} {m : List Addr} {H : Hp} {S : Store} {x : PV} {v : V} {t : String} (r : RS K m S H) (rx : Rl K m H x v) (h : tyP S x = some t) : TyX K H v (.type t) := by
  cases rx with
  | non => cases h; exact .base .non
  | bl b => cases h; exact .base (.bl b)
  | int i => cases h; exact .base (.int i)
  | str x => cases h; exact .base (.str x)
  | ty n => cases h
  | ref a => cases h
  | tup ht rs =>
    cases h
    rcases ht with (h | ⟨o, h⟩) | ⟨o, its, n, h1, h2, _⟩
    · exact .base (.tup h)
    · exact .fTuple h
    · exact .kTuple h1 h2
  | fl ht rs =>
    cases h
    rcases ht with ⟨o, h⟩ | ⟨o, its, n, h1, h2, _⟩
    · exact .base (.frz h)
    · exact .kList h1 h2
  | @loc n a hn =>
    have h' : (match S[n]? with | some (.lst _) => some "list" | some (.dk _) => some "dict" | some (.dt _) => some "dict" | _ => none) = some t := h
    split at h'
    · rename_i e; cases h'; obtain ⟨vs, h1, _⟩ := r.at_ n _ a e hn; exact .base (.lst h1)
    · rename_i e; cases h'; obtain ⟨vs, h1, _⟩ := r.at_ n _ a e hn; exact .base (.dK h1)
    · rename_i e; cases h'; obtain ⟨vs, h1, _⟩ := r.at_ n _ a e hn; exact .base (.dT h1)
    · cases h'
section
variable {X : Cx} {E : XK}
theorem c_len : CallR X (.builtin "len") (rL X.K E vLen) := by
  intro pins s σ H vs us Q I rv ⟨m, S, xs, rs, rx, fin⟩
  unfold vLen at fin
  split at fin
  · rename_i x
    split at fin
    · rename_i n hn
      cases rx with
      | cons rx rn =>
        cases rn
        have q := fin.now rs (.int n)
        unfold lenP at hn
        split at hn
        · split at hn
          · rename_i hl
            cases hn; cases rx
            exact call_len_str pins s σ H _ us Q I rv ⟨_, rfl, ln_ok hl, q⟩
          · cases hn
        · obtain ⟨ys, h1, rfl⟩ := Option.map_eq_some_iff.mp hn
          obtain ⟨a, vs, rfl, h2, rr⟩ := rs.seq rx h1
          exact call_len_seq pins s σ H _ us Q I rv ⟨a, vs, rfl, h2, by rw [← rr.length]; exact q⟩
    · exact fin.elim
  · exact fin.elim
theorem c_abs : CallR X (.builtin "abs") (rL X.K E vAbs) := by
  intro pins s σ H vs us Q I rv ⟨m, S, xs, rs, rx, fin⟩
  unfold vAbs at fin
  split at fin
  · cases rx with
    | cons rx rn => cases rn; cases rx; exact call_abs pins s σ H _ us Q I rv ⟨_, rfl, fin.now rs (.int _)⟩
  · exact fin.elim
theorem c_max (hc : X.calm = true) : CallR X (.builtin "max") (rL X.K E vMax) := by
  intro pins s σ H vs us Q I rv ⟨m, S, xs, rs, rx, fin⟩
  unfold vMax at fin
  split at fin
  · cases rx with
    | cons rx rn => cases rn with
      | cons ry rn => cases rn; cases rx; cases ry; exact call_max2 hc pins s σ H _ us Q I rv ⟨_, _, rfl, fin.now rs (.int _)⟩
  · exact fin.elim
theorem c_min (hc : X.calm = true) : CallR X (.builtin "min") (rL X.K E vMin) := by
  intro pins s σ H vs us Q I rv ⟨m, S, xs, rs, rx, fin⟩
  unfold vMin at fin
  split at fin
  · cases rx with
    | cons rx rn => cases rn with
      | cons ry rn => cases rn; cases rx; cases ry; exact call_min2 hc pins s σ H _ us Q I rv ⟨_, _, rfl, fin.now rs (.int _)⟩
  · exact fin.elim
theorem c_int : CallR X (.type "int") (rL X.K E cInt) := by
  intro pins s σ H vs us Q I rv ⟨m, S, xs, rs, rx, fin⟩
  unfold cInt at fin
  split at fin
  · cases rx with
    | cons rx rn => cases rn; cases rx; exact call_int1 pins s σ H _ us Q I rv (.inl ⟨_, rfl, fin.now rs (.int _)⟩)
  · cases rx with
    | cons rx rn => cases rn; cases rx; exact call_int1 pins s σ H _ us Q I rv (.inr ⟨_, rfl, fin.now rs (.int _)⟩)
  · exact fin.elim
theorem c_all (hc : X.calm = true) : CallR X (.builtin "all") (rL X.K E vAll) := by
  intro pins s σ H vs us Q I rv ⟨m, S, xs, rs, rx, fin⟩
  unfold vAll at fin
  split at fin
  · split at fin
    · rename_i bs hb
      cases rx with
      | cons rx rn =>
        cases rn
        obtain ⟨ys, h1, h2⟩ := Option.bind_eq_some_iff.mp hb
        obtain ⟨a, ws, rfl, h3, rr⟩ := rs.lstP rx h1
        rw [bls_of rr h2] at h3
        exact cr_all hc pins s σ H _ us Q I rv ⟨a, bs, rfl, h3, fin.now rs (.bl _)⟩
    · exact fin.elim
  · exact fin.elim
theorem c_any (hc : X.calm = true) : CallR X (.builtin "any") (rL X.K E vAny) := by
  intro pins s σ H vs us Q I rv ⟨m, S, xs, rs, rx, fin⟩
  unfold vAny at fin
  split at fin
  · split at fin
    · rename_i bs hb
      cases rx with
      | cons rx rn =>
        cases rn
        obtain ⟨ys, h1, h2⟩ := Option.bind_eq_some_iff.mp hb
        obtain ⟨a, ws, rfl, h3, rr⟩ := rs.lstP rx h1
        rw [bls_of rr h2] at h3
        exact cr_any hc pins s σ H _ us Q I rv ⟨a, bs, rfl, h3, fin.now rs (.bl _)⟩
    · exact fin.elim
  · exact fin.elim
theorem c_isi : CallR X (.builtin "isinstance") (rL X.K E vIsi) := by
  intro pins s σ H vs us Q I rv ⟨m, S, xs, rs, rx, fin⟩
  unfold vIsi at fin
  split at fin
  · rename_i x n
    split at fin
    · rename_i t ht
      split at fin
      · rename_i b hb
        cases rx with
        | cons rx rn => cases rn with
          | cons ry rn =>
            cases rn; cases ry
            exact call_isi pins s σ H _ us Q I rv ⟨_, _, .type t, .type n, b, rfl, .ty n, tyX_of rs rx ht, kit_ty hb, fin.now rs (.bl b)⟩
      · exact fin.elim
    · exact fin.elim
  · exact fin.elim
theorem c_repr (hA : X.A.guards = some []) (hu : X.A.units + 70 < cLine) : CallR X (.builtin "repr") (rL X.K E vRepr) := by
  intro pins s σ H vs us Q I rv ⟨m, S, xs, rs, rx, fin⟩
  unfold vRepr at fin
  split at fin
  · rename_i x
    split at fin
    · rename_i z hz
      cases rx with
      | @cons _ v _ _ rx rn =>
        cases rn
        have q := fin.now rs (.str z)
        unfold reprP at hz
        split at hz
        · rename_i d hd
          split at hz
          · rename_i hc
            cases hz
            rw [Bool.and_eq_true_iff, Bool.and_eq_true_iff, Bool.and_eq_true_iff] at hc
            obtain ⟨⟨⟨c1, c2⟩, c3⟩, c4⟩ := hc
            have c2' : d.hasDict = false := by simpa using c2
            have hsz : d.shown.length ≤ sizeLine := ln_ok (of_decide_eq_true c3)
            have hdep : d.depth ≤ 64 := of_decide_eq_true c4
            obtain ⟨u, rfl, ru⟩ := vals1 rv
            have dp := dp_of rs 20 x v d rx hd
            obtain ⟨as, rd⟩ := Dp.reads I d v u dp ru
            have tail : ∀ (a : Addr), v = .ref a → wpAny (model X.prog X.w) X.A (call (.builtin "repr") [u]) (EP X pins σ Q) X.xe s := by
              intro a e
              subst e
              obtain rfl : u = Value.ref a := ru
              exact repr_of_reads' rd c1 (fun z => by rw [c2'] at z; cases z) hA (by omega) (fun _ _ h => h) (fun h' u tk k => ⟨.str _, H, I.kept (t' := tk) k, ⟨u, rfl⟩, q⟩) hsz
            cases dp with
            | non => obtain rfl : u = Value.none := ru; exact PySem.P.repr_of_none ⟨.str _, H, I.tok _, ⟨_, rfl⟩, q⟩
            | bl b => obtain rfl : u = Value.bool b := ru; exact PySem.P.repr_of_bool ⟨.str _, H, I.tok _, ⟨_, rfl⟩, q⟩
            | int i =>
              obtain ⟨t, rfl⟩ := ru
              exact PySem.P.repr_of_int (of_decide_eq_true c1) ⟨.str _, H, I.tok _, ⟨_, rfl⟩, q⟩
            | str y =>
              obtain ⟨t, rfl⟩ := ru
              exact PySem.P.repr_of_str ⟨.str _, H, I.tok _, ⟨_, rfl⟩, q⟩ hsz
            | lst _ _ => exact tail _ rfl
            | tup _ _ => exact tail _ rfl
          · cases hz
        · cases hz
    · exact fin.elim
  · exact fin.elim
end
end G

/-! G, part F: tests, statements, targets, loops, comprehensions. -/
namespace G
open PySem PySem.Spec PyProof.Rows L2

/-! ### truth, tests -/
def truP (S : Store) : PV → Option Bool
  | .non => some false
  | .bl b => some b
  | .int i => some (i != 0)
  | .str y => if y.length ≤ LN then some ((y.length : Int) != 0) else none
  | .tup xs => some (!xs.isEmpty)
  | .fl xs => some (!xs.isEmpty)
  | .loc n => match S[n]? with
    | some (.lst xs) => some (!xs.isEmpty)
    | some (.dk kvs) => some (!kvs.isEmpty)
    | _ => none
  | _ => none
theorem Rls.isEmpty {K : PySem.W.Frag} {m : List Addr} {H : Hp} {xs : List PV} {vs : List V} (r : Rls K m H xs vs) : xs.isEmpty = vs.isEmpty := by
  cases r <;> rfl
theorem tru_of {K : PySem.W.Frag} {m : List Addr} {H : Hp} {S : Store} {x : PV} {v : V} {k : Bool} (r : RS K m S H) (rx : Rl K m H x v) (h : truP S x = some k) : TruV K v H k := by
  cases rx with
  | non => cases h; rfl
  | bl b => cases h; rfl
  | int i => cases h; rfl
  | str y =>
    have h' : (if y.length ≤ LN then some ((y.length : Int) != 0) else none) = some k := h
    split at h'
    · rename_i hl; cases h'; exact ⟨ln_ok hl, rfl⟩
    · cases h'
  | ty n => cases h
  | ref a => cases h
  | tup ht rs => cases h; exact .inr (.inl ⟨_, ht, by rw [rs.isEmpty]⟩)
  | fl ht rs => cases h; exact .inl ⟨_, ht.sq, by rw [rs.isEmpty]⟩
  | @loc n a hn =>
    have h' : (match S[n]? with | some (.lst xs) => some (!xs.isEmpty) | some (.dk kvs) => some (!kvs.isEmpty) | _ => none) = some k := h
    split at h'
    · rename_i e; cases h'; obtain ⟨vs, h1, h2⟩ := r.at_ n _ a e hn; exact .inl ⟨vs, SqL.of h1, by rw [h2.isEmpty]⟩
    · rename_i kvs e
      cases h'
      obtain ⟨us, h1, h2⟩ := r.at_ n _ a e hn
      refine .inr (.inr ⟨us, h1, ?_⟩)
      have e1 := congrArg List.length h2.1
      rw [List.length_map, List.length_map] at e1
      cases kvs <;> cases us <;> first | rfl | cases e1
    · cases h'
def oT (S : Store) (x : PV) : Out Bool := match truP S x with
  | some b => .ok b S
  | none => .bad
def oBl (x : PV) (S : Store) : Out Bool := match x with
  | .bl b => .ok b S
  | _ => .bad
def bVal (f : SE) : SB := fun τ S => (f τ S).bind fun x S1 => oT S1 x
def bCmp (g : PV → PV → Store → Out PV) (f f' : SE) : SB := fun τ S => (eBin g f f' τ S).bind oBl
def bNot (f : SB) : SB := fun τ S => (f τ S).bind fun b S1 => .ok (!b) S1
def bAnd (f f' : SB) : SB := fun τ S => (f τ S).bind fun b S1 => if b then f' τ S1 else .ok false S1
def bOr (f f' : SB) : SB := fun τ S => (f τ S).bind fun b S1 => if b then .ok true S1 else f' τ S1
def bConst (b : Bool) : SB := fun _ S => .ok b S
def eAnd (f f' : SE) : SE := fun τ S => (f τ S).bind fun x S1 => match truP S1 x with
  | some true => f' τ S1
  | some false => .ok x S1
  | none => .bad
def eOr (f f' : SE) : SE := fun τ S => (f τ S).bind fun x S1 => match truP S1 x with
  | some true => .ok x S1
  | some false => f' τ S1
  | none => .bad
def eNot (f : SE) : SE := fun τ S => (f τ S).bind fun x S1 => match truP S1 x with
  | some b => .ok (.bl (!b)) S1
  | none => .bad
def eIf (c : SB) (f f' : SE) : SE := fun τ S => (c τ S).bind fun b S1 => if b then f τ S1 else f' τ S1
def eChain (g g' : PV → PV → Store → Out PV) (f f' f'' : SE) : SE := fun τ S => (f τ S).bind fun x S1 => (f' τ S1).bind fun y S2 => (g x y S2).bind fun z S3 => (oBl z S3).bind fun b S4 =>
  if b then (f'' τ S4).bind fun w S5 => g' y w S5 else .ok (.bl false) S4
section
variable {X : Cx} {e a b c : Expr} {rest : List Expr} {E : XK} {f f' f'' : SE} {t t' : SB} {pos : Pos} {g g' : PV → PV → Store → Out PV}
theorem fin_oT {K : PySem.W.Frag} {m : List Addr} {H : Hp} {S : Store} {x : PV} {v : V} {R : List Addr → Hp → Bool → Bool → Prop} {Q : Bool → Hp → Prop} (hR : ∀ b, R m H b b) (rs : RS K m S H) (rx : Rl K m H x v) (fin : Fin K R E m H Q (oT S x)) : ∃ k, TruV K v H k ∧ Q k H := by
  unfold oT at fin
  split at fin
  · rename_i k hk
    exact ⟨k, tru_of rs rx hk, fin.now rs (hR k)⟩
  · exact fin.elim
theorem t_val (h : PE X e (tE X.K E f)) (he : ∀ whole, isTrue e X.env whole = (do let v ← whole; standAt e.pos; holding [v] (truthy v))) : PT X e (tT X.K E (bVal f)) :=
  ptI (pt_truth h he) fun σ H Q ⟨m, S, τ, rs, re, fin⟩ => ⟨m, S, τ, rs, re, Fin.bind fin fun m1 H1 S1 x v l e rs1 rx fin1 => fin_oT (fun _ => rfl) rs1 rx fin1⟩
theorem fin_oBl {K : PySem.W.Frag} {m : List Addr} {H : Hp} {S : Store} {x : PV} {v : V} {Q : Bool → Hp → Prop} (rs : RS K m S H) (rx : Rl K m H x v) (fin : Fin K (fun _ _ a b => a = b) E m H Q (oBl x S)) : ∃ k, v = .bl k ∧ Q k H := by
  unfold oBl at fin
  split at fin
  · cases rx; exact ⟨_, rfl, fin.now rs rfl⟩
  · exact fin.elim
theorem t_cmp {op : CmpOp} (ho : OpR X (compareOp op) (r2 X.K E g)) (ha : PE X a (tE X.K E f)) (hb : PE X b (tE X.K E f')) (hm : behindInMarks op b = false) : PT X (.Compare a [op] [b] pos) (tT X.K E (bCmp g f f')) :=
  ptI (pt_cmpR ho ha hb hm) fun σ H Q ⟨m, S, τ, rs, re, fin⟩ => binI (f := f) (f' := f') (g := g) (t := tOp (r2 X.K E g) (tE X.K E f) (tE X.K E f')) (fun _ _ _ h => h) (fun _ _ _ _ h => h) σ H _
    ⟨m, S, τ, rs, re, Fin.bind fin fun m1 H1 S1 x v l e rs1 rx fin1 => fin_oBl rs1 rx fin1⟩
theorem t_not (h : PT X a (tT X.K E t)) : PT X (.UnaryOp .Not a pos) (tT X.K E (bNot t)) := ptI (pt_not h) fun σ H Q ⟨m, S, τ, rs, re, fin⟩ =>
  ⟨m, S, τ, rs, re, Fin.bind fin fun m1 H1 S1 x v l e rs1 rx fin1 => by cases rx; exact fin1.now rs1 rfl⟩
theorem tw_and1 (h : PT X a (tT X.K E t)) : PW X (.BoolOp .And [a] pos) (tT X.K E t) := pw_and1 h
theorem tw_or1 (h : PT X a (tT X.K E t)) : PW X (.BoolOp .Or [a] pos) (tT X.K E t) := pw_or1 h
theorem tw_and (ha : PT X a (tT X.K E t)) (hb : PW X (.BoolOp .And (b :: rest) pos) (tT X.K E t')) : PW X (.BoolOp .And (a :: b :: rest) pos) (tT X.K E (bAnd t t')) := pwI (pw_and ha hb) fun σ H Q ⟨m, S, τ, rs, re, fin⟩ =>
  ⟨m, S, τ, rs, re, Fin.bind fin fun m1 H1 S1 x v l e rs1 rx fin1 => by
    cases rx
    cases x with
    | true => exact iteT ⟨m1, S1, τ, rs1, re.mono l e, fin1⟩
    | false => exact iteF (fin1.now rs1 rfl)⟩
theorem tw_or (ha : PT X a (tT X.K E t)) (hb : PW X (.BoolOp .Or (b :: rest) pos) (tT X.K E t')) : PW X (.BoolOp .Or (a :: b :: rest) pos) (tT X.K E (bOr t t')) := pwI (pw_or ha hb) fun σ H Q ⟨m, S, τ, rs, re, fin⟩ =>
  ⟨m, S, τ, rs, re, Fin.bind fin fun m1 H1 S1 x v l e rs1 rx fin1 => by
    cases rx
    cases x with
    | false => exact iteF ⟨m1, S1, τ, rs1, re.mono l e, fin1⟩
    | true => exact iteT (fin1.now rs1 rfl)⟩
theorem g_one {op} (h : PE X a (tE X.K E f)) : PE X (.BoolOp op [a] pos) (tE X.K E f) := pe_one h
theorem truI {K : PySem.W.Frag} {m : List Addr} {H : Hp} {S : Store} {x : PV} {v : V} {A B : Out PV} {Q : VK} (rs : RS K m S H) (rx : Rl K m H x v) (fin : Fin K (Rl K) E m H Q (match truP S x with | some true => A | some false => B | none => .bad)) :
    ∃ k, TruV K v H k ∧ if k = true then Fin K (Rl K) E m H Q A else Fin K (Rl K) E m H Q B := by
  split at fin
  · rename_i h; exact ⟨true, tru_of rs rx h, iteT fin⟩
  · rename_i h; exact ⟨false, tru_of rs rx h, iteF fin⟩
  · exact fin.elim
theorem g_and (ha : PE X a (tE X.K E f)) (hb : PE X (.BoolOp .And (b :: rest) pos) (tE X.K E f')) : PE X (.BoolOp .And (a :: b :: rest) pos) (tE X.K E (eAnd f f')) := peI (pe_andT ha hb) fun σ H Q ⟨m, S, τ, rs, re, fin⟩ =>
  ⟨m, S, τ, rs, re, Fin.bind fin fun m1 H1 S1 x v l e rs1 rx fin1 => by
    obtain ⟨k, h1, h2⟩ := truI rs1 rx fin1
    refine ⟨k, h1, ?_⟩
    cases k with
    | true => exact iteT ⟨m1, S1, τ, rs1, re.mono l e, h2⟩
    | false => exact iteF (Fin.now (E := E) (show Fin X.K (Rl X.K) E m1 H1 Q (Out.ok x S1) from h2) rs1 rx)⟩
theorem g_or (ha : PE X a (tE X.K E f)) (hb : PE X (.BoolOp .Or (b :: rest) pos) (tE X.K E f')) : PE X (.BoolOp .Or (a :: b :: rest) pos) (tE X.K E (eOr f f')) := peI (pe_orT ha hb) fun σ H Q ⟨m, S, τ, rs, re, fin⟩ =>
  ⟨m, S, τ, rs, re, Fin.bind fin fun m1 H1 S1 x v l e rs1 rx fin1 => by
    obtain ⟨k, h1, h2⟩ := truI rs1 rx fin1
    refine ⟨k, h1, ?_⟩
    cases k with
    | true => exact iteT (Fin.now (E := E) (show Fin X.K (Rl X.K) E m1 H1 Q (Out.ok x S1) from h2) rs1 rx)
    | false => exact iteF ⟨m1, S1, τ, rs1, re.mono l e, h2⟩⟩
theorem g_not (ha : PE X a (tE X.K E f)) : PE X (.UnaryOp .Not a pos) (tE X.K E (eNot f)) := peI (pe_notT ha) fun σ H Q ⟨m, S, τ, rs, re, fin⟩ =>
  ⟨m, S, τ, rs, re, Fin.bind fin fun m1 H1 S1 x v l e rs1 rx fin1 => by
    split at fin1
    · rename_i k hk; exact ⟨k, tru_of rs1 rx hk, fin1.now rs1 (.bl _)⟩
    · exact fin1.elim⟩
theorem g_if (hc : PT X c (tT X.K E t)) (ha : PE X a (tE X.K E f)) (hb : PE X b (tE X.K E f')) : PE X (.IfExp c a b pos) (tE X.K E (eIf t f f')) := peI (pe_ifExp hc ha hb) fun σ H Q ⟨m, S, τ, rs, re, fin⟩ =>
  ⟨m, S, τ, rs, re, Fin.bind fin fun m1 H1 S1 x v l e rs1 rx fin1 => by
    cases rx
    cases x with
    | true => exact iteT ⟨m1, S1, τ, rs1, re.mono l e, fin1⟩
    | false => exact iteF ⟨m1, S1, τ, rs1, re.mono l e, fin1⟩⟩
theorem chainI : ∀ σ H Q, tE X.K E (eChain g g' f f' f'') σ H Q → tChain (r2 X.K E g) (r2 X.K E g') (tE X.K E f) (tE X.K E f') (tE X.K E f'') σ H Q := fun σ H Q ⟨m, S, τ, rs, re, fin⟩ =>
  ⟨m, S, τ, rs, re, Fin.bind fin fun m1 H1 S1 x v l1 e1 rs1 rx fin1 => ⟨m1, S1, τ, rs1, re.mono l1 e1, Fin.bind fin1 fun m2 H2 S2 y u l2 e2 rs2 ry fin2 =>
    ⟨m2, S2, x, y, rs2, rx.mono l2 e2, ry, Fin.bind fin2 fun m3 H3 S3 z w l3 e3 rs3 rz fin3 => by
      unfold oBl at fin3
      split at fin3
      · rename_i b
        cases rz
        refine ⟨b, rfl, ?_⟩
        cases b with
        | true => exact iteT ⟨m3, S3, τ, rs3, ((re.mono l1 e1).mono l2 e2).mono l3 e3, Fin.bind (k := fun w S5 => g' y w S5) fin3 fun m4 H4 S4 w' v' l4 e4 rs4 rw' fin4 => ⟨m4, S4, y, w', rs4, (ry.mono l3 e3).mono l4 e4, rw', fin4⟩⟩
        | false => exact iteF (Fin.now (S := S3) fin3 rs3 (.bl false))
      · exact fin3.elim⟩⟩⟩
theorem g_chain {op op' : CmpOp} (ho : OpR X (compareOp op) (r2 X.K E g)) (ho' : OpR X (compareOp op') (r2 X.K E g')) (ha : PE X a (tE X.K E f)) (hb : PE X b (tE X.K E f')) (hc : PE X c (tE X.K E f''))
    (hm : lastMarks [op, op'] [b, c] = false := by with_unfolding_all rfl) : PE X (.Compare a [op, op'] [b, c] pos) (tE X.K E (eChain g g' f f' f'')) := peI (pe_chain ho ho' ha hb hc hm) chainI
def bChain (g g' : PV → PV → Store → Out PV) (f f' f'' : SE) : SB := fun τ S => (eChain g g' f f' f'' τ S).bind oBl
theorem t_chain {op op' : CmpOp} (ho : OpR X (compareOp op) (r2 X.K E g)) (ho' : OpR X (compareOp op') (r2 X.K E g')) (ha : PE X a (tE X.K E f)) (hb : PE X b (tE X.K E f')) (hc : PE X c (tE X.K E f''))
    (hm : lastMarks [op, op'] [b, c] = false := by with_unfolding_all rfl) : PT X (.Compare a [op, op'] [b, c] pos) (tT X.K E (bChain g g' f f' f'')) := ptI (pt_chain ho ho' ha hb hc hm) fun σ H Q ⟨m, S, τ, rs, re, fin⟩ =>
  chainI σ H _ ⟨m, S, τ, rs, re, Fin.bind fin fun m1 H1 S1 x v l e rs1 rx fin1 => fin_oBl rs1 rx fin1⟩
end

/-! ### statements -/
def sNext : SS := fun τ S => .ok (.nx τ) S
def sSeq (f f' : SS) : SS := fun τ S => (f τ S).bind fun fl S1 => match fl with
  | .nx τ1 => f' τ1 S1
  | r => .ok r S1
def sDrop (f : SE) : SS := fun τ S => (f τ S).bind fun _ S1 => .ok (.nx τ) S1
def sRet (f : SE) : SS := fun τ S => (f τ S).bind fun x S1 => .ok (.rt x) S1
def sRetN : SS := fun _ S => .ok (.rt .non) S
def sBrk : SS := fun τ S => .ok (.bk τ) S
def sCont : SS := fun τ S => .ok (.ct τ) S
def sIf (c : SB) (f f' : SS) : SS := fun τ S => (c τ S).bind fun b S1 => if b then f τ S1 else f' τ S1
abbrev ST := PV → En → Store → Out En
def sAsg (f : SE) (g : ST) : SS := fun τ S => (f τ S).bind fun x S1 => (g x τ S1).bind fun τ1 S2 => .ok (.nx τ1) S2
def tG (K : PySem.W.Frag) (E : XK) (g : ST) : TG := fun v σ H Q => ∃ m S τ x, RS K m S H ∧ RE K m H τ σ ∧ Rl K m H x v ∧ Fin K (RE K) E m H Q (g x τ S)
abbrev STs := List PV → En → Store → Out En
def tGs (K : PySem.W.Frag) (E : XK) (g : STs) : TGs := fun vs σ H Q => ∃ m S τ xs, RS K m S H ∧ RE K m H τ σ ∧ Rls K m H xs vs ∧ Fin K (RE K) E m H Q (g xs τ S)
def stName (i : Nat) : ST := fun x τ S => .ok (τ.set i (some x)) S
def stNil : STs := fun xs τ S => match xs with
  | [] => .ok τ S
  | _ => .bad
def stCons (g : ST) (gs : STs) : STs := fun xs τ S => match xs with
  | x :: r => (g x τ S).bind fun τ1 S1 => gs r τ1 S1
  | _ => .bad
def stTup (n : Nat) (gs : STs) : ST := fun x τ S => match x with
  | .tup xs => if xs.length = n then gs xs τ S else .bad
  | _ => .bad
/-- o[i] = x of a list of the store -/
def vSet (o i x : PV) (S : Store) : Out Unit := match o, i with
  | .loc n, .int k => match S[n]? with
    | some (.lst xs) => match ixN xs.length k with
      | some j => .ok () (S.set n (.lst (xs.set j x)))
      | none => .bad
    | _ => .bad
  | _, _ => .bad
def stSub (fo fi : SE) (g : PV → PV → PV → Store → Out Unit) : ST := fun x τ S => (fo τ S).bind fun o S1 => (fi τ S1).bind fun i S2 => (g o i x S2).bind fun _ S3 => .ok τ S3
def sAug (i : Nat) (f : SE) (g : PV → PV → Store → Out PV) : SS := fun τ S => match τ[i]? with
  | some (some x) => (f τ S).bind fun y S1 => (g x y S1).bind fun z S2 => .ok (.nx (τ.set i (some z))) S2
  | _ => .bad
section
variable {X : Cx} {E : XK} {st : Stmt} {rest : List Stmt} {f f' : SS} {fe fo fi : SE} {e o ix : Expr} {pos : Pos} {g : ST} {gs : STs}
theorem h_nil : PSs X [] (tS X.K E sNext) := pssI pss_nil fun D σ H ⟨m, S, τ, rs, re, fin⟩ => Fin.now (b := FV.nx σ) fin rs re
theorem seqI : ∀ D σ H, tS X.K E (sSeq f f') D σ H → tSeq (tS X.K E f) (tS X.K E f') D σ H := fun D σ H ⟨m, S, τ, rs, re, fin⟩ =>
  ⟨m, S, τ, rs, re, Fin.bind fin fun m1 H1 S1 fl fv l e rs1 rf fin1 => by
    cases fl with
    | nx τ1 => cases fv with
      | nx σ1 => exact ⟨m1, S1, _, rs1, rf, fin1⟩
      | _ => exact False.elim rf
    | rt v => cases fv with
      | rt w => exact Fin.now (S := S1) (R := RFl X.K) (E := E) (a := Fl.rt v) (b := FV.rt w) (Q := qD D) fin1 rs1 rf
      | _ => exact False.elim rf
    | bk v => cases fv with
      | bk w => exact Fin.now (S := S1) (R := RFl X.K) (E := E) (a := Fl.bk v) (b := FV.bk w) (Q := qD D) fin1 rs1 rf
      | _ => exact False.elim rf
    | ct v => cases fv with
      | ct w => exact Fin.now (S := S1) (R := RFl X.K) (E := E) (a := Fl.ct v) (b := FV.ct w) (Q := qD D) fin1 rs1 rf
      | _ => exact False.elim rf⟩
theorem h_cons (h1 : PS X st (tS X.K E f)) (h2 : PSs X rest (tS X.K E f')) : PSs X (st :: rest) (tS X.K E (sSeq f f')) := pssI (pss_cons h1 h2) seqI
theorem h_one (h1 : PS X st (tS X.K E f)) : PSs X [st] (tS X.K E f) := pss_one h1
theorem h_pass : PS X (.Pass pos) (tS X.K E sNext) := psI ps_pass fun D σ H ⟨m, S, τ, rs, re, fin⟩ => Fin.now (b := FV.nx σ) fin rs re
theorem h_brk : PS X (.Break pos) (tS X.K E sBrk) := psI ps_break fun D σ H ⟨m, S, τ, rs, re, fin⟩ => Fin.now (b := FV.bk σ) fin rs re
theorem h_cont : PS X (.Continue pos) (tS X.K E sCont) := psI ps_continue fun D σ H ⟨m, S, τ, rs, re, fin⟩ => Fin.now (b := FV.ct σ) fin rs re
theorem h_expr (he : PE X e (tE X.K E fe)) (hs : swapsWith e none pos.line X.env = pure false := by rfl) : PS X (.Expr e pos) (tS X.K E (sDrop fe)) := psI (ps_expr he hs) fun D σ H ⟨m, S, τ, rs, re, fin⟩ =>
  ⟨m, S, τ, rs, re, Fin.bind fin fun m1 H1 S1 x v l e rs1 rx fin1 => Fin.now (b := FV.nx σ) fin1 rs1 (re.mono l e)⟩
theorem h_ret (he : PE X e (tE X.K E fe)) : PS X (.Return (some e) pos) (tS X.K E (sRet fe)) := psI (ps_ret he) fun D σ H ⟨m, S, τ, rs, re, fin⟩ =>
  ⟨m, S, τ, rs, re, Fin.bind fin fun m1 H1 S1 x v l e rs1 rx fin1 => Fin.now (b := FV.rt v) fin1 rs1 rx⟩
theorem h_retN : PS X (.Return none pos) (tS X.K E sRetN) := psI ps_retN fun D σ H ⟨m, S, τ, rs, re, fin⟩ => Fin.now (b := FV.rt .non) fin rs .non
theorem h_if {c : Expr} {a b : List Stmt} {t : SB} (hc : PT X c (tT X.K E t)) (ha : PSs X a (tS X.K E f)) (hb : PSs X b (tS X.K E f')) : PS X (.If c a b pos) (tS X.K E (sIf t f f')) := psI (ps_if hc ha hb) fun D σ H ⟨m, S, τ, rs, re, fin⟩ =>
  ⟨m, S, τ, rs, re, Fin.bind fin fun m1 H1 S1 x v l e rs1 rx fin1 => by
    cases rx
    cases x with
    | true => exact iteT ⟨m1, S1, τ, rs1, re.mono l e, fin1⟩
    | false => exact iteF ⟨m1, S1, τ, rs1, re.mono l e, fin1⟩⟩
theorem pgI {tg : Expr} {t t' : TG} (h : PG X tg t) (i : ∀ v σ H Q, t' v σ H Q → t v σ H Q) : PG X tg t' := ⟨fun pins s σ H v u Q I r w => h.run pins s σ H v u Q I r (i _ _ _ _ w)⟩
theorem pgsI {tg : List Expr} {t t' : TGs} (h : PGs X tg t) (i : ∀ v σ H Q, t' v σ H Q → t v σ H Q) : PGs X tg t' := ⟨fun pins s σ H v u Q I r w => h.run pins s σ H v u Q I r (i _ _ _ _ w)⟩
theorem s_name {i : Nat} {x : Str} (hN : X.N.Nodup) (hi : X.N[i]? = some x) (hx : Loc X.env.scope x) (hf : X.fn x = true ∨ X.env.scope.names.lookup x = some .local := by first | exact .inl rfl | exact .inr rfl | assumption) : PG X (.Name x pos) (tG X.K E (stName i)) :=
  pgI (pg_name hN hi hx hf) fun v σ H Q ⟨m, S, τ, x, rs, re, rx, fin⟩ => fin.now rs (re.set i rx)
theorem s_nil : PGs X [] (tGs X.K E stNil) := pgsI pgs_nil fun vs σ H Q ⟨m, S, τ, xs, rs, re, rx, fin⟩ => by
  cases rx with
  | nil => exact ⟨rfl, Fin.now (S := S) fin rs re⟩
  | cons _ _ => exact False.elim fin
theorem s_cons {es : List Expr} (h1 : PG X e (tG X.K E g)) (h2 : PGs X es (tGs X.K E gs)) (hs : (assignEach (e :: es) X.env).map (·.2) = assign e X.env :: (assignEach es X.env).map (·.2) := by rfl) : PGs X (e :: es) (tGs X.K E (stCons g gs)) :=
  pgsI (pgs_cons h1 h2 hs) fun vs σ H Q ⟨m, S, τ, xs, rs, re, rx, fin⟩ => by
  cases rx with
  | nil => exact False.elim fin
  | cons h r => exact ⟨_, _, rfl, m, S, τ, _, rs, re, h, Fin.bind (k := fun τ1 S1 => gs _ τ1 S1) fin fun m1 H1 S1 τ1 σ1 l e rs1 re1 fin1 => ⟨m1, S1, τ1, _, rs1, re1, r.mono l e, fin1⟩⟩
theorem s_tup {es : List Expr} {k n : Nat} (hc : X.calm = true) (h : PGs X es (tGs X.K E gs)) (hn : (assignEach es X.env).length = n := by rfl) (hst : (assignEach es X.env).findIdx? (·.1) = none := by rfl) : PG X (.Tuple es k pos) (tG X.K E (stTup n gs)) :=
  pgI (pg_tup hc h hn hst) fun v σ H Q ⟨m, S, τ, x, rs, re, rx, fin⟩ => by
  cases rx with
  | @tup xs vs a ht rr =>
    have fin' : Fin X.K (RE X.K) E m H Q (if xs.length = n then gs xs τ S else .bad) := fin
    split at fin'
    · rename_i hl; exact ⟨a, vs, rfl, ht, rr.length ▸ hl, m, S, τ, xs, rs, re, rr, fin'⟩
    · exact fin'.elim
  | _ => exact False.elim fin
def rSet (K : PySem.W.Frag) (E : XK) (g : PV → PV → PV → Store → Out Unit) : TSet := fun o i v H Q => ∃ m S ob ib x, RS K m S H ∧ Rl K m H ob o ∧ Rl K m H ib i ∧ Rl K m H x v ∧ Fin K (fun _ _ (_ : Unit) (_ : Unit) => True) E m H (fun _ H1 => Q H1) (g ob ib x S)
theorem o_set : PSet X (rSet X.K E vSet) := by
  intro pins s σ H o i v ov iv u Q I ro ri rv ⟨m, S, ob, ib, x, rs, r1, r2, r3, fin⟩
  unfold vSet at fin
  split at fin
  · split at fin
    · rename_i xs hS
      split at fin
      · rename_i j hj
        cases r1 with
        | @loc _ a hn =>
          cases r2
          obtain ⟨vs, h1, rr⟩ := rs.lst hS hn
          refine set_list pins s σ H _ _ v ov iv u Q I ro ri rv ⟨a, vs, _, j, rfl, rfl, h1, by rw [← rr.length]; exact hj, ?_⟩
          have ex : Ext H (upd H a (.lst (vs.set j v))) := .write h1 (fun _ z => by cases z) fun _ _ z => by cases z
          exact fin m _ () (.refl m) ex (rs.write hS hn ex ⟨_, upd_same, (rr.set j r3).mono (.refl m) ex⟩) trivial
      · exact fin.elim
    · exact fin.elim
  · exact fin.elim
theorem s_sub {gv : PV → PV → PV → Store → Out Unit} (ho : PE X o (tE X.K E fo)) (hi : PE X ix (tE X.K E fi)) (hs : PSet X (rSet X.K E gv))
    (ha : ∀ v, assign (.Subscript o ix pos) X.env v = (do
      let ov ← holding [v] (eval o X.env)
      let iv ← holding [v, ov] (eval ix X.env)
      standAt pos
      holding [v, ov, iv] (setItem ov iv v)
      release [v, ov, iv] []) := by intro _; rfl) : PG X (.Subscript o ix pos) (tG X.K E (stSub fo fi gv)) := pgI (pg_sub ho hi hs ha) fun v σ H Q ⟨m, S, τ, x, rs, re, rx, fin⟩ =>
  ⟨m, S, τ, rs, re, Fin.bind fin fun m1 H1 S1 ob ov l1 e1 rs1 r1 fin1 => ⟨m1, S1, τ, rs1, re.mono l1 e1, Fin.bind fin1 fun m2 H2 S2 ib iv l2 e2 rs2 r2 fin2 =>
    ⟨m2, S2, ob, ib, x, rs2, r1.mono l2 e2, r2, (rx.mono l1 e1).mono l2 e2, Fin.bind fin2 fun m3 H3 S3 _ _ l3 e3 rs3 _ fin3 => fin3.now rs3 (((re.mono l1 e1).mono l2 e2).mono l3 e3)⟩⟩⟩
theorem asgI : ∀ D σ H, tS X.K E (sAsg fe g) D σ H → tAsg (tE X.K E fe) (tG X.K E g) D σ H := fun D σ H ⟨m, S, τ, rs, re, fin⟩ =>
  ⟨m, S, τ, rs, re, Fin.bind fin fun m1 H1 S1 x v l e rs1 rx fin1 => ⟨m1, S1, τ, x, rs1, re.mono l e, rx, Fin.bind fin1 fun m2 H2 S2 τ2 σ2 l2 e2 rs2 re2 fin2 => Fin.now (b := FV.nx σ2) fin2 rs2 re2⟩⟩
theorem h_asg {tg : Expr} (he : PE X e (tE X.K E fe)) (hg : PG X tg (tG X.K E g)) (hs : swapsWithSole [tg] e pos.line X.env = pure false := by rfl) (hw : swappedStores [tg] e X.env = pure none := by rfl)
    (h1 : (assignEach [tg] X.env).map (·.2) = [assign tg X.env] := by rfl) : PS X (.Assign [tg] e pos) (tS X.K E (sAsg fe g)) := psI (ps_asg he hg hs hw h1) asgI
theorem h_aug {i : Nat} {x : Str} {op : Operator} {gv : PV → PV → Store → Out PV} {pos' : Pos} (hN : X.N.Nodup) (hi : X.N[i]? = some x) (hx : Loc X.env.scope x) (he : PE X e (tE X.K E fe)) (ho : OpR X (inplaceOp op) (r2 X.K E gv))
    (hf : X.fn x = true ∨ X.env.scope.names.lookup x = some .local := by first | exact .inl rfl | exact .inr rfl | assumption) : PS X (.AugAssign (.Name x pos') op e pos) (tS X.K E (sAug i fe gv)) :=
  psI (ps_aug hN hi hx he (show PIp X op (r2 X.K E gv) from fun pins s σ H x y v u Q I rx ry h => ho pins s σ H x y v u Q I rx ry h) hf) fun D σ H ⟨m, S, τ, rs, re, fin⟩ => by
  unfold sAug at fin
  split at fin
  · rename_i x hx
    obtain ⟨v, h1, h2⟩ := re.2 i x hx
    exact ⟨v, h1, m, S, τ, rs, re, Fin.bind fin fun m1 H1 S1 y u l1 e1 rs1 ry fin1 => ⟨m1, S1, x, y, rs1, h2.mono l1 e1, ry, Fin.bind fin1 fun m2 H2 S2 z w l2 e2 rs2 rz fin2 =>
      Fin.now (b := FV.nx _) fin2 rs2 (((re.mono l1 e1).mono l2 e2).set i rz)⟩⟩
  · exact fin.elim
end

/-! ### while -/
def whileF (c : SB) (b : SS) : Nat → SS
  | 0, _, _ => .bad
  | n + 1, τ, S => (c τ S).bind fun k S1 => if k then (b τ S1).bind fun fl S2 => match fl with
      | .nx τ1 => whileF c b n τ1 S2
      | .ct τ1 => whileF c b n τ1 S2
      | .bk τ1 => .ok (.nx τ1) S2
      | .rt v => .ok (.rt v) S2
    else .ok (.nx τ) S1
def sWhile (c : SB) (b : SS) : SS := fun τ S => whileF c b LN τ S
section
variable {X : Cx} {E : XK}
theorem h_while {c : Expr} {body : List Stmt} {t : SB} {f : SS} {pos : Pos} (hp : PassesOwn (model X.prog X.w) X.A X.env X.xe) (hc : PT X c (tT X.K E t)) (hb : PSs X body (tS X.K E f)) : PS X (.While c body [] pos) (tS X.K E (sWhile t f)) :=
  psI (ps_while hp hc hb) fun D σ H ⟨m, S, τ, rs, re, fin⟩ => by
  refine ⟨fun n σ H => ∃ m S τ, RS X.K m S H ∧ RE X.K m H τ σ ∧ Fin X.K (RFl X.K) E m H (qD D) (whileF t f n τ S), ⟨LN, m, S, τ, rs, re, fin⟩, ?_⟩
  rintro n σ H ⟨m, S, τ, rs, re, fin⟩
  cases n with
  | zero => exact fin.elim
  | succ n =>
    refine ⟨m, S, τ, rs, re, Fin.bind fin fun m1 H1 S1 k k' l e rs1 rk fin1 => ?_⟩
    cases rk
    cases k with
    | false => exact iteF (Fin.now (S := S1) (b := FV.nx σ) fin1 rs1 (re.mono l e))
    | true =>
      refine iteT ⟨fun σ H => ∃ m S τ, RS X.K m S H ∧ RE X.K m H τ σ ∧ Fin X.K (RFl X.K) E m H (qD D) (whileF t f n τ S), fun σ' H' h => ⟨n, Nat.lt_succ_self n, h⟩, m1, S1, τ, rs1, re.mono l e, Fin.bind fin1 fun m2 H2 S2 fl fv l2 e2 rs2 rf fin2 => ?_⟩
      cases fl with
      | nx τ1 => cases fv with
        | nx σ1 => exact ⟨m2, S2, _, rs2, rf, fin2⟩
        | _ => exact False.elim rf
      | ct τ1 => cases fv with
        | ct σ1 => exact ⟨m2, S2, _, rs2, rf, fin2⟩
        | _ => exact False.elim rf
      | bk τ1 => cases fv with
        | bk σ1 => exact Fin.now (S := S2) (R := RFl X.K) (E := E) (a := Fl.nx τ1) (b := FV.nx σ1) (Q := qD D) fin2 rs2 rf
        | _ => exact False.elim rf
      | rt v => cases fv with
        | rt w => exact Fin.now (S := S2) (R := RFl X.K) (E := E) (a := Fl.rt v) (b := FV.rt w) (Q := qD D) fin2 rs2 rf
        | _ => exact False.elim rf
end

/-! ### what is walked -/
/-- the i-th item in a store: none: not known; some none: the end -/
abbrev Src := Nat → Store → Option (Option PV)
def srcSeq (xs : List PV) : Src := fun i _ => some xs[i]?
def srcLive (n : Nat) : Src := fun i S => match S[n]? with
  | some (.lst xs) => some xs[i]?
  | _ => none
def RSrc (K : PySem.W.Frag) (m : List Addr) (H : Hp) (src : Src) (J : It) : Prop := ∀ i m' S' H', Pre m m' → Ext H H' → RS K m' S' H' → match src i S' with
  | some (some x) => J.go i H' ∧ ∀ v H'', J.yld i H' v H'' → RS K m' S' H'' ∧ Ext H' H'' ∧ Rl K m' H'' x v
  | some none => J.stop i H'
  | none => True
abbrev SI := En → Store → Out Src
def tI (K : PySem.W.Frag) (E : XK) (f : SI) : TI := fun σ H R => ∃ m S τ, RS K m S H ∧ RE K m H τ σ ∧ Fin K (RSrc K) E m H R (f τ S)
def strP (a : Str) : List PV := a.cps.toList.map fun c => .str ⟨#[c]⟩
def rangeP (lo hi : Int) : List PV := (List.range (hi - lo).toNat).map fun (i : Nat) => .int (lo + i)
/-- a value that is walked as it is -/
def srcOf (x : PV) (S : Store) : Out Src := match x with
  | .str a => .ok (srcSeq (strP a)) S
  | .tup xs => .ok (srcSeq xs) S
  | .fl xs => .ok (srcSeq xs) S
  | .loc n => match S[n]? with
    | some (.lst _) => .ok (srcLive n) S
    | _ => .bad
  | _ => .bad
def iVal (f : SE) : SI := fun τ S => (f τ S).bind srcOf
def rngOf (xs : List PV) (S : Store) : Out Src := match xs with
  | [.int j] => if -(2 ^ 62) ≤ j ∧ j < 2 ^ 62 then .ok (srcSeq (rangeP 0 j)) S else .bad
  | _ => .bad
def rngOf2 (xs : List PV) (S : Store) : Out Src := match xs with
  | [.int i, .int j] => if -(2 ^ 62) ≤ i ∧ i < 2 ^ 62 ∧ -(2 ^ 62) ≤ j ∧ j < 2 ^ 62 then .ok (srcSeq (rangeP i j)) S else .bad
  | _ => .bad
def iRange (fs : SA) : SI := fun τ S => (fs τ S).bind rngOf
def iRange2 (fs : SA) : SI := fun τ S => (fs τ S).bind rngOf2
/-- enumerate of a list, zip of two lists: the items are new pairs -/
def enumP (xs : List PV) (i : Nat) : Option PV := xs[i]?.map fun x => .tup [.int (i : Nat), x]
def zipP (xs ys : List PV) (i : Nat) : Option PV := match xs[i]?, ys[i]? with
  | some x, some y => some (.tup [x, y])
  | _, _ => none
section
variable {K : PySem.W.Frag} {m : List Addr} {H : Hp} {S : Store} {E : XK}
theorem src_str (a : Str) : RSrc K m H (srcSeq (strP a)) (Its a) := by
  intro i m' S' H' l e rs
  unfold srcSeq strP
  rw [List.getElem?_map]
  cases h : a.cps.toList[i]? with
  | none =>
    have := List.getElem?_eq_none_iff.mp h
    show a.cps.size ≤ i
    simpa using this
  | some c =>
    have hi := (List.getElem?_eq_some_iff.mp h).1
    refine ⟨show i < a.cps.size by simpa using hi, ?_⟩
    rintro v H'' ⟨rfl, c', h1, rfl⟩
    have h2 : a.cps.toList[i]? = some c' := by simpa using h1
    rw [h] at h2
    cases h2
    exact ⟨rs, .refl _, .str _⟩
theorem src_tup {xs : List PV} {vs : List V} {a : Addr} (h : SqT K H a vs) (r : Rls K m H xs vs) : RSrc K m H (srcSeq xs) (Itt K a) := by
  intro i m' S' H' l e rs
  have h' := e.sqT h
  have r' := r.mono l e
  unfold srcSeq
  cases q : xs[i]? with
  | none =>
    refine ⟨vs, h', ?_⟩
    rw [← r.length]
    exact List.getElem?_eq_none_iff.mp q
  | some x =>
    obtain ⟨v, hv, rv⟩ := r'.get q
    refine ⟨⟨vs, v, h', hv⟩, ?_⟩
    rintro w H'' ⟨rfl, hw⟩
    have e1 := hw vs h'
    rw [hv] at e1
    cases e1
    exact ⟨rs, .refl _, rv⟩
theorem src_fl {xs : List PV} {vs : List V} {a : Addr} (h : FzL K H a vs) (r : Rls K m H xs vs) : RSrc K m H (srcSeq xs) (Itl K a) := by
  intro i m' S' H' l e rs
  have h' := (e.fz h).sq
  have r' := r.mono l e
  unfold srcSeq
  cases q : xs[i]? with
  | none =>
    refine ⟨vs, h', ?_⟩
    rw [← r.length]
    exact List.getElem?_eq_none_iff.mp q
  | some x =>
    obtain ⟨v, hv, rv⟩ := r'.get q
    refine ⟨⟨vs, v, h', hv⟩, ?_⟩
    rintro w H'' ⟨rfl, hw⟩
    have e1 := hw vs h'
    rw [hv] at e1
    cases e1
    exact ⟨rs, .refl _, rv⟩
theorem src_live {n : Nat} {a : Addr} (h : m[n]? = some a) : RSrc K m H (srcLive n) (Itl K a) := by
  intro i m' S' H' l e rs
  unfold srcLive
  cases q0 : S'[n]? with
  | none => trivial
  | some o =>
    cases o with
    | lst xs =>
      obtain ⟨vs, h1, r'⟩ := rs.lst q0 (l n a h)
      have h' : SqL K H' a vs := SqL.of h1
      dsimp only
      cases q : xs[i]? with
      | none =>
        refine ⟨vs, h', ?_⟩
        rw [← r'.length]
        exact List.getElem?_eq_none_iff.mp q
      | some x =>
        obtain ⟨v, hv, rv⟩ := r'.get q
        refine ⟨⟨vs, v, h', hv⟩, ?_⟩
        rintro w H'' ⟨rfl, hw⟩
        have e1 := hw vs h'
        rw [hv] at e1
        cases e1
        exact ⟨rs, .refl _, rv⟩
    | _ => trivial
theorem src_rng (lo : Int) (n : Nat) : RSrc K m H (srcSeq ((List.range n).map fun (i : Nat) => .int (lo + i))) (Itr lo n) := by
  intro i m' S' H' l e rs
  unfold srcSeq
  rw [List.getElem?_map]
  by_cases h : i < n
  · rw [List.getElem?_range h]
    refine ⟨h, ?_⟩
    rintro w H'' ⟨rfl, rfl⟩
    exact ⟨rs, .refl _, .int _⟩
  · rw [List.getElem?_eq_none (by simpa using Nat.le_of_not_lt h)]
    exact Nat.le_of_not_lt h
end
section
variable {X : Cx} {E : XK} {tg e : Expr} {es : List Expr} {f : SE} {fs : SA}
theorem i_val (he : PE X e (tE X.K E f)) : PI X tg e (tI X.K E (iVal f)) := by
  constructor
  rintro pins s σ H R I ⟨m, S, τ, rs, re, fin⟩
  cases hf : f τ S with
  | bad => unfold iVal at fin; rw [hf] at fin; exact fin.elim
  | exc C fs' S' =>
    unfold iVal at fin; rw [hf] at fin
    -- an exception: any of the rules serves
    exact (pi_list he).run pins s σ H R I ⟨m, S, τ, rs, re, by rw [hf]; exact fin⟩
  | ok x S1 =>
    unfold iVal at fin; rw [hf] at fin
    have fin' : Fin X.K (RSrc X.K) E m H R (srcOf x S1) := fin
    cases x with
    | str a => exact (pi_str he).run pins s σ H R I ⟨m, S, τ, rs, re, by
        rw [hf]; intro m1 H1 v l e1 rs1 rx; cases rx; exact ⟨_, rfl, (Fin.base l e1 fin').now rs1 (src_str a)⟩⟩
    | tup xs => exact (pi_tup he).run pins s σ H R I ⟨m, S, τ, rs, re, by
        rw [hf]; intro m1 H1 v l e1 rs1 rx
        cases rx with
        | tup ht rr => exact ⟨_, rfl, ⟨_, ht⟩, (Fin.base l e1 fin').now rs1 (src_tup ht rr)⟩⟩
    | fl xs => exact (pi_list he).run pins s σ H R I ⟨m, S, τ, rs, re, by
        rw [hf]; intro m1 H1 v l e1 rs1 rx
        cases rx with
        | fl ht rr => exact ⟨_, rfl, ⟨_, ht.sq⟩, (Fin.base l e1 fin').now rs1 (src_fl ht rr)⟩⟩
    | loc n => exact (pi_list he).run pins s σ H R I ⟨m, S, τ, rs, re, by
        rw [hf]; intro m1 H1 v l e1 rs1 rx
        cases rx with
        | loc hn =>
          have fin2 : Fin X.K (RSrc X.K) E m H R (match S1[n]? with | some (.lst _) => .ok (srcLive n) S1 | _ => .bad) := fin'
          split at fin2
          · rename_i xs q
            obtain ⟨vs, h1, rr⟩ := rs1.lst q hn
            exact ⟨_, rfl, ⟨_, SqL.of h1⟩, (Fin.base l e1 fin2).now rs1 (src_live hn)⟩
          · exact fin2.elim⟩
    | _ => exact fin'.elim
theorem i_range1 {a : Expr} {p pos : Pos} (hg : Gl X "range") (hm : X.mg "range" = none) (ha : PA X [a] (tA X.K E fs)) (hs : starEach [a] X.env = [(false, eval a X.env)] := by rfl) : PI X tg (.Call (.Name "range" p) [a] [] pos) (tI X.K E (iRange fs)) := by
  constructor
  rintro pins s σ H R I ⟨m, S, τ, rs, re, fin⟩
  refine (pi_range1 hg hm ha hs).run pins s σ H R I ⟨m, S, τ, rs, re, Fin.bind fin fun m1 H1 S1 xs vs l e rs1 rx fin1 => ?_⟩
  unfold rngOf at fin1
  split at fin1
  · rename_i j
    split at fin1
    · rename_i h
      cases rx with
      | cons rx rn =>
        cases rn; cases rx
        refine ⟨j, rfl, h.1, h.2, fin1.now rs1 ?_⟩
        have e0 := src_rng (K := X.K) (m := m1) (H := H1) 0 j.toNat
        unfold rangeP
        rw [Int.sub_zero]
        exact e0
    · exact fin1.elim
  · exact fin1.elim
theorem i_range2 {a b : Expr} {p pos : Pos} (hg : Gl X "range") (hm : X.mg "range" = none) (ha : PA X [a, b] (tA X.K E fs)) (hs : starEach [a, b] X.env = [(false, eval a X.env), (false, eval b X.env)] := by rfl) (hs2 : starEach [b] X.env = [(false, eval b X.env)] := by rfl) :
    PI X tg (.Call (.Name "range" p) [a, b] [] pos) (tI X.K E (iRange2 fs)) := by
  constructor
  rintro pins s σ H R I ⟨m, S, τ, rs, re, fin⟩
  refine (pi_range2 hg hm ha hs hs2).run pins s σ H R I ⟨m, S, τ, rs, re, Fin.bind fin fun m1 H1 S1 xs vs l e rs1 rx fin1 => ?_⟩
  unfold rngOf2 at fin1
  split at fin1
  · rename_i i j
    split at fin1
    · rename_i h
      cases rx with
      | cons rx rn =>
        cases rn with
        | cons ry rn =>
          cases rn; cases rx; cases ry
          exact ⟨i, j, rfl, h, fin1.now rs1 (src_rng (K := X.K) (m := m1) (H := H1) i (j - i).toNat)⟩
    · exact fin1.elim
  · exact fin1.elim
end
end G

/-! G, part H: for, list comprehensions, methods of built-in types. -/
namespace G
open PySem PySem.Spec PyProof.Rows L2

def forF (src : Src) (g : ST) (b : SS) : Nat → Nat → SS
  | 0, _, _, _ => .bad
  | n + 1, i, τ, S => match src i S with
    | none => .bad
    | some none => .ok (.nx τ) S
    | some (some x) => (g x τ S).bind fun τ1 S1 => (b τ1 S1).bind fun fl S2 => match fl with
      | .nx τ2 => forF src g b n (i + 1) τ2 S2
      | .ct τ2 => forF src g b n (i + 1) τ2 S2
      | .bk τ2 => .ok (.nx τ2) S2
      | .rt v => .ok (.rt v) S2
def sFor (fi : SI) (g : ST) (b : SS) : SS := fun τ S => (fi τ S).bind fun src S1 => forF src g b LN 0 τ S1
section
variable {X : Cx} {E : XK}
theorem h_for {tg iter : Expr} {body : List Stmt} {fi : SI} {g : ST} {f : SS} {pos : Pos} (hp : PassesOwn (model X.prog X.w) X.A X.env X.xe) (hc : X.calm = true) (hi : PI X tg iter (tI X.K E fi)) (hg : PG X tg (tG X.K E g)) (hb : PSs X body (tS X.K E f))
    (hs : ∀ x, foldedSetIterable iter X.env x = pure x := by intro _; rfl) : PS X (.For tg iter body [] pos) (tS X.K E (sFor fi g f)) := psI (ps_for hp hc hi hg hb hs) fun D σ0 H0 ⟨m0, S0, τ0, rs0, re0, fin0⟩ => by
  refine ⟨m0, S0, τ0, rs0, re0, Fin.bind fin0 fun m1 H1 S1 src J l1 e1 rs1 rsrc fin1 => ?_⟩
  refine ⟨fun i n σ H => ∃ m S τ, Pre m1 m ∧ Ext H1 H ∧ RS X.K m S H ∧ RE X.K m H τ σ ∧ Fin X.K (RFl X.K) E m H (qD D) (forF src g f n i τ S), ⟨LN, m1, S1, τ0, .refl _, .refl _, rs1, re0.mono l1 e1, fin1⟩, ?_⟩
  rintro i n σ H ⟨m, S, τ, l, e, rs, re, fin⟩
  cases n with
  | zero => exact fin.elim
  | succ n =>
    have key := rsrc i m S H l e rs
    have fin' : Fin X.K (RFl X.K) E m H (qD D) (match src i S with | none => .bad | some none => .ok (.nx τ) S | some (some x) => (g x τ S).bind fun τ1 S1 => (f τ1 S1).bind fun fl S2 => match fl with | .nx τ2 => forF src g f n (i + 1) τ2 S2 | .ct τ2 => forF src g f n (i + 1) τ2 S2 | .bk τ2 => .ok (.nx τ2) S2 | .rt v => .ok (.rt v) S2) := fin
    cases q : src i S with
    | none => rw [q] at fin'; exact fin'.elim
    | some o =>
      rw [q] at fin' key
      cases o with
      | none => exact .inl ⟨key, Fin.now (S := S) (R := RFl X.K) (E := E) (a := Fl.nx τ) (b := FV.nx σ) (Q := qD D) fin' rs re⟩
      | some x =>
        refine .inr ⟨key.1, fun σ H => ∃ m S τ, Pre m1 m ∧ Ext H1 H ∧ RS X.K m S H ∧ RE X.K m H τ σ ∧ Fin X.K (RFl X.K) E m H (qD D) (forF src g f n (i + 1) τ S), fun σ' H' h => ⟨n, Nat.lt_succ_self n, h⟩, fun v H' y => ?_⟩
        obtain ⟨rs2, e2, rx⟩ := key.2 v H' y
        refine ⟨m, S, τ, x, rs2, re.mono (.refl m) e2, rx, Fin.bind (Fin.base (.refl m) e2 fin') fun m3 H3 S3 τ3 σ3 l3 e3 rs3 re3 fin3 => ⟨m3, S3, τ3, rs3, re3, Fin.bind fin3 fun m4 H4 S4 fl fv l4 e4 rs4 rf fin4 => ?_⟩⟩
        have lx : Pre m1 m4 := (l.trans l3).trans l4
        have ex : Ext H1 H4 := ((e.trans e2).trans e3).trans e4
        cases fl with
        | nx τ1 => cases fv with
          | nx σ1 => exact ⟨m4, S4, _, lx, ex, rs4, rf, fin4⟩
          | _ => exact False.elim rf
        | ct τ1 => cases fv with
          | ct σ1 => exact ⟨m4, S4, _, lx, ex, rs4, rf, fin4⟩
          | _ => exact False.elim rf
        | bk τ1 => cases fv with
          | bk σ1 => exact Fin.now (S := S4) (R := RFl X.K) (E := E) (a := Fl.nx τ1) (b := FV.nx σ1) (Q := qD D) fin4 rs4 rf
          | _ => exact False.elim rf
        | rt v => cases fv with
          | rt w => exact Fin.now (S := S4) (R := RFl X.K) (E := E) (a := Fl.rt v) (b := FV.rt w) (Q := qD D) fin4 rs4 rf
          | _ => exact False.elim rf
end

/-! ### targets of comprehensions -/
theorem wipe_get (σ : L2.St) (j : Nat) : ∀ vs : List Nat, (L2.wipe σ vs)[j]? = if j ∈ vs then (if j < σ.length then some none else none) else σ[j]?
  | [] => by simp [L2.wipe]
  | v :: vs => by
    unfold L2.wipe
    by_cases h : v = j
    · subst h
      rw [if_pos List.mem_cons_self]
      by_cases hl : v < σ.length
      · rw [if_pos hl, List.getElem?_set_self (by rw [wipe_length]; exact hl)]
      · rw [if_neg hl, List.getElem?_eq_none (by rw [List.length_set, wipe_length]; exact Nat.le_of_not_lt hl)]
    · rw [List.getElem?_set_ne h, wipe_get σ j vs]
      have : (j ∈ v :: vs) ↔ j ∈ vs := by
        rw [List.mem_cons]
        exact ⟨fun z => z.elim (fun e => absurd e.symm h) id, .inr⟩
      simp only [this]
theorem wipe_set (σ : L2.St) (vs : List Nat) (i : Nat) (hi : i ∈ vs) (y : Option V) : L2.wipe (σ.set i y) vs = L2.wipe σ vs := by
  apply List.ext_getElem?
  intro j
  rw [wipe_get, wipe_get, List.length_set]
  by_cases h : j ∈ vs
  · rw [if_pos h, if_pos h]
  · rw [if_neg h, if_neg h, List.getElem?_set_ne fun (z : i = j) => h (by rw [← z]; exact hi)]
theorem wipe_wipe (σ : L2.St) (vs : List Nat) : L2.wipe (L2.wipe σ vs) vs = L2.wipe σ vs := by
  apply List.ext_getElem?
  intro j
  rw [wipe_get, wipe_get, wipe_length]
  by_cases h : j ∈ vs
  · simp only [if_pos h]
  · simp only [if_neg h]
abbrev CT := PV → En → Option En
/-- a target that stores in the block's own slots alone -/
def TgOk (K : PySem.W.Frag) (vs : List Nat) (g : TG) (g' : CT) : Prop := ∀ m H v σ τ x τ1, RE K m H τ σ → Rl K m H x v → g' x τ = some τ1 → ∃ σ2, (∀ Q : L2.St → Hp → Prop, Q σ2 H → g v σ H Q) ∧ RE K m H τ1 σ2 ∧ L2.wipe σ2 vs = L2.wipe σ vs
def TgsOk (K : PySem.W.Frag) (vs : List Nat) (g : TGs) (g' : List PV → En → Option En) : Prop := ∀ m H ws σ τ xs τ1, RE K m H τ σ → Rls K m H xs ws → g' xs τ = some τ1 → ∃ σ2, (∀ Q : L2.St → Hp → Prop, Q σ2 H → g ws σ H Q) ∧ RE K m H τ1 σ2 ∧ L2.wipe σ2 vs = L2.wipe σ vs
def ctName (i : Nat) : CT := fun x τ => some (τ.set i (some x))
def ctNil : List PV → En → Option En := fun xs τ => match xs with
  | [] => some τ
  | _ => none
def ctCons (g : CT) (gs : List PV → En → Option En) : List PV → En → Option En := fun xs τ => match xs with
  | x :: r => (g x τ).bind fun τ1 => gs r τ1
  | _ => none
def ctTup (n : Nat) (gs : List PV → En → Option En) : CT := fun x τ => match x with
  | .tup xs => if xs.length = n then gs xs τ else none
  | _ => none
section
variable {K : PySem.W.Frag} {vs : List Nat}
theorem ct_name {i : Nat} (hi : i ∈ vs) : TgOk K vs (gName i) (ctName i) := by
  intro m H v σ τ x τ1 re rx h
  cases h
  exact ⟨_, fun Q q => q, re.set i rx, wipe_set σ vs i hi _⟩
theorem ct_nil : TgsOk K vs gNil ctNil := by
  intro m H ws σ τ xs τ1 re rx h
  cases rx with
  | nil => cases h; exact ⟨σ, fun Q q => ⟨rfl, q⟩, re, rfl⟩
  | cons _ _ => cases h
theorem ct_cons {g : TG} {gs : TGs} {g' : CT} {gs' : List PV → En → Option En} (h1 : TgOk K vs g g') (h2 : TgsOk K vs gs gs') : TgsOk K vs (gCons g gs) (ctCons g' gs') := by
  intro m H ws σ τ xs τ1 re rx h
  cases rx with
  | nil => cases h
  | @cons x v xs ws rh rr =>
    obtain ⟨τ2, e1, e2⟩ := Option.bind_eq_some_iff.mp (show (g' x τ).bind (fun τ1 => gs' xs τ1) = some τ1 from h)
    obtain ⟨σ2, a1, a2, a3⟩ := h1 m H v σ τ x τ2 re rh e1
    obtain ⟨σ3, b1, b2, b3⟩ := h2 m H ws σ2 τ2 xs τ1 a2 rr e2
    exact ⟨σ3, fun Q q => ⟨v, ws, rfl, a1 _ (b1 Q q)⟩, b2, b3.trans a3⟩
theorem ct_tup {n : Nat} {gs : TGs} {gs' : List PV → En → Option En} (h2 : TgsOk K vs gs gs') : TgOk K vs (gTup K n gs) (ctTup n gs') := by
  intro m H v σ τ x τ1 re rx h
  cases rx with
  | @tup xs ws a ht rr =>
    have h' : (if xs.length = n then gs' xs τ else none) = some τ1 := h
    split at h'
    · rename_i hl
      obtain ⟨σ2, a1, a2, a3⟩ := h2 m H ws σ τ xs τ1 re rr h'
      exact ⟨σ2, fun Q q => ⟨a, ws, rfl, ht, rr.length ▸ hl, a1 Q q⟩, a2, a3⟩
    · cases h'
  | _ => cases h
end

/-! ### list comprehensions -/
abbrev E0x : XK := fun _ _ _ => False
def noX {α : Type} (o : Out α) : Out α := match o with
  | .exc _ _ _ => .bad
  | o => o
theorem Fin.noX {α β : Type} {K : PySem.W.Frag} {m : List Addr} {H : Hp} {E : XK} {R : List Addr → Hp → α → β → Prop} {Q : β → Hp → Prop} {o : Out α} (h : Fin K R E m H Q (noX o)) : Fin K R E0x m H Q o := by
  cases o with
  | ok a S => exact h
  | exc C fs S => exact h.elim
  | bad => exact h
def compF (src : Src) (g : CT) (c : SB) (elt : SE) (D : Nat) (τ : En) : Nat → Nat → Store → Out Unit
  | 0, _, _ => .bad
  | n + 1, i, S => match src i S with
    | none => .bad
    | some none => .ok () S
    | some (some x) => match g x τ with
      | none => .bad
      | some τ2 => (noX (c τ2 S)).bind fun b S2 => if b then (noX (elt τ2 S2)).bind fun y S3 => match S3[D]? with
          | some (.lst acc) => if acc.length < LN then compF src g c elt D τ n (i + 1) (S3.set D (.lst (acc ++ [y]))) else .bad
          | _ => .bad
        else compF src g c elt D τ n (i + 1) S2
def eLc (fi : SI) (g : CT) (c : SB) (elt : SE) (vs : List Nat) : SE := fun τ S => (fi τ S).bind fun src S1 => (compF src g c elt S1.length (wipeP τ vs) LN 0 (S1 ++ [.lst []])).bind fun _ S2 => .ok (.loc S1.length) S2
def bTrue : SB := fun _ S => .ok true S
section
variable {X : Cx} {E : XK} {tg iter elt : Expr} {ifs : List Expr} {scope : Scope} {own : List (Str × Nat)} {pos : Pos} {fi : SI} {g : TG} {g' : CT} {c : SB} {f : SE}
theorem ptsI {X : Cx} {ifs : List Expr} {t t' : TT} (h : PTs X ifs t) (i : ∀ σ H Q, t' σ H Q → t σ H Q) : PTs X ifs t' := ⟨fun pins s σ H Q I w => h.run pins s σ H Q I (i _ _ _ w)⟩
theorem ts_nil : PTs X [] (tT X.K E bTrue) := ptsI pts_nil fun σ H Q ⟨m, S, τ, rs, re, fin⟩ => fin.now rs rfl
theorem ts_one {e : Expr} (h : PT X e (tT X.K E c)) : PTs X [e] (tT X.K E c) := pts_one h
theorem lcI (hg : TgOk X.K (own.map (·.2)) g g') : ∀ σ H Q, tE X.K E (eLc fi g' c f (own.map (·.2))) σ H Q → tLc (tI X.K E fi) g (tT X.K E0x c) (tE X.K E0x f) (own.map (·.2)) σ H Q := by
  rintro σ H Q ⟨m, S, τ, rs, re, fin⟩
  refine ⟨m, S, τ, rs, re, Fin.bind fin fun m1 H1 S1 src J l1 e1 rs1 rsrc fin1 => ?_⟩
  intro D hD
  have rsD : RS X.K (m1 ++ [D]) (S1 ++ [.lst []]) (upd H1 D (.lst [])) := rs1.alloc hD ⟨[], upd_same, .nil⟩
  have mD : (m1 ++ [D])[S1.length]? = some D := rs1.snoc_get D
  have reW : RE X.K m1 H1 (wipeP τ (own.map (·.2))) (L2.wipe σ (own.map (·.2))) := (re.mono l1 e1).wipe _
  have fin2 : Fin X.K (fun _ _ (_ : Unit) (_ : Unit) => True) E (m1 ++ [D]) (upd H1 D (.lst [])) (fun _ H' => Q (.ref D) H') (compF src g' c f S1.length (wipeP τ (own.map (·.2))) LN 0 (S1 ++ [.lst []])) :=
    Fin.bind (Fin.base (.snoc m1 D) (.new hD) fin1) fun m3 H3 S3 _ _ l3 e3 rs3 _ fin3 => fin3.now rs3 (.loc (l3 _ _ mD))
  refine ⟨fun i n H => ∃ m S, Pre (m1 ++ [D]) m ∧ Ext (upd H1 D (.lst [])) H ∧ RS X.K m S H ∧ Fin X.K (fun _ _ (_ : Unit) (_ : Unit) => True) E m H (fun _ H' => Q (.ref D) H') (compF src g' c f S1.length (wipeP τ (own.map (·.2))) n i S),
    ⟨LN, _, _, .refl _, .refl _, rsD, fin2⟩, ?_⟩
  rintro i n H ⟨m, S, l, e, rs, fin⟩
  cases n with
  | zero => exact fin.elim
  | succ n =>
    have lx : Pre m1 m := Pre.trans (.snoc m1 D) l
    have ex : Ext H1 H := Ext.trans (.new hD) e
    have key := rsrc i m S H lx ex rs
    unfold compF at fin
    cases q : src i S with
    | none => rw [q] at fin; exact fin.elim
    | some o =>
      rw [q] at fin key
      cases o with
      | none => exact .inl ⟨key, Fin.now (S := S) (b := ()) fin rs trivial⟩
      | some x =>
        refine .inr ⟨key.1, fun H => ∃ m S, Pre (m1 ++ [D]) m ∧ Ext (upd H1 D (.lst [])) H ∧ RS X.K m S H ∧ Fin X.K (fun _ _ (_ : Unit) (_ : Unit) => True) E m H (fun _ H' => Q (.ref D) H') (compF src g' c f S1.length (wipeP τ (own.map (·.2))) n (i + 1) S),
          fun H' h => ⟨n, Nat.lt_succ_self n, h⟩, fun v H' y => ?_⟩
        obtain ⟨rs2, e2, rx⟩ := key.2 v H' y
        dsimp only at fin
        cases q2 : g' x (wipeP τ (own.map (·.2))) with
        | none => rw [q2] at fin; exact fin.elim
        | some τ2 =>
          rw [q2] at fin
          obtain ⟨σ2, a1, a2, a3⟩ := hg m H' v (L2.wipe σ (own.map (·.2))) _ x τ2 (reW.mono lx (ex.trans e2)) rx q2
          refine a1 _ ⟨a3.trans (wipe_wipe σ _), m, S, τ2, rs2, a2, ?_⟩
          refine Fin.noX (Fin.bind (Fin.base (.refl m) e2 fin) fun m3 H3 S3 b b' l3 e3 rs3 rb fin3 => ?_)
          cases rb
          cases b with
          | false => exact iteF ⟨m3, S3, l.trans l3, (e.trans e2).trans e3, rs3, fin3⟩
          | true =>
            refine iteT ⟨m3, S3, τ2, rs3, a2.mono l3 e3, Fin.noX (E := E) (Fin.bind (R := Rl X.K) (show Fin X.K _ E m3 H3 _ ((G.noX (f τ2 S3)).bind _) from fin3) fun m4 H4 S4 z w l4 e4 rs4 rz fin4 => ?_)⟩
            have lm : Pre (m1 ++ [D]) m4 := (l.trans l3).trans l4
            split at fin4
            · rename_i acc hacc
              split at fin4
              · rename_i hlen
                have hD4 : m4[S1.length]? = some D := lm _ _ mD
                obtain ⟨ws, h1, rr⟩ := rs4.lst hacc hD4
                have ew : Ext H4 (upd H4 D (.lst (ws ++ [w]))) := .write h1 (fun _ z => by cases z) fun _ _ z => by cases z
                refine ⟨ws, h1, by rw [← rr.length]; exact Nat.lt_of_lt_of_le hlen (ln_ok (Nat.le_refl _)), m4, _, lm, (((e.trans e2).trans e3).trans e4).trans ew, rs4.write (o' := .lst (acc ++ [z])) hacc hD4 ew ⟨_, upd_same, ((rr.append (.one rz))).mono (.refl m4) ew⟩, Fin.base (.refl m4) ew fin4⟩
              · exact fin4.elim
            · exact fin4.elim
theorem g_lc (hc : X.calm = true) (hN : X.N.Nodup) (hi : PI X tg iter (tI X.K E fi)) (ok : BlkOk X.N X.env.scope scope own) (hgt : TgOk X.K (own.map (·.2)) g g')
    (hg : ∀ (s : Shared) (H : Hp) (C : Addr) (cl : List (Str × Addr)) (fp : List Addr), PG (X.blk s H scope (compEnvC scope cl C X.env) fp) tg g)
    (ht : ∀ (s : Shared) (H : Hp) (C : Addr) (cl : List (Str × Addr)) (fp : List Addr), PTs (X.blk s H scope (compEnvC scope cl C X.env) fp) ifs (tT X.K E0x c))
    (he : ∀ (s : Shared) (H : Hp) (C : Addr) (cl : List (Str × Addr)) (fp : List Addr), PE (X.blk s H scope (compEnvC scope cl C X.env) fp) elt (tE X.K E0x f)) (hs : ∀ x, foldedSetIterable iter X.env x = pure x := by intro _; rfl) :
    PE X (.ListComp elt [⟨tg, iter, ifs, 0⟩] scope pos) (tE X.K E (eLc fi g' c f (own.map (·.2)))) := peI (pe_lc hc hN hi ok hg ht he hs) (lcI hgt)
theorem h_setLc {i : Nat} {y : Str} {py spos : Pos} (hc : X.calm = true) (hN : X.N.Nodup) (hy : X.N[i]? = some y) (hyl : X.env.scope.names.lookup y = some .local) (hsw : swapsWith (.ListComp elt [⟨tg, iter, ifs, 0⟩] scope pos) (some (.Name y py)) spos.line X.env = pure true)
    (hi : PI X tg iter (tI X.K E fi)) (ok : BlkOk X.N X.env.scope scope own) (hgt : TgOk X.K (own.map (·.2)) g g')
    (hg : ∀ (s : Shared) (H : Hp) (C : Addr) (cl : List (Str × Addr)) (fp : List Addr), PG (X.blk s H scope (compEnvC scope cl C X.env) fp) tg g)
    (ht : ∀ (s : Shared) (H : Hp) (C : Addr) (cl : List (Str × Addr)) (fp : List Addr), PTs (X.blk s H scope (compEnvC scope cl C X.env) fp) ifs (tT X.K E0x c))
    (he : ∀ (s : Shared) (H : Hp) (C : Addr) (cl : List (Str × Addr)) (fp : List Addr), PE (X.blk s H scope (compEnvC scope cl C X.env) fp) elt (tE X.K E0x f)) (hs : ∀ x, foldedSetIterable iter X.env x = pure x := by intro _; rfl) :
    PS X (.Assign [.Name y py] (.ListComp elt [⟨tg, iter, ifs, 0⟩] scope pos) spos) (tS X.K E (sAsg (eLc fi g' c f (own.map (·.2))) (stName i))) :=
  psI (ps_setLc hc hN hy hyl hsw hi ok hg ht he hs) fun D σ H h => by
    have h2 := asgI D σ H h
    have h3 : tE X.K E (eLc fi g' c f (own.map (·.2))) σ H fun x H1 => gName i x σ H1 D.nx := by
      obtain ⟨m, S, τ, rs, re, fin⟩ := h2
      exact ⟨m, S, τ, rs, re, fin.imp fun v H' ⟨m', S', τ', x, rs', re', rx', fin'⟩ => Fin.now fin' rs' (re'.set i rx')⟩
    exact lcI hgt σ H _ h3
end
end G

/-! G, part I: methods of built-in types; a def's body. -/
namespace G
open PySem PySem.Spec PyProof.Rows L2

/-! ### methods -/
def strsP : List PV → Option (List Str)
  | [] => some []
  | .str x :: r => (strsP r).map (x :: ·)
  | _ => none
theorem strs_of {K : PySem.W.Frag} {m : List Addr} {H : Hp} : ∀ {xs : List PV} {vs : List V} {ys : List Str}, Rls K m H xs vs → strsP xs = some ys → vs = ys.map V.str
  | _, _, _, .nil, h => by cases h; rfl
  | _, _, _, .cons (x := x) (xs := xs) h r, e => by
    cases h with
    | str y =>
      have e' : (strsP xs).map (y :: ·) = some _ := e
      obtain ⟨ns, h1, h2⟩ := Option.map_eq_some_iff.mp e'
      subst h2
      rw [strs_of r h1]; rfl
    | _ => cases e
theorem rls_strs {K : PySem.W.Frag} {m : List Addr} {H : Hp} : ∀ ys : List Str, Rls K m H (ys.map PV.str) (ys.map V.str)
  | [] => .nil
  | y :: ys => .cons (.str y) (rls_strs ys)
def mSplit (x : PV) (xs : List PV) (S : Store) : Out PV := match x, xs with
  | .str a, [.str b] => if (b.length == 0) = false ∧ a.length + 2 ≤ LN ∧ ((Txt.split a b).map PV.str).length ≤ LN then newL ((Txt.split a b).map .str) S else .bad
  | _, _ => .bad
def mJoin (x : PV) (xs : List PV) (S : Store) : Out PV := match x, xs with
  | .str a, [y] => match (seqP S y).bind strsP with
    | some ys => if (ys.map (·.length)).sum + ys.length * a.length ≤ LN then .ok (.str (Txt.join a ys)) S else .bad
    | none => .bad
  | _, _ => .bad
def mStrip (x : PV) (xs : List PV) (S : Store) : Out PV := match x, xs with
  | .str a, [.str b] => if a.length ≤ LN then .ok (.str (Txt.stripChars a b)) S else .bad
  | _, _ => .bad
def mStartswith (x : PV) (xs : List PV) (S : Store) : Out PV := match x, xs with
  | .str a, [.str b] => .ok (.bl (Txt.startswith a b)) S
  | _, _ => .bad
def mFind (x : PV) (xs : List PV) (S : Store) : Out PV := match x, xs with
  | .str a, [.str b] => .ok (.int (Txt.find a b)) S
  | _, _ => .bad
def mAppend (x : PV) (xs : List PV) (S : Store) : Out PV := match x, xs with
  | .loc n, [y] => match S[n]? with
    | some (.lst ys) => if ys.length < LN then .ok .non (S.set n (.lst (ys ++ [y]))) else .bad
    | _ => .bad
  | _, _ => .bad
def mPop (x : PV) (xs : List PV) (S : Store) : Out PV := match x, xs with
  | .loc n, [] => match S[n]? with
    | some (.lst ys) => match ys[ys.length - 1]? with
      | some y => .ok y (S.set n (.lst ys.dropLast))
      | none => .bad
    | _ => .bad
  | _, _ => .bad
section
variable {X : Cx} {E : XK}
theorem m_split : MtR X "str.split" (rM X.K E mSplit) := by
  intro pins s σ H v vs v' us Q I rv rvs ⟨m, S, x, xs, rs, rx, rxs, fin⟩
  unfold mSplit at fin
  split at fin
  · rename_i a b
    split at fin
    · rename_i h
      cases rx
      cases rxs with
      | cons ry rn =>
        cases rn; cases ry
        exact mt_split pins s σ H _ _ v' us Q I rv rvs ⟨a, b, rfl, rfl, h.1, ln_ok h.2.1, (fin_newL rs (rls_strs _) fin).2⟩
    · exact fin.elim
  · exact fin.elim
theorem m_strip : MtR X "str.strip" (rM X.K E mStrip) := by
  intro pins s σ H v vs v' us Q I rv rvs ⟨m, S, x, xs, rs, rx, rxs, fin⟩
  unfold mStrip at fin
  split at fin
  · rename_i a b
    split at fin
    · rename_i h
      cases rx
      cases rxs with
      | cons ry rn =>
        cases rn; cases ry
        exact mt_stripChars pins s σ H _ _ v' us Q I rv rvs ⟨a, b, rfl, rfl, ln_ok h, fin.now rs (.str _)⟩
    · exact fin.elim
  · exact fin.elim
theorem m_startswith : MtR X "str.startswith" (rM X.K E mStartswith) := by
  intro pins s σ H v vs v' us Q I rv rvs ⟨m, S, x, xs, rs, rx, rxs, fin⟩
  unfold mStartswith at fin
  split at fin
  · cases rx
    cases rxs with
    | cons ry rn => cases rn; cases ry; exact mt_startswith pins s σ H _ _ v' us Q I rv rvs ⟨_, _, rfl, rfl, fin.now rs (.bl _)⟩
  · exact fin.elim
theorem m_find : MtR X "str.find" (rM X.K E mFind) := by
  intro pins s σ H v vs v' us Q I rv rvs ⟨m, S, x, xs, rs, rx, rxs, fin⟩
  unfold mFind at fin
  split at fin
  · cases rx
    cases rxs with
    | cons ry rn => cases rn; cases ry; exact mt_find pins s σ H _ _ v' us Q I rv rvs ⟨_, _, rfl, rfl, fin.now rs (.int _)⟩
  · exact fin.elim
theorem m_join : MtR X "str.join" (rM X.K E mJoin) := by
  intro pins s σ H v vs v' us Q I rv rvs ⟨m, S, x, xs, rs, rx, rxs, fin⟩
  unfold mJoin at fin
  split at fin
  · split at fin
    · rename_i ys hy
      split at fin
      · rename_i h
        obtain ⟨zs, h1, h2⟩ := Option.bind_eq_some_iff.mp hy
        cases rx
        cases rxs with
        | cons ry rn =>
          cases rn
          obtain ⟨a, ws, rfl, h3, rr⟩ := rs.seq ry h1
          rw [strs_of rr h2] at h3
          exact mt_join pins s σ H _ _ v' us Q I rv rvs ⟨_, a, ys, rfl, rfl, h3, Nat.le_trans h (by decide), fin.now rs (.str _)⟩
      · exact fin.elim
    · exact fin.elim
  · exact fin.elim
theorem m_append : MtR X "list.append" (rM X.K E mAppend) := by
  intro pins s σ H v vs v' us Q I rv rvs ⟨m, S, x, xs, rs, rx, rxs, fin⟩
  unfold mAppend at fin
  split at fin
  · split at fin
    · rename_i ys hS
      split at fin
      · rename_i hl
        cases rx with
        | @loc _ a hn =>
          cases rxs with
          | @cons _ w _ _ ry rn =>
            cases rn
            obtain ⟨ws, h1, rr⟩ := rs.lst hS hn
            have ex : Ext H (upd H a (.lst (ws ++ [w]))) := .write h1 (fun _ z => by cases z) fun _ _ z => by cases z
            exact mt_append pins s σ H _ _ v' us Q I rv rvs ⟨a, ws, _, rfl, rfl, h1, by rw [← rr.length]; exact Nat.lt_of_lt_of_le hl (ln_ok (Nat.le_refl _)),
              fin m _ _ (.refl m) ex (rs.write (o' := .lst (ys ++ [_])) hS hn ex ⟨_, upd_same, (rr.append (.one ry)).mono (.refl m) ex⟩) .non⟩
      · exact fin.elim
    · exact fin.elim
  · exact fin.elim
theorem m_pop : MtR X "list.pop" (rM X.K E mPop) := by
  intro pins s σ H v vs v' us Q I rv rvs ⟨m, S, x, xs, rs, rx, rxs, fin⟩
  unfold mPop at fin
  split at fin
  · split at fin
    · rename_i ys hS
      split at fin
      · rename_i y hy
        cases rx with
        | @loc _ a hn =>
          cases rxs
          obtain ⟨ws, h1, rr⟩ := rs.lst hS hn
          obtain ⟨w, hw, rw'⟩ := rr.get hy
          have ex : Ext H (upd H a (.lst ws.dropLast)) := .write h1 (fun _ z => by cases z) fun _ _ z => by cases z
          exact mt_pop pins s σ H _ _ v' us Q I rv rvs ⟨a, ws, w, rfl, rfl, h1, by rw [← rr.length]; exact hw,
            fin m _ _ (.refl m) ex (rs.write (o' := .lst ys.dropLast) hS hn ex ⟨_, upd_same, rr.dropLast.mono (.refl m) ex⟩) (rw'.mono (.refl m) ex)⟩
      · exact fin.elim
    · exact fin.elim
  · exact fin.elim
end
/-- the built-in types' names by values -/
def isTy (T : String) (x : PV) (S : Store) : Bool := match x with
  | .str _ => T == "str"
  | .fl _ => T == "list"
  | .loc n => match S[n]? with
    | some (.lst _) => T == "list"
    | some (.dk _) => T == "dict"
    | some (.dt _) => T == "dict"
    | _ => false
  | _ => false
theorem tyV_of {K : PySem.W.Frag} {m : List Addr} {H : Hp} {S : Store} {x : PV} {v : V} {T : String} (r : RS K m S H) (rx : Rl K m H x v) (h : isTy T x S = true) : tyV K T v H := by
  cases rx with
  | str a => exact beq_iff_eq.mp h
  | fl ht rs => exact .inl ⟨beq_iff_eq.mp h, _, ht.sq⟩
  | @loc n a hn =>
    have h' : (match S[n]? with | some (.lst _) => T == "list" | some (.dk _) => T == "dict" | some (.dt _) => T == "dict" | _ => false) = true := h
    split at h'
    · rename_i e; obtain ⟨vs, h1, _⟩ := r.at_ n _ a e hn; exact .inl ⟨beq_iff_eq.mp h', vs, SqL.of h1⟩
    · rename_i e; obtain ⟨vs, h1, _⟩ := r.at_ n _ a e hn; exact .inr (.inr (.inl ⟨beq_iff_eq.mp h', .inl ⟨vs, h1⟩⟩))
    · rename_i e; obtain ⟨vs, h1, _⟩ := r.at_ n _ a e hn; exact .inr (.inr (.inl ⟨beq_iff_eq.mp h', .inr ⟨vs, h1⟩⟩))
    · cases h'
  | _ => cases h
def eM (T : String) (g : PV → List PV → Store → Out PV) (f : SE) (fs : SA) : SE := fun τ S => (f τ S).bind fun x S1 => if isTy T x S1 then (fs τ S1).bind fun xs S2 => g x xs S2 else .bad
section
variable {X : Cx} {E : XK} {o a : Expr} {es : List Expr} {f : SE} {fs : SA} {name : Str} {apos cpos : Pos} {T id : String} {g : PV → List PV → Store → Out PV}
theorem g_m0 (pa : PlainAttrs T) (slot : Slot T name id) (hty : typeOf (.builtin id) = pure (.type "method_descriptor")) (hm : MtR X id (rM X.K E g)) (ho : PE X o (tE X.K E f))
    (hbase : attributeBase o name X.env (eval o X.env) = eval o X.env := by rfl) (hline : (apos.endLine == cpos.line) = true := by rfl) : PE X (.Call (.Attribute o name apos) [] [] cpos) (tE X.K E (eM T g f aNil)) :=
  peI (pe_bm0 pa slot hty hm ho hbase hline) fun σ H Q ⟨m, S, τ, rs, re, fin⟩ => ⟨m, S, τ, rs, re, Fin.bind fin fun m1 H1 S1 x v l e rs1 rx fin1 => by
    split at fin1
    · rename_i h; exact ⟨tyV_of rs1 rx h, m1, S1, x, [], rs1, rx, .nil, fin1⟩
    · exact fin1.elim⟩
theorem g_m (pa : PlainAttrs T) (slot : Slot T name id) (hty : typeOf (.builtin id) = pure (.type "method_descriptor")) (hm : MtR X id (rM X.K E g)) (ho : PE X o (tE X.K E f)) (ha : PA X (a :: es) (tA X.K E fs))
    (hbase : attributeBase o name X.env (eval o X.env) = eval o X.env := by rfl)
    (hfew : ((backTo cpos (starEach (a :: es) X.env)).all (fun x => !x.1) && (backToKw cpos (keywordEach [] X.env)).all (fun x => x.1.isSome)
      && decide ((a :: es).length + ([] : List Keyword).length + (if ([] : List Keyword).isEmpty then 0 else 1) < 30)) = true := by rfl)
    (hline : (apos.endLine == cpos.line) = true := by rfl) (hs : starEach (a :: es) X.env = (false, eval a X.env) :: starEach es X.env := by rfl) (hplain : (backTo cpos (starEach es X.env)).any (·.1) = false := by rfl) :
    PE X (.Call (.Attribute o name apos) (a :: es) [] cpos) (tE X.K E (eM T g f fs)) :=
  peI (pe_bm pa slot hty hm ho ha hbase hfew hline hs hplain) fun σ H Q ⟨m, S, τ, rs, re, fin⟩ => ⟨m, S, τ, rs, re, Fin.bind fin fun m1 H1 S1 x v l e rs1 rx fin1 => by
    split at fin1
    · rename_i h
      exact ⟨tyV_of rs1 rx h, m1, S1, τ, rs1, re.mono l e, Fin.bind fin1 fun m2 H2 S2 xs vs l2 e2 rs2 rxs fin2 => ⟨m2, S2, x, xs, rs2, rx.mono l2 e2, rxs, fin2⟩⟩
    · exact fin1.elim⟩
end

/-! ### a def -/
def endF (fl : Fl) (S : Store) : Out PV := match fl with
  | .nx _ => .ok .non S
  | .rt v => .ok v S
  | _ => .bad
def mkF (N : Nat) (body : SS) : List PV → Store → Out PV := fun xs S => (body (startP N xs) S).bind endF
theorem Room.room {k : Nat} {A : Around} (r : Room k A) : A.units + 100 < cLine := by have := r.un; omega
theorem fnG_mk {P : Program} {w : World} {K : PySem.W.Frag} {mg : Str → Option Value} {base : Heap} {x qual : Str} {st : Stmt} {f : Addr} {fd : FuncData} {N ps : List Str} {k : Nat} {b : SS}
    (F : Fun K x qual st f fd) (S : FnScope N ps (defScope st))
    (body : ∀ (cdv : Value) (A : Around) (outer : List Env) (s : Shared) (H : Hp) (E : XK), Room k (A.deeper (envOfC qual (defScope st) s.heap.objs.size f cdv)) → A.guards = some [] → (A.deeper (envOfC qual (defScope st) s.heap.objs.size f cdv)).units + 64 < cLine →
      (A.deeper (envOfC qual (defScope st) s.heap.objs.size f cdv)).units + 70 < cLine → (A.deeper (envOfC qual (defScope st) s.heap.objs.size f cdv)).units < cLine →
      PSs (cxOf (L2.CX P w) P w K mg base N qual (defScope st) f cdv A outer s H E) (defBody st) (tS K E b)) : FnG P w K mg base (L2.CX P w) (k + 1) f fd ps (spF K ps.length (mkF N.length b)) := by
  refine fnG_of F S (fun vs H Q E h => h.1) fun cdv A outer s H vs Q E hr hg ⟨hl, m, Sx, xs, rs, rx, fin⟩ => ⟨_, body cdv A outer s H E hr hg (by have := Room.room hr; omega) (by have := Room.room hr; omega) (by have := Room.room hr; omega), m, Sx, startP N.length xs, rs, .start rx, ?_⟩
  refine Fin.bind fin fun m1 H1 S1 fl fv l e rs1 rf fin1 => ?_
  cases fl with
  | nx τ1 => cases fv with
    | nx σ1 => exact Fin.now (S := S1) (R := Rl K) (E := E) (a := .non) (b := .non) (Q := Q) fin1 rs1 .non
    | _ => exact False.elim rf
  | rt v => cases fv with
    | rt w => exact Fin.now (S := S1) (R := Rl K) (E := E) (a := v) (b := w) (Q := Q) fin1 rs1 rf
    | _ => exact False.elim rf
  | ct τ1 => exact fin1.elim
  | bk τ1 => exact fin1.elim

/-! ### the law -/
def scrP (ns : List Int) : PV := .fl (ns.map .int)
theorem rls_ints {K : PySem.W.Frag} {m : List Addr} {H : Hp} : ∀ ns : List Int, Rls K m H (ns.map PV.int) (ns.map V.int)
  | [] => .nil
  | n :: ns => .cons (.int n) (rls_ints ns)
theorem only_fz {K : PySem.W.Frag} {H : Hp} {a : Addr} {vs : List V} (h : Only H) (q : SqL K H a vs) : FzL K H a vs := by
  rcases q with (q | q) | q
  · rcases h a with z | ⟨o, xs, z⟩
    · rw [z] at q; cases q
    · rw [z] at q; cases q
  · exact .inl q
  · exact .inr q
/-- what is left of a law: its run in the plain semantics -/
def LawTrue (F : List PV → Store → Out PV) : Prop := ∀ ns : List Int, ns.length ≤ 63 → ∃ S, F [scrP ns] [] = .ok (.bl true) S
theorem law_sp {K : PySem.W.Frag} {F : List PV → Store → Out PV} (h : LawTrue F) {H : Hp} {a : Addr} {ns : List Int} (hl : ns.length ≤ 63) (hO : Only H) (hS : SqL K H a (ns.map V.int)) :
    spF K 1 F [.ref a] H (fun v _ => v = .bl true) fun _ _ _ => False := by
  obtain ⟨S, e⟩ := h ns hl
  refine ⟨rfl, [], [], [scrP ns], ⟨rfl, fun i j a h => (by simp at h), fun i o a h => (by simp at h)⟩, .one (.fl (only_fz hO hS) (rls_ints ns)), ?_⟩
  rw [e]
  intro m' H' b _ _ _ r
  cases r
  rfl
theorem walkLaw {l : PySem.W.OpenLaw} {k : Nat} {q : Program} {loose : List Str} {XP : (Str → Option Value) → Heap → Prop} {YP : World → Heap → Prop} {d : DefRec} {K : Params → PySem.W.Frag} {x : Str} {F : List PV → Store → Out PV}
    (hn : l.most = some 63) (hdf : d.params.defaults = []) (hr : Room k callerA) (hY : ∀ (w : World) (h : Heap), YP w h → (K w.params).In h)
    (ok : ∀ (w : World) (mg : Str → Option Value) (fa : Addr) (h : Heap), (K w.params).In h → h.Ns mainGlobals mg → mg d.name = some (.ref fa) →
      ∃ fd : FuncData, (∀ (s : Shared) (u : Value), BindsTo s fd ⟨[u], []⟩ [(x, u)]) ∧ ∀ base : Heap, (K w.params).In base → base.Ns mainGlobals mg → FnG l.prog w (K w.params) mg base (L2.CX l.prog w) k fa fd [x] (spF (K w.params) 1 F))
    (ht : LawTrue F) : PySem.W.WalkO q loose XP YP l.row.toRowW d [] (fun f vs => PySem.call f vs) :=
  walkG (n := 63) (T := fun w => L2.CX l.prog w) (sp := fun w => spF (K w.params) 1 F) hn (by decide) hdf hr hY ok (fun w H a ns hl hO hS => law_sp ht hl hO hS) fun _ _ _ _ _ h => by
    obtain ⟨_, _, _, _, _, _, _, _, _, _, _, _, z⟩ := h
    exact z
end G

/-! G, part P: plain lemmas about the semantics: weakest ends, loops, comprehensions. No program. -/
namespace G
open PySem PySem.Spec PyProof.Rows L2

def Wp {α : Type} (o : Out α) (P : α → Store → Prop) : Prop := match o with
  | .ok a S => P a S
  | _ => False
section
variable {α β : Type} {a : α} {S : Store} {P P' : α → Store → Prop} {o : Out α} {k : α → Store → Out β} {Q : β → Store → Prop}
@[simp] theorem wp_ok : Wp (.ok a S) P = P a S := rfl
@[simp] theorem wp_bad : Wp (.bad : Out α) P = False := rfl
@[simp] theorem wp_bind : Wp (o.bind k) Q = Wp o fun a S => Wp (k a S) Q := by cases o <;> rfl
theorem Wp.imp (h : Wp o P) (i : ∀ a S, P a S → P' a S) : Wp o P' := by
  cases o with
  | ok a S => exact i a S h
  | _ => exact h
theorem Wp.ex (h : Wp o P) : ∃ a S, o = .ok a S ∧ P a S := by
  cases o with
  | ok a S => exact ⟨a, S, rfl, h⟩
  | _ => exact h.elim
theorem Wp.of (e : o = .ok a S) (h : P a S) : Wp o P := by rw [e]; exact h
theorem wp_ite {c : Prop} [Decidable c] {o' : Out α} (h1 : c → Wp o P) (h2 : ¬ c → Wp o' P) : Wp (if c then o else o') P := by
  by_cases h : c
  · rw [if_pos h]; exact h1 h
  · rw [if_neg h]; exact h2 h
theorem wp_pos {c : Prop} [Decidable c] {o' : Out α} (h : c) (h1 : Wp o P) : Wp (if c then o else o') P := by rw [if_pos h]; exact h1
theorem wp_neg {c : Prop} [Decidable c] {o' : Out α} (h : ¬ c) (h1 : Wp o' P) : Wp (if c then o else o') P := by rw [if_neg h]; exact h1
theorem noX_wp (h : Wp o P) : Wp (noX o) P := by
  cases o with
  | ok a S => exact h
  | _ => exact h.elim
end
theorem a30 (x y z : PV) : L2.atI [x, y, z] 0 = some x := rfl
theorem a31 (x y z : PV) : L2.atI [x, y, z] 1 = some y := rfl
theorem a32 (x y z : PV) : L2.atI [x, y, z] 2 = some z := rfl
theorem i30 : ixN 3 0 = some 0 := rfl
theorem i31 : ixN 3 1 = some 1 := rfl
theorem i32 : ixN 3 2 = some 2 := rfl
theorem mulOk_l {i j : Int} (h : -18446744073709551616 < i ∧ i < 18446744073709551616) : mulOk i j = true := decide_eq_true (.inl ⟨by omega, by omega⟩)
theorem mulOk_r {i j : Int} (h : -18446744073709551616 < j ∧ j < 18446744073709551616) : mulOk i j = true := decide_eq_true (.inr ⟨by omega, by omega⟩)
theorem ga {α : Type} (S L : List α) (k : Nat) : (S ++ L)[S.length + k]? = L[k]? := by
  rw [List.getElem?_append_right (Nat.le_add_right _ _), Nat.add_sub_cancel_left]
theorem ga0 {α : Type} (S L : List α) : (S ++ L)[S.length]? = L[0]? := by
  rw [List.getElem?_append_right (Nat.le_refl _), Nat.sub_self]
theorem gs {α : Type} (S L : List α) (k : Nat) (o : α) : (S ++ L).set (S.length + k) o = S ++ L.set k o := by
  rw [List.set_append_right _ _ (Nat.le_add_right _ _), Nat.add_sub_cancel_left]
theorem gs0 {α : Type} (S L : List α) (o : α) : (S ++ L).set S.length o = S ++ L.set 0 o := by
  rw [List.set_append_right _ _ (Nat.le_refl _), Nat.sub_self]
theorem ty_non (S : Store) : tyP S .non = some "NoneType" := rfl
theorem ty_bl (S : Store) (b : Bool) : tyP S (.bl b) = some "bool" := rfl
theorem ty_int (S : Store) (b : Int) : tyP S (.int b) = some "int" := rfl
theorem ty_str (S : Store) (b : Str) : tyP S (.str b) = some "str" := rfl
theorem ty_tup (S : Store) (b : List PV) : tyP S (.tup b) = some "tuple" := rfl
theorem ty_fl (S : Store) (b : List PV) : tyP S (.fl b) = some "list" := rfl
theorem ty_lst {S : Store} {n : Nat} {xs : List PV} (h : S[n]? = some (.lst xs)) : tyP S (.loc n) = some "list" := by unfold tyP; dsimp only; rw [h]
theorem tr_bl (S : Store) (b : Bool) : truP S (.bl b) = some b := rfl
theorem tr_int (S : Store) (b : Int) : truP S (.int b) = some (b != 0) := rfl
theorem tr_non (S : Store) : truP S .non = some false := rfl
theorem tr_tup (S : Store) (xs : List PV) : truP S (.tup xs) = some (!xs.isEmpty) := rfl
theorem tr_lst {S : Store} {n : Nat} {xs : List PV} (h : S[n]? = some (.lst xs)) : truP S (.loc n) = some (!xs.isEmpty) := by unfold truP; dsimp only; rw [h]
theorem isT_str (S : Store) (x : Str) : isTy "str" (.str x) S = true := rfl
theorem isT_lst {S : Store} {n : Nat} {xs : List PV} (h : S[n]? = some (.lst xs)) : isTy "list" (.loc n) S = true := by unfold isTy; dsimp only; rw [h]; rfl
theorem eq_ii (i j : Int) (S : Store) : eqP (.int i) (.int j) S = some (i == j) := rfl
theorem eq_ss (i j : Str) (S : Store) : eqP (.str i) (.str j) S = some (i == j) := rfl
theorem eq_bb (i j : Bool) (S : Store) : eqP (.bl i) (.bl j) S = some (i == j) := rfl
theorem eq_nn (S : Store) : eqP .non .non S = some true := rfl
theorem kit_ss : kitB "str" "str" = some true := by decide +kernel
theorem kit_sl : kitB "str" "list" = some false := by decide +kernel
theorem kit_st : kitB "str" "tuple" = some false := by decide +kernel
theorem kit_ll : kitB "list" "list" = some true := by decide +kernel
theorem kit_ls : kitB "list" "str" = some false := by decide +kernel
theorem kit_lt : kitB "list" "tuple" = some false := by decide +kernel
theorem kit_tt : kitB "tuple" "tuple" = some true := by decide +kernel
theorem kit_ts : kitB "tuple" "str" = some false := by decide +kernel
theorem kit_tl : kitB "tuple" "list" = some false := by decide +kernel
theorem kit_bs : kitB "bool" "str" = some false := by decide +kernel
theorem kit_is : kitB "int" "str" = some false := by decide +kernel
theorem kit_ns : kitB "NoneType" "str" = some false := by decide +kernel
theorem wp_seq {f f' : SS} {τ : En} {S : Store} {P : Fl → Store → Prop} : Wp (sSeq f f' τ S) P = Wp (f τ S) fun fl S1 => Wp (match fl with | .nx τ1 => f' τ1 S1 | r => .ok r S1) P := wp_bind
theorem wp_asg {f : SE} {g : ST} {τ : En} {S : Store} {P : Fl → Store → Prop} : Wp (sAsg f g τ S) P = Wp (f τ S) fun x S1 => Wp (g x τ S1) fun τ1 S2 => P (.nx τ1) S2 := by
  unfold sAsg
  simp only [wp_bind, wp_ok]
theorem wp_mkF {n : Nat} {b : SS} {xs : List PV} {S : Store} {P : PV → Store → Prop} : Wp (mkF n b xs S) P = Wp (b (startP n xs) S) fun fl S1 => Wp (endF fl S1) P := wp_bind
theorem wp_oT {b : Bool} {x : PV} {S : Store} {P : Bool → Store → Prop} (h : truP S x = some b) (q : P b S) : Wp (oT S x) P := by
  unfold oT; rw [h]; exact q

/-! ### loops over a fixed row -/
def forL (g : ST) (b : SS) : List PV → SS
  | [], τ, S => .ok (.nx τ) S
  | x :: xs, τ, S => (g x τ S).bind fun τ1 S1 => (b τ1 S1).bind fun fl S2 => match fl with
      | .nx τ2 => forL g b xs τ2 S2
      | .ct τ2 => forL g b xs τ2 S2
      | .bk τ2 => .ok (.nx τ2) S2
      | .rt v => .ok (.rt v) S2
theorem forF_seq (xs : List PV) (g : ST) (b : SS) : ∀ (n i : Nat) (τ : En) (S : Store), xs.length - i < n → forF (srcSeq xs) g b n i τ S = forL g b (xs.drop i) τ S := by
  intro n
  induction n with
  | zero => intro i τ S h; omega
  | succ n ih =>
    intro i τ S h
    unfold forF srcSeq
    by_cases hi : i < xs.length
    · rw [List.getElem?_eq_getElem hi, List.drop_eq_getElem_cons hi]
      show Out.bind _ _ = Out.bind _ _
      congr 1
      funext τ1 S1
      congr 1
      funext fl S2
      cases fl with
      | nx τ2 => exact ih (i + 1) τ2 S2 (by omega)
      | ct τ2 => exact ih (i + 1) τ2 S2 (by omega)
      | _ => rfl
    · rw [List.getElem?_eq_none (by omega), List.drop_eq_nil_of_le (by omega)]
      rfl
theorem for_seq {xs : List PV} {g : ST} {b : SS} {τ : En} {S : Store} (h : xs.length < LN) : forF (srcSeq xs) g b LN 0 τ S = forL g b xs τ S := forF_seq xs g b LN 0 τ S (by omega)
/-- a loop by an invariant: no turn leaves -/
theorem forL_inv {g : ST} {b : SS} {P : Fl → Store → Prop} (I : Nat → En → Store → Prop) : ∀ (xs : List PV) (i : Nat) (τ : En) (S : Store), I i τ S →
    (∀ j x τ S, xs[j]? = some x → I (i + j) τ S → Wp (g x τ S) fun τ1 S1 => Wp (b τ1 S1) fun fl S2 => ∃ τ2, (fl = .nx τ2 ∨ fl = .ct τ2) ∧ I (i + j + 1) τ2 S2) →
    (∀ τ S, I (i + xs.length) τ S → P (.nx τ) S) → Wp (forL g b xs τ S) P
  | [], i, τ, S, h0, _, hd => hd τ S h0
  | x :: xs, i, τ, S, h0, hs, hd => by
    unfold forL
    rw [wp_bind]
    refine (hs 0 x τ S rfl h0).imp fun τ1 S1 h1 => ?_
    rw [wp_bind]
    refine h1.imp fun fl S2 ⟨τ2, hf, h2⟩ => ?_
    have rest := forL_inv (g := g) (b := b) (P := P) I xs (i + 1) τ2 S2 h2 (fun j y τ S hj hI => by
      have z := hs (j + 1) y τ S hj (by rw [show i + (j + 1) = i + 1 + j by omega]; exact hI)
      rw [show i + (j + 1) + 1 = i + 1 + j + 1 by omega] at z
      exact z) (fun τ S hI => hd τ S (by rw [List.length_cons, show i + (xs.length + 1) = i + 1 + xs.length by omega]; exact hI))
    rcases hf with rfl | rfl
    · exact rest
    · exact rest

/-! ### list comprehensions over a fixed row -/
def compL (g : CT) (c : SB) (elt : SE) (D : Nat) (τ : En) : List PV → Store → Out Unit
  | [], S => .ok () S
  | x :: xs, S => match g x τ with
      | none => .bad
      | some τ2 => (noX (c τ2 S)).bind fun b S2 => if b then (noX (elt τ2 S2)).bind fun y S3 => match S3[D]? with
          | some (.lst acc) => if acc.length < LN then compL g c elt D τ xs (S3.set D (.lst (acc ++ [y]))) else .bad
          | _ => .bad
        else compL g c elt D τ xs S2
def pushC (k : Store → Out Unit) (D : Nat) (y : PV) (S3 : Store) : Out Unit := match S3[D]? with
  | some (.lst acc) => if acc.length < LN then k (S3.set D (.lst (acc ++ [y]))) else .bad
  | _ => .bad
theorem compL_cons {g : CT} {elt : SE} {D : Nat} {τ τ2 : En} {x : PV} {xs : List PV} {S : Store} (h : g x τ = some τ2) : compL g bTrue elt D τ (x :: xs) S = (noX (elt τ2 S)).bind (pushC (compL g bTrue elt D τ xs) D) := by
  unfold compL
  rw [h]
  rfl
theorem pushC_at {k : Store → Out Unit} {D : Nat} {y : PV} {S3 : Store} {acc : List PV} (h : S3[D]? = some (.lst acc)) (hl : acc.length < LN) : pushC k D y S3 = k (S3.set D (.lst (acc ++ [y]))) := by
  unfold pushC
  rw [h]
  exact if_pos hl
theorem compF_seq (xs : List PV) (g : CT) (c : SB) (elt : SE) (D : Nat) (τ : En) : ∀ (n i : Nat) (S : Store), xs.length - i < n → compF (srcSeq xs) g c elt D τ n i S = compL g c elt D τ (xs.drop i) S := by
  intro n
  induction n with
  | zero => intro i S h; omega
  | succ n ih =>
    intro i S h
    unfold compF srcSeq
    by_cases hi : i < xs.length
    · rw [List.getElem?_eq_getElem hi, List.drop_eq_getElem_cons hi]
      unfold compL
      dsimp only
      cases q : g xs[i] τ with
      | none => rfl
      | some τ2 =>
        show Out.bind _ _ = Out.bind _ _
        congr 1
        funext b S2
        cases b with
        | false => exact ih (i + 1) S2 (by omega)
        | true =>
          show Out.bind _ _ = Out.bind _ _
          congr 1
          funext y S3
          cases S3[D]? with
          | none => rfl
          | some o =>
            cases o with
            | lst acc =>
              show (if acc.length < LN then _ else _) = (if acc.length < LN then _ else _)
              by_cases hl : acc.length < LN
              · rw [if_pos hl, if_pos hl]; exact ih (i + 1) _ (by omega)
              · rw [if_neg hl, if_neg hl]
            | _ => rfl
    · rw [List.getElem?_eq_none (by omega), List.drop_eq_nil_of_le (by omega)]
      rfl
theorem lc_seq {fi : SI} {g : CT} {c : SB} {elt : SE} {vs : List Nat} {τ : En} {S S1 : Store} {xs : List PV} (hi : fi τ S = .ok (srcSeq xs) S1) (hl : xs.length < LN) :
    eLc fi g c elt vs τ S = (compL g c elt S1.length (wipeP τ vs) xs (S1 ++ [.lst []])).bind fun _ S2 => .ok (.loc S1.length) S2 := by
  unfold eLc
  rw [hi, Out.bind_ok, compF_seq xs g c elt S1.length _ LN 0 _ (by omega), List.drop_zero]
/-- each element a value of its item alone, the store untouched -/
theorem compL_map {g : CT} {elt : SE} {τ : En} (h : PV → PV) : ∀ (xs : List PV) (S1 : Store) (acc : List PV), acc.length + xs.length ≤ LN → (∀ x ∈ xs, ∃ τ2, g x τ = some τ2 ∧ ∀ S, elt τ2 S = .ok (h x) S) →
    compL g bTrue elt S1.length τ xs (S1 ++ [.lst acc]) = .ok () (S1 ++ [.lst (acc ++ xs.map h)])
  | [], S1, acc, _, _ => by unfold compL; rw [List.map_nil, List.append_nil]
  | x :: xs, S1, acc, hl, he => by
    obtain ⟨τ2, h1, h2⟩ := he x List.mem_cons_self
    have ih := compL_map h xs S1 (acc ++ [h x]) (by rw [List.length_append, List.length_singleton]; rw [List.length_cons] at hl; omega) fun y hy => he y (List.mem_cons_of_mem _ hy)
    have e1 : (S1 ++ [PO.lst acc])[S1.length]? = some (.lst acc) := by rw [List.getElem?_append_right (Nat.le_refl _), Nat.sub_self, List.getElem?_cons_zero]
    rw [compL_cons h1, h2]
    show pushC _ _ _ _ = _
    rw [pushC_at e1 (by rw [List.length_cons] at hl; omega), List.set_append_right _ _ (Nat.le_refl _), Nat.sub_self, List.set_cons_zero, ih, List.append_assoc]
    rfl
theorem lc_map {fi : SI} {g : CT} {elt : SE} {vs : List Nat} {τ : En} {S S1 : Store} {xs : List PV} (h : PV → PV) (hi : fi τ S = .ok (srcSeq xs) S1) (hl : xs.length < LN)
    (he : ∀ x ∈ xs, ∃ τ2, g x (wipeP τ vs) = some τ2 ∧ ∀ S, elt τ2 S = .ok (h x) S) : eLc fi g bTrue elt vs τ S = .ok (.loc S1.length) (S1 ++ [.lst (xs.map h)]) := by
  rw [lc_seq hi hl, compL_map h xs S1 [] (by simp; omega) he]
  rfl
/-- elements that change the store: by an invariant of it -/
theorem compL_inv {g : CT} {elt : SE} {τ : En} {D : Nat} (I : Nat → Store → Prop) (R : PV → Prop) : ∀ (xs : List PV) (i : Nat) (S : Store) (acc : List PV), acc.length + xs.length ≤ LN → S[D]? = some (.lst acc) → I i S →
    (∀ j x S, xs[j]? = some x → I (i + j) S → ∃ τ2, g x τ = some τ2 ∧ Wp (elt τ2 S) fun y S' => R y ∧ S'[D]? = S[D]? ∧ ∀ a, I (i + j + 1) (S'.set D a)) →
    Wp (compL g bTrue elt D τ xs S) fun _ S' => I (i + xs.length) S' ∧ ∃ ys, S'[D]? = some (.lst (acc ++ ys)) ∧ ys.length = xs.length ∧ ∀ y ∈ ys, R y
  | [], i, S, acc, _, hD, hI, _ => ⟨hI, [], by rw [List.append_nil]; exact hD, rfl, fun y h => by cases h⟩
  | x :: xs, i, S, acc, hl, hD, hI, hs => by
    obtain ⟨τ2, h1, h2⟩ := hs 0 x S rfl hI
    rw [compL_cons h1, wp_bind]
    refine (noX_wp h2).imp fun y S' ⟨hR, hD', hI'⟩ => ?_
    rw [pushC_at (hD'.trans hD) (by rw [List.length_cons] at hl; omega)]
    have hlt : D < S'.length := (List.getElem?_eq_some_iff.mp (hD'.trans hD)).1
    have ih := compL_inv (g := g) (elt := elt) (τ := τ) (D := D) I R xs (i + 1) (S'.set D (.lst (acc ++ [y]))) (acc ++ [y]) (by rw [List.length_append, List.length_singleton]; rw [List.length_cons] at hl; omega)
      (List.getElem?_set_self hlt) (hI' _) fun j z S hj hI => by
        have q := hs (j + 1) z S hj (by rw [show i + (j + 1) = i + 1 + j by omega]; exact hI)
        rw [show i + (j + 1) + 1 = i + 1 + j + 1 by omega] at q
        exact q
    refine ih.imp fun _ S2 ⟨q1, ys, q2, q3, q4⟩ => ⟨by rw [List.length_cons, show i + (xs.length + 1) = i + 1 + xs.length by omega]; exact q1, y :: ys, by rw [q2, List.append_assoc]; rfl, by rw [List.length_cons, List.length_cons, q3], fun z hz => ?_⟩
    rcases List.mem_cons.mp hz with rfl | hz
    · exact hR
    · exact q4 z hz
theorem lc_inv {fi : SI} {g : CT} {elt : SE} {vs : List Nat} {τ : En} {S S1 : Store} {xs : List PV} {P : PV → Store → Prop} (I : Nat → Store → Prop) (R : PV → Prop) (hi : fi τ S = .ok (srcSeq xs) S1) (hl : xs.length < LN) (h0 : I 0 (S1 ++ [.lst []]))
    (hs : ∀ j x S, xs[j]? = some x → I j S → ∃ τ2, g x (wipeP τ vs) = some τ2 ∧ Wp (elt τ2 S) fun y S' => R y ∧ S'[S1.length]? = S[S1.length]? ∧ ∀ a, I (j + 1) (S'.set S1.length a))
    (hd : ∀ S' ys, I xs.length S' → S'[S1.length]? = some (.lst ys) → ys.length = xs.length → (∀ y ∈ ys, R y) → P (.loc S1.length) S') : Wp (eLc fi g bTrue elt vs τ S) P := by
  rw [lc_seq hi hl, wp_bind]
  refine (compL_inv (D := S1.length) I R xs 0 _ [] (by simp; omega) (by simp) h0 fun j x S hj hI => ?_).imp fun _ S' ⟨q1, ys, q2, q3, q4⟩ => ?_
  · rw [Nat.zero_add] at hI ⊢
    exact hs j x S hj hI
  · rw [Nat.zero_add] at q1
    exact hd S' ys q1 q2 q3 q4

/-! ### any source that tells the items of a fixed row while an invariant holds -/
theorem forF_inv {src : Src} {g : ST} {b : SS} {P : Fl → Store → Prop} (xs : List PV) (I : Nat → En → Store → Prop) (hsrc : ∀ i τ S, I i τ S → src i S = some xs[i]?)
    (hs : ∀ i x τ S, xs[i]? = some x → I i τ S → Wp (g x τ S) fun τ1 S1 => Wp (b τ1 S1) fun fl S2 => ∃ τ2, (fl = .nx τ2 ∨ fl = .ct τ2) ∧ I (i + 1) τ2 S2)
    (hd : ∀ τ S, I xs.length τ S → P (.nx τ) S) : ∀ (n i : Nat) (τ : En) (S : Store), xs.length - i < n → i ≤ xs.length → I i τ S → Wp (forF src g b n i τ S) P := by
  intro n
  induction n with
  | zero => intro i τ S h; omega
  | succ n ih =>
    intro i τ S h hi hI
    unfold forF
    rw [hsrc i τ S hI]
    by_cases hl : i < xs.length
    · rw [List.getElem?_eq_getElem hl]
      dsimp only
      rw [wp_bind]
      refine (hs i _ τ S (List.getElem?_eq_getElem hl) hI).imp fun τ1 S1 h1 => ?_
      rw [wp_bind]
      refine h1.imp fun fl S2 ⟨τ2, hf, h2⟩ => ?_
      rcases hf with rfl | rfl
      · exact ih (i + 1) τ2 S2 (by omega) (by omega) h2
      · exact ih (i + 1) τ2 S2 (by omega) (by omega) h2
    · rw [List.getElem?_eq_none (by omega)]
      have e : i = xs.length := by omega
      subst e
      exact hd τ S hI
theorem for_inv {fi : SI} {src : Src} {g : ST} {b : SS} {P : Fl → Store → Prop} {τ : En} {S S1 : Store} (xs : List PV) (hi : fi τ S = .ok src S1) (I : Nat → En → Store → Prop) (hl : xs.length < LN) (h0 : I 0 τ S1) (hsrc : ∀ i τ S, I i τ S → src i S = some xs[i]?)
    (hs : ∀ i x τ S, xs[i]? = some x → I i τ S → Wp (g x τ S) fun τ1 S1 => Wp (b τ1 S1) fun fl S2 => ∃ τ2, (fl = .nx τ2 ∨ fl = .ct τ2) ∧ I (i + 1) τ2 S2)
    (hd : ∀ τ S, I xs.length τ S → P (.nx τ) S) : Wp (sFor fi g b τ S) P := by
  unfold sFor
  rw [hi]
  exact forF_inv xs I hsrc hs hd LN 0 τ S1 (by omega) (Nat.zero_le _) h0
theorem compF_map {src : Src} {g : CT} {elt : SE} {τ : En} (h : PV → PV) (xs : List PV) (S1 : Store) (hsrc : ∀ i acc, src i (S1 ++ [.lst acc]) = some xs[i]?) (he : ∀ x ∈ xs, ∃ τ2, g x τ = some τ2 ∧ ∀ S, elt τ2 S = .ok (h x) S) : ∀ (n i : Nat) (acc : List PV),
    xs.length - i < n → i ≤ xs.length → acc.length + (xs.length - i) ≤ LN → compF src g bTrue elt S1.length τ n i (S1 ++ [.lst acc]) = .ok () (S1 ++ [.lst (acc ++ (xs.drop i).map h)]) := by
  intro n
  induction n with
  | zero => intro i acc h; omega
  | succ n ih =>
    intro i acc h1 h2 h3
    unfold compF
    rw [hsrc]
    by_cases hl : i < xs.length
    · obtain ⟨τ2, e1, e2⟩ := he xs[i] (List.getElem_mem hl)
      rw [List.getElem?_eq_getElem hl, List.drop_eq_getElem_cons hl, List.map_cons]
      dsimp only
      rw [e1]
      have ih' := ih (i + 1) (acc ++ [h xs[i]]) (by omega) (by omega) (by rw [List.length_append, List.length_singleton]; omega)
      have e3 : (S1 ++ [PO.lst acc])[S1.length]? = some (.lst acc) := by rw [List.getElem?_append_right (Nat.le_refl _), Nat.sub_self, List.getElem?_cons_zero]
      show Out.bind (noX (elt τ2 _)) (pushC (compF src g bTrue elt S1.length τ n (i + 1)) S1.length) = _
      rw [e2]
      show pushC _ _ _ _ = _
      rw [pushC_at e3 (by omega), List.set_append_right _ _ (Nat.le_refl _), Nat.sub_self, List.set_cons_zero, ih', List.append_assoc]
      rfl
    · rw [List.getElem?_eq_none (by omega), List.drop_eq_nil_of_le (by omega), List.map_nil, List.append_nil]
theorem lc_mapG {fi : SI} {src : Src} {g : CT} {elt : SE} {vs : List Nat} {τ : En} {S S1 : Store} {xs : List PV} (h : PV → PV) (hi : fi τ S = .ok src S1) (hsrc : ∀ i acc, src i (S1 ++ [.lst acc]) = some xs[i]?) (hl : xs.length < LN)
    (he : ∀ x ∈ xs, ∃ τ2, g x (wipeP τ vs) = some τ2 ∧ ∀ S, elt τ2 S = .ok (h x) S) : eLc fi g bTrue elt vs τ S = .ok (.loc S1.length) (S1 ++ [.lst (xs.map h)]) := by
  unfold eLc
  rw [hi, Out.bind_ok, compF_map h xs S1 hsrc he LN 0 [] (by omega) (Nat.zero_le _) (by rw [List.length_nil]; omega)]
  rfl
theorem live_src {S1 : Store} {n : Nat} {xs : List PV} (h : S1[n]? = some (.lst xs)) (i : Nat) (acc : List PV) : srcLive n i (S1 ++ [.lst acc]) = some xs[i]? := by
  unfold srcLive
  rw [List.getElem?_append_left (List.getElem?_eq_some_iff.mp h).1, h]
theorem compF_inv {src : Src} {g : CT} {elt : SE} {τ : En} {D : Nat} (xs : List PV) (I : Nat → Store → Prop) (R : PV → Prop) (hsrc : ∀ i S, I i S → src i S = some xs[i]?)
    (hs : ∀ i x S, xs[i]? = some x → I i S → ∃ τ2, g x τ = some τ2 ∧ Wp (elt τ2 S) fun y S' => R y ∧ S'[D]? = S[D]? ∧ ∀ a, I (i + 1) (S'.set D (.lst a))) : ∀ (n i : Nat) (S : Store) (acc : List PV),
    xs.length - i < n → i ≤ xs.length → acc.length + (xs.length - i) ≤ LN → S[D]? = some (.lst acc) → I i S →
    Wp (compF src g bTrue elt D τ n i S) fun _ S' => I xs.length S' ∧ ∃ ys, S'[D]? = some (.lst (acc ++ ys)) ∧ ys.length = xs.length - i ∧ ∀ y ∈ ys, R y := by
  intro n
  induction n with
  | zero => intro i S acc h; omega
  | succ n ih =>
    intro i S acc h1 h2 h3 hD hI
    unfold compF
    rw [hsrc i S hI]
    by_cases hl : i < xs.length
    · obtain ⟨τ2, e1, e2⟩ := hs i xs[i] S (List.getElem?_eq_getElem hl) hI
      rw [List.getElem?_eq_getElem hl]
      dsimp only
      rw [e1]
      show Wp (Out.bind (noX (elt τ2 S)) (pushC (compF src g bTrue elt D τ n (i + 1)) D)) _
      rw [wp_bind]
      refine (noX_wp e2).imp fun y S' ⟨hR, hD', hI'⟩ => ?_
      rw [pushC_at (hD'.trans hD) (by omega)]
      have hlt : D < S'.length := (List.getElem?_eq_some_iff.mp (hD'.trans hD)).1
      refine (ih (i + 1) (S'.set D (.lst (acc ++ [y]))) (acc ++ [y]) (by omega) (by omega) (by rw [List.length_append, List.length_singleton]; omega) (List.getElem?_set_self hlt) (hI' _)).imp
        fun _ S2 ⟨q1, ys, q2, q3, q4⟩ => ⟨q1, y :: ys, by rw [q2, List.append_assoc]; rfl, by rw [List.length_cons, q3]; omega, fun z hz => ?_⟩
      rcases List.mem_cons.mp hz with rfl | hz
      · exact hR
      · exact q4 z hz
    · rw [List.getElem?_eq_none (by omega)]
      have e : i = xs.length := by omega
      subst e
      exact ⟨hI, [], by rw [List.append_nil]; exact hD, by simp, fun y h => by cases h⟩
theorem lc_invG {fi : SI} {src : Src} {g : CT} {elt : SE} {vs : List Nat} {τ : En} {S S1 : Store} {P : PV → Store → Prop} (xs : List PV) (I : Nat → Store → Prop) (R : PV → Prop) (hi : fi τ S = .ok src S1) (hl : xs.length < LN) (h0 : I 0 (S1 ++ [.lst []])) (hsrc : ∀ i S, I i S → src i S = some xs[i]?)
    (hs : ∀ i x S, xs[i]? = some x → I i S → ∃ τ2, g x (wipeP τ vs) = some τ2 ∧ Wp (elt τ2 S) fun y S' => R y ∧ S'[S1.length]? = S[S1.length]? ∧ ∀ a, I (i + 1) (S'.set S1.length (.lst a)))
    (hd : ∀ S' ys, I xs.length S' → S'[S1.length]? = some (.lst ys) → ys.length = xs.length → (∀ y ∈ ys, R y) → P (.loc S1.length) S') : Wp (eLc fi g bTrue elt vs τ S) P := by
  unfold eLc
  rw [hi, Out.bind_ok, wp_bind]
  refine (compF_inv (D := S1.length) xs I R hsrc hs LN 0 _ [] (by omega) (Nat.zero_le _) (by rw [List.length_nil]; omega) (by rw [List.getElem?_append_right (Nat.le_refl _), Nat.sub_self, List.getElem?_cons_zero]) h0).imp fun _ S' ⟨q1, ys, q2, q3, q4⟩ => ?_
  exact hd S' ys q1 q2 q3 q4
end G

/-! G, part Q: plain lemmas about texts. -/
namespace G
open PySem L2 TL PySem.Builtin PySem.Builtin.Str PySem.StrLaws

theorem takeWhile_all {α : Type} {p : α → Bool} : ∀ {l : List α}, (∀ c ∈ l, p c = true) → l.takeWhile p = l
  | [], _ => rfl
  | a :: l, h => by rw [List.takeWhile_cons, if_pos (h a List.mem_cons_self), takeWhile_all fun c hc => h c (List.mem_cons_of_mem _ hc)]
theorem takeWhile_part {α : Type} {p : α → Bool} : ∀ {l : List α}, ¬ (∀ c ∈ l, p c = true) → ∃ c r, l.drop (l.takeWhile p).length = c :: r ∧ p c = false
  | [], h => absurd (fun c hc => by cases hc) h
  | a :: l, h => by
    by_cases ha : p a = true
    · rw [List.takeWhile_cons, if_pos ha]
      exact takeWhile_part (l := l) fun q => h fun c hc => (List.mem_cons.mp hc).elim (fun e => e ▸ ha) (q c)
    · rw [List.takeWhile_cons, if_neg ha]
      exact ⟨a, l, rfl, by simpa using ha⟩
theorem takeWhile_lt {α : Type} {p : α → Bool} {l : List α} (h : ¬ (∀ c ∈ l, p c = true)) : (l.takeWhile p).length < l.length := by
  obtain ⟨c, r, e, _⟩ := takeWhile_part h
  have := congrArg List.length e
  rw [List.length_drop, List.length_cons] at this
  omega
theorem strip_empty (x y : Str) : tl (Txt.stripChars x y) = [] ↔ ∀ c ∈ tl x, y.cps.contains c = true := by
  unfold Txt.stripChars Txt.stripBy
  by_cases h : ∀ c ∈ tl x, y.cps.contains c = true
  · have lo : stripLo y.cps.contains true x = (tl x).length := by
      show ((tl x).takeWhile y.cps.contains).length = _
      rw [takeWhile_all h]
    split
    · rename_i hs
      unfold stripSame at hs
      rw [lo, Bool.and_eq_true_iff] at hs
      have : (tl x).length = 0 := beq_iff_eq.mp hs.1
      exact ⟨fun _ => h, fun _ => List.length_eq_zero_iff.mp this⟩
    · refine ⟨fun _ => h, fun _ => ?_⟩
      unfold stripped
      rw [tl_strSub, lo, List.drop_length, List.take_nil]
  · have hne : tl x ≠ [] := fun e => h (by rw [e]; intro c hc; cases hc)
    split
    · exact ⟨fun e => absurd e hne, fun q => absurd q h⟩
    · refine ⟨fun e => ?_, fun q => absurd q h⟩
      exfalso
      obtain ⟨c, r, e1, e2⟩ := takeWhile_part h
      unfold stripped at e
      rw [tl_strSub] at e
      have lo : stripLo y.cps.contains true x = ((tl x).takeWhile y.cps.contains).length := rfl
      rw [lo, e1] at e
      have hi : ((c :: r).reverse.takeWhile y.cps.contains).length < (c :: r).length := by
        have := takeWhile_lt (p := y.cps.contains) (l := (c :: r).reverse) fun q => by
          have := q c (List.mem_reverse.mpr List.mem_cons_self)
          rw [e2] at this
          cases this
        rw [List.length_reverse] at this
        exact this
      have e3 := congrArg List.length e1
      rw [List.length_drop] at e3
      have e4 : stripHi y.cps.contains true x ((tl x).takeWhile y.cps.contains).length = x.length - ((c :: r).reverse.takeWhile y.cps.contains).length := by
        show x.length - (((tl x).drop ((tl x).takeWhile y.cps.contains).length).reverse.takeWhile y.cps.contains).length = _
        rw [e1]
      have xl : x.length = (tl x).length := len_tl x
      rw [e4] at e
      have e5 : (c :: r).take (x.length - ((c :: r).reverse.takeWhile y.cps.contains).length - ((tl x).takeWhile y.cps.contains).length) = [] := e
      have e6 := congrArg List.length e5
      rw [List.length_take, List.length_nil] at e6
      omega
theorem mem_contains {c : Nat} {y : Str} : y.cps.contains c = true ↔ c ∈ tl y := by
  rw [Array.contains_iff_mem]
  exact Array.mem_toList_iff.symm
/-- a row of values that are texts of one sign -/
theorem strP_length (x : Str) : (strP x).length = x.length := by
  unfold strP
  rw [List.length_map]
  exact (len_tl x).symm
theorem blsP_map {α : Type} (f : α → Bool) : ∀ xs : List α, blsP (xs.map fun x => .bl (f x)) = some (xs.map f)
  | [] => rfl
  | x :: xs => by
    show (blsP (xs.map fun x => .bl (f x))).map (f x :: ·) = _
    rw [blsP_map f xs]
    rfl
theorem lstP_snoc (S : Store) (xs : List PV) : lstP (S ++ [.lst xs]) (.loc S.length) = some xs := by
  unfold lstP
  dsimp only
  rw [List.getElem?_append_right (Nat.le_refl _), Nat.sub_self, List.getElem?_cons_zero]
theorem snoc_get (S : Store) (o : G.PO) : (S ++ [o])[S.length]? = some o := by
  rw [List.getElem?_append_right (Nat.le_refl _), Nat.sub_self, List.getElem?_cons_zero]
theorem vAll_map {α : Type} (S : Store) (f : α → Bool) (xs : List α) : vAll [.loc S.length] (S ++ [.lst (xs.map fun x => .bl (f x))]) = .ok (.bl (xs.all f)) (S ++ [.lst (xs.map fun x => .bl (f x))]) := by
  unfold vAll
  dsimp only
  rw [lstP_snoc, Option.bind_some, blsP_map]
  dsimp only
  rw [List.all_map]
  rfl
theorem str_beq (a b : Str) : (a == b) = decide (tl a = tl b) := by
  by_cases h : tl a = tl b
  · rw [decide_eq_true h, ext_tl h, beq_self_eq_true]
  · rw [decide_eq_false h]
    exact beq_eq_false_iff_ne.mpr fun e => h (congrArg tl e)
theorem inS_one (c : Nat) (b : Str) : inS ⟨#[c]⟩ b = decide (c ∈ tl b) := rfl
end G

namespace Lw
open PySem PySem.Spec PyProof.Rows L2 G
def F_is_name : List PV → Store → Out PV := mkF 2 (sRet (eAnd (eArg vIsi (aCons (eVar 0) (aCons (eC (.ty "str")) aNil))) (eAnd (eBin vNe (eVar 0) (eC (.str ""))) (eArg vAll (aCons (eLc (iVal (eVar 0)) (ctName 1) bTrue (eBin vIn (eVar 1) (eC (.str "-.0123456789_abcdefghijklmnopqrstuvwxyz"))) [1]) aNil)))))
def F_is_path : List PV → Store → Out PV := mkF 3 (sSeq (sIf (bNot (bVal (eArg vIsi (aCons (eVar 0) (aCons (eC (.ty "str")) aNil))))) (sRet (eC (.bl false))) sNext)
  (sSeq (sAsg (eC (.str "/")) (stName 1))
  (sSeq (sFor (iVal (eVar 0)) (stName 2) (sSeq (sIf (bAnd (bCmp vNotIn (eVar 2) (eC (.str "-.0123456789_abcdefghijklmnopqrstuvwxyz"))) (bOr (bCmp vNe (eVar 2) (eC (.str "/"))) (bCmp vEq (eVar 1) (eC (.str "/"))))) (sRet (eC (.bl false))) sNext)
  (sAsg (eVar 2) (stName 1))))
  (sRet (eBin vNe (eVar 1) (eC (.str "/")))))))
def F_is_entry : List PV → Store → Out PV := mkF 1 (sRet (eOr (eCall 1 F_is_path [] (aCons (eVar 0) aNil)) (eAnd (eArg vIsi (aCons (eVar 0) (aCons (eC (.ty "str")) aNil))) (eAnd (eBin vEq (eSl (eVar 0) (oSome (eUn vNeg (eC (.int 1)))) oNone) (eC (.str "/"))) (eCall 1 F_is_path [] (aCons (eSl (eVar 0) oNone (oSome (eUn vNeg (eC (.int 1))))) aNil))))))
def F__law_bag : List PV → Store → Out PV := mkF 4 (sSeq (sAsg (eIf (bCmp vLt (eVar 1) (eArg vLen (aCons (eVar 0) aNil))) (eBin vIx (eVar 0) (eVar 1)) (eC (.int 0))) (stName 2))
  (sSeq (sAsg (eIf (bCmp vGe (eArg vAbs (aCons (eVar 2) aNil)) (eBin vPow (eC (.int 10)) (eC (.int 18)))) (eArg vAbs (aCons (eVar 2) aNil)) (eC (.int 0))) (stName 3))
  (sRet (eLst (aCons (eVar 3) (aCons (eBin vMod (eBin vMul (eBin vAdd (eBin vAdd (eBin vMod (eVar 2) (eC (.int 2305843009213693951))) (eBin vMul (eC (.int 7013)) (eVar 1))) (eC (.int 19))) (eC (.int 4870847))) (eC (.int 2305843009213693951))) (aCons (eC (.int 0)) aNil)))))))
def F__law_take : List PV → Store → Out PV := mkF 4 (sSeq (sIf (bCmp vGt (eBin vIx (eVar 0) (eC (.int 0))) (eC (.int 0))) (sSeq (sAsg (eBin vMod (eBin vIx (eVar 0) (eC (.int 0))) (eVar 1)) (stName 2))
  (sSeq (sAsg (eBin vDiv (eBin vIx (eVar 0) (eC (.int 0))) (eVar 1)) (stSub (eVar 0) (eC (.int 0)) vSet))
  (sRet (eVar 2)))) sNext)
  (sSeq (sAsg (eBin vAdd (eBin vIx (eVar 0) (eC (.int 2))) (eC (.int 1))) (stSub (eVar 0) (eC (.int 2)) vSet))
  (sSeq (sAsg (eBin vMod (eBin vPow (eBin vAdd (eBin vIx (eVar 0) (eC (.int 1))) (eBin vMul (eC (.int 1000033)) (eBin vIx (eVar 0) (eC (.int 2))))) (eC (.int 3))) (eC (.int 2305843009213693921))) (stName 3))
  (sSeq (sAsg (eBin vMod (eBin vPow (eBin vAdd (eVar 3) (eBin vMul (eC (.int 15485917)) (eBin vIx (eVar 0) (eC (.int 2))))) (eC (.int 2))) (eC (.int 2305843009213693951))) (stName 3))
  (sRet (eBin vMod (eBin vDiv (eVar 3) (eC (.int 2048))) (eVar 1)))))))
def F__law_any : List PV → Store → Out PV := mkF 2 (sSeq (sAsg (eLst (aCons (eC .non) (aCons (eC (.bl true)) (aCons (eC (.bl false)) (aCons (eC (.int 0)) (aCons (eC (.int 1)) (aCons (eC (.str "")) (aCons (eC (.str "a")) (aCons (eC (.str "/")) (aCons (eC (.str "a/")) (aCons (eC (.str "a/b")) (aCons (eC (.str "A")) (aCons (eC (.str ".")) (aCons (eC (.str "..")) (aCons (eC (.str "star")) (aCons (eLst aNil) (aCons (eTup aNil) (aCons (eTup (aCons (eC (.str "star")) aNil)) (aCons (eTup (aCons (eC (.str "any")) aNil)) aNil))))))))))))))))))) (stName 1))
  (sSeq (sAsg (eBin vAdd (eVar 1) (eLst (aCons (eTup (aCons (eC (.str "deep")) aNil)) (aCons (eTup (aCons (eC (.str "sign")) (aCons (eC (.str "a")) aNil))) (aCons (eTup (aCons (eC (.str "set")) (aCons (eC (.str "ab")) aNil))) (aCons (eTup (aCons (eC (.str "name")) (aCons (eTup (aCons (eTup (aCons (eC (.str "any")) aNil)) aNil)) aNil))) (aCons (eLst (aCons (eC (.str "a")) aNil)) (aCons (eTup (aCons (eC (.str "a")) aNil)) (aCons (eBin vPow (eC (.int 10)) (eC (.int 30))) aNil))))))))) (stName 1))
  (sRet (eBin vIx (eVar 1) (eCall 2 F__law_take [] (aCons (eVar 0) (aCons (eC (.int 25)) aNil)))))))
def F__law_named : List PV → Store → Out PV := mkF 1 (sRet (eAnd (eArg vIsi (aCons (eVar 0) (aCons (eC (.ty "str")) aNil))) (eAnd (eBin vNe (eVar 0) (eC (.str ""))) (eBin vEq (eM "str" mStrip (eVar 0) (aCons (eC (.str "-.0123456789_abcdefghijklmnopqrstuvwxyz")) aNil)) (eC (.str ""))))))
def F__law_is_right : List PV → Store → Out PV := mkF 4 (sSeq (sAsg (eIf (bVal (eArg vIsi (aCons (eVar 0) (aCons (eC (.ty "str")) aNil)))) (eM "str" mSplit (eVar 0) (aCons (eC (.str "/")) aNil)) (eLst (aCons (eC .non) aNil))) (stName 1))
  (sSeq (sAsg (eLst (aCons (eCall 1 F__law_named [] (aCons (eVar 0) aNil)) (aCons (eArg vAll (aCons (eLc (iVal (eVar 1)) (ctName 3) bTrue (eCall 1 F__law_named [] (aCons (eVar 3) aNil)) [3]) aNil)) aNil))) (stName 2))
  (sSeq (sDrop (eM "list" mAppend (eVar 2) (aCons (eOr (eBin vIx (eVar 2) (eC (.int 1))) (eAnd (eBin vEq (eBin vIx (eVar 1) (eUn vNeg (eC (.int 1)))) (eC (.str ""))) (eAnd (eBin vGt (eArg vLen (aCons (eVar 1) aNil)) (eC (.int 1))) (eArg vAll (aCons (eLc (iVal (eSl (eVar 1) oNone (oSome (eUn vNeg (eC (.int 1)))))) (ctName 3) bTrue (eCall 1 F__law_named [] (aCons (eVar 3) aNil)) [3]) aNil))))) aNil)))
  (sRet (eBin vEq (eArg vRepr (aCons (eLst (aCons (eCall 1 F_is_name [] (aCons (eVar 0) aNil)) (aCons (eCall 1 F_is_path [] (aCons (eVar 0) aNil)) (aCons (eCall 1 F_is_entry [] (aCons (eVar 0) aNil)) aNil)))) aNil)) (eArg vRepr (aCons (eVar 2) aNil)))))))
def F_law : List PV → Store → Out PV := mkF 8 (sSeq (sFor (iRange (aCons (eArg vMax (aCons (eC (.int 2)) (aCons (eArg vMin (aCons (eC (.int 6)) (aCons (eArg vLen (aCons (eVar 0) aNil)) aNil))) aNil))) aNil)) (stName 1) (sSeq (sAsg (eCall 2 F__law_bag [] (aCons (eVar 0) (aCons (eVar 1) aNil))) (stName 2))
  (sFor (iRange (aCons (eC (.int 20)) aNil)) (stName 3) (sSeq (sAsg (eBin vIx (eLst (aCons (eC (.str "ab.-_09z/")) (aCons (eC (.str "ab/")) (aCons (eC (.str "aA/ .")) (aCons (eC (.str "a*?[]~")) aNil))))) (eCall 2 F__law_take [] (aCons (eVar 2) (aCons (eC (.int 4)) aNil)))) (stName 4))
  (sSeq (sAsg (eM "str" mJoin (eC (.str "")) (aCons (eLc (iRange (aCons (eCall 2 F__law_take [] (aCons (eVar 2) (aCons (eC (.int 9)) aNil))) aNil)) (ctName 7) bTrue (eBin vIx (eVar 4) (eCall 2 F__law_take [] (aCons (eVar 2) (aCons (eArg vLen (aCons (eVar 4) aNil)) aNil)))) [7]) aNil)) (stName 5))
  (sIf (bOr (bNot (bVal (eCall 1 F__law_is_right [] (aCons (eVar 5) aNil)))) (bOr (bNot (bVal (eCall 1 F__law_is_right [] (aCons (eBin vAdd (eVar 5) (eC (.str "/"))) aNil)))) (bNot (bVal (eCall 1 F__law_is_right [] (aCons (eCall 1 F__law_any [] (aCons (eVar 2) aNil)) aNil)))))) (sRet (eC (.bl false))) sNext))))))
  (sSeq (sAsg (eLst (aCons (eC (.str "a\nb")) (aCons (eC (.str "a\n")) (aCons (eC (.str ".")) (aCons (eC (.str "..")) (aCons (eC (.str "a/../b")) (aCons (eC (.str "a//b")) (aCons (eC (.str "//")) (aCons (eC (.str "a/b/")) (aCons (eBin vMul (eC (.str "a")) (eC (.int 300))) (aCons (eC (.str "z-9_.")) (aCons (eC (.str "{")) (aCons (eC (.str "`")) (aCons (eC (.str "a\\")) aNil)))))))))))))) (stName 6))
  (sRet (eArg vAll (aCons (eLc (iVal (eVar 6)) (ctName 5) bTrue (eCall 1 F__law_is_right [] (aCons (eVar 5) aNil)) [5]) aNil)))))
end Lw

namespace Lw
open PySem L2 G

def BagAt (S : Store) (b : Nat) (k : Int) : Prop := ∃ d l c : Int, S[b]? = some (.lst [.int d, .int l, .int c]) ∧ 0 ≤ d ∧ 0 ≤ l ∧ l < 2305843009213693951 ∧ 0 ≤ c ∧ c ≤ k
theorem take_ok {S : Store} {b : Nat} {k n : Int} (h : BagAt S b k) (hk : k ≤ 100000) (hn : 0 < n) (hn2 : n < 1000) :
    Wp (F__law_take [.loc b, .int n] S) fun v S' => ∃ r, v = .int r ∧ 0 ≤ r ∧ r < n ∧ BagAt S' b (k + 1) ∧ ∃ o, S' = S.set b o := by
  obtain ⟨d, l, c, hS, h1, h2, h3, h4, h5⟩ := h
  have hlt : b < S.length := (List.getElem?_eq_some_iff.mp hS).1
  have n0 : ¬ n = 0 := by omega
  have n1 : -1073741824 < n := by omega
  have n2 : n < 1073741824 := by omega
  simp only [F__law_take, mkF, endF, startP, List.map_cons, List.map_nil, List.length_cons, List.length_nil, List.replicate, List.cons_append, List.nil_append, Nat.sub_zero, Nat.zero_add, Nat.reduceAdd, Nat.reduceSub, sSeq, sIf, sAsg, sRet, sRetN, sDrop, sNext, sBrk, sCont, sAug, stName, stSub, stTup, stCons, stNil, eVar, eC, eUn, eBin, eArg, eLst, eTup, aNil, aCons, eIf, eAnd, eOr, eNot, eChain, bChain, bCmp, bVal, bNot, bAnd, bOr, bTrue, eSl, oNone, oSome, eCall, eCall0, callF, eM, oBl, oB, oT, tr_bl, tr_int, tr_non, tr_tup, isT_str, beq_self_eq_true, vAdd, vSub, vMul, vDiv, vMod, vPow, vNeg, vIAdd, vIMul, vGt, vLt, vLe, vGe, lt2, ltP, vEq, vNe, eq_ii, eq_ss, eq_bb, eq_nn, vIx, seqP, lstP, newT, vSet, vLen, lenP, vAbs, vMax, vMin, cInt, vIsi, ty_non, ty_bl, ty_int, ty_str, ty_tup, ty_fl, Out.bind_ok, Out.bind_bad, wp_ok, wp_bind, List.getElem?_cons_zero, List.getElem?_cons_succ, List.getElem?_nil, List.set_cons_zero, List.set_cons_succ, List.append_nil, Option.map_some, Option.map_none, Option.bind_some, Option.bind_none, ga, ga0, gs, gs0, List.append_assoc, Nat.add_assoc, newL, LN, Nat.reduceLeDiff, Nat.reduceLT, kit_ss, kit_ts, kit_ls, kit_bs, kit_is, kit_ns, reduceCtorEq, a30, a31, a32, i30, i31, i32, decide_eq_true_eq, ne_eq, Int.reduceLT, Int.reduceLE, Int.reduceNeg, Int.reducePow, Int.reduceToNat, Int.reduceEq, Int.reduceNe, mulOk_l, List.length_set, List.length_append, imp_false, not_false_eq_true, implies_true, if_true, if_false, ite_true, ite_false, Bool.false_eq_true, Bool.not_true, Bool.not_false, forall_const, eq_self, and_true, true_and, and_self, PV.int.injEq, PV.str.injEq, PV.bl.injEq, decide_true, decide_false, hS]
  refine wp_ite (fun h => ?_) (fun h => ?_)
  · simp only [mkF, endF, startP, List.map_cons, List.map_nil, List.length_cons, List.length_nil, List.replicate, List.cons_append, List.nil_append, Nat.sub_zero, Nat.zero_add, Nat.reduceAdd, Nat.reduceSub, sSeq, sIf, sAsg, sRet, sRetN, sDrop, sNext, sBrk, sCont, sAug, stName, stSub, stTup, stCons, stNil, eVar, eC, eUn, eBin, eArg, eLst, eTup, aNil, aCons, eIf, eAnd, eOr, eNot, eChain, bChain, bCmp, bVal, bNot, bAnd, bOr, bTrue, eSl, oNone, oSome, eCall, eCall0, callF, eM, oBl, oB, oT, tr_bl, tr_int, tr_non, tr_tup, isT_str, beq_self_eq_true, vAdd, vSub, vMul, vDiv, vMod, vPow, vNeg, vIAdd, vIMul, vGt, vLt, vLe, vGe, lt2, ltP, vEq, vNe, eq_ii, eq_ss, eq_bb, eq_nn, vIx, seqP, lstP, newT, vSet, vLen, lenP, vAbs, vMax, vMin, cInt, vIsi, ty_non, ty_bl, ty_int, ty_str, ty_tup, ty_fl, Out.bind_ok, Out.bind_bad, wp_ok, wp_bind, List.getElem?_cons_zero, List.getElem?_cons_succ, List.getElem?_nil, List.set_cons_zero, List.set_cons_succ, List.append_nil, Option.map_some, Option.map_none, Option.bind_some, Option.bind_none, ga, ga0, gs, gs0, List.append_assoc, Nat.add_assoc, newL, LN, Nat.reduceLeDiff, Nat.reduceLT, kit_ss, kit_ts, kit_ls, kit_bs, kit_is, kit_ns, reduceCtorEq, a30, a31, a32, i30, i31, i32, decide_eq_true_eq, ne_eq, Int.reduceLT, Int.reduceLE, Int.reduceNeg, Int.reducePow, Int.reduceToNat, Int.reduceEq, Int.reduceNe, mulOk_l, List.length_set, List.length_append, imp_false, not_false_eq_true, implies_true, if_true, if_false, ite_true, ite_false, Bool.false_eq_true, Bool.not_true, Bool.not_false, forall_const, eq_self, and_true, true_and, and_self, PV.int.injEq, PV.str.injEq, PV.bl.injEq, decide_true, decide_false, hS, n0, n1, n2]
    refine ⟨_, rfl, Int.fmod_nonneg_of_pos _ hn, Int.fmod_lt_of_pos _ hn, ⟨d.fdiv n, l, c, List.getElem?_set_self hlt, Int.fdiv_nonneg h1 (by omega), h2, h3, h4, by omega⟩, _, rfl⟩
  · simp only [mkF, endF, startP, List.map_cons, List.map_nil, List.length_cons, List.length_nil, List.replicate, List.cons_append, List.nil_append, Nat.sub_zero, Nat.zero_add, Nat.reduceAdd, Nat.reduceSub, sSeq, sIf, sAsg, sRet, sRetN, sDrop, sNext, sBrk, sCont, sAug, stName, stSub, stTup, stCons, stNil, eVar, eC, eUn, eBin, eArg, eLst, eTup, aNil, aCons, eIf, eAnd, eOr, eNot, eChain, bChain, bCmp, bVal, bNot, bAnd, bOr, bTrue, eSl, oNone, oSome, eCall, eCall0, callF, eM, oBl, oB, oT, tr_bl, tr_int, tr_non, tr_tup, isT_str, beq_self_eq_true, vAdd, vSub, vMul, vDiv, vMod, vPow, vNeg, vIAdd, vIMul, vGt, vLt, vLe, vGe, lt2, ltP, vEq, vNe, eq_ii, eq_ss, eq_bb, eq_nn, vIx, seqP, lstP, newT, vSet, vLen, lenP, vAbs, vMax, vMin, cInt, vIsi, ty_non, ty_bl, ty_int, ty_str, ty_tup, ty_fl, Out.bind_ok, Out.bind_bad, wp_ok, wp_bind, List.getElem?_cons_zero, List.getElem?_cons_succ, List.getElem?_nil, List.set_cons_zero, List.set_cons_succ, List.append_nil, Option.map_some, Option.map_none, Option.bind_some, Option.bind_none, ga, ga0, gs, gs0, List.append_assoc, Nat.add_assoc, newL, LN, Nat.reduceLeDiff, Nat.reduceLT, kit_ss, kit_ts, kit_ls, kit_bs, kit_is, kit_ns, reduceCtorEq, a30, a31, a32, i30, i31, i32, decide_eq_true_eq, ne_eq, Int.reduceLT, Int.reduceLE, Int.reduceNeg, Int.reducePow, Int.reduceToNat, Int.reduceEq, Int.reduceNe, mulOk_l, List.length_set, List.length_append, imp_false, not_false_eq_true, implies_true, if_true, if_false, ite_true, ite_false, Bool.false_eq_true, Bool.not_true, Bool.not_false, forall_const, eq_self, and_true, true_and, and_self, PV.int.injEq, PV.str.injEq, PV.bl.injEq, decide_true, decide_false, hS, List.getElem?_set_self hlt]
    refine wp_pos (by omega) ?_
    simp only [mkF, endF, startP, List.map_cons, List.map_nil, List.length_cons, List.length_nil, List.replicate, List.cons_append, List.nil_append, Nat.sub_zero, Nat.zero_add, Nat.reduceAdd, Nat.reduceSub, sSeq, sIf, sAsg, sRet, sRetN, sDrop, sNext, sBrk, sCont, sAug, stName, stSub, stTup, stCons, stNil, eVar, eC, eUn, eBin, eArg, eLst, eTup, aNil, aCons, eIf, eAnd, eOr, eNot, eChain, bChain, bCmp, bVal, bNot, bAnd, bOr, bTrue, eSl, oNone, oSome, eCall, eCall0, callF, eM, oBl, oB, oT, tr_bl, tr_int, tr_non, tr_tup, isT_str, beq_self_eq_true, vAdd, vSub, vMul, vDiv, vMod, vPow, vNeg, vIAdd, vIMul, vGt, vLt, vLe, vGe, lt2, ltP, vEq, vNe, eq_ii, eq_ss, eq_bb, eq_nn, vIx, seqP, lstP, newT, vSet, vLen, lenP, vAbs, vMax, vMin, cInt, vIsi, ty_non, ty_bl, ty_int, ty_str, ty_tup, ty_fl, Out.bind_ok, Out.bind_bad, wp_ok, wp_bind, List.getElem?_cons_zero, List.getElem?_cons_succ, List.getElem?_nil, List.set_cons_zero, List.set_cons_succ, List.append_nil, Option.map_some, Option.map_none, Option.bind_some, Option.bind_none, ga, ga0, gs, gs0, List.append_assoc, Nat.add_assoc, newL, LN, Nat.reduceLeDiff, Nat.reduceLT, kit_ss, kit_ts, kit_ls, kit_bs, kit_is, kit_ns, reduceCtorEq, a30, a31, a32, i30, i31, i32, decide_eq_true_eq, ne_eq, Int.reduceLT, Int.reduceLE, Int.reduceNeg, Int.reducePow, Int.reduceToNat, Int.reduceEq, Int.reduceNe, mulOk_l, List.length_set, List.length_append, imp_false, not_false_eq_true, implies_true, if_true, if_false, ite_true, ite_false, Bool.false_eq_true, Bool.not_true, Bool.not_false, forall_const, eq_self, and_true, true_and, and_self, PV.int.injEq, PV.str.injEq, PV.bl.injEq, decide_true, decide_false, List.getElem?_set_self hlt]
    generalize hz : Int.fmod ((l + 1000033 * (c + 1)) ^ 3) 2305843009213693921 = z
    have hz1 : 0 ≤ z := by rw [← hz]; exact Int.fmod_nonneg_of_pos _ (by decide)
    have hz2 : z < 2305843009213693921 := by rw [← hz]; exact Int.fmod_lt_of_pos _ (by decide)
    refine wp_pos (by omega) ?_
    simp only [mkF, endF, startP, List.map_cons, List.map_nil, List.length_cons, List.length_nil, List.replicate, List.cons_append, List.nil_append, Nat.sub_zero, Nat.zero_add, Nat.reduceAdd, Nat.reduceSub, sSeq, sIf, sAsg, sRet, sRetN, sDrop, sNext, sBrk, sCont, sAug, stName, stSub, stTup, stCons, stNil, eVar, eC, eUn, eBin, eArg, eLst, eTup, aNil, aCons, eIf, eAnd, eOr, eNot, eChain, bChain, bCmp, bVal, bNot, bAnd, bOr, bTrue, eSl, oNone, oSome, eCall, eCall0, callF, eM, oBl, oB, oT, tr_bl, tr_int, tr_non, tr_tup, isT_str, beq_self_eq_true, vAdd, vSub, vMul, vDiv, vMod, vPow, vNeg, vIAdd, vIMul, vGt, vLt, vLe, vGe, lt2, ltP, vEq, vNe, eq_ii, eq_ss, eq_bb, eq_nn, vIx, seqP, lstP, newT, vSet, vLen, lenP, vAbs, vMax, vMin, cInt, vIsi, ty_non, ty_bl, ty_int, ty_str, ty_tup, ty_fl, Out.bind_ok, Out.bind_bad, wp_ok, wp_bind, List.getElem?_cons_zero, List.getElem?_cons_succ, List.getElem?_nil, List.set_cons_zero, List.set_cons_succ, List.append_nil, Option.map_some, Option.map_none, Option.bind_some, Option.bind_none, ga, ga0, gs, gs0, List.append_assoc, Nat.add_assoc, newL, LN, Nat.reduceLeDiff, Nat.reduceLT, kit_ss, kit_ts, kit_ls, kit_bs, kit_is, kit_ns, reduceCtorEq, a30, a31, a32, i30, i31, i32, decide_eq_true_eq, ne_eq, Int.reduceLT, Int.reduceLE, Int.reduceNeg, Int.reducePow, Int.reduceToNat, Int.reduceEq, Int.reduceNe, mulOk_l, List.length_set, List.length_append, imp_false, not_false_eq_true, implies_true, if_true, if_false, ite_true, ite_false, Bool.false_eq_true, Bool.not_true, Bool.not_false, forall_const, eq_self, and_true, true_and, and_self, PV.int.injEq, PV.str.injEq, PV.bl.injEq, decide_true, decide_false, List.getElem?_set_self hlt, n0]

    refine ⟨_, rfl, Int.fmod_nonneg_of_pos _ hn, Int.fmod_lt_of_pos _ hn, ⟨d, l, c + 1, List.getElem?_set_self hlt, h1, h2, h3, by omega, by omega⟩, _, rfl⟩
end Lw

namespace Lw
open PySem L2 G TL

def NSs : Str := "-.0123456789_abcdefghijklmnopqrstuvwxyz"
def nmL (l : List Nat) : Bool := !decide (l = []) && l.all fun c => decide (c ∈ tl NSs)
theorem empty_tl : tl (Str.ofString "") = [] := by decide +kernel
theorem slash_tl : tl (Str.ofString "/") = [47] := by decide +kernel
theorem ne_empty (x : Str) : (x == Str.ofString "") = decide (tl x = []) := by rw [str_beq, empty_tl]
theorem named_str {x : Str} {S : Store} (hl : x.length ≤ 1000000) : F__law_named [.str x] S = .ok (.bl (nmL (tl x))) S := by
  have e2 : (Txt.stripChars x NSs == Str.ofString "") = (tl x).all fun c => decide (c ∈ tl NSs) := by
    rw [ne_empty, Bool.eq_iff_iff, decide_eq_true_eq, strip_empty, List.all_eq_true]
    exact ⟨fun h c hc => decide_eq_true (mem_contains.mp (h c hc)), fun h c hc => mem_contains.mpr (of_decide_eq_true (h c hc))⟩
  unfold nmL
  by_cases hx : tl x = []
  · simp only [F__law_named, mkF, endF, startP, List.map_cons, List.map_nil, List.length_cons, List.length_nil, List.replicate, List.cons_append, List.nil_append, Nat.sub_zero, Nat.zero_add, Nat.reduceAdd, Nat.reduceSub, sSeq, sIf, sAsg, sRet, sRetN, sDrop, sNext, sBrk, sCont, sAug, stName, stSub, stTup, stCons, stNil, eVar, eC, eUn, eBin, eArg, eLst, eTup, aNil, aCons, eIf, eAnd, eOr, eNot, eChain, bChain, bCmp, bVal, bNot, bAnd, bOr, bTrue, eSl, oNone, oSome, eCall, eCall0, callF, eM, oBl, oB, oT, tr_bl, tr_int, tr_non, tr_tup, isT_str, beq_self_eq_true, vAdd, vSub, vMul, vDiv, vMod, vPow, vNeg, vIAdd, vIMul, vGt, vLt, vLe, vGe, lt2, ltP, vEq, vNe, eq_ii, eq_ss, eq_bb, eq_nn, vIx, seqP, lstP, newT, vSet, vLen, lenP, vAbs, vMax, vMin, cInt, vIsi, ty_non, ty_bl, ty_int, ty_str, ty_tup, ty_fl, Out.bind_ok, Out.bind_bad, wp_ok, wp_bind, List.getElem?_cons_zero, List.getElem?_cons_succ, List.getElem?_nil, List.set_cons_zero, List.set_cons_succ, List.append_nil, Option.map_some, Option.map_none, Option.bind_some, Option.bind_none, ga, ga0, gs, gs0, List.append_assoc, Nat.add_assoc, newL, LN, Nat.reduceLeDiff, Nat.reduceLT, kit_ss, kit_ts, kit_ls, kit_bs, kit_is, kit_ns, reduceCtorEq, a30, a31, a32, i30, i31, i32, decide_eq_true_eq, ne_eq, Int.reduceLT, Int.reduceLE, Int.reduceNeg, Int.reducePow, Int.reduceToNat, Int.reduceEq, Int.reduceNe, mulOk_l, List.length_set, List.length_append, imp_false, not_false_eq_true, implies_true, if_true, if_false, ite_true, ite_false, Bool.false_eq_true, Bool.not_true, Bool.not_false, forall_const, eq_self, and_true, true_and, and_self, PV.int.injEq, PV.str.injEq, PV.bl.injEq, decide_true, decide_false, ne_empty, hx, Bool.false_and]
  · simp only [F__law_named, mkF, endF, startP, List.map_cons, List.map_nil, List.length_cons, List.length_nil, List.replicate, List.cons_append, List.nil_append, Nat.sub_zero, Nat.zero_add, Nat.reduceAdd, Nat.reduceSub, sSeq, sIf, sAsg, sRet, sRetN, sDrop, sNext, sBrk, sCont, sAug, stName, stSub, stTup, stCons, stNil, eVar, eC, eUn, eBin, eArg, eLst, eTup, aNil, aCons, eIf, eAnd, eOr, eNot, eChain, bChain, bCmp, bVal, bNot, bAnd, bOr, bTrue, eSl, oNone, oSome, eCall, eCall0, callF, eM, oBl, oB, oT, tr_bl, tr_int, tr_non, tr_tup, isT_str, beq_self_eq_true, vAdd, vSub, vMul, vDiv, vMod, vPow, vNeg, vIAdd, vIMul, vGt, vLt, vLe, vGe, lt2, ltP, vEq, vNe, eq_ii, eq_ss, eq_bb, eq_nn, vIx, seqP, lstP, newT, vSet, vLen, lenP, vAbs, vMax, vMin, cInt, vIsi, ty_non, ty_bl, ty_int, ty_str, ty_tup, ty_fl, Out.bind_ok, Out.bind_bad, wp_ok, wp_bind, List.getElem?_cons_zero, List.getElem?_cons_succ, List.getElem?_nil, List.set_cons_zero, List.set_cons_succ, List.append_nil, Option.map_some, Option.map_none, Option.bind_some, Option.bind_none, ga, ga0, gs, gs0, List.append_assoc, Nat.add_assoc, newL, LN, Nat.reduceLeDiff, Nat.reduceLT, kit_ss, kit_ts, kit_ls, kit_bs, kit_is, kit_ns, reduceCtorEq, a30, a31, a32, i30, i31, i32, decide_eq_true_eq, ne_eq, Int.reduceLT, Int.reduceLE, Int.reduceNeg, Int.reducePow, Int.reduceToNat, Int.reduceEq, Int.reduceNe, mulOk_l, List.length_set, List.length_append, imp_false, not_false_eq_true, implies_true, if_true, if_false, ite_true, ite_false, Bool.false_eq_true, Bool.not_true, Bool.not_false, forall_const, eq_self, and_true, true_and, and_self, PV.int.injEq, PV.str.injEq, PV.bl.injEq, decide_true, decide_false, ne_empty, hx, mStrip, beq_self_eq_true, hl, show Str.ofString "-.0123456789_abcdefghijklmnopqrstuvwxyz" = NSs from rfl, e2, Bool.true_and]
theorem named_not {v : G.PV} {t : String} {S : Store} (ht : tyP S v = some t) (hk : kitB t "str" = some false) : F__law_named [v] S = .ok (.bl false) S := by
  simp only [F__law_named, mkF, endF, startP, List.map_cons, List.map_nil, List.length_cons, List.length_nil, List.replicate, List.cons_append, List.nil_append, Nat.sub_zero, Nat.zero_add, Nat.reduceAdd, Nat.reduceSub, sSeq, sIf, sAsg, sRet, sRetN, sDrop, sNext, sBrk, sCont, sAug, stName, stSub, stTup, stCons, stNil, eVar, eC, eUn, eBin, eArg, eLst, eTup, aNil, aCons, eIf, eAnd, eOr, eNot, eChain, bChain, bCmp, bVal, bNot, bAnd, bOr, bTrue, eSl, oNone, oSome, eCall, eCall0, callF, eM, oBl, oB, oT, tr_bl, tr_int, tr_non, tr_tup, isT_str, beq_self_eq_true, vAdd, vSub, vMul, vDiv, vMod, vPow, vNeg, vIAdd, vIMul, vGt, vLt, vLe, vGe, lt2, ltP, vEq, vNe, eq_ii, eq_ss, eq_bb, eq_nn, vIx, seqP, lstP, newT, vSet, vLen, lenP, vAbs, vMax, vMin, cInt, vIsi, ty_non, ty_bl, ty_int, ty_str, ty_tup, ty_fl, Out.bind_ok, Out.bind_bad, wp_ok, wp_bind, List.getElem?_cons_zero, List.getElem?_cons_succ, List.getElem?_nil, List.set_cons_zero, List.set_cons_succ, List.append_nil, Option.map_some, Option.map_none, Option.bind_some, Option.bind_none, ga, ga0, gs, gs0, List.append_assoc, Nat.add_assoc, newL, LN, Nat.reduceLeDiff, Nat.reduceLT, kit_ss, kit_ts, kit_ls, kit_bs, kit_is, kit_ns, reduceCtorEq, a30, a31, a32, i30, i31, i32, decide_eq_true_eq, ne_eq, Int.reduceLT, Int.reduceLE, Int.reduceNeg, Int.reducePow, Int.reduceToNat, Int.reduceEq, Int.reduceNe, mulOk_l, List.length_set, List.length_append, imp_false, not_false_eq_true, implies_true, if_true, if_false, ite_true, ite_false, Bool.false_eq_true, Bool.not_true, Bool.not_false, forall_const, eq_self, and_true, true_and, and_self, PV.int.injEq, PV.str.injEq, PV.bl.injEq, decide_true, decide_false, ht, hk]
theorem isname_not {v : G.PV} {t : String} {S : Store} (ht : tyP S v = some t) (hk : kitB t "str" = some false) : F_is_name [v] S = .ok (.bl false) S := by
  simp only [F_is_name, mkF, endF, startP, List.map_cons, List.map_nil, List.length_cons, List.length_nil, List.replicate, List.cons_append, List.nil_append, Nat.sub_zero, Nat.zero_add, Nat.reduceAdd, Nat.reduceSub, sSeq, sIf, sAsg, sRet, sRetN, sDrop, sNext, sBrk, sCont, sAug, stName, stSub, stTup, stCons, stNil, eVar, eC, eUn, eBin, eArg, eLst, eTup, aNil, aCons, eIf, eAnd, eOr, eNot, eChain, bChain, bCmp, bVal, bNot, bAnd, bOr, bTrue, eSl, oNone, oSome, eCall, eCall0, callF, eM, oBl, oB, oT, tr_bl, tr_int, tr_non, tr_tup, isT_str, beq_self_eq_true, vAdd, vSub, vMul, vDiv, vMod, vPow, vNeg, vIAdd, vIMul, vGt, vLt, vLe, vGe, lt2, ltP, vEq, vNe, eq_ii, eq_ss, eq_bb, eq_nn, vIx, seqP, lstP, newT, vSet, vLen, lenP, vAbs, vMax, vMin, cInt, vIsi, ty_non, ty_bl, ty_int, ty_str, ty_tup, ty_fl, Out.bind_ok, Out.bind_bad, wp_ok, wp_bind, List.getElem?_cons_zero, List.getElem?_cons_succ, List.getElem?_nil, List.set_cons_zero, List.set_cons_succ, List.append_nil, Option.map_some, Option.map_none, Option.bind_some, Option.bind_none, ga, ga0, gs, gs0, List.append_assoc, Nat.add_assoc, newL, LN, Nat.reduceLeDiff, Nat.reduceLT, kit_ss, kit_ts, kit_ls, kit_bs, kit_is, kit_ns, reduceCtorEq, a30, a31, a32, i30, i31, i32, decide_eq_true_eq, ne_eq, Int.reduceLT, Int.reduceLE, Int.reduceNeg, Int.reducePow, Int.reduceToNat, Int.reduceEq, Int.reduceNe, mulOk_l, List.length_set, List.length_append, imp_false, not_false_eq_true, implies_true, if_true, if_false, ite_true, ite_false, Bool.false_eq_true, Bool.not_true, Bool.not_false, forall_const, eq_self, and_true, true_and, and_self, PV.int.injEq, PV.str.injEq, PV.bl.injEq, decide_true, decide_false, ht, hk]
def pNS (v : G.PV) : Bool := match v with
  | .str c => inS c NSs
  | _ => false
theorem all_pNS (x : Str) : (strP x).all pNS = (tl x).all fun c => decide (c ∈ tl NSs) := by
  unfold strP
  rw [List.all_map]
  rfl
theorem isname_str {x : Str} {S : Store} (hl : x.length ≤ 100000) : ∃ T, F_is_name [.str x] S = .ok (.bl (nmL (tl x))) (S ++ T) := by
  have e1 : eLc (iVal (eVar 0)) (ctName 1) bTrue (eBin vIn (eVar 1) (eC (.str "-.0123456789_abcdefghijklmnopqrstuvwxyz"))) [1] [some (.str x), none] S = .ok (.loc S.length) (S ++ [.lst ((strP x).map fun v => .bl (pNS v))]) := by
    refine lc_map (fun v => .bl (pNS v)) rfl (by rw [strP_length]; show x.length < 1000000; omega) fun v hv => ⟨_, rfl, fun S => ?_⟩
    obtain ⟨c, hc, rfl⟩ := List.mem_map.mp hv
    rfl
  unfold nmL
  by_cases hx : tl x = []
  · exact ⟨[], by simp only [F_is_name, mkF, endF, startP, List.map_cons, List.map_nil, List.length_cons, List.length_nil, List.replicate, List.cons_append, List.nil_append, Nat.sub_zero, Nat.zero_add, Nat.reduceAdd, Nat.reduceSub, sSeq, sIf, sAsg, sRet, sRetN, sDrop, sNext, sBrk, sCont, sAug, stName, stSub, stTup, stCons, stNil, eVar, eC, eUn, eBin, eArg, eLst, eTup, aNil, aCons, eIf, eAnd, eOr, eNot, eChain, bChain, bCmp, bVal, bNot, bAnd, bOr, bTrue, eSl, oNone, oSome, eCall, eCall0, callF, eM, oBl, oB, oT, tr_bl, tr_int, tr_non, tr_tup, isT_str, beq_self_eq_true, vAdd, vSub, vMul, vDiv, vMod, vPow, vNeg, vIAdd, vIMul, vGt, vLt, vLe, vGe, lt2, ltP, vEq, vNe, eq_ii, eq_ss, eq_bb, eq_nn, vIx, seqP, lstP, newT, vSet, vLen, lenP, vAbs, vMax, vMin, cInt, vIsi, ty_non, ty_bl, ty_int, ty_str, ty_tup, ty_fl, Out.bind_ok, Out.bind_bad, wp_ok, wp_bind, List.getElem?_cons_zero, List.getElem?_cons_succ, List.getElem?_nil, List.set_cons_zero, List.set_cons_succ, List.append_nil, Option.map_some, Option.map_none, Option.bind_some, Option.bind_none, ga, ga0, gs, gs0, List.append_assoc, Nat.add_assoc, newL, LN, Nat.reduceLeDiff, Nat.reduceLT, kit_ss, kit_ts, kit_ls, kit_bs, kit_is, kit_ns, reduceCtorEq, a30, a31, a32, i30, i31, i32, decide_eq_true_eq, ne_eq, Int.reduceLT, Int.reduceLE, Int.reduceNeg, Int.reducePow, Int.reduceToNat, Int.reduceEq, Int.reduceNe, mulOk_l, List.length_set, List.length_append, imp_false, not_false_eq_true, implies_true, if_true, if_false, ite_true, ite_false, Bool.false_eq_true, Bool.not_true, Bool.not_false, forall_const, eq_self, and_true, true_and, and_self, PV.int.injEq, PV.str.injEq, PV.bl.injEq, decide_true, decide_false, ne_empty, hx, Bool.false_and]⟩
  · refine ⟨[.lst ((strP x).map fun v => .bl (pNS v))], ?_⟩
    simp only [F_is_name, mkF, endF, startP, List.map_cons, List.map_nil, List.length_cons, List.length_nil, List.replicate, List.cons_append, List.nil_append, Nat.sub_zero, Nat.zero_add, Nat.reduceAdd, Nat.reduceSub, sSeq, sIf, sAsg, sRet, sRetN, sDrop, sNext, sBrk, sCont, sAug, stName, stSub, stTup, stCons, stNil, eVar, eC, eUn, eBin, eArg, eLst, eTup, aNil, aCons, eIf, eAnd, eOr, eNot, eChain, bChain, bCmp, bVal, bNot, bAnd, bOr, bTrue, eSl, oNone, oSome, eCall, eCall0, callF, eM, oBl, oB, oT, tr_bl, tr_int, tr_non, tr_tup, isT_str, beq_self_eq_true, vAdd, vSub, vMul, vDiv, vMod, vPow, vNeg, vIAdd, vIMul, vGt, vLt, vLe, vGe, lt2, ltP, vEq, vNe, eq_ii, eq_ss, eq_bb, eq_nn, vIx, seqP, lstP, newT, vSet, vLen, lenP, vAbs, vMax, vMin, cInt, vIsi, ty_non, ty_bl, ty_int, ty_str, ty_tup, ty_fl, Out.bind_ok, Out.bind_bad, wp_ok, wp_bind, List.getElem?_cons_zero, List.getElem?_cons_succ, List.getElem?_nil, List.set_cons_zero, List.set_cons_succ, List.append_nil, Option.map_some, Option.map_none, Option.bind_some, Option.bind_none, ga, ga0, gs, gs0, List.append_assoc, Nat.add_assoc, newL, LN, Nat.reduceLeDiff, Nat.reduceLT, kit_ss, kit_ts, kit_ls, kit_bs, kit_is, kit_ns, reduceCtorEq, a30, a31, a32, i30, i31, i32, decide_eq_true_eq, ne_eq, Int.reduceLT, Int.reduceLE, Int.reduceNeg, Int.reducePow, Int.reduceToNat, Int.reduceEq, Int.reduceNe, mulOk_l, List.length_set, List.length_append, imp_false, not_false_eq_true, implies_true, if_true, if_false, ite_true, ite_false, Bool.false_eq_true, Bool.not_true, Bool.not_false, forall_const, eq_self, and_true, true_and, and_self, PV.int.injEq, PV.str.injEq, PV.bl.injEq, decide_true, decide_false, ne_empty, hx, e1, vAll_map, all_pNS, Bool.true_and]
end Lw

namespace Lw
open PySem L2 G TL

/-- the state behind some signs: none: refused; else whether the last one (or the beginning) is a slash -/
def pth : Bool → List Nat → Option Bool
  | b, [] => some b
  | b, c :: l => if (!decide (c ∈ tl NSs)) && (!decide (c = 47) || b) then none else pth (decide (c = 47)) l
def isPth (l : List Nat) : Bool := match pth true l with
  | some b => !b
  | none => false
theorem one_slash (c : Nat) : ((⟨#[c]⟩ : Str) == Str.ofString "/") = decide (c = 47) := by
  rw [str_beq, slash_tl]
  by_cases h : c = 47
  · subst h; rfl
  · rw [decide_eq_false h, decide_eq_false]
    intro e
    exact h (List.cons.inj e).1
abbrev pBody : SS := sSeq (sIf (bAnd (bCmp vNotIn (eVar 2) (eC (.str "-.0123456789_abcdefghijklmnopqrstuvwxyz"))) (bOr (bCmp vNe (eVar 2) (eC (.str "/"))) (bCmp vEq (eVar 1) (eC (.str "/"))))) (sRet (eC (.bl false))) sNext)
  (sAsg (eVar 2) (stName 1))
theorem p_loop (v0 : G.PV) (S : Store) : ∀ (l : List Nat) (b : Str) (w : Option G.PV), Wp (forL (stName 2) pBody (l.map fun c => .str ⟨#[c]⟩) [some v0, some (.str b), w] S) fun fl S' => S' = S ∧ match pth (b == Str.ofString "/") l with
    | none => fl = .rt (.bl false)
    | some r => ∃ b' w', fl = .nx [some v0, some (.str b'), w'] ∧ (b' == Str.ofString "/") = r
  | [], b, w => ⟨rfl, b, w, rfl, rfl⟩
  | c :: l, b, w => by
    have ih := p_loop v0 S l ⟨#[c]⟩ (some (.str ⟨#[c]⟩))
    have eN : inP (.str ⟨#[c]⟩) (.str "-.0123456789_abcdefghijklmnopqrstuvwxyz") S = some (decide (c ∈ tl NSs)) := rfl
    unfold pth
    rw [one_slash] at ih
    cases h1 : decide (c ∈ tl NSs) with
    | true =>
      rw [h1] at eN
      simp only [forL, List.map_cons, mkF, endF, startP, List.map_cons, List.map_nil, List.length_cons, List.length_nil, List.replicate, List.cons_append, List.nil_append, Nat.sub_zero, Nat.zero_add, Nat.reduceAdd, Nat.reduceSub, sSeq, sIf, sAsg, sRet, sRetN, sDrop, sNext, sBrk, sCont, sAug, stName, stSub, stTup, stCons, stNil, eVar, eC, eUn, eBin, eArg, eLst, eTup, aNil, aCons, eIf, eAnd, eOr, eNot, eChain, bChain, bCmp, bVal, bNot, bAnd, bOr, bTrue, eSl, oNone, oSome, eCall, eCall0, callF, eM, oBl, oB, oT, tr_bl, tr_int, tr_non, tr_tup, isT_str, beq_self_eq_true, vAdd, vSub, vMul, vDiv, vMod, vPow, vNeg, vIAdd, vIMul, vGt, vLt, vLe, vGe, lt2, ltP, vEq, vNe, eq_ii, eq_ss, eq_bb, eq_nn, vIx, seqP, lstP, newT, vSet, vLen, lenP, vAbs, vMax, vMin, cInt, vIsi, ty_non, ty_bl, ty_int, ty_str, ty_tup, ty_fl, Out.bind_ok, Out.bind_bad, wp_ok, wp_bind, List.getElem?_cons_zero, List.getElem?_cons_succ, List.getElem?_nil, List.set_cons_zero, List.set_cons_succ, List.append_nil, Option.map_some, Option.map_none, Option.bind_some, Option.bind_none, ga, ga0, gs, gs0, List.append_assoc, Nat.add_assoc, newL, LN, Nat.reduceLeDiff, Nat.reduceLT, kit_ss, kit_ts, kit_ls, kit_bs, kit_is, kit_ns, reduceCtorEq, a30, a31, a32, i30, i31, i32, decide_eq_true_eq, ne_eq, Int.reduceLT, Int.reduceLE, Int.reduceNeg, Int.reducePow, Int.reduceToNat, Int.reduceEq, Int.reduceNe, mulOk_l, List.length_set, List.length_append, imp_false, not_false_eq_true, implies_true, if_true, if_false, ite_true, ite_false, Bool.false_eq_true, Bool.not_true, Bool.not_false, forall_const, eq_self, and_true, true_and, and_self, PV.int.injEq, PV.str.injEq, PV.bl.injEq, decide_true, decide_false, vNotIn, eN, Bool.false_and]
      exact ih
    | false =>
      rw [h1] at eN
      cases h2 : decide (c = 47) with
      | false =>
        simp only [forL, List.map_cons, mkF, endF, startP, List.map_cons, List.map_nil, List.length_cons, List.length_nil, List.replicate, List.cons_append, List.nil_append, Nat.sub_zero, Nat.zero_add, Nat.reduceAdd, Nat.reduceSub, sSeq, sIf, sAsg, sRet, sRetN, sDrop, sNext, sBrk, sCont, sAug, stName, stSub, stTup, stCons, stNil, eVar, eC, eUn, eBin, eArg, eLst, eTup, aNil, aCons, eIf, eAnd, eOr, eNot, eChain, bChain, bCmp, bVal, bNot, bAnd, bOr, bTrue, eSl, oNone, oSome, eCall, eCall0, callF, eM, oBl, oB, oT, tr_bl, tr_int, tr_non, tr_tup, isT_str, beq_self_eq_true, vAdd, vSub, vMul, vDiv, vMod, vPow, vNeg, vIAdd, vIMul, vGt, vLt, vLe, vGe, lt2, ltP, vEq, vNe, eq_ii, eq_ss, eq_bb, eq_nn, vIx, seqP, lstP, newT, vSet, vLen, lenP, vAbs, vMax, vMin, cInt, vIsi, ty_non, ty_bl, ty_int, ty_str, ty_tup, ty_fl, Out.bind_ok, Out.bind_bad, wp_ok, wp_bind, List.getElem?_cons_zero, List.getElem?_cons_succ, List.getElem?_nil, List.set_cons_zero, List.set_cons_succ, List.append_nil, Option.map_some, Option.map_none, Option.bind_some, Option.bind_none, ga, ga0, gs, gs0, List.append_assoc, Nat.add_assoc, newL, LN, Nat.reduceLeDiff, Nat.reduceLT, kit_ss, kit_ts, kit_ls, kit_bs, kit_is, kit_ns, reduceCtorEq, a30, a31, a32, i30, i31, i32, decide_eq_true_eq, ne_eq, Int.reduceLT, Int.reduceLE, Int.reduceNeg, Int.reducePow, Int.reduceToNat, Int.reduceEq, Int.reduceNe, mulOk_l, List.length_set, List.length_append, imp_false, not_false_eq_true, implies_true, if_true, if_false, ite_true, ite_false, Bool.false_eq_true, Bool.not_true, Bool.not_false, forall_const, eq_self, and_true, true_and, and_self, PV.int.injEq, PV.str.injEq, PV.bl.injEq, decide_true, decide_false, vNotIn, eN, one_slash, h2, Bool.true_and, Bool.true_or]
      | true =>
        cases h3 : (b == Str.ofString "/") with
        | true => simp only [forL, List.map_cons, mkF, endF, startP, List.map_cons, List.map_nil, List.length_cons, List.length_nil, List.replicate, List.cons_append, List.nil_append, Nat.sub_zero, Nat.zero_add, Nat.reduceAdd, Nat.reduceSub, sSeq, sIf, sAsg, sRet, sRetN, sDrop, sNext, sBrk, sCont, sAug, stName, stSub, stTup, stCons, stNil, eVar, eC, eUn, eBin, eArg, eLst, eTup, aNil, aCons, eIf, eAnd, eOr, eNot, eChain, bChain, bCmp, bVal, bNot, bAnd, bOr, bTrue, eSl, oNone, oSome, eCall, eCall0, callF, eM, oBl, oB, oT, tr_bl, tr_int, tr_non, tr_tup, isT_str, beq_self_eq_true, vAdd, vSub, vMul, vDiv, vMod, vPow, vNeg, vIAdd, vIMul, vGt, vLt, vLe, vGe, lt2, ltP, vEq, vNe, eq_ii, eq_ss, eq_bb, eq_nn, vIx, seqP, lstP, newT, vSet, vLen, lenP, vAbs, vMax, vMin, cInt, vIsi, ty_non, ty_bl, ty_int, ty_str, ty_tup, ty_fl, Out.bind_ok, Out.bind_bad, wp_ok, wp_bind, List.getElem?_cons_zero, List.getElem?_cons_succ, List.getElem?_nil, List.set_cons_zero, List.set_cons_succ, List.append_nil, Option.map_some, Option.map_none, Option.bind_some, Option.bind_none, ga, ga0, gs, gs0, List.append_assoc, Nat.add_assoc, newL, LN, Nat.reduceLeDiff, Nat.reduceLT, kit_ss, kit_ts, kit_ls, kit_bs, kit_is, kit_ns, reduceCtorEq, a30, a31, a32, i30, i31, i32, decide_eq_true_eq, ne_eq, Int.reduceLT, Int.reduceLE, Int.reduceNeg, Int.reducePow, Int.reduceToNat, Int.reduceEq, Int.reduceNe, mulOk_l, List.length_set, List.length_append, imp_false, not_false_eq_true, implies_true, if_true, if_false, ite_true, ite_false, Bool.false_eq_true, Bool.not_true, Bool.not_false, forall_const, eq_self, and_true, true_and, and_self, PV.int.injEq, PV.str.injEq, PV.bl.injEq, decide_true, decide_false, vNotIn, eN, one_slash, h2, h3, Bool.true_and, Bool.false_or]
        | false =>
          simp only [forL, List.map_cons, mkF, endF, startP, List.map_cons, List.map_nil, List.length_cons, List.length_nil, List.replicate, List.cons_append, List.nil_append, Nat.sub_zero, Nat.zero_add, Nat.reduceAdd, Nat.reduceSub, sSeq, sIf, sAsg, sRet, sRetN, sDrop, sNext, sBrk, sCont, sAug, stName, stSub, stTup, stCons, stNil, eVar, eC, eUn, eBin, eArg, eLst, eTup, aNil, aCons, eIf, eAnd, eOr, eNot, eChain, bChain, bCmp, bVal, bNot, bAnd, bOr, bTrue, eSl, oNone, oSome, eCall, eCall0, callF, eM, oBl, oB, oT, tr_bl, tr_int, tr_non, tr_tup, isT_str, beq_self_eq_true, vAdd, vSub, vMul, vDiv, vMod, vPow, vNeg, vIAdd, vIMul, vGt, vLt, vLe, vGe, lt2, ltP, vEq, vNe, eq_ii, eq_ss, eq_bb, eq_nn, vIx, seqP, lstP, newT, vSet, vLen, lenP, vAbs, vMax, vMin, cInt, vIsi, ty_non, ty_bl, ty_int, ty_str, ty_tup, ty_fl, Out.bind_ok, Out.bind_bad, wp_ok, wp_bind, List.getElem?_cons_zero, List.getElem?_cons_succ, List.getElem?_nil, List.set_cons_zero, List.set_cons_succ, List.append_nil, Option.map_some, Option.map_none, Option.bind_some, Option.bind_none, ga, ga0, gs, gs0, List.append_assoc, Nat.add_assoc, newL, LN, Nat.reduceLeDiff, Nat.reduceLT, kit_ss, kit_ts, kit_ls, kit_bs, kit_is, kit_ns, reduceCtorEq, a30, a31, a32, i30, i31, i32, decide_eq_true_eq, ne_eq, Int.reduceLT, Int.reduceLE, Int.reduceNeg, Int.reducePow, Int.reduceToNat, Int.reduceEq, Int.reduceNe, mulOk_l, List.length_set, List.length_append, imp_false, not_false_eq_true, implies_true, if_true, if_false, ite_true, ite_false, Bool.false_eq_true, Bool.not_true, Bool.not_false, forall_const, eq_self, and_true, true_and, and_self, PV.int.injEq, PV.str.injEq, PV.bl.injEq, decide_true, decide_false, vNotIn, eN, one_slash, h2, h3, Bool.true_and, Bool.false_or]
          rw [h2] at ih
          exact ih
theorem ispath_not {v : G.PV} {t : String} {S : Store} (ht : tyP S v = some t) (hk : kitB t "str" = some false) : F_is_path [v] S = .ok (.bl false) S := by
  simp only [F_is_path, mkF, endF, startP, List.map_cons, List.map_nil, List.length_cons, List.length_nil, List.replicate, List.cons_append, List.nil_append, Nat.sub_zero, Nat.zero_add, Nat.reduceAdd, Nat.reduceSub, sSeq, sIf, sAsg, sRet, sRetN, sDrop, sNext, sBrk, sCont, sAug, stName, stSub, stTup, stCons, stNil, eVar, eC, eUn, eBin, eArg, eLst, eTup, aNil, aCons, eIf, eAnd, eOr, eNot, eChain, bChain, bCmp, bVal, bNot, bAnd, bOr, bTrue, eSl, oNone, oSome, eCall, eCall0, callF, eM, oBl, oB, oT, tr_bl, tr_int, tr_non, tr_tup, isT_str, beq_self_eq_true, vAdd, vSub, vMul, vDiv, vMod, vPow, vNeg, vIAdd, vIMul, vGt, vLt, vLe, vGe, lt2, ltP, vEq, vNe, eq_ii, eq_ss, eq_bb, eq_nn, vIx, seqP, lstP, newT, vSet, vLen, lenP, vAbs, vMax, vMin, cInt, vIsi, ty_non, ty_bl, ty_int, ty_str, ty_tup, ty_fl, Out.bind_ok, Out.bind_bad, wp_ok, wp_bind, List.getElem?_cons_zero, List.getElem?_cons_succ, List.getElem?_nil, List.set_cons_zero, List.set_cons_succ, List.append_nil, Option.map_some, Option.map_none, Option.bind_some, Option.bind_none, ga, ga0, gs, gs0, List.append_assoc, Nat.add_assoc, newL, LN, Nat.reduceLeDiff, Nat.reduceLT, kit_ss, kit_ts, kit_ls, kit_bs, kit_is, kit_ns, reduceCtorEq, a30, a31, a32, i30, i31, i32, decide_eq_true_eq, ne_eq, Int.reduceLT, Int.reduceLE, Int.reduceNeg, Int.reducePow, Int.reduceToNat, Int.reduceEq, Int.reduceNe, mulOk_l, List.length_set, List.length_append, imp_false, not_false_eq_true, implies_true, if_true, if_false, ite_true, ite_false, Bool.false_eq_true, Bool.not_true, Bool.not_false, forall_const, eq_self, and_true, true_and, and_self, PV.int.injEq, PV.str.injEq, PV.bl.injEq, decide_true, decide_false, ht, hk]
theorem ispath_str {x : Str} {S : Store} (hl : x.length ≤ 100000) : F_is_path [.str x] S = .ok (.bl (isPth (tl x))) S := by
  have e1 : sFor (iVal (eVar 0)) (stName 2) pBody [some (.str x), some (.str (Str.ofString "/")), none] S = forL (stName 2) pBody (strP x) [some (.str x), some (.str (Str.ofString "/")), none] S := by
    show forF (srcSeq (strP x)) (stName 2) pBody LN 0 _ S = _
    exact for_seq (by rw [strP_length]; show x.length < 1000000; omega)
  obtain ⟨fl, S', e2, rfl, e3⟩ := (p_loop (.str x) S (tl x) "/" none).ex
  have e2' : forL (stName 2) pBody (strP x) [some (.str x), some (.str (Str.ofString "/")), none] S' = .ok fl S' := e2
  rw [beq_self_eq_true] at e3
  unfold isPth
  cases h : pth true (tl x) with
  | none =>
    rw [h] at e3
    simp only [F_is_path, mkF, endF, startP, List.map_cons, List.map_nil, List.length_cons, List.length_nil, List.replicate, List.cons_append, List.nil_append, Nat.sub_zero, Nat.zero_add, Nat.reduceAdd, Nat.reduceSub, sSeq, sIf, sAsg, sRet, sRetN, sDrop, sNext, sBrk, sCont, sAug, stName, stSub, stTup, stCons, stNil, eVar, eC, eUn, eBin, eArg, eLst, eTup, aNil, aCons, eIf, eAnd, eOr, eNot, eChain, bChain, bCmp, bVal, bNot, bAnd, bOr, bTrue, eSl, oNone, oSome, eCall, eCall0, callF, eM, oBl, oB, oT, tr_bl, tr_int, tr_non, tr_tup, isT_str, beq_self_eq_true, vAdd, vSub, vMul, vDiv, vMod, vPow, vNeg, vIAdd, vIMul, vGt, vLt, vLe, vGe, lt2, ltP, vEq, vNe, eq_ii, eq_ss, eq_bb, eq_nn, vIx, seqP, lstP, newT, vSet, vLen, lenP, vAbs, vMax, vMin, cInt, vIsi, ty_non, ty_bl, ty_int, ty_str, ty_tup, ty_fl, Out.bind_ok, Out.bind_bad, wp_ok, wp_bind, List.getElem?_cons_zero, List.getElem?_cons_succ, List.getElem?_nil, List.set_cons_zero, List.set_cons_succ, List.append_nil, Option.map_some, Option.map_none, Option.bind_some, Option.bind_none, ga, ga0, gs, gs0, List.append_assoc, Nat.add_assoc, newL, LN, Nat.reduceLeDiff, Nat.reduceLT, kit_ss, kit_ts, kit_ls, kit_bs, kit_is, kit_ns, reduceCtorEq, a30, a31, a32, i30, i31, i32, decide_eq_true_eq, ne_eq, Int.reduceLT, Int.reduceLE, Int.reduceNeg, Int.reducePow, Int.reduceToNat, Int.reduceEq, Int.reduceNe, mulOk_l, List.length_set, List.length_append, imp_false, not_false_eq_true, implies_true, if_true, if_false, ite_true, ite_false, Bool.false_eq_true, Bool.not_true, Bool.not_false, forall_const, eq_self, and_true, true_and, and_self, PV.int.injEq, PV.str.injEq, PV.bl.injEq, decide_true, decide_false, e1, e2', e3]
  | some r =>
    rw [h] at e3
    obtain ⟨b', w', rfl, hb⟩ := e3
    simp only [F_is_path, mkF, endF, startP, List.map_cons, List.map_nil, List.length_cons, List.length_nil, List.replicate, List.cons_append, List.nil_append, Nat.sub_zero, Nat.zero_add, Nat.reduceAdd, Nat.reduceSub, sSeq, sIf, sAsg, sRet, sRetN, sDrop, sNext, sBrk, sCont, sAug, stName, stSub, stTup, stCons, stNil, eVar, eC, eUn, eBin, eArg, eLst, eTup, aNil, aCons, eIf, eAnd, eOr, eNot, eChain, bChain, bCmp, bVal, bNot, bAnd, bOr, bTrue, eSl, oNone, oSome, eCall, eCall0, callF, eM, oBl, oB, oT, tr_bl, tr_int, tr_non, tr_tup, isT_str, beq_self_eq_true, vAdd, vSub, vMul, vDiv, vMod, vPow, vNeg, vIAdd, vIMul, vGt, vLt, vLe, vGe, lt2, ltP, vEq, vNe, eq_ii, eq_ss, eq_bb, eq_nn, vIx, seqP, lstP, newT, vSet, vLen, lenP, vAbs, vMax, vMin, cInt, vIsi, ty_non, ty_bl, ty_int, ty_str, ty_tup, ty_fl, Out.bind_ok, Out.bind_bad, wp_ok, wp_bind, List.getElem?_cons_zero, List.getElem?_cons_succ, List.getElem?_nil, List.set_cons_zero, List.set_cons_succ, List.append_nil, Option.map_some, Option.map_none, Option.bind_some, Option.bind_none, ga, ga0, gs, gs0, List.append_assoc, Nat.add_assoc, newL, LN, Nat.reduceLeDiff, Nat.reduceLT, kit_ss, kit_ts, kit_ls, kit_bs, kit_is, kit_ns, reduceCtorEq, a30, a31, a32, i30, i31, i32, decide_eq_true_eq, ne_eq, Int.reduceLT, Int.reduceLE, Int.reduceNeg, Int.reducePow, Int.reduceToNat, Int.reduceEq, Int.reduceNe, mulOk_l, List.length_set, List.length_append, imp_false, not_false_eq_true, implies_true, if_true, if_false, ite_true, ite_false, Bool.false_eq_true, Bool.not_true, Bool.not_false, forall_const, eq_self, and_true, true_and, and_self, PV.int.injEq, PV.str.injEq, PV.bl.injEq, decide_true, decide_false, e1, e2', hb]
end Lw

namespace Lw
open PySem L2 G TL

theorem spl1 (acc l : List Nat) (c : Nat) : spl [47] 0 acc (c :: l) = if c = 47 then acc :: spl [47] 0 [] l else spl [47] 0 (acc ++ [c]) l := by
  by_cases h : c = 47
  · rw [if_pos h]
    exact spl_hit (S := [47]) (by subst h; rfl)
  · rw [if_neg h]
    exact spl_miss (S := [47]) (pre_of_head [] l h)
theorem slash_not : (47 : Nat) ∉ tl NSs := by decide +kernel
theorem nm_bad {l : List Nat} (h : ¬ ∀ c ∈ l, c ∈ tl NSs) : nmL l = false := by
  unfold nmL
  have : (l.all fun c => decide (c ∈ tl NSs)) = false := by
    rw [List.all_eq_false]
    have ⟨c, hc, hn⟩ : ∃ c, c ∈ l ∧ c ∉ tl NSs := by
      apply Classical.byContradiction
      intro q
      exact h fun c hc => Classical.byContradiction fun z => q ⟨c, hc, z⟩
    exact ⟨c, hc, by simpa using hn⟩
  rw [this, Bool.and_false]
theorem nm_good {l : List Nat} (h : ∀ c ∈ l, c ∈ tl NSs) : nmL l = !decide (l = []) := by
  unfold nmL
  rw [List.all_eq_true.mpr fun c hc => decide_eq_true (h c hc), Bool.and_true]
theorem spl_bad : ∀ (l acc : List Nat), ¬ (∀ c ∈ acc, c ∈ tl NSs) → (spl [47] 0 acc l).all nmL = false
  | [], acc, h => by
    rw [spl_nil, List.all_cons, nm_bad h, Bool.false_and]
  | c :: l, acc, h => by
    rw [spl1]
    by_cases hc : c = 47
    · rw [if_pos hc, List.all_cons, nm_bad h, Bool.false_and]
    · rw [if_neg hc]
      exact spl_bad l _ fun q => h fun z hz => q z (List.mem_append_left _ hz)
theorem pth_spl : ∀ (l acc : List Nat), (∀ c ∈ acc, c ∈ tl NSs) → (match pth (decide (acc = [])) l with | some b => !b | none => false) = (spl [47] 0 acc l).all nmL
  | [], acc, h => by
    rw [spl_nil, List.all_cons, nm_good h, List.all_nil, Bool.and_true]
    rfl
  | c :: l, acc, h => by
    rw [spl1]
    unfold pth
    by_cases hc : c = 47
    · rw [if_pos hc, List.all_cons, nm_good h]
      have h1 : decide (c ∈ tl NSs) = false := decide_eq_false (hc ▸ slash_not)
      have ih := pth_spl l [] (fun z hz => by cases hz)
      rw [h1, decide_eq_true hc]
      by_cases ha : acc = []
      · rw [decide_eq_true ha]; rfl
      · rw [decide_eq_false ha, ← ih]
        rfl
    · rw [if_neg hc]
      by_cases hn : c ∈ tl NSs
      · have ih := pth_spl l (acc ++ [c]) (fun z hz => (List.mem_append.mp hz).elim (h z) fun e => by rw [List.mem_singleton.mp e]; exact hn)
        have e0 : decide (acc ++ [c] = []) = false := decide_eq_false (by simp)
        rw [e0] at ih
        rw [decide_eq_true hn, decide_eq_false hc, ← ih]
        rfl
      · rw [decide_eq_false hn, decide_eq_false hc, spl_bad l (acc ++ [c]) fun q => hn (q c (by simp))]
        rfl
theorem isPth_spl (l : List Nat) : isPth l = (spl [47] 0 [] l).all nmL := pth_spl l [] fun c h => by cases h
theorem spl_ne (acc l : List Nat) : spl [47] 0 acc l ≠ [] := by
  induction l generalizing acc with
  | nil => rw [spl_nil]; simp
  | cons c l ih =>
    rw [spl1]
    split
    · simp
    · exact ih _
theorem spl_snoc : ∀ (l acc : List Nat), spl [47] 0 acc (l ++ [47]) = spl [47] 0 acc l ++ [[]]
  | [], acc => by
    rw [List.nil_append, spl1, if_pos rfl, spl_nil, spl_nil]; rfl
  | c :: l, acc => by
    rw [List.cons_append, spl1, spl1]
    split
    · rw [spl_snoc l []]; rfl
    · exact spl_snoc l _
theorem spl_last : ∀ (l acc : List Nat), (spl [47] 0 acc l).getLast? = some [] → (l = [] ∧ acc = []) ∨ ∃ l', l = l' ++ [47]
  | [], acc, h => by
    rw [spl_nil] at h
    exact .inl ⟨rfl, Option.some.inj h⟩
  | c :: l, acc, h => by
    rw [spl1] at h
    by_cases hc : c = 47
    · rw [if_pos hc] at h
      obtain ⟨p, P, e⟩ := List.exists_cons_of_ne_nil (spl_ne [] l)
      rw [e, List.getLast?_cons_cons, ← e] at h
      rcases spl_last l [] h with ⟨e1, _⟩ | ⟨l', e1⟩
      · exact .inr ⟨[], by rw [e1, hc]; rfl⟩
      · exact .inr ⟨c :: l', by rw [e1]; rfl⟩
    · rw [if_neg hc] at h
      rcases spl_last l _ h with ⟨_, e1⟩ | ⟨l', e1⟩
      · simp at e1
      · exact .inr ⟨c :: l', by rw [e1]; rfl⟩
/-! ### entries -/
def isEnt (l : List Nat) : Bool := isPth l || (decide (l.getLast? = some 47) && isPth l.dropLast)
theorem cut_last (x : Str) : tl (cutS x (some (-1)) none) = match (tl x).getLast? with | some c => [c] | none => [] := by
  unfold cutS
  show ((tl x).drop (HT.sIx x.length 0 (some (-1)))).take (x.length - HT.sIx x.length 0 (some (-1))) = _
  have e : HT.sIx x.length 0 (some (-1)) = (tl x).length - 1 := by
    show (if (-1 : Int) < 0 then ((-1 : Int) + (x.length : Int)).toNat else min (-1 : Int).toNat x.length) = _
    rw [if_pos (by decide), len_tl x]; omega
  rw [e, len_tl x]
  rcases List.eq_nil_or_concat (tl x) with h | ⟨l, c, h⟩
  · rw [h]; rfl
  · rw [h, List.concat_eq_append, List.getLast?_concat, List.length_append, List.length_singleton, Nat.add_sub_cancel, List.drop_left, Nat.add_sub_cancel_left]; rfl
theorem cut_front (x : Str) : tl (cutS x none (some (-1))) = (tl x).dropLast := by
  unfold cutS
  show ((tl x).drop 0).take (HT.sIx x.length x.length (some (-1)) - 0) = _
  have e : HT.sIx x.length x.length (some (-1)) = (tl x).length - 1 := by
    show (if (-1 : Int) < 0 then ((-1 : Int) + (x.length : Int)).toNat else min (-1 : Int).toNat x.length) = _
    rw [if_pos (by decide), len_tl x]; omega
  rw [e, List.drop_zero, Nat.sub_zero, List.dropLast_eq_take]
theorem isent_not {v : G.PV} {t : String} {S : Store} (ht : tyP S v = some t) (hk : kitB t "str" = some false) : F_is_entry [v] S = .ok (.bl false) S := by
  simp only [F_is_entry, mkF, endF, startP, List.map_cons, List.map_nil, List.length_cons, List.length_nil, List.replicate, List.cons_append, List.nil_append, Nat.sub_zero, Nat.zero_add, Nat.reduceAdd, Nat.reduceSub, sSeq, sIf, sAsg, sRet, sRetN, sDrop, sNext, sBrk, sCont, sAug, stName, stSub, stTup, stCons, stNil, eVar, eC, eUn, eBin, eArg, eLst, eTup, aNil, aCons, eIf, eAnd, eOr, eNot, eChain, bChain, bCmp, bVal, bNot, bAnd, bOr, bTrue, eSl, oNone, oSome, eCall, eCall0, callF, eM, oBl, oB, oT, tr_bl, tr_int, tr_non, tr_tup, isT_str, beq_self_eq_true, vAdd, vSub, vMul, vDiv, vMod, vPow, vNeg, vIAdd, vIMul, vGt, vLt, vLe, vGe, lt2, ltP, vEq, vNe, eq_ii, eq_ss, eq_bb, eq_nn, vIx, seqP, lstP, newT, vSet, vLen, lenP, vAbs, vMax, vMin, cInt, vIsi, ty_non, ty_bl, ty_int, ty_str, ty_tup, ty_fl, Out.bind_ok, Out.bind_bad, wp_ok, wp_bind, List.getElem?_cons_zero, List.getElem?_cons_succ, List.getElem?_nil, List.set_cons_zero, List.set_cons_succ, List.append_nil, Option.map_some, Option.map_none, Option.bind_some, Option.bind_none, ga, ga0, gs, gs0, List.append_assoc, Nat.add_assoc, newL, LN, Nat.reduceLeDiff, Nat.reduceLT, kit_ss, kit_ts, kit_ls, kit_bs, kit_is, kit_ns, reduceCtorEq, a30, a31, a32, i30, i31, i32, decide_eq_true_eq, ne_eq, Int.reduceLT, Int.reduceLE, Int.reduceNeg, Int.reducePow, Int.reduceToNat, Int.reduceEq, Int.reduceNe, mulOk_l, List.length_set, List.length_append, imp_false, not_false_eq_true, implies_true, if_true, if_false, ite_true, ite_false, Bool.false_eq_true, Bool.not_true, Bool.not_false, forall_const, eq_self, and_true, true_and, and_self, PV.int.injEq, PV.str.injEq, PV.bl.injEq, decide_true, decide_false, ispath_not ht hk, ht, hk]
theorem last_eq (x : Str) : (cutS x (some (-1)) none == Str.ofString "/") = decide ((tl x).getLast? = some 47) := by
  rw [str_beq, slash_tl, cut_last]
  cases h : (tl x).getLast? with
  | none => rfl
  | some c =>
    show decide ([c] = [47]) = decide (some c = some 47)
    by_cases hc : c = 47
    · subst hc; rfl
    · rw [decide_eq_false (by simpa using hc), decide_eq_false (by simpa using hc)]
theorem isent_str {x : Str} {S : Store} (hl : x.length ≤ 100000) : F_is_entry [.str x] S = .ok (.bl (isEnt (tl x))) S := by
  have hl1 : x.length ≤ 1000000 := by omega
  have hl2 : (cutS x none (some (-1))).length ≤ 100000 := by
    rw [len_tl, cut_front, List.length_dropLast]
    rw [len_tl] at hl
    omega
  unfold isEnt
  cases h1 : isPth (tl x) with
  | true => simp only [F_is_entry, mkF, endF, startP, List.map_cons, List.map_nil, List.length_cons, List.length_nil, List.replicate, List.cons_append, List.nil_append, Nat.sub_zero, Nat.zero_add, Nat.reduceAdd, Nat.reduceSub, sSeq, sIf, sAsg, sRet, sRetN, sDrop, sNext, sBrk, sCont, sAug, stName, stSub, stTup, stCons, stNil, eVar, eC, eUn, eBin, eArg, eLst, eTup, aNil, aCons, eIf, eAnd, eOr, eNot, eChain, bChain, bCmp, bVal, bNot, bAnd, bOr, bTrue, eSl, oNone, oSome, eCall, eCall0, callF, eM, oBl, oB, oT, tr_bl, tr_int, tr_non, tr_tup, isT_str, beq_self_eq_true, vAdd, vSub, vMul, vDiv, vMod, vPow, vNeg, vIAdd, vIMul, vGt, vLt, vLe, vGe, lt2, ltP, vEq, vNe, eq_ii, eq_ss, eq_bb, eq_nn, vIx, seqP, lstP, newT, vSet, vLen, lenP, vAbs, vMax, vMin, cInt, vIsi, ty_non, ty_bl, ty_int, ty_str, ty_tup, ty_fl, Out.bind_ok, Out.bind_bad, wp_ok, wp_bind, List.getElem?_cons_zero, List.getElem?_cons_succ, List.getElem?_nil, List.set_cons_zero, List.set_cons_succ, List.append_nil, Option.map_some, Option.map_none, Option.bind_some, Option.bind_none, ga, ga0, gs, gs0, List.append_assoc, Nat.add_assoc, newL, LN, Nat.reduceLeDiff, Nat.reduceLT, kit_ss, kit_ts, kit_ls, kit_bs, kit_is, kit_ns, reduceCtorEq, a30, a31, a32, i30, i31, i32, decide_eq_true_eq, ne_eq, Int.reduceLT, Int.reduceLE, Int.reduceNeg, Int.reducePow, Int.reduceToNat, Int.reduceEq, Int.reduceNe, mulOk_l, List.length_set, List.length_append, imp_false, not_false_eq_true, implies_true, if_true, if_false, ite_true, ite_false, Bool.false_eq_true, Bool.not_true, Bool.not_false, forall_const, eq_self, and_true, true_and, and_self, PV.int.injEq, PV.str.injEq, PV.bl.injEq, decide_true, decide_false, ispath_str hl, h1, Bool.true_or]
  | false =>
    cases h2 : decide ((tl x).getLast? = some 47) with
    | true => simp only [F_is_entry, mkF, endF, startP, List.map_cons, List.map_nil, List.length_cons, List.length_nil, List.replicate, List.cons_append, List.nil_append, Nat.sub_zero, Nat.zero_add, Nat.reduceAdd, Nat.reduceSub, sSeq, sIf, sAsg, sRet, sRetN, sDrop, sNext, sBrk, sCont, sAug, stName, stSub, stTup, stCons, stNil, eVar, eC, eUn, eBin, eArg, eLst, eTup, aNil, aCons, eIf, eAnd, eOr, eNot, eChain, bChain, bCmp, bVal, bNot, bAnd, bOr, bTrue, eSl, oNone, oSome, eCall, eCall0, callF, eM, oBl, oB, oT, tr_bl, tr_int, tr_non, tr_tup, isT_str, beq_self_eq_true, vAdd, vSub, vMul, vDiv, vMod, vPow, vNeg, vIAdd, vIMul, vGt, vLt, vLe, vGe, lt2, ltP, vEq, vNe, eq_ii, eq_ss, eq_bb, eq_nn, vIx, seqP, lstP, newT, vSet, vLen, lenP, vAbs, vMax, vMin, cInt, vIsi, ty_non, ty_bl, ty_int, ty_str, ty_tup, ty_fl, Out.bind_ok, Out.bind_bad, wp_ok, wp_bind, List.getElem?_cons_zero, List.getElem?_cons_succ, List.getElem?_nil, List.set_cons_zero, List.set_cons_succ, List.append_nil, Option.map_some, Option.map_none, Option.bind_some, Option.bind_none, ga, ga0, gs, gs0, List.append_assoc, Nat.add_assoc, newL, LN, Nat.reduceLeDiff, Nat.reduceLT, kit_ss, kit_ts, kit_ls, kit_bs, kit_is, kit_ns, reduceCtorEq, a30, a31, a32, i30, i31, i32, decide_eq_true_eq, ne_eq, Int.reduceLT, Int.reduceLE, Int.reduceNeg, Int.reducePow, Int.reduceToNat, Int.reduceEq, Int.reduceNe, mulOk_l, List.length_set, List.length_append, imp_false, not_false_eq_true, implies_true, if_true, if_false, ite_true, ite_false, Bool.false_eq_true, Bool.not_true, Bool.not_false, forall_const, eq_self, and_true, true_and, and_self, PV.int.injEq, PV.str.injEq, PV.bl.injEq, decide_true, decide_false, ispath_str hl, h1, vSl, hl1, last_eq, h2, ispath_str hl2, cut_front, Bool.false_or, Bool.true_and]
    | false => simp only [F_is_entry, mkF, endF, startP, List.map_cons, List.map_nil, List.length_cons, List.length_nil, List.replicate, List.cons_append, List.nil_append, Nat.sub_zero, Nat.zero_add, Nat.reduceAdd, Nat.reduceSub, sSeq, sIf, sAsg, sRet, sRetN, sDrop, sNext, sBrk, sCont, sAug, stName, stSub, stTup, stCons, stNil, eVar, eC, eUn, eBin, eArg, eLst, eTup, aNil, aCons, eIf, eAnd, eOr, eNot, eChain, bChain, bCmp, bVal, bNot, bAnd, bOr, bTrue, eSl, oNone, oSome, eCall, eCall0, callF, eM, oBl, oB, oT, tr_bl, tr_int, tr_non, tr_tup, isT_str, beq_self_eq_true, vAdd, vSub, vMul, vDiv, vMod, vPow, vNeg, vIAdd, vIMul, vGt, vLt, vLe, vGe, lt2, ltP, vEq, vNe, eq_ii, eq_ss, eq_bb, eq_nn, vIx, seqP, lstP, newT, vSet, vLen, lenP, vAbs, vMax, vMin, cInt, vIsi, ty_non, ty_bl, ty_int, ty_str, ty_tup, ty_fl, Out.bind_ok, Out.bind_bad, wp_ok, wp_bind, List.getElem?_cons_zero, List.getElem?_cons_succ, List.getElem?_nil, List.set_cons_zero, List.set_cons_succ, List.append_nil, Option.map_some, Option.map_none, Option.bind_some, Option.bind_none, ga, ga0, gs, gs0, List.append_assoc, Nat.add_assoc, newL, LN, Nat.reduceLeDiff, Nat.reduceLT, kit_ss, kit_ts, kit_ls, kit_bs, kit_is, kit_ns, reduceCtorEq, a30, a31, a32, i30, i31, i32, decide_eq_true_eq, ne_eq, Int.reduceLT, Int.reduceLE, Int.reduceNeg, Int.reducePow, Int.reduceToNat, Int.reduceEq, Int.reduceNe, mulOk_l, List.length_set, List.length_append, imp_false, not_false_eq_true, implies_true, if_true, if_false, ite_true, ite_false, Bool.false_eq_true, Bool.not_true, Bool.not_false, forall_const, eq_self, and_true, true_and, and_self, PV.int.injEq, PV.str.injEq, PV.bl.injEq, decide_true, decide_false, ispath_str hl, h1, vSl, hl1, last_eq, h2, Bool.false_or, Bool.false_and]
end Lw

namespace Lw
open PySem L2 G TL

def R3 (a b c : Bool) : Str := (PyData.list [.bool a, .bool b, .bool c]).shown
theorem R3_ok : ∀ a b c : Bool, ((PyData.list [.bool a, .bool b, .bool c]).showable && !(PyData.list [.bool a, .bool b, .bool c]).hasDict && decide ((PyData.list [.bool a, .bool b, .bool c]).shown.length ≤ 1000000) && decide ((PyData.list [.bool a, .bool b, .bool c]).depth ≤ 64)) = true := by decide +kernel
theorem repr3 {S : Store} {n : Nat} {a b c : Bool} (h : S[n]? = some (.lst [.bl a, .bl b, .bl c])) : vRepr [.loc n] S = .ok (.str (R3 a b c)) S := by
  have e : dOf S 20 (.loc n) = some (.list [.bool a, .bool b, .bool c]) := by
    show (match S[n]? with | some (.lst xs) => (dAll (dOf S 19) xs).map PyData.list | _ => none) = _
    rw [h]; rfl
  unfold vRepr reprP
  dsimp only
  rw [e]
  dsimp only
  rw [if_pos (R3_ok a b c)]
  rfl
theorem eq_none_empty (S : Store) : eqP .non (.str (Str.ofString "")) S = some false := by
  show eqD .non (.str (Str.ofString "")) S = some false
  unfold eqD
  show (if (SeqAt.shaped .none && SeqAt.shaped (.str (Str.ofString ""))) = true then _ else _) = _
  rw [if_pos (by decide +kernel)]
  rfl
theorem right_not {v : G.PV} {t : String} {S : Store} (ht : tyP S v = some t) (ht2 : ∀ T, tyP (S ++ T) v = some t) (hk : kitB t "str" = some false) : Wp (F__law_is_right [v] S) fun r S' => r = .bl true ∧ ∃ T, S' = S ++ T := by
  have hn : ∀ S', F__law_named [.non] S' = .ok (.bl false) S' := fun S' => named_not rfl kit_ns
  have e1 : eLc (iVal (eVar 1)) (ctName 3) bTrue (eCall 1 F__law_named [] (aCons (eVar 3) aNil)) [3] [some v, some (.loc S.length), none, none] (S ++ [.lst [.non]]) = .ok (.loc (S ++ [G.PO.lst [.non]]).length) ((S ++ [.lst [.non]]) ++ [.lst ([G.PV.non].map fun _ => .bl false)]) := by
    refine lc_mapG (src := srcLive S.length) (xs := [.non]) (fun _ => .bl false) ?_ (live_src (snoc_get S _)) (by decide) fun x hx => ⟨_, rfl, fun S => ?_⟩
    · simp only [mkF, endF, startP, List.map_cons, List.map_nil, List.length_cons, List.length_nil, List.replicate, List.cons_append, List.nil_append, Nat.sub_zero, Nat.zero_add, Nat.reduceAdd, Nat.reduceSub, sSeq, sIf, sAsg, sRet, sRetN, sDrop, sNext, sBrk, sCont, sAug, stName, stSub, stTup, stCons, stNil, eVar, eC, eUn, eBin, eArg, eLst, eTup, aNil, aCons, eIf, eAnd, eOr, eNot, eChain, bChain, bCmp, bVal, bNot, bAnd, bOr, bTrue, eSl, oNone, oSome, eCall, eCall0, callF, eM, oBl, oB, oT, tr_bl, tr_int, tr_non, tr_tup, isT_str, beq_self_eq_true, vAdd, vSub, vMul, vDiv, vMod, vPow, vNeg, vIAdd, vIMul, vGt, vLt, vLe, vGe, lt2, ltP, vEq, vNe, eq_ii, eq_ss, eq_bb, eq_nn, vIx, seqP, lstP, newT, vSet, vLen, lenP, vAbs, vMax, vMin, cInt, vIsi, ty_non, ty_bl, ty_int, ty_str, ty_tup, ty_fl, Out.bind_ok, Out.bind_bad, wp_ok, wp_bind, List.getElem?_cons_zero, List.getElem?_cons_succ, List.getElem?_nil, List.set_cons_zero, List.set_cons_succ, List.append_nil, Option.map_some, Option.map_none, Option.bind_some, Option.bind_none, ga, ga0, gs, gs0, List.append_assoc, Nat.add_assoc, newL, LN, Nat.reduceLeDiff, Nat.reduceLT, kit_ss, kit_ts, kit_ls, kit_bs, kit_is, kit_ns, reduceCtorEq, a30, a31, a32, i30, i31, i32, decide_eq_true_eq, ne_eq, Int.reduceLT, Int.reduceLE, Int.reduceNeg, Int.reducePow, Int.reduceToNat, Int.reduceEq, Int.reduceNe, mulOk_l, List.length_set, List.length_append, imp_false, not_false_eq_true, implies_true, if_true, if_false, ite_true, ite_false, Bool.false_eq_true, Bool.not_true, Bool.not_false, forall_const, eq_self, and_true, true_and, and_self, PV.int.injEq, PV.str.injEq, PV.bl.injEq, decide_true, decide_false, iVal, srcOf]
    · rw [List.mem_singleton.mp hx]
      simp only [mkF, endF, startP, List.map_cons, List.map_nil, List.length_cons, List.length_nil, List.replicate, List.cons_append, List.nil_append, Nat.sub_zero, Nat.zero_add, Nat.reduceAdd, Nat.reduceSub, sSeq, sIf, sAsg, sRet, sRetN, sDrop, sNext, sBrk, sCont, sAug, stName, stSub, stTup, stCons, stNil, eVar, eC, eUn, eBin, eArg, eLst, eTup, aNil, aCons, eIf, eAnd, eOr, eNot, eChain, bChain, bCmp, bVal, bNot, bAnd, bOr, bTrue, eSl, oNone, oSome, eCall, eCall0, callF, eM, oBl, oB, oT, tr_bl, tr_int, tr_non, tr_tup, isT_str, beq_self_eq_true, vAdd, vSub, vMul, vDiv, vMod, vPow, vNeg, vIAdd, vIMul, vGt, vLt, vLe, vGe, lt2, ltP, vEq, vNe, eq_ii, eq_ss, eq_bb, eq_nn, vIx, seqP, lstP, newT, vSet, vLen, lenP, vAbs, vMax, vMin, cInt, vIsi, ty_non, ty_bl, ty_int, ty_str, ty_tup, ty_fl, Out.bind_ok, Out.bind_bad, wp_ok, wp_bind, List.getElem?_cons_zero, List.getElem?_cons_succ, List.getElem?_nil, List.set_cons_zero, List.set_cons_succ, List.append_nil, Option.map_some, Option.map_none, Option.bind_some, Option.bind_none, ga, ga0, gs, gs0, List.append_assoc, Nat.add_assoc, newL, LN, Nat.reduceLeDiff, Nat.reduceLT, kit_ss, kit_ts, kit_ls, kit_bs, kit_is, kit_ns, reduceCtorEq, a30, a31, a32, i30, i31, i32, decide_eq_true_eq, ne_eq, Int.reduceLT, Int.reduceLE, Int.reduceNeg, Int.reducePow, Int.reduceToNat, Int.reduceEq, Int.reduceNe, mulOk_l, List.length_set, List.length_append, imp_false, not_false_eq_true, implies_true, if_true, if_false, ite_true, ite_false, Bool.false_eq_true, Bool.not_true, Bool.not_false, forall_const, eq_self, and_true, true_and, and_self, PV.int.injEq, PV.str.injEq, PV.bl.injEq, decide_true, decide_false, wipeP, hn]
  simp only [List.append_assoc, List.cons_append, List.nil_append, List.length_append, List.length_cons, List.length_nil, List.map_cons, List.map_nil, Nat.zero_add] at e1
  have e2 : ∀ L : List G.PO, L[1]? = some (.lst [.bl false]) → vAll [.loc (S.length + 1)] (S ++ L) = .ok (.bl false) (S ++ L) := fun L h => by
    simp only [vAll, lstP, ga, h, Option.bind_some, blsP, Option.map_some]; rfl
  have a1 : ∀ x y : G.PV, atI [x, y] 1 = some y := fun _ _ => rfl
  have a2 : ∀ x : G.PV, atI [x] (-1) = some x := fun _ => rfl
  have r3 : ∀ (L : List G.PO) (k : Nat) (a b c : Bool), L[k]? = some (.lst [.bl a, .bl b, .bl c]) → vRepr [.loc (S.length + k)] (S ++ L) = .ok (.str (R3 a b c)) (S ++ L) := fun L k a b c h => repr3 (by rw [ga]; exact h)
  simp only [F__law_is_right, mkF, endF, startP, List.map_cons, List.map_nil, List.length_cons, List.length_nil, List.replicate, List.cons_append, List.nil_append, Nat.sub_zero, Nat.zero_add, Nat.reduceAdd, Nat.reduceSub, sSeq, sIf, sAsg, sRet, sRetN, sDrop, sNext, sBrk, sCont, sAug, stName, stSub, stTup, stCons, stNil, eVar, eC, eUn, eBin, eArg, eLst, eTup, aNil, aCons, eIf, eAnd, eOr, eNot, eChain, bChain, bCmp, bVal, bNot, bAnd, bOr, bTrue, eSl, oNone, oSome, eCall, eCall0, callF, eM, oBl, oB, oT, tr_bl, tr_int, tr_non, tr_tup, isT_str, beq_self_eq_true, vAdd, vSub, vMul, vDiv, vMod, vPow, vNeg, vIAdd, vIMul, vGt, vLt, vLe, vGe, lt2, ltP, vEq, vNe, eq_ii, eq_ss, eq_bb, eq_nn, vIx, seqP, lstP, newT, vSet, vLen, lenP, vAbs, vMax, vMin, cInt, vIsi, ty_non, ty_bl, ty_int, ty_str, ty_tup, ty_fl, Out.bind_ok, Out.bind_bad, wp_ok, wp_bind, List.getElem?_cons_zero, List.getElem?_cons_succ, List.getElem?_nil, List.set_cons_zero, List.set_cons_succ, List.append_nil, Option.map_some, Option.map_none, Option.bind_some, Option.bind_none, ga, ga0, gs, gs0, List.append_assoc, Nat.add_assoc, newL, LN, Nat.reduceLeDiff, Nat.reduceLT, kit_ss, kit_ts, kit_ls, kit_bs, kit_is, kit_ns, reduceCtorEq, a30, a31, a32, i30, i31, i32, decide_eq_true_eq, ne_eq, Int.reduceLT, Int.reduceLE, Int.reduceNeg, Int.reducePow, Int.reduceToNat, Int.reduceEq, Int.reduceNe, mulOk_l, List.length_set, List.length_append, imp_false, not_false_eq_true, implies_true, if_true, if_false, ite_true, ite_false, Bool.false_eq_true, Bool.not_true, Bool.not_false, forall_const, eq_self, and_true, true_and, and_self, PV.int.injEq, PV.str.injEq, PV.bl.injEq, decide_true, decide_false, ht, ht2, hk, named_not ht hk, named_not (ht2 _) hk, e1, e2, mAppend, isTy, a1, a2, eq_none_empty, isname_not (ht2 _) hk, ispath_not (ht2 _) hk, isent_not (ht2 _) hk]
  refine Wp.of (r3 _ 3 _ _ _ rfl) ?_
  refine Wp.of (r3 _ 2 _ _ _ rfl) ?_
  simp only [mkF, endF, startP, List.map_cons, List.map_nil, List.length_cons, List.length_nil, List.replicate, List.cons_append, List.nil_append, Nat.sub_zero, Nat.zero_add, Nat.reduceAdd, Nat.reduceSub, sSeq, sIf, sAsg, sRet, sRetN, sDrop, sNext, sBrk, sCont, sAug, stName, stSub, stTup, stCons, stNil, eVar, eC, eUn, eBin, eArg, eLst, eTup, aNil, aCons, eIf, eAnd, eOr, eNot, eChain, bChain, bCmp, bVal, bNot, bAnd, bOr, bTrue, eSl, oNone, oSome, eCall, eCall0, callF, eM, oBl, oB, oT, tr_bl, tr_int, tr_non, tr_tup, isT_str, beq_self_eq_true, vAdd, vSub, vMul, vDiv, vMod, vPow, vNeg, vIAdd, vIMul, vGt, vLt, vLe, vGe, lt2, ltP, vEq, vNe, eq_ii, eq_ss, eq_bb, eq_nn, vIx, seqP, lstP, newT, vSet, vLen, lenP, vAbs, vMax, vMin, cInt, vIsi, ty_non, ty_bl, ty_int, ty_str, ty_tup, ty_fl, Out.bind_ok, Out.bind_bad, wp_ok, wp_bind, List.getElem?_cons_zero, List.getElem?_cons_succ, List.getElem?_nil, List.set_cons_zero, List.set_cons_succ, List.append_nil, Option.map_some, Option.map_none, Option.bind_some, Option.bind_none, ga, ga0, gs, gs0, List.append_assoc, Nat.add_assoc, newL, LN, Nat.reduceLeDiff, Nat.reduceLT, kit_ss, kit_ts, kit_ls, kit_bs, kit_is, kit_ns, reduceCtorEq, a30, a31, a32, i30, i31, i32, decide_eq_true_eq, ne_eq, Int.reduceLT, Int.reduceLE, Int.reduceNeg, Int.reducePow, Int.reduceToNat, Int.reduceEq, Int.reduceNe, mulOk_l, List.length_set, List.length_append, imp_false, not_false_eq_true, implies_true, if_true, if_false, ite_true, ite_false, Bool.false_eq_true, Bool.not_true, Bool.not_false, forall_const, eq_self, and_true, true_and, and_self, PV.int.injEq, PV.str.injEq, PV.bl.injEq, decide_true, decide_false]
  exact ⟨_, rfl⟩

theorem spl_len : ∀ (l acc : List Nat), (spl [47] 0 acc l).length ≤ l.length + 1 ∧ ∀ p ∈ spl [47] 0 acc l, p.length ≤ acc.length + l.length
  | [], acc => by
    rw [spl_nil]
    exact ⟨Nat.le_refl _, fun p hp => by rw [List.mem_singleton.mp hp]; exact Nat.le_refl _⟩
  | c :: l, acc => by
    rw [spl1]
    split
    · obtain ⟨h1, h2⟩ := spl_len l []
      refine ⟨Nat.succ_le_succ h1, fun p hp => ?_⟩
      rcases List.mem_cons.mp hp with rfl | hp
      · exact Nat.le_add_right _ _
      · have := h2 p hp
        rw [List.length_nil] at this
        rw [List.length_cons]; omega
    · obtain ⟨h1, h2⟩ := spl_len l (acc ++ [c])
      refine ⟨Nat.le_succ_of_le h1, fun p hp => ?_⟩
      have := h2 p hp
      rw [List.length_append, List.length_singleton] at this
      rw [List.length_cons]; omega
def pNm (v : G.PV) : Bool := match v with
  | .str p => nmL (tl p)
  | _ => false
theorem all_pNm (P : List Str) : (P.map G.PV.str).all pNm = (P.map tl).all nmL := by rw [List.all_map, List.all_map]; rfl
theorem split_tl (x : Str) : (Txt.split x "/").map tl = spl [47] 0 [] (tl x) := by
  have h := split_spl x "/" (by rw [slash_tl]; simp) (kind_ok (by decide +kernel))
  rw [h, slash_tl]
theorem vAll_map2 {S : Store} {n : Nat} {xs : List G.PV} (f : G.PV → Bool) (h : S[n]? = some (.lst (xs.map fun x => .bl (f x)))) : vAll [.loc n] S = .ok (.bl (xs.all f)) S := by
  simp only [vAll, lstP, h, Option.bind_some, blsP_map, List.all_map]; rfl
theorem right_str {x : Str} {S : Store} (hl : x.length ≤ 1000) : Wp (F__law_is_right [.str x] S) fun r S' => r = .bl true ∧ ∃ T, S' = S ++ T := by
  have hp0 := split_tl x
  generalize hP : Txt.split x (Str.ofString "/") = P at hp0
  have hx : (tl x).length ≤ 1000 := by rw [← len_tl]; exact hl
  have hPl : P.length ≤ 1001 := by
    have := (spl_len (tl x) []).1
    rw [← hp0, List.length_map] at this
    omega
  have hPm : ∀ p ∈ P, p.length ≤ 1000000 := fun p hp => by
    have := (spl_len (tl x) []).2 (tl p) (by rw [← hp0]; exact List.mem_map_of_mem hp)
    rw [List.length_nil] at this
    rw [len_tl]; omega
  have hPne : P ≠ [] := fun e => spl_ne [] (tl x) (by rw [← hp0, e]; rfl)
  -- the names of pieces at any place
  have el : ∀ (Q : List Str) (S1 S0 : Store) (n : Nat) (τ : En) (fi : SI), (∀ p ∈ Q, p.length ≤ 1000000) → Q.length ≤ 1001 → τ.length = 4 → fi τ S0 = .ok (srcLive n) S1 → S1[n]? = some (.lst (Q.map .str)) →
      eLc fi (ctName 3) bTrue (eCall 1 F__law_named [] (aCons (eVar 3) aNil)) [3] τ S0 = .ok (.loc S1.length) (S1 ++ [.lst ((Q.map .str).map fun v => .bl (pNm v))]) := by
    intro Q S1 S0 n τ fi h1 h2 h3 h4 h5
    refine lc_mapG _ h4 (live_src h5) (by rw [List.length_map]; show Q.length < 1000000; omega) fun v hv => ⟨_, rfl, fun S => ?_⟩
    obtain ⟨p, hp, rfl⟩ := List.mem_map.mp hv
    match τ, h3 with
    | [a, b, c, d], _ => simp only [mkF, endF, startP, List.map_cons, List.map_nil, List.length_cons, List.length_nil, List.replicate, List.cons_append, List.nil_append, Nat.sub_zero, Nat.zero_add, Nat.reduceAdd, Nat.reduceSub, sSeq, sIf, sAsg, sRet, sRetN, sDrop, sNext, sBrk, sCont, sAug, stName, stSub, stTup, stCons, stNil, eVar, eC, eUn, eBin, eArg, eLst, eTup, aNil, aCons, eIf, eAnd, eOr, eNot, eChain, bChain, bCmp, bVal, bNot, bAnd, bOr, bTrue, eSl, oNone, oSome, eCall, eCall0, callF, eM, oBl, oB, oT, tr_bl, tr_int, tr_non, tr_tup, isT_str, beq_self_eq_true, vAdd, vSub, vMul, vDiv, vMod, vPow, vNeg, vIAdd, vIMul, vGt, vLt, vLe, vGe, lt2, ltP, vEq, vNe, eq_ii, eq_ss, eq_bb, eq_nn, vIx, seqP, lstP, newT, vSet, vLen, lenP, vAbs, vMax, vMin, cInt, vIsi, ty_non, ty_bl, ty_int, ty_str, ty_tup, ty_fl, Out.bind_ok, Out.bind_bad, wp_ok, wp_bind, List.getElem?_cons_zero, List.getElem?_cons_succ, List.getElem?_nil, List.set_cons_zero, List.set_cons_succ, List.append_nil, Option.map_some, Option.map_none, Option.bind_some, Option.bind_none, ga, ga0, gs, gs0, List.append_assoc, Nat.add_assoc, newL, LN, Nat.reduceLeDiff, Nat.reduceLT, kit_ss, kit_ts, kit_ls, kit_bs, kit_is, kit_ns, reduceCtorEq, a30, a31, a32, i30, i31, i32, decide_eq_true_eq, ne_eq, Int.reduceLT, Int.reduceLE, Int.reduceNeg, Int.reducePow, Int.reduceToNat, Int.reduceEq, Int.reduceNe, mulOk_l, List.length_set, List.length_append, imp_false, not_false_eq_true, implies_true, if_true, if_false, ite_true, ite_false, Bool.false_eq_true, Bool.not_true, Bool.not_false, forall_const, eq_self, and_true, true_and, and_self, PV.int.injEq, PV.str.injEq, PV.bl.injEq, decide_true, decide_false, wipeP, named_str (h1 p hp), pNm]
  have e1 := el P (S ++ [.lst (P.map .str)]) (S ++ [.lst (P.map .str)]) S.length [some (.str x), some (.loc S.length), none, none] (iVal (eVar 1)) hPm hPl rfl (by simp only [mkF, endF, startP, List.map_cons, List.map_nil, List.length_cons, List.length_nil, List.replicate, List.cons_append, List.nil_append, Nat.sub_zero, Nat.zero_add, Nat.reduceAdd, Nat.reduceSub, sSeq, sIf, sAsg, sRet, sRetN, sDrop, sNext, sBrk, sCont, sAug, stName, stSub, stTup, stCons, stNil, eVar, eC, eUn, eBin, eArg, eLst, eTup, aNil, aCons, eIf, eAnd, eOr, eNot, eChain, bChain, bCmp, bVal, bNot, bAnd, bOr, bTrue, eSl, oNone, oSome, eCall, eCall0, callF, eM, oBl, oB, oT, tr_bl, tr_int, tr_non, tr_tup, isT_str, beq_self_eq_true, vAdd, vSub, vMul, vDiv, vMod, vPow, vNeg, vIAdd, vIMul, vGt, vLt, vLe, vGe, lt2, ltP, vEq, vNe, eq_ii, eq_ss, eq_bb, eq_nn, vIx, seqP, lstP, newT, vSet, vLen, lenP, vAbs, vMax, vMin, cInt, vIsi, ty_non, ty_bl, ty_int, ty_str, ty_tup, ty_fl, Out.bind_ok, Out.bind_bad, wp_ok, wp_bind, List.getElem?_cons_zero, List.getElem?_cons_succ, List.getElem?_nil, List.set_cons_zero, List.set_cons_succ, List.append_nil, Option.map_some, Option.map_none, Option.bind_some, Option.bind_none, ga, ga0, gs, gs0, List.append_assoc, Nat.add_assoc, newL, LN, Nat.reduceLeDiff, Nat.reduceLT, kit_ss, kit_ts, kit_ls, kit_bs, kit_is, kit_ns, reduceCtorEq, a30, a31, a32, i30, i31, i32, decide_eq_true_eq, ne_eq, Int.reduceLT, Int.reduceLE, Int.reduceNeg, Int.reducePow, Int.reduceToNat, Int.reduceEq, Int.reduceNe, mulOk_l, List.length_set, List.length_append, imp_false, not_false_eq_true, implies_true, if_true, if_false, ite_true, ite_false, Bool.false_eq_true, Bool.not_true, Bool.not_false, forall_const, eq_self, and_true, true_and, and_self, PV.int.injEq, PV.str.injEq, PV.bl.injEq, decide_true, decide_false, iVal, srcOf]) (by rw [ga0]; rfl)
  have sp : mSplit (.str x) [.str (Str.ofString "/")] S = .ok (.loc S.length) (S ++ [.lst (P.map .str)]) := by
    unfold mSplit
    dsimp only
    rw [hP, if_pos ⟨by decide +kernel, by show x.length + 2 ≤ 1000000; omega, by rw [List.length_map]; show P.length ≤ 1000000; omega⟩]
    unfold newL
    rw [if_pos (by rw [List.length_map]; show P.length ≤ 1000000; omega)]
  have a1 : ∀ x y : G.PV, atI [x, y] 1 = some y := fun _ _ => rfl
  have hl6 : x.length ≤ 1000000 := by omega
  have hl5 : x.length ≤ 100000 := by omega
  obtain ⟨p, P', hPp⟩ : ∃ p P', P = P' ++ [p] := by
    rcases List.eq_nil_or_concat P with h | ⟨P', p, h⟩
    · exact absurd h hPne
    · exact ⟨p, P', by rw [h, List.concat_eq_append]⟩
  have r3 : ∀ (L : List G.PO) (k : Nat) (a b c : Bool), L[k]? = some (.lst [.bl a, .bl b, .bl c]) → vRepr [.loc (S.length + k)] (S ++ L) = .ok (.str (R3 a b c)) (S ++ L) := fun L k a b c h => repr3 (by rw [ga]; exact h)
  have va : ∀ (L : List G.PO) (k : Nat) (Q : List Str), L[k]? = some (.lst ((Q.map G.PV.str).map fun v => .bl (pNm v))) → vAll [.loc (S.length + k)] (S ++ L) = .ok (.bl ((Q.map tl).all nmL)) (S ++ L) := fun L k Q h => by
    rw [vAll_map2 pNm (by rw [ga]; exact h), all_pNm]
  simp only [List.append_assoc, List.cons_append, List.nil_append, List.length_append, List.length_cons, List.length_nil, Nat.zero_add] at e1
  have isn := fun S => isname_str (x := x) (S := S) hl5
  cases hall : (P.map tl).all nmL with
  | true =>
    obtain ⟨T, hT⟩ := isn (S ++ [.lst (P.map .str), .lst ((P.map G.PV.str).map fun v => .bl (pNm v)), .lst [.bl (nmL (tl x)), .bl true, .bl true]])
    have pt : isPth (tl x) = true := by rw [isPth_spl, ← hp0, hall]
    have en : isEnt (tl x) = true := by unfold isEnt; rw [pt]; rfl
    simp only [F__law_is_right, mkF, endF, startP, List.map_cons, List.map_nil, List.length_cons, List.length_nil, List.replicate, List.cons_append, List.nil_append, Nat.sub_zero, Nat.zero_add, Nat.reduceAdd, Nat.reduceSub, sSeq, sIf, sAsg, sRet, sRetN, sDrop, sNext, sBrk, sCont, sAug, stName, stSub, stTup, stCons, stNil, eVar, eC, eUn, eBin, eArg, eLst, eTup, aNil, aCons, eIf, eAnd, eOr, eNot, eChain, bChain, bCmp, bVal, bNot, bAnd, bOr, bTrue, eSl, oNone, oSome, eCall, eCall0, callF, eM, oBl, oB, oT, tr_bl, tr_int, tr_non, tr_tup, isT_str, beq_self_eq_true, vAdd, vSub, vMul, vDiv, vMod, vPow, vNeg, vIAdd, vIMul, vGt, vLt, vLe, vGe, lt2, ltP, vEq, vNe, eq_ii, eq_ss, eq_bb, eq_nn, vIx, seqP, lstP, newT, vSet, vLen, lenP, vAbs, vMax, vMin, cInt, vIsi, ty_non, ty_bl, ty_int, ty_str, ty_tup, ty_fl, Out.bind_ok, Out.bind_bad, wp_ok, wp_bind, List.getElem?_cons_zero, List.getElem?_cons_succ, List.getElem?_nil, List.set_cons_zero, List.set_cons_succ, List.append_nil, Option.map_some, Option.map_none, Option.bind_some, Option.bind_none, ga, ga0, gs, gs0, List.append_assoc, Nat.add_assoc, newL, LN, Nat.reduceLeDiff, Nat.reduceLT, kit_ss, kit_ts, kit_ls, kit_bs, kit_is, kit_ns, reduceCtorEq, a30, a31, a32, i30, i31, i32, decide_eq_true_eq, ne_eq, Int.reduceLT, Int.reduceLE, Int.reduceNeg, Int.reducePow, Int.reduceToNat, Int.reduceEq, Int.reduceNe, mulOk_l, List.length_set, List.length_append, imp_false, not_false_eq_true, implies_true, if_true, if_false, ite_true, ite_false, Bool.false_eq_true, Bool.not_true, Bool.not_false, forall_const, eq_self, and_true, true_and, and_self, PV.int.injEq, PV.str.injEq, PV.bl.injEq, decide_true, decide_false, sp, named_str hl6, e1, va _ _ P, hall, mAppend, isTy, a1, hT, ispath_str hl5, isent_str hl5, pt, en]
    refine Wp.of (repr3 (a := nmL (tl x)) (b := true) (c := true) ?_) ?_
    · rw [ga, List.getElem?_cons_succ, List.getElem?_cons_succ, List.getElem?_cons_succ, List.getElem?_append_right (Nat.le_refl _), Nat.sub_self]; rfl
    refine Wp.of (r3 _ 2 _ _ _ rfl) ?_
    simp only [mkF, endF, startP, List.map_cons, List.map_nil, List.length_cons, List.length_nil, List.replicate, List.cons_append, List.nil_append, Nat.sub_zero, Nat.zero_add, Nat.reduceAdd, Nat.reduceSub, sSeq, sIf, sAsg, sRet, sRetN, sDrop, sNext, sBrk, sCont, sAug, stName, stSub, stTup, stCons, stNil, eVar, eC, eUn, eBin, eArg, eLst, eTup, aNil, aCons, eIf, eAnd, eOr, eNot, eChain, bChain, bCmp, bVal, bNot, bAnd, bOr, bTrue, eSl, oNone, oSome, eCall, eCall0, callF, eM, oBl, oB, oT, tr_bl, tr_int, tr_non, tr_tup, isT_str, beq_self_eq_true, vAdd, vSub, vMul, vDiv, vMod, vPow, vNeg, vIAdd, vIMul, vGt, vLt, vLe, vGe, lt2, ltP, vEq, vNe, eq_ii, eq_ss, eq_bb, eq_nn, vIx, seqP, lstP, newT, vSet, vLen, lenP, vAbs, vMax, vMin, cInt, vIsi, ty_non, ty_bl, ty_int, ty_str, ty_tup, ty_fl, Out.bind_ok, Out.bind_bad, wp_ok, wp_bind, List.getElem?_cons_zero, List.getElem?_cons_succ, List.getElem?_nil, List.set_cons_zero, List.set_cons_succ, List.append_nil, Option.map_some, Option.map_none, Option.bind_some, Option.bind_none, ga, ga0, gs, gs0, List.append_assoc, Nat.add_assoc, newL, LN, Nat.reduceLeDiff, Nat.reduceLT, kit_ss, kit_ts, kit_ls, kit_bs, kit_is, kit_ns, reduceCtorEq, a30, a31, a32, i30, i31, i32, decide_eq_true_eq, ne_eq, Int.reduceLT, Int.reduceLE, Int.reduceNeg, Int.reducePow, Int.reduceToNat, Int.reduceEq, Int.reduceNe, mulOk_l, List.length_set, List.length_append, imp_false, not_false_eq_true, implies_true, if_true, if_false, ite_true, ite_false, Bool.false_eq_true, Bool.not_true, Bool.not_false, forall_const, eq_self, and_true, true_and, and_self, PV.int.injEq, PV.str.injEq, PV.bl.injEq, decide_true, decide_false]
    exact ⟨_, rfl⟩
  | false =>
    have pt : isPth (tl x) = false := by rw [isPth_spl, ← hp0, hall]
    have ixl : atI (P.map G.PV.str) (-1) = some (.str p) := by rw [hPp, List.map_append]; exact atI_last _ _
    have pe : (p == Str.ofString "") = decide (tl p = []) := ne_empty p
    have finish : ∀ (L : List G.PO) (b : Bool), isEnt (tl x) = b → L[2]? = some (.lst [.bl (nmL (tl x)), .bl false, .bl b]) →
        Wp ((eBin vEq (eArg vRepr (aCons (eLst (aCons (eCall 1 F_is_name [] (aCons (eVar 0) aNil)) (aCons (eCall 1 F_is_path [] (aCons (eVar 0) aNil)) (aCons (eCall 1 F_is_entry [] (aCons (eVar 0) aNil)) aNil)))) aNil)) (eArg vRepr (aCons (eVar 2) aNil))) [some (.str x), some (.loc S.length), some (.loc (S.length + 2)), none] (S ++ L)) fun r S' => r = .bl true ∧ ∃ T, S' = S ++ T := by
      intro L b hb hL
      obtain ⟨T, hT⟩ := isn (S ++ L)
      simp only [mkF, endF, startP, List.map_cons, List.map_nil, List.length_cons, List.length_nil, List.replicate, List.cons_append, List.nil_append, Nat.sub_zero, Nat.zero_add, Nat.reduceAdd, Nat.reduceSub, sSeq, sIf, sAsg, sRet, sRetN, sDrop, sNext, sBrk, sCont, sAug, stName, stSub, stTup, stCons, stNil, eVar, eC, eUn, eBin, eArg, eLst, eTup, aNil, aCons, eIf, eAnd, eOr, eNot, eChain, bChain, bCmp, bVal, bNot, bAnd, bOr, bTrue, eSl, oNone, oSome, eCall, eCall0, callF, eM, oBl, oB, oT, tr_bl, tr_int, tr_non, tr_tup, isT_str, beq_self_eq_true, vAdd, vSub, vMul, vDiv, vMod, vPow, vNeg, vIAdd, vIMul, vGt, vLt, vLe, vGe, lt2, ltP, vEq, vNe, eq_ii, eq_ss, eq_bb, eq_nn, vIx, seqP, lstP, newT, vSet, vLen, lenP, vAbs, vMax, vMin, cInt, vIsi, ty_non, ty_bl, ty_int, ty_str, ty_tup, ty_fl, Out.bind_ok, Out.bind_bad, wp_ok, wp_bind, List.getElem?_cons_zero, List.getElem?_cons_succ, List.getElem?_nil, List.set_cons_zero, List.set_cons_succ, List.append_nil, Option.map_some, Option.map_none, Option.bind_some, Option.bind_none, ga, ga0, gs, gs0, List.append_assoc, Nat.add_assoc, newL, LN, Nat.reduceLeDiff, Nat.reduceLT, kit_ss, kit_ts, kit_ls, kit_bs, kit_is, kit_ns, reduceCtorEq, a30, a31, a32, i30, i31, i32, decide_eq_true_eq, ne_eq, Int.reduceLT, Int.reduceLE, Int.reduceNeg, Int.reducePow, Int.reduceToNat, Int.reduceEq, Int.reduceNe, mulOk_l, List.length_set, List.length_append, imp_false, not_false_eq_true, implies_true, if_true, if_false, ite_true, ite_false, Bool.false_eq_true, Bool.not_true, Bool.not_false, forall_const, eq_self, and_true, true_and, and_self, PV.int.injEq, PV.str.injEq, PV.bl.injEq, decide_true, decide_false, hT, ispath_str hl5, isent_str hl5, pt, hb]
      refine Wp.of (repr3 (a := nmL (tl x)) (b := false) (c := b) ?_) ?_
      · rw [ga, List.getElem?_append_right (by omega), List.getElem?_append_right (by omega)]
        rw [show L.length + T.length - L.length - T.length = 0 by omega]; rfl
      refine Wp.of (repr3 (a := nmL (tl x)) (b := false) (c := b) ?_) ?_
      · rw [ga, List.getElem?_append_left (List.getElem?_eq_some_iff.mp hL).1]; exact hL
      simp only [mkF, endF, startP, List.map_cons, List.map_nil, List.length_cons, List.length_nil, List.replicate, List.cons_append, List.nil_append, Nat.sub_zero, Nat.zero_add, Nat.reduceAdd, Nat.reduceSub, sSeq, sIf, sAsg, sRet, sRetN, sDrop, sNext, sBrk, sCont, sAug, stName, stSub, stTup, stCons, stNil, eVar, eC, eUn, eBin, eArg, eLst, eTup, aNil, aCons, eIf, eAnd, eOr, eNot, eChain, bChain, bCmp, bVal, bNot, bAnd, bOr, bTrue, eSl, oNone, oSome, eCall, eCall0, callF, eM, oBl, oB, oT, tr_bl, tr_int, tr_non, tr_tup, isT_str, beq_self_eq_true, vAdd, vSub, vMul, vDiv, vMod, vPow, vNeg, vIAdd, vIMul, vGt, vLt, vLe, vGe, lt2, ltP, vEq, vNe, eq_ii, eq_ss, eq_bb, eq_nn, vIx, seqP, lstP, newT, vSet, vLen, lenP, vAbs, vMax, vMin, cInt, vIsi, ty_non, ty_bl, ty_int, ty_str, ty_tup, ty_fl, Out.bind_ok, Out.bind_bad, wp_ok, wp_bind, List.getElem?_cons_zero, List.getElem?_cons_succ, List.getElem?_nil, List.set_cons_zero, List.set_cons_succ, List.append_nil, Option.map_some, Option.map_none, Option.bind_some, Option.bind_none, ga, ga0, gs, gs0, List.append_assoc, Nat.add_assoc, newL, LN, Nat.reduceLeDiff, Nat.reduceLT, kit_ss, kit_ts, kit_ls, kit_bs, kit_is, kit_ns, reduceCtorEq, a30, a31, a32, i30, i31, i32, decide_eq_true_eq, ne_eq, Int.reduceLT, Int.reduceLE, Int.reduceNeg, Int.reducePow, Int.reduceToNat, Int.reduceEq, Int.reduceNe, mulOk_l, List.length_set, List.length_append, imp_false, not_false_eq_true, implies_true, if_true, if_false, ite_true, ite_false, Bool.false_eq_true, Bool.not_true, Bool.not_false, forall_const, eq_self, and_true, true_and, and_self, PV.int.injEq, PV.str.injEq, PV.bl.injEq, decide_true, decide_false]
      exact ⟨_, rfl⟩
    have nope : (∀ l', tl x ≠ l' ++ [47]) → isEnt (tl x) = false := fun h => by
      unfold isEnt
      rw [pt, Bool.false_or]
      rcases List.eq_nil_or_concat (tl x) with e | ⟨l', c, e⟩
      · rw [e]; rfl
      · rw [e, List.concat_eq_append, List.getLast?_concat]
        rw [decide_eq_false, Bool.false_and]
        intro q
        exact h l' (by rw [e, List.concat_eq_append, Option.some.inj q])
    cases hpe : decide (tl p = []) with
    | false =>
      have en : isEnt (tl x) = false := nope fun l' e => by
        have h2 := spl_snoc l' []
        rw [← e, ← hp0, hPp, List.map_append] at h2
        have h3 := (List.append_inj' h2 rfl).2
        exact of_decide_eq_false hpe (List.cons.inj h3).1
      simp only [F__law_is_right, mkF, endF, startP, List.map_cons, List.map_nil, List.length_cons, List.length_nil, List.replicate, List.cons_append, List.nil_append, Nat.sub_zero, Nat.zero_add, Nat.reduceAdd, Nat.reduceSub, sSeq, sIf, sAsg, sRet, sRetN, sDrop, sNext, sBrk, sCont, sAug, stName, stSub, stTup, stCons, stNil, eVar, eC, eUn, eBin, eArg, eLst, eTup, aNil, aCons, eIf, eAnd, eOr, eNot, eChain, bChain, bCmp, bVal, bNot, bAnd, bOr, bTrue, eSl, oNone, oSome, eCall, eCall0, callF, eM, oBl, oB, oT, tr_bl, tr_int, tr_non, tr_tup, isT_str, beq_self_eq_true, vAdd, vSub, vMul, vDiv, vMod, vPow, vNeg, vIAdd, vIMul, vGt, vLt, vLe, vGe, lt2, ltP, vEq, vNe, eq_ii, eq_ss, eq_bb, eq_nn, vIx, seqP, lstP, newT, vSet, vLen, lenP, vAbs, vMax, vMin, cInt, vIsi, ty_non, ty_bl, ty_int, ty_str, ty_tup, ty_fl, Out.bind_ok, Out.bind_bad, wp_ok, wp_bind, List.getElem?_cons_zero, List.getElem?_cons_succ, List.getElem?_nil, List.set_cons_zero, List.set_cons_succ, List.append_nil, Option.map_some, Option.map_none, Option.bind_some, Option.bind_none, ga, ga0, gs, gs0, List.append_assoc, Nat.add_assoc, newL, LN, Nat.reduceLeDiff, Nat.reduceLT, kit_ss, kit_ts, kit_ls, kit_bs, kit_is, kit_ns, reduceCtorEq, a30, a31, a32, i30, i31, i32, decide_eq_true_eq, ne_eq, Int.reduceLT, Int.reduceLE, Int.reduceNeg, Int.reducePow, Int.reduceToNat, Int.reduceEq, Int.reduceNe, mulOk_l, List.length_set, List.length_append, imp_false, not_false_eq_true, implies_true, if_true, if_false, ite_true, ite_false, Bool.false_eq_true, Bool.not_true, Bool.not_false, forall_const, eq_self, and_true, true_and, and_self, PV.int.injEq, PV.str.injEq, PV.bl.injEq, decide_true, decide_false, sp, named_str hl6, e1, va _ _ P, hall, mAppend, isTy, a1, ixl, pe, hpe]
      have := finish [.lst (P.map .str), .lst ((P.map G.PV.str).map fun v => .bl (pNm v)), .lst [.bl (nmL (tl x)), .bl false, .bl false]] false en rfl
      simp only [mkF, endF, startP, List.map_cons, List.map_nil, List.length_cons, List.length_nil, List.replicate, List.cons_append, List.nil_append, Nat.sub_zero, Nat.zero_add, Nat.reduceAdd, Nat.reduceSub, sSeq, sIf, sAsg, sRet, sRetN, sDrop, sNext, sBrk, sCont, sAug, stName, stSub, stTup, stCons, stNil, eVar, eC, eUn, eBin, eArg, eLst, eTup, aNil, aCons, eIf, eAnd, eOr, eNot, eChain, bChain, bCmp, bVal, bNot, bAnd, bOr, bTrue, eSl, oNone, oSome, eCall, eCall0, callF, eM, oBl, oB, oT, tr_bl, tr_int, tr_non, tr_tup, isT_str, beq_self_eq_true, vAdd, vSub, vMul, vDiv, vMod, vPow, vNeg, vIAdd, vIMul, vGt, vLt, vLe, vGe, lt2, ltP, vEq, vNe, eq_ii, eq_ss, eq_bb, eq_nn, vIx, seqP, lstP, newT, vSet, vLen, lenP, vAbs, vMax, vMin, cInt, vIsi, ty_non, ty_bl, ty_int, ty_str, ty_tup, ty_fl, Out.bind_ok, Out.bind_bad, wp_ok, wp_bind, List.getElem?_cons_zero, List.getElem?_cons_succ, List.getElem?_nil, List.set_cons_zero, List.set_cons_succ, List.append_nil, Option.map_some, Option.map_none, Option.bind_some, Option.bind_none, ga, ga0, gs, gs0, List.append_assoc, Nat.add_assoc, newL, LN, Nat.reduceLeDiff, Nat.reduceLT, kit_ss, kit_ts, kit_ls, kit_bs, kit_is, kit_ns, reduceCtorEq, a30, a31, a32, i30, i31, i32, decide_eq_true_eq, ne_eq, Int.reduceLT, Int.reduceLE, Int.reduceNeg, Int.reducePow, Int.reduceToNat, Int.reduceEq, Int.reduceNe, mulOk_l, List.length_set, List.length_append, imp_false, not_false_eq_true, implies_true, if_true, if_false, ite_true, ite_false, Bool.false_eq_true, Bool.not_true, Bool.not_false, forall_const, eq_self, and_true, true_and, and_self, PV.int.injEq, PV.str.injEq, PV.bl.injEq, decide_true, decide_false] at this
      exact this
    | true =>
      have hlen : (P.map G.PV.str).length = P.length := List.length_map ..
      have hlast : (spl [47] 0 [] (tl x)).getLast? = some [] := by
        rw [← hp0, hPp, List.map_append, List.map_singleton, List.getLast?_concat, of_decide_eq_true hpe]
      by_cases h1 : (1 : Int) < (P.length : Int)
      · -- a slash at the end, and pieces ahead of it
        obtain ⟨l', hl'⟩ : ∃ l', tl x = l' ++ [47] := by
          rcases spl_last _ _ hlast with ⟨e, _⟩ | h
          · exfalso
            rw [e, spl_nil] at hp0
            have := congrArg List.length hp0
            rw [List.length_map, List.length_singleton] at this
            omega
          · exact h
        have hd : P'.map tl = spl [47] 0 [] l' := by
          have h2 := spl_snoc l' []
          rw [← hl', ← hp0, hPp, List.map_append] at h2
          exact (List.append_inj' h2 rfl).1
        have en : isEnt (tl x) = (P'.map tl).all nmL := by
          unfold isEnt
          rw [pt, Bool.false_or, hl', List.getLast?_concat, List.dropLast_concat, hd, ← isPth_spl]
          exact Bool.true_and _
        have cutP : sIxP (P.map G.PV.str) none (some (-1)) = P'.map G.PV.str := by
          have hn : (P.map G.PV.str).length = P'.length + 1 := by rw [hlen, hPp, List.length_append, List.length_singleton]
          show ((P.map G.PV.str).drop 0).take ((if (-1 : Int) < 0 then ((-1 : Int) + ((P.map G.PV.str).length : Int)).toNat else min (-1 : Int).toNat (P.map G.PV.str).length) - 0) = _
          rw [if_pos (by decide), hn, List.drop_zero, hPp, List.map_append, List.take_append_of_le_length (by rw [List.length_map]; omega), List.take_of_length_le (by rw [List.length_map]; omega)]
        have hP'l : P'.length ≤ 1001 := by rw [hPp, List.length_append] at hPl; omega
        have hP'm : ∀ p ∈ P', p.length ≤ 1000000 := fun q hq => hPm q (by rw [hPp]; exact List.mem_append_left _ hq)
        have hnl : (P'.map G.PV.str).length ≤ 1000000 := by rw [List.length_map]; omega
        have e3 := el P' (S ++ [.lst (P.map .str), .lst ((P.map G.PV.str).map fun v => .bl (pNm v)), .lst [.bl (nmL (tl x)), .bl false], .lst (P'.map .str)]) (S ++ [.lst (P.map .str), .lst ((P.map G.PV.str).map fun v => .bl (pNm v)), .lst [.bl (nmL (tl x)), .bl false]]) (S.length + 3)
          [some (.str x), some (.loc S.length), some (.loc (S.length + 2)), none] (iVal (eSl (eVar 1) oNone (oSome (eUn vNeg (eC (.int 1)))))) hP'm hP'l rfl (by simp only [mkF, endF, startP, List.map_cons, List.map_nil, List.length_cons, List.length_nil, List.replicate, List.cons_append, List.nil_append, Nat.sub_zero, Nat.zero_add, Nat.reduceAdd, Nat.reduceSub, sSeq, sIf, sAsg, sRet, sRetN, sDrop, sNext, sBrk, sCont, sAug, stName, stSub, stTup, stCons, stNil, eVar, eC, eUn, eBin, eArg, eLst, eTup, aNil, aCons, eIf, eAnd, eOr, eNot, eChain, bChain, bCmp, bVal, bNot, bAnd, bOr, bTrue, eSl, oNone, oSome, eCall, eCall0, callF, eM, oBl, oB, oT, tr_bl, tr_int, tr_non, tr_tup, isT_str, beq_self_eq_true, vAdd, vSub, vMul, vDiv, vMod, vPow, vNeg, vIAdd, vIMul, vGt, vLt, vLe, vGe, lt2, ltP, vEq, vNe, eq_ii, eq_ss, eq_bb, eq_nn, vIx, seqP, lstP, newT, vSet, vLen, lenP, vAbs, vMax, vMin, cInt, vIsi, ty_non, ty_bl, ty_int, ty_str, ty_tup, ty_fl, Out.bind_ok, Out.bind_bad, wp_ok, wp_bind, List.getElem?_cons_zero, List.getElem?_cons_succ, List.getElem?_nil, List.set_cons_zero, List.set_cons_succ, List.append_nil, Option.map_some, Option.map_none, Option.bind_some, Option.bind_none, ga, ga0, gs, gs0, List.append_assoc, Nat.add_assoc, newL, LN, Nat.reduceLeDiff, Nat.reduceLT, kit_ss, kit_ts, kit_ls, kit_bs, kit_is, kit_ns, reduceCtorEq, a30, a31, a32, i30, i31, i32, decide_eq_true_eq, ne_eq, Int.reduceLT, Int.reduceLE, Int.reduceNeg, Int.reducePow, Int.reduceToNat, Int.reduceEq, Int.reduceNe, mulOk_l, List.length_set, List.length_append, imp_false, not_false_eq_true, implies_true, if_true, if_false, ite_true, ite_false, Bool.false_eq_true, Bool.not_true, Bool.not_false, forall_const, eq_self, and_true, true_and, and_self, PV.int.injEq, PV.str.injEq, PV.bl.injEq, decide_true, decide_false, iVal, srcOf, vSl, cutP, hnl]) (by rw [ga]; rfl)
        simp only [List.append_assoc, List.cons_append, List.nil_append, List.length_append, List.length_cons, List.length_nil, Nat.zero_add] at e3
        simp only [F__law_is_right, mkF, endF, startP, List.map_cons, List.map_nil, List.length_cons, List.length_nil, List.replicate, List.cons_append, List.nil_append, Nat.sub_zero, Nat.zero_add, Nat.reduceAdd, Nat.reduceSub, sSeq, sIf, sAsg, sRet, sRetN, sDrop, sNext, sBrk, sCont, sAug, stName, stSub, stTup, stCons, stNil, eVar, eC, eUn, eBin, eArg, eLst, eTup, aNil, aCons, eIf, eAnd, eOr, eNot, eChain, bChain, bCmp, bVal, bNot, bAnd, bOr, bTrue, eSl, oNone, oSome, eCall, eCall0, callF, eM, oBl, oB, oT, tr_bl, tr_int, tr_non, tr_tup, isT_str, beq_self_eq_true, vAdd, vSub, vMul, vDiv, vMod, vPow, vNeg, vIAdd, vIMul, vGt, vLt, vLe, vGe, lt2, ltP, vEq, vNe, eq_ii, eq_ss, eq_bb, eq_nn, vIx, seqP, lstP, newT, vSet, vLen, lenP, vAbs, vMax, vMin, cInt, vIsi, ty_non, ty_bl, ty_int, ty_str, ty_tup, ty_fl, Out.bind_ok, Out.bind_bad, wp_ok, wp_bind, List.getElem?_cons_zero, List.getElem?_cons_succ, List.getElem?_nil, List.set_cons_zero, List.set_cons_succ, List.append_nil, Option.map_some, Option.map_none, Option.bind_some, Option.bind_none, ga, ga0, gs, gs0, List.append_assoc, Nat.add_assoc, newL, LN, Nat.reduceLeDiff, Nat.reduceLT, kit_ss, kit_ts, kit_ls, kit_bs, kit_is, kit_ns, reduceCtorEq, a30, a31, a32, i30, i31, i32, decide_eq_true_eq, ne_eq, Int.reduceLT, Int.reduceLE, Int.reduceNeg, Int.reducePow, Int.reduceToNat, Int.reduceEq, Int.reduceNe, mulOk_l, List.length_set, List.length_append, imp_false, not_false_eq_true, implies_true, if_true, if_false, ite_true, ite_false, Bool.false_eq_true, Bool.not_true, Bool.not_false, forall_const, eq_self, and_true, true_and, and_self, PV.int.injEq, PV.str.injEq, PV.bl.injEq, decide_true, decide_false, sp, named_str hl6, e1, va _ _ P, hall, mAppend, isTy, a1, ixl, pe, hpe, hlen, h1, e3, va _ _ P']
        have := finish [.lst (P.map .str), .lst ((P.map G.PV.str).map fun v => .bl (pNm v)), .lst [.bl (nmL (tl x)), .bl false, .bl ((P'.map tl).all nmL)], .lst (P'.map .str), .lst ((P'.map G.PV.str).map fun v => .bl (pNm v))] _ en rfl
        simp only [mkF, endF, startP, List.map_cons, List.map_nil, List.length_cons, List.length_nil, List.replicate, List.cons_append, List.nil_append, Nat.sub_zero, Nat.zero_add, Nat.reduceAdd, Nat.reduceSub, sSeq, sIf, sAsg, sRet, sRetN, sDrop, sNext, sBrk, sCont, sAug, stName, stSub, stTup, stCons, stNil, eVar, eC, eUn, eBin, eArg, eLst, eTup, aNil, aCons, eIf, eAnd, eOr, eNot, eChain, bChain, bCmp, bVal, bNot, bAnd, bOr, bTrue, eSl, oNone, oSome, eCall, eCall0, callF, eM, oBl, oB, oT, tr_bl, tr_int, tr_non, tr_tup, isT_str, beq_self_eq_true, vAdd, vSub, vMul, vDiv, vMod, vPow, vNeg, vIAdd, vIMul, vGt, vLt, vLe, vGe, lt2, ltP, vEq, vNe, eq_ii, eq_ss, eq_bb, eq_nn, vIx, seqP, lstP, newT, vSet, vLen, lenP, vAbs, vMax, vMin, cInt, vIsi, ty_non, ty_bl, ty_int, ty_str, ty_tup, ty_fl, Out.bind_ok, Out.bind_bad, wp_ok, wp_bind, List.getElem?_cons_zero, List.getElem?_cons_succ, List.getElem?_nil, List.set_cons_zero, List.set_cons_succ, List.append_nil, Option.map_some, Option.map_none, Option.bind_some, Option.bind_none, ga, ga0, gs, gs0, List.append_assoc, Nat.add_assoc, newL, LN, Nat.reduceLeDiff, Nat.reduceLT, kit_ss, kit_ts, kit_ls, kit_bs, kit_is, kit_ns, reduceCtorEq, a30, a31, a32, i30, i31, i32, decide_eq_true_eq, ne_eq, Int.reduceLT, Int.reduceLE, Int.reduceNeg, Int.reducePow, Int.reduceToNat, Int.reduceEq, Int.reduceNe, mulOk_l, List.length_set, List.length_append, imp_false, not_false_eq_true, implies_true, if_true, if_false, ite_true, ite_false, Bool.false_eq_true, Bool.not_true, Bool.not_false, forall_const, eq_self, and_true, true_and, and_self, PV.int.injEq, PV.str.injEq, PV.bl.injEq, decide_true, decide_false] at this
        exact this
      · have en : isEnt (tl x) = false := nope fun l' e => by
          have h2 := spl_snoc l' []
          rw [← e, ← hp0] at h2
          have h3 := congrArg List.length h2
          rw [List.length_map, List.length_append, List.length_singleton] at h3
          have h4 : (spl [47] 0 [] l').length ≠ 0 := fun q => spl_ne [] l' (List.length_eq_zero_iff.mp q)
          omega
        simp only [F__law_is_right, mkF, endF, startP, List.map_cons, List.map_nil, List.length_cons, List.length_nil, List.replicate, List.cons_append, List.nil_append, Nat.sub_zero, Nat.zero_add, Nat.reduceAdd, Nat.reduceSub, sSeq, sIf, sAsg, sRet, sRetN, sDrop, sNext, sBrk, sCont, sAug, stName, stSub, stTup, stCons, stNil, eVar, eC, eUn, eBin, eArg, eLst, eTup, aNil, aCons, eIf, eAnd, eOr, eNot, eChain, bChain, bCmp, bVal, bNot, bAnd, bOr, bTrue, eSl, oNone, oSome, eCall, eCall0, callF, eM, oBl, oB, oT, tr_bl, tr_int, tr_non, tr_tup, isT_str, beq_self_eq_true, vAdd, vSub, vMul, vDiv, vMod, vPow, vNeg, vIAdd, vIMul, vGt, vLt, vLe, vGe, lt2, ltP, vEq, vNe, eq_ii, eq_ss, eq_bb, eq_nn, vIx, seqP, lstP, newT, vSet, vLen, lenP, vAbs, vMax, vMin, cInt, vIsi, ty_non, ty_bl, ty_int, ty_str, ty_tup, ty_fl, Out.bind_ok, Out.bind_bad, wp_ok, wp_bind, List.getElem?_cons_zero, List.getElem?_cons_succ, List.getElem?_nil, List.set_cons_zero, List.set_cons_succ, List.append_nil, Option.map_some, Option.map_none, Option.bind_some, Option.bind_none, ga, ga0, gs, gs0, List.append_assoc, Nat.add_assoc, newL, LN, Nat.reduceLeDiff, Nat.reduceLT, kit_ss, kit_ts, kit_ls, kit_bs, kit_is, kit_ns, reduceCtorEq, a30, a31, a32, i30, i31, i32, decide_eq_true_eq, ne_eq, Int.reduceLT, Int.reduceLE, Int.reduceNeg, Int.reducePow, Int.reduceToNat, Int.reduceEq, Int.reduceNe, mulOk_l, List.length_set, List.length_append, imp_false, not_false_eq_true, implies_true, if_true, if_false, ite_true, ite_false, Bool.false_eq_true, Bool.not_true, Bool.not_false, forall_const, eq_self, and_true, true_and, and_self, PV.int.injEq, PV.str.injEq, PV.bl.injEq, decide_true, decide_false, sp, named_str hl6, e1, va _ _ P, hall, mAppend, isTy, a1, ixl, pe, hpe, hlen, h1]
        have := finish [.lst (P.map .str), .lst ((P.map G.PV.str).map fun v => .bl (pNm v)), .lst [.bl (nmL (tl x)), .bl false, .bl false]] false en rfl
        simp only [mkF, endF, startP, List.map_cons, List.map_nil, List.length_cons, List.length_nil, List.replicate, List.cons_append, List.nil_append, Nat.sub_zero, Nat.zero_add, Nat.reduceAdd, Nat.reduceSub, sSeq, sIf, sAsg, sRet, sRetN, sDrop, sNext, sBrk, sCont, sAug, stName, stSub, stTup, stCons, stNil, eVar, eC, eUn, eBin, eArg, eLst, eTup, aNil, aCons, eIf, eAnd, eOr, eNot, eChain, bChain, bCmp, bVal, bNot, bAnd, bOr, bTrue, eSl, oNone, oSome, eCall, eCall0, callF, eM, oBl, oB, oT, tr_bl, tr_int, tr_non, tr_tup, isT_str, beq_self_eq_true, vAdd, vSub, vMul, vDiv, vMod, vPow, vNeg, vIAdd, vIMul, vGt, vLt, vLe, vGe, lt2, ltP, vEq, vNe, eq_ii, eq_ss, eq_bb, eq_nn, vIx, seqP, lstP, newT, vSet, vLen, lenP, vAbs, vMax, vMin, cInt, vIsi, ty_non, ty_bl, ty_int, ty_str, ty_tup, ty_fl, Out.bind_ok, Out.bind_bad, wp_ok, wp_bind, List.getElem?_cons_zero, List.getElem?_cons_succ, List.getElem?_nil, List.set_cons_zero, List.set_cons_succ, List.append_nil, Option.map_some, Option.map_none, Option.bind_some, Option.bind_none, ga, ga0, gs, gs0, List.append_assoc, Nat.add_assoc, newL, LN, Nat.reduceLeDiff, Nat.reduceLT, kit_ss, kit_ts, kit_ls, kit_bs, kit_is, kit_ns, reduceCtorEq, a30, a31, a32, i30, i31, i32, decide_eq_true_eq, ne_eq, Int.reduceLT, Int.reduceLE, Int.reduceNeg, Int.reducePow, Int.reduceToNat, Int.reduceEq, Int.reduceNe, mulOk_l, List.length_set, List.length_append, imp_false, not_false_eq_true, implies_true, if_true, if_false, ite_true, ite_false, Bool.false_eq_true, Bool.not_true, Bool.not_false, forall_const, eq_self, and_true, true_and, and_self, PV.int.injEq, PV.str.injEq, PV.bl.injEq, decide_true, decide_false] at this
        exact this
end Lw

namespace Lw
open PySem L2 G TL

theorem bag_keep {S S' : Store} {b : Nat} {k k' : Int} (h : BagAt S b k) (e : S'[b]? = S[b]?) (hk : k ≤ k') : BagAt S' b k' := by
  obtain ⟨d, l, c, hS, h1, h2, h3, h4, h5⟩ := h
  exact ⟨d, l, c, e.trans hS, h1, h2, h3, h4, by omega⟩
theorem bag_lt {S : Store} {b : Nat} {k : Int} (h : BagAt S b k) : b < S.length := by
  obtain ⟨d, l, c, hS, _⟩ := h
  exact (List.getElem?_eq_some_iff.mp hS).1
theorem bag_app {S T : Store} {b : Nat} {k : Int} (h : BagAt S b k) : BagAt (S ++ T) b k := bag_keep h (List.getElem?_append_left (bag_lt h)) (Int.le_refl _)
theorem atI_in {α : Type} {xs : List α} {r : Int} (h0 : 0 ≤ r) (h1 : r < xs.length) : ∃ z, atI xs r = some z ∧ z ∈ xs := by
  have e : ((r.toNat : Nat) : Int) = r := Int.toNat_of_nonneg h0
  have hl : r.toNat < xs.length := by omega
  have q := atI_nat (List.getElem?_eq_getElem hl)
  rw [e] at q
  exact ⟨xs[r.toNat], q, List.getElem_mem hl⟩
theorem bag_ok {ns : List Int} {i : Int} {S : Store} (hi : 0 ≤ i) (hi2 : i < 100) : Wp (F__law_bag [scrP ns, .int i] S) fun v S' => v = .loc S.length ∧ ∃ o, S' = S ++ [o] ∧ BagAt S' S.length 0 := by
  obtain ⟨cell, hc⟩ : ∃ cell : Int, (eIf (bCmp vLt (eVar 1) (eArg vLen (aCons (eVar 0) aNil))) (eBin vIx (eVar 0) (eVar 1)) (eC (.int 0))) [some (scrP ns), some (.int i), none, none] S = .ok (.int cell) S := by
    by_cases h : i < (ns.length : Int)
    · obtain ⟨z, hz, hm⟩ := atI_in (xs := ns.map G.PV.int) hi (by rw [List.length_map]; exact h)
      obtain ⟨n, _, rfl⟩ := List.mem_map.mp hm
      exact ⟨n, by simp only [mkF, endF, startP, List.map_cons, List.map_nil, List.length_cons, List.length_nil, List.replicate, List.cons_append, List.nil_append, Nat.sub_zero, Nat.zero_add, Nat.reduceAdd, Nat.reduceSub, sSeq, sIf, sAsg, sRet, sRetN, sDrop, sNext, sBrk, sCont, sAug, stName, stSub, stTup, stCons, stNil, eVar, eC, eUn, eBin, eArg, eLst, eTup, aNil, aCons, eIf, eAnd, eOr, eNot, eChain, bChain, bCmp, bVal, bNot, bAnd, bOr, bTrue, eSl, oNone, oSome, eCall, eCall0, callF, eM, oBl, oB, oT, tr_bl, tr_int, tr_non, tr_tup, isT_str, beq_self_eq_true, vAdd, vSub, vMul, vDiv, vMod, vPow, vNeg, vIAdd, vIMul, vGt, vLt, vLe, vGe, lt2, ltP, vEq, vNe, eq_ii, eq_ss, eq_bb, eq_nn, vIx, seqP, lstP, newT, vSet, vLen, lenP, vAbs, vMax, vMin, cInt, vIsi, ty_non, ty_bl, ty_int, ty_str, ty_tup, ty_fl, Out.bind_ok, Out.bind_bad, wp_ok, wp_bind, List.getElem?_cons_zero, List.getElem?_cons_succ, List.getElem?_nil, List.set_cons_zero, List.set_cons_succ, List.append_nil, Option.map_some, Option.map_none, Option.bind_some, Option.bind_none, ga, ga0, gs, gs0, List.append_assoc, Nat.add_assoc, newL, LN, Nat.reduceLeDiff, Nat.reduceLT, kit_ss, kit_ts, kit_ls, kit_bs, kit_is, kit_ns, reduceCtorEq, a30, a31, a32, i30, i31, i32, decide_eq_true_eq, ne_eq, Int.reduceLT, Int.reduceLE, Int.reduceNeg, Int.reducePow, Int.reduceToNat, Int.reduceEq, Int.reduceNe, mulOk_l, List.length_set, List.length_append, imp_false, not_false_eq_true, implies_true, if_true, if_false, ite_true, ite_false, Bool.false_eq_true, Bool.not_true, Bool.not_false, forall_const, eq_self, and_true, true_and, and_self, PV.int.injEq, PV.str.injEq, PV.bl.injEq, decide_true, decide_false, scrP, List.length_map, h, hz]⟩
    · exact ⟨0, by simp only [mkF, endF, startP, List.map_cons, List.map_nil, List.length_cons, List.length_nil, List.replicate, List.cons_append, List.nil_append, Nat.sub_zero, Nat.zero_add, Nat.reduceAdd, Nat.reduceSub, sSeq, sIf, sAsg, sRet, sRetN, sDrop, sNext, sBrk, sCont, sAug, stName, stSub, stTup, stCons, stNil, eVar, eC, eUn, eBin, eArg, eLst, eTup, aNil, aCons, eIf, eAnd, eOr, eNot, eChain, bChain, bCmp, bVal, bNot, bAnd, bOr, bTrue, eSl, oNone, oSome, eCall, eCall0, callF, eM, oBl, oB, oT, tr_bl, tr_int, tr_non, tr_tup, isT_str, beq_self_eq_true, vAdd, vSub, vMul, vDiv, vMod, vPow, vNeg, vIAdd, vIMul, vGt, vLt, vLe, vGe, lt2, ltP, vEq, vNe, eq_ii, eq_ss, eq_bb, eq_nn, vIx, seqP, lstP, newT, vSet, vLen, lenP, vAbs, vMax, vMin, cInt, vIsi, ty_non, ty_bl, ty_int, ty_str, ty_tup, ty_fl, Out.bind_ok, Out.bind_bad, wp_ok, wp_bind, List.getElem?_cons_zero, List.getElem?_cons_succ, List.getElem?_nil, List.set_cons_zero, List.set_cons_succ, List.append_nil, Option.map_some, Option.map_none, Option.bind_some, Option.bind_none, ga, ga0, gs, gs0, List.append_assoc, Nat.add_assoc, newL, LN, Nat.reduceLeDiff, Nat.reduceLT, kit_ss, kit_ts, kit_ls, kit_bs, kit_is, kit_ns, reduceCtorEq, a30, a31, a32, i30, i31, i32, decide_eq_true_eq, ne_eq, Int.reduceLT, Int.reduceLE, Int.reduceNeg, Int.reducePow, Int.reduceToNat, Int.reduceEq, Int.reduceNe, mulOk_l, List.length_set, List.length_append, imp_false, not_false_eq_true, implies_true, if_true, if_false, ite_true, ite_false, Bool.false_eq_true, Bool.not_true, Bool.not_false, forall_const, eq_self, and_true, true_and, and_self, PV.int.injEq, PV.str.injEq, PV.bl.injEq, decide_true, decide_false, scrP, List.length_map, h]⟩
  have fin : ∀ d : Int, 0 ≤ d → BagAt (S ++ [.lst [.int d, .int (((cell.fmod 2305843009213693951 + 7013 * i + 19) * 4870847).fmod 2305843009213693951), .int 0]]) S.length 0 := fun d hd =>
    ⟨_, _, _, by rw [ga0]; rfl, hd, Int.fmod_nonneg_of_pos _ (by decide), Int.fmod_lt_of_pos _ (by decide), Int.le_refl _, Int.le_refl _⟩
  have m2 : mulOk (cell.fmod 2305843009213693951 + 7013 * i + 19) 4870847 = true := mulOk_r (by decide)
  have p10 : ((10 : Int) ^ (18 : Nat)) = 1000000000000000000 := by decide
  rw [F__law_bag, wp_mkF, wp_seq, wp_asg]
  refine Wp.of hc ?_
  simp only [mkF, endF, startP, List.map_cons, List.map_nil, List.length_cons, List.length_nil, List.replicate, List.cons_append, List.nil_append, Nat.sub_zero, Nat.zero_add, Nat.reduceAdd, Nat.reduceSub, sSeq, sIf, sAsg, sRet, sRetN, sDrop, sNext, sBrk, sCont, sAug, stName, stSub, stTup, stCons, stNil, eVar, eC, eUn, eBin, eArg, eLst, eTup, aNil, aCons, eIf, eAnd, eOr, eNot, eChain, bChain, bCmp, bVal, bNot, bAnd, bOr, bTrue, eSl, oNone, oSome, eCall, eCall0, callF, eM, oBl, oB, oT, tr_bl, tr_int, tr_non, tr_tup, isT_str, beq_self_eq_true, vAdd, vSub, vMul, vDiv, vMod, vPow, vNeg, vIAdd, vIMul, vGt, vLt, vLe, vGe, lt2, ltP, vEq, vNe, eq_ii, eq_ss, eq_bb, eq_nn, vIx, seqP, lstP, newT, vSet, vLen, lenP, vAbs, vMax, vMin, cInt, vIsi, ty_non, ty_bl, ty_int, ty_str, ty_tup, ty_fl, Out.bind_ok, Out.bind_bad, wp_ok, wp_bind, List.getElem?_cons_zero, List.getElem?_cons_succ, List.getElem?_nil, List.set_cons_zero, List.set_cons_succ, List.append_nil, Option.map_some, Option.map_none, Option.bind_some, Option.bind_none, ga, ga0, gs, gs0, List.append_assoc, Nat.add_assoc, newL, LN, Nat.reduceLeDiff, Nat.reduceLT, kit_ss, kit_ts, kit_ls, kit_bs, kit_is, kit_ns, reduceCtorEq, a30, a31, a32, i30, i31, i32, decide_eq_true_eq, ne_eq, Int.reduceLT, Int.reduceLE, Int.reduceNeg, Int.reducePow, Int.reduceToNat, Int.reduceEq, Int.reduceNe, mulOk_l, List.length_set, List.length_append, imp_false, not_false_eq_true, implies_true, if_true, if_false, ite_true, ite_false, Bool.false_eq_true, Bool.not_true, Bool.not_false, forall_const, eq_self, and_true, true_and, and_self, PV.int.injEq, PV.str.injEq, PV.bl.injEq, decide_true, decide_false, m2, p10]
  refine wp_ite (fun h => ?_) (fun h => ?_)
  · simp only [mkF, endF, startP, List.map_cons, List.map_nil, List.length_cons, List.length_nil, List.replicate, List.cons_append, List.nil_append, Nat.sub_zero, Nat.zero_add, Nat.reduceAdd, Nat.reduceSub, sSeq, sIf, sAsg, sRet, sRetN, sDrop, sNext, sBrk, sCont, sAug, stName, stSub, stTup, stCons, stNil, eVar, eC, eUn, eBin, eArg, eLst, eTup, aNil, aCons, eIf, eAnd, eOr, eNot, eChain, bChain, bCmp, bVal, bNot, bAnd, bOr, bTrue, eSl, oNone, oSome, eCall, eCall0, callF, eM, oBl, oB, oT, tr_bl, tr_int, tr_non, tr_tup, isT_str, beq_self_eq_true, vAdd, vSub, vMul, vDiv, vMod, vPow, vNeg, vIAdd, vIMul, vGt, vLt, vLe, vGe, lt2, ltP, vEq, vNe, eq_ii, eq_ss, eq_bb, eq_nn, vIx, seqP, lstP, newT, vSet, vLen, lenP, vAbs, vMax, vMin, cInt, vIsi, ty_non, ty_bl, ty_int, ty_str, ty_tup, ty_fl, Out.bind_ok, Out.bind_bad, wp_ok, wp_bind, List.getElem?_cons_zero, List.getElem?_cons_succ, List.getElem?_nil, List.set_cons_zero, List.set_cons_succ, List.append_nil, Option.map_some, Option.map_none, Option.bind_some, Option.bind_none, ga, ga0, gs, gs0, List.append_assoc, Nat.add_assoc, newL, LN, Nat.reduceLeDiff, Nat.reduceLT, kit_ss, kit_ts, kit_ls, kit_bs, kit_is, kit_ns, reduceCtorEq, a30, a31, a32, i30, i31, i32, decide_eq_true_eq, ne_eq, Int.reduceLT, Int.reduceLE, Int.reduceNeg, Int.reducePow, Int.reduceToNat, Int.reduceEq, Int.reduceNe, mulOk_l, List.length_set, List.length_append, imp_false, not_false_eq_true, implies_true, if_true, if_false, ite_true, ite_false, Bool.false_eq_true, Bool.not_true, Bool.not_false, forall_const, eq_self, and_true, true_and, and_self, PV.int.injEq, PV.str.injEq, PV.bl.injEq, decide_true, decide_false, m2]
    exact ⟨_, rfl, fin _ (by split <;> omega)⟩
  · simp only [mkF, endF, startP, List.map_cons, List.map_nil, List.length_cons, List.length_nil, List.replicate, List.cons_append, List.nil_append, Nat.sub_zero, Nat.zero_add, Nat.reduceAdd, Nat.reduceSub, sSeq, sIf, sAsg, sRet, sRetN, sDrop, sNext, sBrk, sCont, sAug, stName, stSub, stTup, stCons, stNil, eVar, eC, eUn, eBin, eArg, eLst, eTup, aNil, aCons, eIf, eAnd, eOr, eNot, eChain, bChain, bCmp, bVal, bNot, bAnd, bOr, bTrue, eSl, oNone, oSome, eCall, eCall0, callF, eM, oBl, oB, oT, tr_bl, tr_int, tr_non, tr_tup, isT_str, beq_self_eq_true, vAdd, vSub, vMul, vDiv, vMod, vPow, vNeg, vIAdd, vIMul, vGt, vLt, vLe, vGe, lt2, ltP, vEq, vNe, eq_ii, eq_ss, eq_bb, eq_nn, vIx, seqP, lstP, newT, vSet, vLen, lenP, vAbs, vMax, vMin, cInt, vIsi, ty_non, ty_bl, ty_int, ty_str, ty_tup, ty_fl, Out.bind_ok, Out.bind_bad, wp_ok, wp_bind, List.getElem?_cons_zero, List.getElem?_cons_succ, List.getElem?_nil, List.set_cons_zero, List.set_cons_succ, List.append_nil, Option.map_some, Option.map_none, Option.bind_some, Option.bind_none, ga, ga0, gs, gs0, List.append_assoc, Nat.add_assoc, newL, LN, Nat.reduceLeDiff, Nat.reduceLT, kit_ss, kit_ts, kit_ls, kit_bs, kit_is, kit_ns, reduceCtorEq, a30, a31, a32, i30, i31, i32, decide_eq_true_eq, ne_eq, Int.reduceLT, Int.reduceLE, Int.reduceNeg, Int.reducePow, Int.reduceToNat, Int.reduceEq, Int.reduceNe, mulOk_l, List.length_set, List.length_append, imp_false, not_false_eq_true, implies_true, if_true, if_false, ite_true, ite_false, Bool.false_eq_true, Bool.not_true, Bool.not_false, forall_const, eq_self, and_true, true_and, and_self, PV.int.injEq, PV.str.injEq, PV.bl.injEq, decide_true, decide_false, m2]
    exact ⟨_, rfl, fin _ (Int.le_refl _)⟩

def GoodV (S : Store) (v : G.PV) : Prop := (∃ x, v = .str x ∧ x.length ≤ 1000) ∨ ∃ t, tyP S v = some t ∧ (∀ T, tyP (S ++ T) v = some t) ∧ kitB t "str" = some false
theorem right_good {S : Store} {v : G.PV} (h : GoodV S v) : Wp (F__law_is_right [v] S) fun r S' => r = .bl true ∧ ∃ T, S' = S ++ T := by
  rcases h with ⟨x, rfl, hx⟩ | ⟨t, h1, h2, h3⟩
  · exact right_str hx
  · exact right_not h1 h2 h3
theorem good_str {S : Store} {x : Str} (h : x.length ≤ 1000) : GoodV S (.str x) := .inl ⟨x, rfl, h⟩
theorem good_lst {S : Store} {n : Nat} {xs : List G.PV} (h : S[n]? = some (.lst xs)) : GoodV S (.loc n) :=
  .inr ⟨"list", ty_lst h, fun T => ty_lst (by rw [List.getElem?_append_left (List.getElem?_eq_some_iff.mp h).1]; exact h), kit_ls⟩
theorem any_ok {S : Store} {b : Nat} {k : Int} (h : BagAt S b k) (hk : k ≤ 100000) : Wp (F__law_any [.loc b] S) fun v S' => GoodV S' v ∧ BagAt S' b (k + 1) := by
  have hb := bag_lt h
  simp only [F__law_any, mkF, endF, startP, List.map_cons, List.map_nil, List.length_cons, List.length_nil, List.replicate, List.cons_append, List.nil_append, Nat.sub_zero, Nat.zero_add, Nat.reduceAdd, Nat.reduceSub, sSeq, sIf, sAsg, sRet, sRetN, sDrop, sNext, sBrk, sCont, sAug, stName, stSub, stTup, stCons, stNil, eVar, eC, eUn, eBin, eArg, eLst, eTup, aNil, aCons, eIf, eAnd, eOr, eNot, eChain, bChain, bCmp, bVal, bNot, bAnd, bOr, bTrue, eSl, oNone, oSome, eCall, eCall0, callF, eM, oBl, oB, oT, tr_bl, tr_int, tr_non, tr_tup, isT_str, beq_self_eq_true, vAdd, vSub, vMul, vDiv, vMod, vPow, vNeg, vIAdd, vIMul, vGt, vLt, vLe, vGe, lt2, ltP, vEq, vNe, eq_ii, eq_ss, eq_bb, eq_nn, vIx, seqP, lstP, newT, vSet, vLen, lenP, vAbs, vMax, vMin, cInt, vIsi, ty_non, ty_bl, ty_int, ty_str, ty_tup, ty_fl, Out.bind_ok, Out.bind_bad, wp_ok, wp_bind, List.getElem?_cons_zero, List.getElem?_cons_succ, List.getElem?_nil, List.set_cons_zero, List.set_cons_succ, List.append_nil, Option.map_some, Option.map_none, Option.bind_some, Option.bind_none, ga, ga0, gs, gs0, List.append_assoc, Nat.add_assoc, newL, LN, Nat.reduceLeDiff, Nat.reduceLT, kit_ss, kit_ts, kit_ls, kit_bs, kit_is, kit_ns, reduceCtorEq, a30, a31, a32, i30, i31, i32, decide_eq_true_eq, ne_eq, Int.reduceLT, Int.reduceLE, Int.reduceNeg, Int.reducePow, Int.reduceToNat, Int.reduceEq, Int.reduceNe, mulOk_l, List.length_set, List.length_append, imp_false, not_false_eq_true, implies_true, if_true, if_false, ite_true, ite_false, Bool.false_eq_true, Bool.not_true, Bool.not_false, forall_const, eq_self, and_true, true_and, and_self, PV.int.injEq, PV.str.injEq, PV.bl.injEq, decide_true, decide_false]
  refine (take_ok (n := 25) (bag_app h) hk (by decide) (by decide)).imp fun v S' ⟨r, hv, h1, h2, h3, o, h4⟩ => ?_
  subst hv
  have hne : ∀ j, S.length ≤ j → j ≠ b := fun j hj e => by omega
  have look : ∀ (L : Store) (k : Nat), (S ++ L).set b o = S' → L[k]? = S'[S.length + k]? := fun L k e => by
    rw [← e, List.getElem?_set_ne (by omega), ga]
  have g0 := look _ 0 h4.symm
  have g2 := look _ 2 h4.symm
  have g4 := look _ 4 h4.symm
  rw [Nat.add_zero] at g0
  simp only [List.getElem?_cons_succ, List.getElem?_cons_zero] at g0 g2 g4
  simp only [mkF, endF, startP, List.map_cons, List.map_nil, List.length_cons, List.length_nil, List.replicate, List.cons_append, List.nil_append, Nat.sub_zero, Nat.zero_add, Nat.reduceAdd, Nat.reduceSub, sSeq, sIf, sAsg, sRet, sRetN, sDrop, sNext, sBrk, sCont, sAug, stName, stSub, stTup, stCons, stNil, eVar, eC, eUn, eBin, eArg, eLst, eTup, aNil, aCons, eIf, eAnd, eOr, eNot, eChain, bChain, bCmp, bVal, bNot, bAnd, bOr, bTrue, eSl, oNone, oSome, eCall, eCall0, callF, eM, oBl, oB, oT, tr_bl, tr_int, tr_non, tr_tup, isT_str, beq_self_eq_true, vAdd, vSub, vMul, vDiv, vMod, vPow, vNeg, vIAdd, vIMul, vGt, vLt, vLe, vGe, lt2, ltP, vEq, vNe, eq_ii, eq_ss, eq_bb, eq_nn, vIx, seqP, lstP, newT, vSet, vLen, lenP, vAbs, vMax, vMin, cInt, vIsi, ty_non, ty_bl, ty_int, ty_str, ty_tup, ty_fl, Out.bind_ok, Out.bind_bad, wp_ok, wp_bind, List.getElem?_cons_zero, List.getElem?_cons_succ, List.getElem?_nil, List.set_cons_zero, List.set_cons_succ, List.append_nil, Option.map_some, Option.map_none, Option.bind_some, Option.bind_none, ga, ga0, gs, gs0, List.append_assoc, Nat.add_assoc, newL, LN, Nat.reduceLeDiff, Nat.reduceLT, kit_ss, kit_ts, kit_ls, kit_bs, kit_is, kit_ns, reduceCtorEq, a30, a31, a32, i30, i31, i32, decide_eq_true_eq, ne_eq, Int.reduceLT, Int.reduceLE, Int.reduceNeg, Int.reducePow, Int.reduceToNat, Int.reduceEq, Int.reduceNe, mulOk_l, List.length_set, List.length_append, imp_false, not_false_eq_true, implies_true, if_true, if_false, ite_true, ite_false, Bool.false_eq_true, Bool.not_true, Bool.not_false, forall_const, eq_self, and_true, true_and, and_self, PV.int.injEq, PV.str.injEq, PV.bl.injEq, decide_true, decide_false, ← g4]
  obtain ⟨z, hz, hm⟩ := atI_in (xs := [G.PV.non, .bl true, .bl false, .int 0, .int 1, .str (Str.ofString ""), .str (Str.ofString "a"), .str (Str.ofString "/"), .str (Str.ofString "a/"), .str (Str.ofString "a/b"), .str (Str.ofString "A"), .str (Str.ofString "."), .str (Str.ofString ".."), .str (Str.ofString "star"), .loc S.length, .tup [], .tup [.str (Str.ofString "star")],
    .tup [.str (Str.ofString "any")], .tup [.str (Str.ofString "deep")], .tup [.str (Str.ofString "sign"), .str (Str.ofString "a")], .tup [.str (Str.ofString "set"), .str (Str.ofString "ab")], .tup [.str (Str.ofString "name"), .tup [.tup [.str (Str.ofString "any")]]], .loc (S.length + 2), .tup [.str (Str.ofString "a")], .int 1000000000000000000000000000000]) h1 (by exact h2)
  rw [hz]
  refine ⟨?_, h3⟩
  have gn : GoodV S' .non := .inr ⟨_, rfl, fun _ => rfl, kit_ns⟩
  have gb : ∀ q, GoodV S' (.bl q) := fun q => .inr ⟨_, rfl, fun _ => rfl, kit_bs⟩
  have gi : ∀ q, GoodV S' (.int q) := fun q => .inr ⟨_, rfl, fun _ => rfl, kit_is⟩
  have gt : ∀ q, GoodV S' (.tup q) := fun q => .inr ⟨_, rfl, fun _ => rfl, kit_ts⟩
  have gl0 : GoodV S' (.loc S.length) := good_lst g0.symm
  have gl2 : GoodV S' (.loc (S.length + 2)) := good_lst g2.symm
  simp only [List.mem_cons, List.not_mem_nil, or_false] at hm
  rcases hm with rfl | rfl | rfl | rfl | rfl | rfl | rfl | rfl | rfl | rfl | rfl | rfl | rfl | rfl | rfl | rfl | rfl | rfl | rfl | rfl | rfl | rfl | rfl | rfl | rfl <;> first
    | exact gn | exact gb _ | exact gi _ | exact gt _ | exact gl0 | exact gl2 | exact good_str (by decide +kernel)
end Lw

namespace Lw
open PySem L2 G TL

theorem strs_ones : ∀ ys : List G.PV, (∀ y ∈ ys, ∃ x : Str, y = .str x ∧ x.length = 1) → ∃ zs, strsP ys = some zs ∧ zs.length = ys.length ∧ (zs.map (·.length)).sum = ys.length
  | [], _ => ⟨[], rfl, rfl, rfl⟩
  | y :: ys, h => by
    obtain ⟨x, rfl, hx⟩ := h y List.mem_cons_self
    obtain ⟨zs, h1, h2, h3⟩ := strs_ones ys fun z hz => h z (List.mem_cons_of_mem _ hz)
    refine ⟨x :: zs, ?_, by rw [List.length_cons, List.length_cons, h2], ?_⟩
    · show (strsP ys).map (x :: ·) = _
      rw [h1]; rfl
    · rw [List.map_cons, List.sum_cons, h3, hx, List.length_cons]; omega
theorem join_len (zs : List Str) : (Txt.join (Str.ofString "") zs).length ≤ (zs.map (·.length)).sum := by
  have h := PySem.StrLaws.join_length_le (Str.ofString "") zs
  rw [show (Str.ofString "").length = 0 from by decide +kernel, Nat.mul_zero, Nat.add_zero] at h
  rw [join_eq]
  exact h
abbrev turnB : SS := sSeq (sAsg (eBin vIx (eLst (aCons (eC (.str "ab.-_09z/")) (aCons (eC (.str "ab/")) (aCons (eC (.str "aA/ .")) (aCons (eC (.str "a*?[]~")) aNil))))) (eCall 2 F__law_take [] (aCons (eVar 2) (aCons (eC (.int 4)) aNil)))) (stName 4))
  (sSeq (sAsg (eM "str" mJoin (eC (.str "")) (aCons (eLc (iRange (aCons (eCall 2 F__law_take [] (aCons (eVar 2) (aCons (eC (.int 9)) aNil))) aNil)) (ctName 7) bTrue (eBin vIx (eVar 4) (eCall 2 F__law_take [] (aCons (eVar 2) (aCons (eArg vLen (aCons (eVar 4) aNil)) aNil)))) [7]) aNil)) (stName 5))
  (sIf (bOr (bNot (bVal (eCall 1 F__law_is_right [] (aCons (eVar 5) aNil)))) (bOr (bNot (bVal (eCall 1 F__law_is_right [] (aCons (eBin vAdd (eVar 5) (eC (.str "/"))) aNil)))) (bNot (bVal (eCall 1 F__law_is_right [] (aCons (eCall 1 F__law_any [] (aCons (eVar 2) aNil)) aNil)))))) (sRet (eC (.bl false))) sNext))
theorem turn_ok {a0 a1 a3 : Option G.PV} {a4 a5 a6 a7 : Option G.PV} {b : Nat} {k : Int} {S : Store} (h : BagAt S b k) (hk : k ≤ 10000) :
    Wp (turnB [a0, a1, some (.loc b), a3, a4, a5, a6, a7] S) fun fl S' => ∃ a4 a5, fl = .nx [a0, a1, some (.loc b), a3, a4, a5, a6, a7] ∧ BagAt S' b (k + 20) := by
  have hb := bag_lt h
  rw [turnB, wp_seq, wp_asg]
  simp only [mkF, endF, startP, List.map_cons, List.map_nil, List.length_cons, List.length_nil, List.replicate, List.cons_append, List.nil_append, Nat.sub_zero, Nat.zero_add, Nat.reduceAdd, Nat.reduceSub, sSeq, sIf, sAsg, sRet, sRetN, sDrop, sNext, sBrk, sCont, sAug, stName, stSub, stTup, stCons, stNil, eVar, eC, eUn, eBin, eArg, eLst, eTup, aNil, aCons, eIf, eAnd, eOr, eNot, eChain, bChain, bCmp, bVal, bNot, bAnd, bOr, bTrue, eSl, oNone, oSome, eCall, eCall0, callF, eM, oBl, oB, oT, tr_bl, tr_int, tr_non, tr_tup, isT_str, beq_self_eq_true, vAdd, vSub, vMul, vDiv, vMod, vPow, vNeg, vIAdd, vIMul, vGt, vLt, vLe, vGe, lt2, ltP, vEq, vNe, eq_ii, eq_ss, eq_bb, eq_nn, vIx, seqP, lstP, newT, vSet, vLen, lenP, vAbs, vMax, vMin, cInt, vIsi, ty_non, ty_bl, ty_int, ty_str, ty_tup, ty_fl, Out.bind_ok, Out.bind_bad, wp_ok, wp_bind, List.getElem?_cons_zero, List.getElem?_cons_succ, List.getElem?_nil, List.set_cons_zero, List.set_cons_succ, List.append_nil, Option.map_some, Option.map_none, Option.bind_some, Option.bind_none, ga, ga0, gs, gs0, List.append_assoc, Nat.add_assoc, newL, LN, Nat.reduceLeDiff, Nat.reduceLT, kit_ss, kit_ts, kit_ls, kit_bs, kit_is, kit_ns, reduceCtorEq, a30, a31, a32, i30, i31, i32, decide_eq_true_eq, ne_eq, Int.reduceLT, Int.reduceLE, Int.reduceNeg, Int.reducePow, Int.reduceToNat, Int.reduceEq, Int.reduceNe, mulOk_l, List.length_set, List.length_append, imp_false, not_false_eq_true, implies_true, if_true, if_false, ite_true, ite_false, Bool.false_eq_true, Bool.not_true, Bool.not_false, forall_const, eq_self, and_true, true_and, and_self, PV.int.injEq, PV.str.injEq, PV.bl.injEq, decide_true, decide_false]
  refine (take_ok (n := 4) (bag_app h) (by omega) (by decide) (by decide)).imp fun v S1 ⟨r, hv, h1, h2, h3, o, h4⟩ => ?_
  subst hv
  have g0 : S1[S.length]? = some (.lst [.str (Str.ofString "ab.-_09z/"), .str (Str.ofString "ab/"), .str (Str.ofString "aA/ ."), .str (Str.ofString "a*?[]~")]) := by
    rw [h4, List.getElem?_set_ne (by omega), ga0]; rfl
  simp only [mkF, endF, startP, List.map_cons, List.map_nil, List.length_cons, List.length_nil, List.replicate, List.cons_append, List.nil_append, Nat.sub_zero, Nat.zero_add, Nat.reduceAdd, Nat.reduceSub, sSeq, sIf, sAsg, sRet, sRetN, sDrop, sNext, sBrk, sCont, sAug, stName, stSub, stTup, stCons, stNil, eVar, eC, eUn, eBin, eArg, eLst, eTup, aNil, aCons, eIf, eAnd, eOr, eNot, eChain, bChain, bCmp, bVal, bNot, bAnd, bOr, bTrue, eSl, oNone, oSome, eCall, eCall0, callF, eM, oBl, oB, oT, tr_bl, tr_int, tr_non, tr_tup, isT_str, beq_self_eq_true, vAdd, vSub, vMul, vDiv, vMod, vPow, vNeg, vIAdd, vIMul, vGt, vLt, vLe, vGe, lt2, ltP, vEq, vNe, eq_ii, eq_ss, eq_bb, eq_nn, vIx, seqP, lstP, newT, vSet, vLen, lenP, vAbs, vMax, vMin, cInt, vIsi, ty_non, ty_bl, ty_int, ty_str, ty_tup, ty_fl, Out.bind_ok, Out.bind_bad, wp_ok, wp_bind, List.getElem?_cons_zero, List.getElem?_cons_succ, List.getElem?_nil, List.set_cons_zero, List.set_cons_succ, List.append_nil, Option.map_some, Option.map_none, Option.bind_some, Option.bind_none, ga, ga0, gs, gs0, List.append_assoc, Nat.add_assoc, newL, LN, Nat.reduceLeDiff, Nat.reduceLT, kit_ss, kit_ts, kit_ls, kit_bs, kit_is, kit_ns, reduceCtorEq, a30, a31, a32, i30, i31, i32, decide_eq_true_eq, ne_eq, Int.reduceLT, Int.reduceLE, Int.reduceNeg, Int.reducePow, Int.reduceToNat, Int.reduceEq, Int.reduceNe, mulOk_l, List.length_set, List.length_append, imp_false, not_false_eq_true, implies_true, if_true, if_false, ite_true, ite_false, Bool.false_eq_true, Bool.not_true, Bool.not_false, forall_const, eq_self, and_true, true_and, and_self, PV.int.injEq, PV.str.injEq, PV.bl.injEq, decide_true, decide_false, g0]
  obtain ⟨z, hz, hm⟩ := atI_in (xs := [G.PV.str (Str.ofString "ab.-_09z/"), .str (Str.ofString "ab/"), .str (Str.ofString "aA/ ."), .str (Str.ofString "a*?[]~")]) h1 (by exact h2)
  rw [hz]
  obtain ⟨g, rfl, gl0, gl1⟩ : ∃ g : Str, z = .str g ∧ 0 < g.length ∧ g.length < 100 := by
    simp only [List.mem_cons, List.not_mem_nil, or_false] at hm
    rcases hm with rfl | rfl | rfl | rfl <;> exact ⟨_, rfl, by decide +kernel, by decide +kernel⟩
  simp only [mkF, endF, startP, List.map_cons, List.map_nil, List.length_cons, List.length_nil, List.replicate, List.cons_append, List.nil_append, Nat.sub_zero, Nat.zero_add, Nat.reduceAdd, Nat.reduceSub, sSeq, sIf, sAsg, sRet, sRetN, sDrop, sNext, sBrk, sCont, sAug, stName, stSub, stTup, stCons, stNil, eVar, eC, eUn, eBin, eArg, eLst, eTup, aNil, aCons, eIf, eAnd, eOr, eNot, eChain, bChain, bCmp, bVal, bNot, bAnd, bOr, bTrue, eSl, oNone, oSome, eCall, eCall0, callF, eM, oBl, oB, oT, tr_bl, tr_int, tr_non, tr_tup, isT_str, beq_self_eq_true, vAdd, vSub, vMul, vDiv, vMod, vPow, vNeg, vIAdd, vIMul, vGt, vLt, vLe, vGe, lt2, ltP, vEq, vNe, eq_ii, eq_ss, eq_bb, eq_nn, vIx, seqP, lstP, newT, vSet, vLen, lenP, vAbs, vMax, vMin, cInt, vIsi, ty_non, ty_bl, ty_int, ty_str, ty_tup, ty_fl, Out.bind_ok, Out.bind_bad, wp_ok, wp_bind, List.getElem?_cons_zero, List.getElem?_cons_succ, List.getElem?_nil, List.set_cons_zero, List.set_cons_succ, List.append_nil, Option.map_some, Option.map_none, Option.bind_some, Option.bind_none, ga, ga0, gs, gs0, List.append_assoc, Nat.add_assoc, newL, LN, Nat.reduceLeDiff, Nat.reduceLT, kit_ss, kit_ts, kit_ls, kit_bs, kit_is, kit_ns, reduceCtorEq, a30, a31, a32, i30, i31, i32, decide_eq_true_eq, ne_eq, Int.reduceLT, Int.reduceLE, Int.reduceNeg, Int.reducePow, Int.reduceToNat, Int.reduceEq, Int.reduceNe, mulOk_l, List.length_set, List.length_append, imp_false, not_false_eq_true, implies_true, if_true, if_false, ite_true, ite_false, Bool.false_eq_true, Bool.not_true, Bool.not_false, forall_const, eq_self, and_true, true_and, and_self, PV.int.injEq, PV.str.injEq, PV.bl.injEq, decide_true, decide_false]
  -- the text
  have hgl : g.length ≤ 1000000 := by omega
  have lc : Wp (eLc (iRange (aCons (eCall 2 F__law_take [] (aCons (eVar 2) (aCons (eC (.int 9)) aNil))) aNil)) (ctName 7) bTrue (eBin vIx (eVar 4) (eCall 2 F__law_take [] (aCons (eVar 2) (aCons (eArg vLen (aCons (eVar 4) aNil)) aNil)))) [7] [a0, a1, some (.loc b), a3, some (.str g), a5, a6, a7] S1)
      fun v S' => BagAt S' b (k + 11) ∧ ∃ n ys, v = .loc n ∧ S'[n]? = some (.lst ys) ∧ ys.length ≤ 8 ∧ ∀ y ∈ ys, ∃ x : Str, y = .str x ∧ x.length = 1 := by
    obtain ⟨v, S2, e2, r2, rfl, q1, q2, q3, o2, q4⟩ := (take_ok (n := 9) h3 (by omega) (by decide) (by decide)).ex
    have hi : (iRange (aCons (eCall 2 F__law_take [] (aCons (eVar 2) (aCons (eC (.int 9)) aNil))) aNil)) [a0, a1, some (.loc b), a3, some (.str g), a5, a6, a7] S1 = .ok (srcSeq (rangeP 0 r2)) S2 := by
      simp only [mkF, endF, startP, List.map_cons, List.map_nil, List.length_cons, List.length_nil, List.replicate, List.cons_append, List.nil_append, Nat.sub_zero, Nat.zero_add, Nat.reduceAdd, Nat.reduceSub, sSeq, sIf, sAsg, sRet, sRetN, sDrop, sNext, sBrk, sCont, sAug, stName, stSub, stTup, stCons, stNil, eVar, eC, eUn, eBin, eArg, eLst, eTup, aNil, aCons, eIf, eAnd, eOr, eNot, eChain, bChain, bCmp, bVal, bNot, bAnd, bOr, bTrue, eSl, oNone, oSome, eCall, eCall0, callF, eM, oBl, oB, oT, tr_bl, tr_int, tr_non, tr_tup, isT_str, beq_self_eq_true, vAdd, vSub, vMul, vDiv, vMod, vPow, vNeg, vIAdd, vIMul, vGt, vLt, vLe, vGe, lt2, ltP, vEq, vNe, eq_ii, eq_ss, eq_bb, eq_nn, vIx, seqP, lstP, newT, vSet, vLen, lenP, vAbs, vMax, vMin, cInt, vIsi, ty_non, ty_bl, ty_int, ty_str, ty_tup, ty_fl, Out.bind_ok, Out.bind_bad, wp_ok, wp_bind, List.getElem?_cons_zero, List.getElem?_cons_succ, List.getElem?_nil, List.set_cons_zero, List.set_cons_succ, List.append_nil, Option.map_some, Option.map_none, Option.bind_some, Option.bind_none, ga, ga0, gs, gs0, List.append_assoc, Nat.add_assoc, newL, LN, Nat.reduceLeDiff, Nat.reduceLT, kit_ss, kit_ts, kit_ls, kit_bs, kit_is, kit_ns, reduceCtorEq, a30, a31, a32, i30, i31, i32, decide_eq_true_eq, ne_eq, Int.reduceLT, Int.reduceLE, Int.reduceNeg, Int.reducePow, Int.reduceToNat, Int.reduceEq, Int.reduceNe, mulOk_l, List.length_set, List.length_append, imp_false, not_false_eq_true, implies_true, if_true, if_false, ite_true, ite_false, Bool.false_eq_true, Bool.not_true, Bool.not_false, forall_const, eq_self, and_true, true_and, and_self, PV.int.injEq, PV.str.injEq, PV.bl.injEq, decide_true, decide_false, iRange, e2, rngOf]
      rw [if_pos (by omega)]
    have hn : (rangeP 0 r2).length = r2.toNat := by unfold rangeP; rw [List.length_map, List.length_range, Int.sub_zero]
    have hb2 := bag_lt q3
    refine lc_invG (rangeP 0 r2) (fun j S' => BagAt S' b (k + 2 + j)) (fun y => ∃ x : Str, y = .str x ∧ x.length = 1) hi (by rw [hn]; show _ < 1000000; omega) (bag_keep (bag_app q3) rfl (by omega)) (fun i S' _ => rfl) ?_ ?_
    · intro i x S' hx hI
      have hi8 : i < 9 := by
        have := (List.getElem?_eq_some_iff.mp hx).1
        rw [hn] at this; omega
      refine ⟨_, rfl, ?_⟩
      simp only [mkF, endF, startP, List.map_cons, List.map_nil, List.length_cons, List.length_nil, List.replicate, List.cons_append, List.nil_append, Nat.sub_zero, Nat.zero_add, Nat.reduceAdd, Nat.reduceSub, sSeq, sIf, sAsg, sRet, sRetN, sDrop, sNext, sBrk, sCont, sAug, stName, stSub, stTup, stCons, stNil, eVar, eC, eUn, eBin, eArg, eLst, eTup, aNil, aCons, eIf, eAnd, eOr, eNot, eChain, bChain, bCmp, bVal, bNot, bAnd, bOr, bTrue, eSl, oNone, oSome, eCall, eCall0, callF, eM, oBl, oB, oT, tr_bl, tr_int, tr_non, tr_tup, isT_str, beq_self_eq_true, vAdd, vSub, vMul, vDiv, vMod, vPow, vNeg, vIAdd, vIMul, vGt, vLt, vLe, vGe, lt2, ltP, vEq, vNe, eq_ii, eq_ss, eq_bb, eq_nn, vIx, seqP, lstP, newT, vSet, vLen, lenP, vAbs, vMax, vMin, cInt, vIsi, ty_non, ty_bl, ty_int, ty_str, ty_tup, ty_fl, Out.bind_ok, Out.bind_bad, wp_ok, wp_bind, List.getElem?_cons_zero, List.getElem?_cons_succ, List.getElem?_nil, List.set_cons_zero, List.set_cons_succ, List.append_nil, Option.map_some, Option.map_none, Option.bind_some, Option.bind_none, ga, ga0, gs, gs0, List.append_assoc, Nat.add_assoc, newL, LN, Nat.reduceLeDiff, Nat.reduceLT, kit_ss, kit_ts, kit_ls, kit_bs, kit_is, kit_ns, reduceCtorEq, a30, a31, a32, i30, i31, i32, decide_eq_true_eq, ne_eq, Int.reduceLT, Int.reduceLE, Int.reduceNeg, Int.reducePow, Int.reduceToNat, Int.reduceEq, Int.reduceNe, mulOk_l, List.length_set, List.length_append, imp_false, not_false_eq_true, implies_true, if_true, if_false, ite_true, ite_false, Bool.false_eq_true, Bool.not_true, Bool.not_false, forall_const, eq_self, and_true, true_and, and_self, PV.int.injEq, PV.str.injEq, PV.bl.injEq, decide_true, decide_false, wipeP, hgl]
      refine (take_ok (n := (g.length : Int)) hI (by omega) (by omega) (by omega)).imp fun v S3 ⟨r3, hv, p1, p2, p3, o3, p4⟩ => ?_
      subst hv
      obtain ⟨c, hc, _⟩ := atI_in (xs := g.cps.toList) p1 (by rw [show (g.cps.toList.length : Int) = (g.length : Int) from by rw [len_tl g]]; exact p2)
      simp only [mkF, endF, startP, List.map_cons, List.map_nil, List.length_cons, List.length_nil, List.replicate, List.cons_append, List.nil_append, Nat.sub_zero, Nat.zero_add, Nat.reduceAdd, Nat.reduceSub, sSeq, sIf, sAsg, sRet, sRetN, sDrop, sNext, sBrk, sCont, sAug, stName, stSub, stTup, stCons, stNil, eVar, eC, eUn, eBin, eArg, eLst, eTup, aNil, aCons, eIf, eAnd, eOr, eNot, eChain, bChain, bCmp, bVal, bNot, bAnd, bOr, bTrue, eSl, oNone, oSome, eCall, eCall0, callF, eM, oBl, oB, oT, tr_bl, tr_int, tr_non, tr_tup, isT_str, beq_self_eq_true, vAdd, vSub, vMul, vDiv, vMod, vPow, vNeg, vIAdd, vIMul, vGt, vLt, vLe, vGe, lt2, ltP, vEq, vNe, eq_ii, eq_ss, eq_bb, eq_nn, vIx, seqP, lstP, newT, vSet, vLen, lenP, vAbs, vMax, vMin, cInt, vIsi, ty_non, ty_bl, ty_int, ty_str, ty_tup, ty_fl, Out.bind_ok, Out.bind_bad, wp_ok, wp_bind, List.getElem?_cons_zero, List.getElem?_cons_succ, List.getElem?_nil, List.set_cons_zero, List.set_cons_succ, List.append_nil, Option.map_some, Option.map_none, Option.bind_some, Option.bind_none, ga, ga0, gs, gs0, List.append_assoc, Nat.add_assoc, newL, LN, Nat.reduceLeDiff, Nat.reduceLT, kit_ss, kit_ts, kit_ls, kit_bs, kit_is, kit_ns, reduceCtorEq, a30, a31, a32, i30, i31, i32, decide_eq_true_eq, ne_eq, Int.reduceLT, Int.reduceLE, Int.reduceNeg, Int.reducePow, Int.reduceToNat, Int.reduceEq, Int.reduceNe, mulOk_l, List.length_set, List.length_append, imp_false, not_false_eq_true, implies_true, if_true, if_false, ite_true, ite_false, Bool.false_eq_true, Bool.not_true, Bool.not_false, forall_const, eq_self, and_true, true_and, and_self, PV.int.injEq, PV.str.injEq, PV.bl.injEq, decide_true, decide_false, hgl, hc]
      refine ⟨⟨_, rfl, rfl⟩, by rw [p4, List.getElem?_set_ne (by omega)], fun a => ?_⟩
      exact bag_keep p3 (List.getElem?_set_ne (by omega)) (by omega)
    · intro S' ys h1 h2 h3 h4
      refine ⟨bag_keep h1 rfl (by rw [hn]; omega), _, ys, rfl, h2, by rw [h3, hn]; omega, h4⟩
  refine lc.imp fun v S2 ⟨q1, n, ys, hv, q2, q3, q4⟩ => ?_
  subst hv
  obtain ⟨zs, z1, z2, z3⟩ := strs_ones ys q4
  have jl := join_len zs
  rw [z3] at jl
  have jc : (zs.map (·.length)).sum + zs.length * (Str.ofString "").length ≤ 1000000 := by
    rw [z3, show (Str.ofString "").length = 0 from by decide +kernel]; omega
  simp only [mkF, endF, startP, List.map_cons, List.map_nil, List.length_cons, List.length_nil, List.replicate, List.cons_append, List.nil_append, Nat.sub_zero, Nat.zero_add, Nat.reduceAdd, Nat.reduceSub, sSeq, sIf, sAsg, sRet, sRetN, sDrop, sNext, sBrk, sCont, sAug, stName, stSub, stTup, stCons, stNil, eVar, eC, eUn, eBin, eArg, eLst, eTup, aNil, aCons, eIf, eAnd, eOr, eNot, eChain, bChain, bCmp, bVal, bNot, bAnd, bOr, bTrue, eSl, oNone, oSome, eCall, eCall0, callF, eM, oBl, oB, oT, tr_bl, tr_int, tr_non, tr_tup, isT_str, beq_self_eq_true, vAdd, vSub, vMul, vDiv, vMod, vPow, vNeg, vIAdd, vIMul, vGt, vLt, vLe, vGe, lt2, ltP, vEq, vNe, eq_ii, eq_ss, eq_bb, eq_nn, vIx, seqP, lstP, newT, vSet, vLen, lenP, vAbs, vMax, vMin, cInt, vIsi, ty_non, ty_bl, ty_int, ty_str, ty_tup, ty_fl, Out.bind_ok, Out.bind_bad, wp_ok, wp_bind, List.getElem?_cons_zero, List.getElem?_cons_succ, List.getElem?_nil, List.set_cons_zero, List.set_cons_succ, List.append_nil, Option.map_some, Option.map_none, Option.bind_some, Option.bind_none, ga, ga0, gs, gs0, List.append_assoc, Nat.add_assoc, newL, LN, Nat.reduceLeDiff, Nat.reduceLT, kit_ss, kit_ts, kit_ls, kit_bs, kit_is, kit_ns, reduceCtorEq, a30, a31, a32, i30, i31, i32, decide_eq_true_eq, ne_eq, Int.reduceLT, Int.reduceLE, Int.reduceNeg, Int.reducePow, Int.reduceToNat, Int.reduceEq, Int.reduceNe, mulOk_l, List.length_set, List.length_append, imp_false, not_false_eq_true, implies_true, if_true, if_false, ite_true, ite_false, Bool.false_eq_true, Bool.not_true, Bool.not_false, forall_const, eq_self, and_true, true_and, and_self, PV.int.injEq, PV.str.injEq, PV.bl.injEq, decide_true, decide_false, mJoin, q2, z1, jc]
  generalize Txt.join (Str.ofString "") zs = th at jl
  have thl : th.length ≤ 8 := by omega
  have sl : (th ++ Str.ofString "/").length ≤ 9 := by
    rw [len_tl, tl_append, List.length_append, slash_tl, ← len_tl]
    exact Nat.succ_le_succ thl
  have sc : th.length + (Str.ofString "/").length ≤ 1000000 := by
    rw [show (Str.ofString "/").length = 1 from by decide +kernel]; omega
  refine (right_str (x := th) (by omega)).imp fun v S3 ⟨hv, T3, e3⟩ => ?_
  subst hv e3
  simp only [mkF, endF, startP, List.map_cons, List.map_nil, List.length_cons, List.length_nil, List.replicate, List.cons_append, List.nil_append, Nat.sub_zero, Nat.zero_add, Nat.reduceAdd, Nat.reduceSub, sSeq, sIf, sAsg, sRet, sRetN, sDrop, sNext, sBrk, sCont, sAug, stName, stSub, stTup, stCons, stNil, eVar, eC, eUn, eBin, eArg, eLst, eTup, aNil, aCons, eIf, eAnd, eOr, eNot, eChain, bChain, bCmp, bVal, bNot, bAnd, bOr, bTrue, eSl, oNone, oSome, eCall, eCall0, callF, eM, oBl, oB, oT, tr_bl, tr_int, tr_non, tr_tup, isT_str, beq_self_eq_true, vAdd, vSub, vMul, vDiv, vMod, vPow, vNeg, vIAdd, vIMul, vGt, vLt, vLe, vGe, lt2, ltP, vEq, vNe, eq_ii, eq_ss, eq_bb, eq_nn, vIx, seqP, lstP, newT, vSet, vLen, lenP, vAbs, vMax, vMin, cInt, vIsi, ty_non, ty_bl, ty_int, ty_str, ty_tup, ty_fl, Out.bind_ok, Out.bind_bad, wp_ok, wp_bind, List.getElem?_cons_zero, List.getElem?_cons_succ, List.getElem?_nil, List.set_cons_zero, List.set_cons_succ, List.append_nil, Option.map_some, Option.map_none, Option.bind_some, Option.bind_none, ga, ga0, gs, gs0, List.append_assoc, Nat.add_assoc, newL, LN, Nat.reduceLeDiff, Nat.reduceLT, kit_ss, kit_ts, kit_ls, kit_bs, kit_is, kit_ns, reduceCtorEq, a30, a31, a32, i30, i31, i32, decide_eq_true_eq, ne_eq, Int.reduceLT, Int.reduceLE, Int.reduceNeg, Int.reducePow, Int.reduceToNat, Int.reduceEq, Int.reduceNe, mulOk_l, List.length_set, List.length_append, imp_false, not_false_eq_true, implies_true, if_true, if_false, ite_true, ite_false, Bool.false_eq_true, Bool.not_true, Bool.not_false, forall_const, eq_self, and_true, true_and, and_self, PV.int.injEq, PV.str.injEq, PV.bl.injEq, decide_true, decide_false, sc]
  refine (right_str (x := th ++ Str.ofString "/") (by omega)).imp fun v S4 ⟨hv, T4, e4⟩ => ?_
  subst hv e4
  simp only [mkF, endF, startP, List.map_cons, List.map_nil, List.length_cons, List.length_nil, List.replicate, List.cons_append, List.nil_append, Nat.sub_zero, Nat.zero_add, Nat.reduceAdd, Nat.reduceSub, sSeq, sIf, sAsg, sRet, sRetN, sDrop, sNext, sBrk, sCont, sAug, stName, stSub, stTup, stCons, stNil, eVar, eC, eUn, eBin, eArg, eLst, eTup, aNil, aCons, eIf, eAnd, eOr, eNot, eChain, bChain, bCmp, bVal, bNot, bAnd, bOr, bTrue, eSl, oNone, oSome, eCall, eCall0, callF, eM, oBl, oB, oT, tr_bl, tr_int, tr_non, tr_tup, isT_str, beq_self_eq_true, vAdd, vSub, vMul, vDiv, vMod, vPow, vNeg, vIAdd, vIMul, vGt, vLt, vLe, vGe, lt2, ltP, vEq, vNe, eq_ii, eq_ss, eq_bb, eq_nn, vIx, seqP, lstP, newT, vSet, vLen, lenP, vAbs, vMax, vMin, cInt, vIsi, ty_non, ty_bl, ty_int, ty_str, ty_tup, ty_fl, Out.bind_ok, Out.bind_bad, wp_ok, wp_bind, List.getElem?_cons_zero, List.getElem?_cons_succ, List.getElem?_nil, List.set_cons_zero, List.set_cons_succ, List.append_nil, Option.map_some, Option.map_none, Option.bind_some, Option.bind_none, ga, ga0, gs, gs0, List.append_assoc, Nat.add_assoc, newL, LN, Nat.reduceLeDiff, Nat.reduceLT, kit_ss, kit_ts, kit_ls, kit_bs, kit_is, kit_ns, reduceCtorEq, a30, a31, a32, i30, i31, i32, decide_eq_true_eq, ne_eq, Int.reduceLT, Int.reduceLE, Int.reduceNeg, Int.reducePow, Int.reduceToNat, Int.reduceEq, Int.reduceNe, mulOk_l, List.length_set, List.length_append, imp_false, not_false_eq_true, implies_true, if_true, if_false, ite_true, ite_false, Bool.false_eq_true, Bool.not_true, Bool.not_false, forall_const, eq_self, and_true, true_and, and_self, PV.int.injEq, PV.str.injEq, PV.bl.injEq, decide_true, decide_false]
  refine (any_ok (k := k + 11) (by rw [← List.append_assoc]; exact bag_app (bag_app q1)) (by omega)).imp fun v S5 ⟨w1, w2⟩ => ?_
  refine (right_good w1).imp fun v S6 ⟨hv, T6, e6⟩ => ?_
  subst hv e6
  simp only [mkF, endF, startP, List.map_cons, List.map_nil, List.length_cons, List.length_nil, List.replicate, List.cons_append, List.nil_append, Nat.sub_zero, Nat.zero_add, Nat.reduceAdd, Nat.reduceSub, sSeq, sIf, sAsg, sRet, sRetN, sDrop, sNext, sBrk, sCont, sAug, stName, stSub, stTup, stCons, stNil, eVar, eC, eUn, eBin, eArg, eLst, eTup, aNil, aCons, eIf, eAnd, eOr, eNot, eChain, bChain, bCmp, bVal, bNot, bAnd, bOr, bTrue, eSl, oNone, oSome, eCall, eCall0, callF, eM, oBl, oB, oT, tr_bl, tr_int, tr_non, tr_tup, isT_str, beq_self_eq_true, vAdd, vSub, vMul, vDiv, vMod, vPow, vNeg, vIAdd, vIMul, vGt, vLt, vLe, vGe, lt2, ltP, vEq, vNe, eq_ii, eq_ss, eq_bb, eq_nn, vIx, seqP, lstP, newT, vSet, vLen, lenP, vAbs, vMax, vMin, cInt, vIsi, ty_non, ty_bl, ty_int, ty_str, ty_tup, ty_fl, Out.bind_ok, Out.bind_bad, wp_ok, wp_bind, List.getElem?_cons_zero, List.getElem?_cons_succ, List.getElem?_nil, List.set_cons_zero, List.set_cons_succ, List.append_nil, Option.map_some, Option.map_none, Option.bind_some, Option.bind_none, ga, ga0, gs, gs0, List.append_assoc, Nat.add_assoc, newL, LN, Nat.reduceLeDiff, Nat.reduceLT, kit_ss, kit_ts, kit_ls, kit_bs, kit_is, kit_ns, reduceCtorEq, a30, a31, a32, i30, i31, i32, decide_eq_true_eq, ne_eq, Int.reduceLT, Int.reduceLE, Int.reduceNeg, Int.reducePow, Int.reduceToNat, Int.reduceEq, Int.reduceNe, mulOk_l, List.length_set, List.length_append, imp_false, not_false_eq_true, implies_true, if_true, if_false, ite_true, ite_false, Bool.false_eq_true, Bool.not_true, Bool.not_false, forall_const, eq_self, and_true, true_and, and_self, PV.int.injEq, PV.str.injEq, PV.bl.injEq, decide_true, decide_false]
  exact ⟨_, _, rfl, bag_keep (bag_app w2) rfl (by omega)⟩

end Lw

namespace Lw
open PySem L2 G TL

theorem inner_ok {a0 a1 : Option G.PV} {a3 a4 a5 a6 a7 : Option G.PV} {b : Nat} {S : Store} (h : BagAt S b 0) :
    Wp (sFor (iRange (aCons (eC (.int 20)) aNil)) (stName 3) turnB [a0, a1, some (.loc b), a3, a4, a5, a6, a7] S) fun fl S' => ∃ a3 a4 a5, fl = .nx [a0, a1, some (.loc b), a3, a4, a5, a6, a7] := by
  refine for_inv (rangeP 0 20) (src := srcSeq (rangeP 0 20)) (by simp only [mkF, endF, startP, List.map_cons, List.map_nil, List.length_cons, List.length_nil, List.replicate, List.cons_append, List.nil_append, Nat.sub_zero, Nat.zero_add, Nat.reduceAdd, Nat.reduceSub, sSeq, sIf, sAsg, sRet, sRetN, sDrop, sNext, sBrk, sCont, sAug, stName, stSub, stTup, stCons, stNil, eVar, eC, eUn, eBin, eArg, eLst, eTup, aNil, aCons, eIf, eAnd, eOr, eNot, eChain, bChain, bCmp, bVal, bNot, bAnd, bOr, bTrue, eSl, oNone, oSome, eCall, eCall0, callF, eM, oBl, oB, oT, tr_bl, tr_int, tr_non, tr_tup, isT_str, beq_self_eq_true, vAdd, vSub, vMul, vDiv, vMod, vPow, vNeg, vIAdd, vIMul, vGt, vLt, vLe, vGe, lt2, ltP, vEq, vNe, eq_ii, eq_ss, eq_bb, eq_nn, vIx, seqP, lstP, newT, vSet, vLen, lenP, vAbs, vMax, vMin, cInt, vIsi, ty_non, ty_bl, ty_int, ty_str, ty_tup, ty_fl, Out.bind_ok, Out.bind_bad, wp_ok, wp_bind, List.getElem?_cons_zero, List.getElem?_cons_succ, List.getElem?_nil, List.set_cons_zero, List.set_cons_succ, List.append_nil, Option.map_some, Option.map_none, Option.bind_some, Option.bind_none, ga, ga0, gs, gs0, List.append_assoc, Nat.add_assoc, newL, LN, Nat.reduceLeDiff, Nat.reduceLT, kit_ss, kit_ts, kit_ls, kit_bs, kit_is, kit_ns, reduceCtorEq, a30, a31, a32, i30, i31, i32, decide_eq_true_eq, ne_eq, Int.reduceLT, Int.reduceLE, Int.reduceNeg, Int.reducePow, Int.reduceToNat, Int.reduceEq, Int.reduceNe, mulOk_l, List.length_set, List.length_append, imp_false, not_false_eq_true, implies_true, if_true, if_false, ite_true, ite_false, Bool.false_eq_true, Bool.not_true, Bool.not_false, forall_const, eq_self, and_true, true_and, and_self, PV.int.injEq, PV.str.injEq, PV.bl.injEq, decide_true, decide_false, iRange, rngOf]) (fun i τ S => BagAt S b (20 * i) ∧ ∃ a3 a4 a5, τ = [a0, a1, some (.loc b), a3, a4, a5, a6, a7]) (by decide) ⟨h, _, _, _, rfl⟩ (fun _ _ _ _ => rfl) ?_ ?_
  · rintro i x τ S hx ⟨hI, a3, a4, a5, rfl⟩
    have hi : i < 20 := by
      have := (List.getElem?_eq_some_iff.mp hx).1
      simpa [rangeP] using this
    simp only [stName, wp_bind, wp_ok, List.set_cons_zero, List.set_cons_succ]
    refine (turn_ok (a3 := some x) hI (by omega)).imp fun fl S' ⟨a4, a5, e, hB⟩ => ⟨_, .inl e, bag_keep hB rfl (by omega), _, _, _, rfl⟩
  · rintro τ S ⟨_, a3, a4, a5, rfl⟩
    exact ⟨_, _, _, rfl⟩
theorem bls_true : ∀ ys : List G.PV, (∀ y ∈ ys, y = .bl true) → ∃ bs, blsP ys = some bs ∧ bs.all id = true
  | [], _ => ⟨[], rfl, rfl⟩
  | y :: ys, h => by
    obtain ⟨bs, h1, h2⟩ := bls_true ys fun z hz => h z (List.mem_cons_of_mem _ hz)
    refine ⟨true :: bs, ?_, by rw [List.all_cons, h2]; rfl⟩
    rw [h y List.mem_cons_self]
    show (blsP ys).map (true :: ·) = _
    rw [h1]; rfl
theorem law_true : LawTrue F_law := by
  intro ns hns
  suffices h : Wp (F_law [scrP ns] []) fun v S => v = .bl true by
    obtain ⟨v, S, e, rfl⟩ := h.ex
    exact ⟨S, e⟩
  rw [F_law, wp_mkF, wp_seq]
  obtain ⟨j, hj, hj6⟩ : ∃ j : Int, (iRange (aCons (eArg vMax (aCons (eC (.int 2)) (aCons (eArg vMin (aCons (eC (.int 6)) (aCons (eArg vLen (aCons (eVar 0) aNil)) aNil))) aNil))) aNil)) (startP 8 [scrP ns]) [] = .ok (srcSeq (rangeP 0 j)) [] ∧ j ≤ 6 := by
    refine ⟨_, by simp only [mkF, endF, startP, List.map_cons, List.map_nil, List.length_cons, List.length_nil, List.replicate, List.cons_append, List.nil_append, Nat.sub_zero, Nat.zero_add, Nat.reduceAdd, Nat.reduceSub, sSeq, sIf, sAsg, sRet, sRetN, sDrop, sNext, sBrk, sCont, sAug, stName, stSub, stTup, stCons, stNil, eVar, eC, eUn, eBin, eArg, eLst, eTup, aNil, aCons, eIf, eAnd, eOr, eNot, eChain, bChain, bCmp, bVal, bNot, bAnd, bOr, bTrue, eSl, oNone, oSome, eCall, eCall0, callF, eM, oBl, oB, oT, tr_bl, tr_int, tr_non, tr_tup, isT_str, beq_self_eq_true, vAdd, vSub, vMul, vDiv, vMod, vPow, vNeg, vIAdd, vIMul, vGt, vLt, vLe, vGe, lt2, ltP, vEq, vNe, eq_ii, eq_ss, eq_bb, eq_nn, vIx, seqP, lstP, newT, vSet, vLen, lenP, vAbs, vMax, vMin, cInt, vIsi, ty_non, ty_bl, ty_int, ty_str, ty_tup, ty_fl, Out.bind_ok, Out.bind_bad, wp_ok, wp_bind, List.getElem?_cons_zero, List.getElem?_cons_succ, List.getElem?_nil, List.set_cons_zero, List.set_cons_succ, List.append_nil, Option.map_some, Option.map_none, Option.bind_some, Option.bind_none, ga, ga0, gs, gs0, List.append_assoc, Nat.add_assoc, newL, LN, Nat.reduceLeDiff, Nat.reduceLT, kit_ss, kit_ts, kit_ls, kit_bs, kit_is, kit_ns, reduceCtorEq, a30, a31, a32, i30, i31, i32, decide_eq_true_eq, ne_eq, Int.reduceLT, Int.reduceLE, Int.reduceNeg, Int.reducePow, Int.reduceToNat, Int.reduceEq, Int.reduceNe, mulOk_l, List.length_set, List.length_append, imp_false, not_false_eq_true, implies_true, if_true, if_false, ite_true, ite_false, Bool.false_eq_true, Bool.not_true, Bool.not_false, forall_const, eq_self, and_true, true_and, and_self, PV.int.injEq, PV.str.injEq, PV.bl.injEq, decide_true, decide_false, iRange, scrP, List.length_map, rngOf]; rw [if_pos (by split <;> split <;> omega)], by split <;> split <;> omega⟩
  have hn : (rangeP 0 j).length = j.toNat := by unfold rangeP; rw [List.length_map, List.length_range, Int.sub_zero]
  refine for_inv (rangeP 0 j) hj (fun i τ S => ∃ a1 a2 a3 a4 a5 a6 a7, τ = [some (scrP ns), a1, a2, a3, a4, a5, a6, a7]) (by rw [hn]; show _ < 1000000; omega) ⟨_, _, _, _, _, _, _, rfl⟩ (fun _ _ _ _ => rfl) ?_ ?_
  · rintro i x τ S hx ⟨a1, a2, a3, a4, a5, a6, a7, rfl⟩
    obtain ⟨t, ht, rfl⟩ : ∃ t : Nat, t < 6 ∧ x = .int t := by
      unfold rangeP at hx
      rw [List.getElem?_map] at hx
      cases e : (List.range (j - 0).toNat)[i]? with
      | none => rw [e] at hx; cases hx
      | some t =>
        rw [e] at hx
        obtain ⟨h1, e2⟩ := List.getElem?_eq_some_iff.mp e
        rw [List.getElem_range] at e2
        subst e2
        rw [List.length_range] at h1
        exact ⟨i, by omega, by rw [← Option.some.inj hx]; simp⟩
    simp only [stName, wp_bind, wp_ok, List.set_cons_zero, List.set_cons_succ]
    rw [wp_seq, wp_asg]
    simp only [eCall, aCons, aNil, eVar, mkF, endF, startP, List.map_cons, List.map_nil, List.length_cons, List.length_nil, List.replicate, List.cons_append, List.nil_append, Nat.sub_zero, Nat.zero_add, Nat.reduceAdd, Nat.reduceSub, sSeq, sIf, sAsg, sRet, sRetN, sDrop, sNext, sBrk, sCont, sAug, stName, stSub, stTup, stCons, stNil, eVar, eC, eUn, eBin, eArg, eLst, eTup, aNil, aCons, eIf, eAnd, eOr, eNot, eChain, bChain, bCmp, bVal, bNot, bAnd, bOr, bTrue, eSl, oNone, oSome, eCall, eCall0, callF, eM, oBl, oB, oT, tr_bl, tr_int, tr_non, tr_tup, isT_str, beq_self_eq_true, vAdd, vSub, vMul, vDiv, vMod, vPow, vNeg, vIAdd, vIMul, vGt, vLt, vLe, vGe, lt2, ltP, vEq, vNe, eq_ii, eq_ss, eq_bb, eq_nn, vIx, seqP, lstP, newT, vSet, vLen, lenP, vAbs, vMax, vMin, cInt, vIsi, ty_non, ty_bl, ty_int, ty_str, ty_tup, ty_fl, Out.bind_ok, Out.bind_bad, wp_ok, wp_bind, List.getElem?_cons_zero, List.getElem?_cons_succ, List.getElem?_nil, List.set_cons_zero, List.set_cons_succ, List.append_nil, Option.map_some, Option.map_none, Option.bind_some, Option.bind_none, ga, ga0, gs, gs0, List.append_assoc, Nat.add_assoc, newL, LN, Nat.reduceLeDiff, Nat.reduceLT, kit_ss, kit_ts, kit_ls, kit_bs, kit_is, kit_ns, reduceCtorEq, a30, a31, a32, i30, i31, i32, decide_eq_true_eq, ne_eq, Int.reduceLT, Int.reduceLE, Int.reduceNeg, Int.reducePow, Int.reduceToNat, Int.reduceEq, Int.reduceNe, mulOk_l, List.length_set, List.length_append, imp_false, not_false_eq_true, implies_true, if_true, if_false, ite_true, ite_false, Bool.false_eq_true, Bool.not_true, Bool.not_false, forall_const, eq_self, and_true, true_and, and_self, PV.int.injEq, PV.str.injEq, PV.bl.injEq, decide_true, decide_false]
    refine (bag_ok (ns := ns) (i := (t : Int)) (by omega) (by omega)).imp fun v S1 ⟨hv, o, e, hB⟩ => ?_
    subst hv
    exact (inner_ok hB).imp fun fl S2 ⟨a3, a4, a5, e⟩ => ⟨_, .inl e, _, _, _, _, _, _, _, rfl⟩
  · rintro τ S ⟨a1, a2, a3, a4, a5, a6, a7, rfl⟩
    have mc : (Str.ofString "a").length * 300 ≤ 1000000 := by decide +kernel
    rw [wp_seq, wp_asg]
    simp only [mkF, endF, startP, List.map_cons, List.map_nil, List.length_cons, List.length_nil, List.replicate, List.cons_append, List.nil_append, Nat.sub_zero, Nat.zero_add, Nat.reduceAdd, Nat.reduceSub, sSeq, sIf, sAsg, sRet, sRetN, sDrop, sNext, sBrk, sCont, sAug, stName, stSub, stTup, stCons, stNil, eVar, eC, eUn, eBin, eArg, eLst, eTup, aNil, aCons, eIf, eAnd, eOr, eNot, eChain, bChain, bCmp, bVal, bNot, bAnd, bOr, bTrue, eSl, oNone, oSome, eCall, eCall0, callF, eM, oBl, oB, oT, tr_bl, tr_int, tr_non, tr_tup, isT_str, beq_self_eq_true, vAdd, vSub, vMul, vDiv, vMod, vPow, vNeg, vIAdd, vIMul, vGt, vLt, vLe, vGe, lt2, ltP, vEq, vNe, eq_ii, eq_ss, eq_bb, eq_nn, vIx, seqP, lstP, newT, vSet, vLen, lenP, vAbs, vMax, vMin, cInt, vIsi, ty_non, ty_bl, ty_int, ty_str, ty_tup, ty_fl, Out.bind_ok, Out.bind_bad, wp_ok, wp_bind, List.getElem?_cons_zero, List.getElem?_cons_succ, List.getElem?_nil, List.set_cons_zero, List.set_cons_succ, List.append_nil, Option.map_some, Option.map_none, Option.bind_some, Option.bind_none, ga, ga0, gs, gs0, List.append_assoc, Nat.add_assoc, newL, LN, Nat.reduceLeDiff, Nat.reduceLT, kit_ss, kit_ts, kit_ls, kit_bs, kit_is, kit_ns, reduceCtorEq, a30, a31, a32, i30, i31, i32, decide_eq_true_eq, ne_eq, Int.reduceLT, Int.reduceLE, Int.reduceNeg, Int.reducePow, Int.reduceToNat, Int.reduceEq, Int.reduceNe, mulOk_l, List.length_set, List.length_append, imp_false, not_false_eq_true, implies_true, if_true, if_false, ite_true, ite_false, Bool.false_eq_true, Bool.not_true, Bool.not_false, forall_const, eq_self, and_true, true_and, and_self, PV.int.injEq, PV.str.injEq, PV.bl.injEq, decide_true, decide_false, mc]
    have gm : (Txt.mul (Str.ofString "a") 300).length ≤ 1000 := by decide +kernel
    generalize Txt.mul (Str.ofString "a") 300 = am at gm
    let L : List PV := [.str (Str.ofString "a\nb"), .str (Str.ofString "a\n"), .str (Str.ofString "."), .str (Str.ofString ".."), .str (Str.ofString "a/../b"), .str (Str.ofString "a//b"), .str (Str.ofString "//"), .str (Str.ofString "a/b/"), .str am, .str (Str.ofString "z-9_."), .str (Str.ofString "{"), .str (Str.ofString "`"), .str (Str.ofString "a\\")]
    refine Wp.imp (P := fun v S' => ∃ n ys, v = .loc n ∧ S'[n]? = some (.lst ys) ∧ ∀ y ∈ ys, y = .bl true) ?_ fun v S' ⟨n, ys, hv, h1, h2⟩ => ?_
    · refine lc_invG (src := srcLive S.length) (S1 := S ++ [.lst L]) L
        (fun i S' => S'[S.length]? = some (.lst L) ∧ S.length + 1 < S'.length)
        (fun y => y = .bl true) (by simp only [iVal, eVar, List.getElem?_cons_zero, List.getElem?_cons_succ, Out.bind_ok, srcOf, ga0]; rfl) (by show 13 < 1000000; decide) ⟨by rw [List.append_assoc, ga0]; rfl, by simp⟩ (fun i S' h => by unfold srcLive; rw [h.1]) ?_ ?_
      · intro i x S' hx ⟨hI, hI2⟩
        have hm := List.mem_of_getElem? hx
        have gx : GoodV S' x := by
          simp only [L, List.mem_cons, List.not_mem_nil, or_false] at hm
          rcases hm with rfl | rfl | rfl | rfl | rfl | rfl | rfl | rfl | rfl | rfl | rfl | rfl | rfl <;> first | exact good_str gm | exact good_str (by decide +kernel)
        refine ⟨_, rfl, ?_⟩
        simp only [mkF, endF, startP, List.map_cons, List.map_nil, List.length_cons, List.length_nil, List.replicate, List.cons_append, List.nil_append, Nat.sub_zero, Nat.zero_add, Nat.reduceAdd, Nat.reduceSub, sSeq, sIf, sAsg, sRet, sRetN, sDrop, sNext, sBrk, sCont, sAug, stName, stSub, stTup, stCons, stNil, eVar, eC, eUn, eBin, eArg, eLst, eTup, aNil, aCons, eIf, eAnd, eOr, eNot, eChain, bChain, bCmp, bVal, bNot, bAnd, bOr, bTrue, eSl, oNone, oSome, eCall, eCall0, callF, eM, oBl, oB, oT, tr_bl, tr_int, tr_non, tr_tup, isT_str, beq_self_eq_true, vAdd, vSub, vMul, vDiv, vMod, vPow, vNeg, vIAdd, vIMul, vGt, vLt, vLe, vGe, lt2, ltP, vEq, vNe, eq_ii, eq_ss, eq_bb, eq_nn, vIx, seqP, lstP, newT, vSet, vLen, lenP, vAbs, vMax, vMin, cInt, vIsi, ty_non, ty_bl, ty_int, ty_str, ty_tup, ty_fl, Out.bind_ok, Out.bind_bad, wp_ok, wp_bind, List.getElem?_cons_zero, List.getElem?_cons_succ, List.getElem?_nil, List.set_cons_zero, List.set_cons_succ, List.append_nil, Option.map_some, Option.map_none, Option.bind_some, Option.bind_none, ga, ga0, gs, gs0, List.append_assoc, Nat.add_assoc, newL, LN, Nat.reduceLeDiff, Nat.reduceLT, kit_ss, kit_ts, kit_ls, kit_bs, kit_is, kit_ns, reduceCtorEq, a30, a31, a32, i30, i31, i32, decide_eq_true_eq, ne_eq, Int.reduceLT, Int.reduceLE, Int.reduceNeg, Int.reducePow, Int.reduceToNat, Int.reduceEq, Int.reduceNe, mulOk_l, List.length_set, List.length_append, imp_false, not_false_eq_true, implies_true, if_true, if_false, ite_true, ite_false, Bool.false_eq_true, Bool.not_true, Bool.not_false, forall_const, eq_self, and_true, true_and, and_self, PV.int.injEq, PV.str.injEq, PV.bl.injEq, decide_true, decide_false, wipeP]
        refine (right_good gx).imp fun v S2 ⟨hv, T, e⟩ => ⟨hv, ?_, fun a => ⟨?_, ?_⟩⟩
        · rw [e, List.getElem?_append_left hI2]
        · rw [List.getElem?_set_ne (Nat.succ_ne_self _), e, List.getElem?_append_left (by omega), hI]
        · rw [e, List.length_append]; exact Nat.lt_of_lt_of_le hI2 (Nat.le_add_right _ _)
      · intro S' ys h1 h2 h3 h4
        exact ⟨_, ys, rfl, h2, h4⟩
    · subst hv
      obtain ⟨bs, b1, b2⟩ := bls_true ys h2
      simp only [vAll, lstP, h1, Option.bind_some, b1, b2, mkF, endF, startP, List.map_cons, List.map_nil, List.length_cons, List.length_nil, List.replicate, List.cons_append, List.nil_append, Nat.sub_zero, Nat.zero_add, Nat.reduceAdd, Nat.reduceSub, sSeq, sIf, sAsg, sRet, sRetN, sDrop, sNext, sBrk, sCont, sAug, stName, stSub, stTup, stCons, stNil, eVar, eC, eUn, eBin, eArg, eLst, eTup, aNil, aCons, eIf, eAnd, eOr, eNot, eChain, bChain, bCmp, bVal, bNot, bAnd, bOr, bTrue, eSl, oNone, oSome, eCall, eCall0, callF, eM, oBl, oB, oT, tr_bl, tr_int, tr_non, tr_tup, isT_str, beq_self_eq_true, vAdd, vSub, vMul, vDiv, vMod, vPow, vNeg, vIAdd, vIMul, vGt, vLt, vLe, vGe, lt2, ltP, vEq, vNe, eq_ii, eq_ss, eq_bb, eq_nn, vIx, seqP, lstP, newT, vSet, vLen, lenP, vAbs, vMax, vMin, cInt, vIsi, ty_non, ty_bl, ty_int, ty_str, ty_tup, ty_fl, Out.bind_ok, Out.bind_bad, wp_ok, wp_bind, List.getElem?_cons_zero, List.getElem?_cons_succ, List.getElem?_nil, List.set_cons_zero, List.set_cons_succ, List.append_nil, Option.map_some, Option.map_none, Option.bind_some, Option.bind_none, ga, ga0, gs, gs0, List.append_assoc, Nat.add_assoc, newL, LN, Nat.reduceLeDiff, Nat.reduceLT, kit_ss, kit_ts, kit_ls, kit_bs, kit_is, kit_ns, reduceCtorEq, a30, a31, a32, i30, i31, i32, decide_eq_true_eq, ne_eq, Int.reduceLT, Int.reduceLE, Int.reduceNeg, Int.reducePow, Int.reduceToNat, Int.reduceEq, Int.reduceNe, mulOk_l, List.length_set, List.length_append, imp_false, not_false_eq_true, implies_true, if_true, if_false, ite_true, ite_false, Bool.false_eq_true, Bool.not_true, Bool.not_false, forall_const, eq_self, and_true, true_and, and_self, PV.int.injEq, PV.str.injEq, PV.bl.injEq, decide_true, decide_false]
end Lw

namespace Lw
open PySem PySem.Spec PyProof.Rows L2 G

def top (i : Nat) : Stmt := PySem.Challenge.pw_globhouse_k01_names_paths_entries.main.body.getD i (.Pass ⟨0, 0, 0, 0⟩)

structure Txt (K : PySem.W.Frag) (mg : Str → Option Value) where
  f_is_name : Addr
  fd_is_name : FuncData
  F_is_name : Fun K "is_name" "is_name" (top 3) f_is_name fd_is_name
  g_is_name : mg "is_name" = some (.ref f_is_name)
  b_is_name : L2.Binds K fd_is_name ["thing"] []
  f_is_path : Addr
  fd_is_path : FuncData
  F_is_path : Fun K "is_path" "is_path" (top 4) f_is_path fd_is_path
  g_is_path : mg "is_path" = some (.ref f_is_path)
  b_is_path : L2.Binds K fd_is_path ["thing"] []
  f_is_entry : Addr
  fd_is_entry : FuncData
  F_is_entry : Fun K "is_entry" "is_entry" (top 5) f_is_entry fd_is_entry
  g_is_entry : mg "is_entry" = some (.ref f_is_entry)
  b_is_entry : L2.Binds K fd_is_entry ["thing"] []
  f__law_bag : Addr
  fd__law_bag : FuncData
  F__law_bag : Fun K "_law_bag" "_law_bag" (top 7) f__law_bag fd__law_bag
  g__law_bag : mg "_law_bag" = some (.ref f__law_bag)
  b__law_bag : L2.Binds K fd__law_bag ["_law_script", "_law_at"] []
  f__law_take : Addr
  fd__law_take : FuncData
  F__law_take : Fun K "_law_take" "_law_take" (top 8) f__law_take fd__law_take
  g__law_take : mg "_law_take" = some (.ref f__law_take)
  b__law_take : L2.Binds K fd__law_take ["_law_bag_here", "_law_many"] []
  f__law_any : Addr
  fd__law_any : FuncData
  F__law_any : Fun K "_law_any" "_law_any" (top 9) f__law_any fd__law_any
  g__law_any : mg "_law_any" = some (.ref f__law_any)
  b__law_any : L2.Binds K fd__law_any ["_law_bag_here"] []
  f__law_named : Addr
  fd__law_named : FuncData
  F__law_named : Fun K "_law_named" "_law_named" (top 10) f__law_named fd__law_named
  g__law_named : mg "_law_named" = some (.ref f__law_named)
  b__law_named : L2.Binds K fd__law_named ["_law_thing"] []
  f__law_is_right : Addr
  fd__law_is_right : FuncData
  F__law_is_right : Fun K "_law_is_right" "_law_is_right" (top 11) f__law_is_right fd__law_is_right
  g__law_is_right : mg "_law_is_right" = some (.ref f__law_is_right)
  b__law_is_right : L2.Binds K fd__law_is_right ["_law_thing"] []
  f_law : Addr
  fd_law : FuncData
  F_law : Fun K "law" "law" (top 12) f_law fd_law
  g_law : mg "law" = some (.ref f_law)
  b_law : L2.Binds K fd_law ["_law_script"] []
  t_NAME_SIGNS : Tok
  c_NAME_SIGNS : mg "NAME_SIGNS" = some (.str "-.0123456789_abcdefghijklmnopqrstuvwxyz" t_NAME_SIGNS)
  t_SLASH : Tok
  c_SLASH : mg "SLASH" = some (.str "/" t_SLASH)
  z_abs : mg "abs" = none
  z_all : mg "all" = none
  z_isinstance : mg "isinstance" = none
  z_len : mg "len" = none
  z_max : mg "max" = none
  z_min : mg "min" = none
  z_range : mg "range" = none
  z_repr : mg "repr" = none
  z_str : mg "str" = none
section
variable {P : Program} {w : World} {K : PySem.W.Frag} {mg : Str → Option Value} {base : Heap}
theorem sc_is_name : FnScope ["thing", "sign"] ["thing"] (defScope (top 3)) := ⟨rfl, rfl, rfl, by decide +kernel, rfl, by decide +kernel, by decide +kernel⟩
theorem ok_is_name (T : Txt K mg) : FnG P w K mg base (L2.CX P w) 1 T.f_is_name T.fd_is_name ["thing"] (spF K 1 F_is_name) := fnG_mk T.F_is_name sc_is_name fun cdv A outer s H E hr hA h64 h70 h0 =>
  (h_one (h_ret (g_and (g_callB c_isi (by rfl) T.z_isinstance (by decide +kernel) (ga_cons (g_var (pv 0)) (ga_cons (g_c (v := .ty "str") (pe_bltn (by rfl) T.z_str (by decide +kernel) rfl) (fun _ _ => .ty _)) ga_nil))) (g_and (g_cmp (o_ne h64) (g_var (pv 0)) g_str (nomark _)) (g_one (g_callB (c_all rfl) (by rfl) T.z_all (by decide +kernel) (ga_cons (g_lc (own := [("sign", 1)]) rfl sc_is_name.nd (i_val (g_var (pv 0))) (blkOk_by (own := [("sign", 1)]) (by rfl)) (ct_name (i := 1) (by decide)) (fun _ _ _ _ _ => (pg_name (i := 1) sc_is_name.nd (by rfl) (by first | exact Or.inl rfl | exact Or.inr rfl))) (fun _ _ _ _ _ => ts_nil) (fun _ _ _ _ _ => (g_cmp (o_in h70) (g_var (pv 1)) (g_c (v := .str "-.0123456789_abcdefghijklmnopqrstuvwxyz") (pe_glob (by rfl) T.c_NAME_SIGNS ⟨_, rfl⟩) (fun _ _ => .str _)) (by rfl)))) ga_nil)))))))
theorem sc_is_path : FnScope ["thing", "before", "sign"] ["thing"] (defScope (top 4)) := ⟨rfl, rfl, rfl, by decide +kernel, rfl, by decide +kernel, by decide +kernel⟩
theorem ok_is_path (T : Txt K mg) : FnG P w K mg base (L2.CX P w) 1 T.f_is_path T.fd_is_path ["thing"] (spF K 1 F_is_path) := fnG_mk T.F_is_path sc_is_path fun cdv A outer s H E hr hA h64 h70 h0 =>
  (h_cons (h_if (t_not (t_val (g_callB c_isi (by rfl) T.z_isinstance (by decide +kernel) (ga_cons (g_var (pv 0)) (ga_cons (g_c (v := .ty "str") (pe_bltn (by rfl) T.z_str (by decide +kernel) rfl) (fun _ _ => .ty _)) ga_nil))) (by intro _; rfl))) (h_one (h_ret g_bl)) h_nil)
    (h_cons (h_asg (g_c (v := .str "/") (pe_glob (by rfl) T.c_SLASH ⟨_, rfl⟩) (fun _ _ => .str _)) (s_name (i := 1) sc_is_path.nd (by rfl) (by first | exact Or.inl rfl | exact Or.inr rfl)))
    (h_cons (h_for (passes_of rfl) rfl (i_val (g_var (pv 0))) (s_name (i := 2) sc_is_path.nd (by rfl) (by first | exact Or.inl rfl | exact Or.inr rfl)) (h_cons (h_if (PW.pt (tw_and (t_cmp (o_notIn h70) (g_var (pv 2)) (g_c (v := .str "-.0123456789_abcdefghijklmnopqrstuvwxyz") (pe_glob (by rfl) T.c_NAME_SIGNS ⟨_, rfl⟩) (fun _ _ => .str _)) (by rfl)) (tw_and1 (PW.pt (tw_or (t_cmp (o_ne h64) (g_var (pv 2)) (g_c (v := .str "/") (pe_glob (by rfl) T.c_SLASH ⟨_, rfl⟩) (fun _ _ => .str _)) (nomark _)) (tw_or1 (t_cmp (o_eq h64) (g_var (pv 1)) (g_c (v := .str "/") (pe_glob (by rfl) T.c_SLASH ⟨_, rfl⟩) (fun _ _ => .str _)) (nomark _)))))))) (h_one (h_ret g_bl)) h_nil)
    (h_one (h_asg (g_var (pv 2)) (s_name (i := 1) sc_is_path.nd (by rfl) (by first | exact Or.inl rfl | exact Or.inr rfl))))))
    (h_one (h_ret (g_cmp (o_ne h64) (g_var (pv 1)) (g_c (v := .str "/") (pe_glob (by rfl) T.c_SLASH ⟨_, rfl⟩) (fun _ _ => .str _)) (nomark _)))))))
theorem sc_is_entry : FnScope ["thing"] ["thing"] (defScope (top 5)) := ⟨rfl, rfl, rfl, by decide +kernel, rfl, by decide +kernel, by decide +kernel⟩
theorem ok_is_entry (T : Txt K mg) : FnG P w K mg base (L2.CX P w) 2 T.f_is_entry T.fd_is_entry ["thing"] (spF K 1 F_is_entry) := fnG_mk T.F_is_entry sc_is_entry fun cdv A outer s H E hr hA h64 h70 h0 =>
  (h_one (h_ret (g_or (g_call (ok_is_path T) (hr.mono (by decide)) hA (by rfl) T.g_is_path T.F_is_path.kp T.b_is_path .nil (fun _ _ => .nil) (passes_call (takes_of rfl rfl rfl rfl) (fun _ _ _ _ h => h)) (ga_cons (g_var (pv 0)) ga_nil)) (g_one (g_and (g_callB c_isi (by rfl) T.z_isinstance (by decide +kernel) (ga_cons (g_var (pv 0)) (ga_cons (g_c (v := .ty "str") (pe_bltn (by rfl) T.z_str (by decide +kernel) rfl) (fun _ _ => .ty _)) ga_nil))) (g_and (g_cmp (o_eq h64) (g_sl (g_var (pv 0)) (go_some (g_un o_neg g_int)) go_none) (g_c (v := .str "/") (pe_glob (by rfl) T.c_SLASH ⟨_, rfl⟩) (fun _ _ => .str _)) (nomark _)) (g_one (g_call (ok_is_path T) (hr.mono (by decide)) hA (by rfl) T.g_is_path T.F_is_path.kp T.b_is_path .nil (fun _ _ => .nil) (passes_call (takes_of rfl rfl rfl rfl) (fun _ _ _ _ h => h)) (ga_cons (g_sl (g_var (pv 0)) go_none (go_some (g_un o_neg g_int))) ga_nil)))))))))
theorem sc__law_bag : FnScope ["_law_script", "_law_at", "_law_cell", "_law_digits"] ["_law_script", "_law_at"] (defScope (top 7)) := ⟨rfl, rfl, rfl, by decide +kernel, rfl, by decide +kernel, by decide +kernel⟩
theorem ok__law_bag (T : Txt K mg) : FnG P w K mg base (L2.CX P w) 1 T.f__law_bag T.fd__law_bag ["_law_script", "_law_at"] (spF K 2 F__law_bag) := fnG_mk T.F__law_bag sc__law_bag fun cdv A outer s H E hr hA h64 h70 h0 =>
  (h_cons (h_asg (g_if (t_cmp (o_lt h0) (g_var (pv 1)) (g_callB c_len (by rfl) T.z_len (by decide +kernel) (ga_cons (g_var (pv 0)) ga_nil)) (nomark _)) (g_ix (g_var (pv 0)) (g_var (pv 1)) (fun _ _ => rfl)) g_int) (s_name (i := 2) sc__law_bag.nd (by rfl) (by first | exact Or.inl rfl | exact Or.inr rfl)))
    (h_cons (h_asg (g_if (t_cmp o_ge (g_callB c_abs (by rfl) T.z_abs (by decide +kernel) (ga_cons (g_var (pv 2)) ga_nil)) (g_op o_pow g_int g_int) (nomark _)) (g_callB c_abs (by rfl) T.z_abs (by decide +kernel) (ga_cons (g_var (pv 2)) ga_nil)) g_int) (s_name (i := 3) sc__law_bag.nd (by rfl) (by first | exact Or.inl rfl | exact Or.inr rfl)))
    (h_one (h_ret (g_lst (ga_cons (g_var (pv 3)) (ga_cons (g_op o_mod (g_op o_mul (g_op o_add (g_op o_add (g_op o_mod (g_var (pv 2)) g_int) (g_op o_mul g_int (g_var (pv 1)))) g_int) g_int) g_int) (ga_cons g_int ga_nil))))))))
theorem sc__law_take : FnScope ["_law_bag_here", "_law_many", "_law_digit", "_law_mixed"] ["_law_bag_here", "_law_many"] (defScope (top 8)) := ⟨rfl, rfl, rfl, by decide +kernel, rfl, by decide +kernel, by decide +kernel⟩
theorem ok__law_take (T : Txt K mg) : FnG P w K mg base (L2.CX P w) 1 T.f__law_take T.fd__law_take ["_law_bag_here", "_law_many"] (spF K 2 F__law_take) := fnG_mk T.F__law_take sc__law_take fun cdv A outer s H E hr hA h64 h70 h0 =>
  (h_cons (h_if (t_cmp o_gt (g_ix (g_var (pv 0)) g_int (fun _ _ => rfl)) g_int (nomark _)) (h_cons (h_asg (g_op o_mod (g_ix (g_var (pv 0)) g_int (fun _ _ => rfl)) (g_var (pv 1))) (s_name (i := 2) sc__law_take.nd (by rfl) (by first | exact Or.inl rfl | exact Or.inr rfl)))
    (h_cons (h_asg (g_op o_div (g_ix (g_var (pv 0)) g_int (fun _ _ => rfl)) (g_var (pv 1))) (s_sub (g_var (pv 0)) g_int o_set))
    (h_one (h_ret (g_var (pv 2)))))) h_nil)
    (h_cons (h_asg (g_op o_add (g_ix (g_var (pv 0)) g_int (fun _ _ => rfl)) g_int) (s_sub (g_var (pv 0)) g_int o_set))
    (h_cons (h_asg (g_op o_mod (g_op o_pow (g_op o_add (g_ix (g_var (pv 0)) g_int (fun _ _ => rfl)) (g_op o_mul g_int (g_ix (g_var (pv 0)) g_int (fun _ _ => rfl)))) g_int) g_int) (s_name (i := 3) sc__law_take.nd (by rfl) (by first | exact Or.inl rfl | exact Or.inr rfl)))
    (h_cons (h_asg (g_op o_mod (g_op o_pow (g_op o_add (g_var (pv 3)) (g_op o_mul g_int (g_ix (g_var (pv 0)) g_int (fun _ _ => rfl)))) g_int) g_int) (s_name (i := 3) sc__law_take.nd (by rfl) (by first | exact Or.inl rfl | exact Or.inr rfl)))
    (h_one (h_ret (g_op o_mod (g_op o_div (g_var (pv 3)) g_int) (g_var (pv 1)))))))))
theorem sc__law_any : FnScope ["_law_bag_here", "_law_some"] ["_law_bag_here"] (defScope (top 9)) := ⟨rfl, rfl, rfl, by decide +kernel, rfl, by decide +kernel, by decide +kernel⟩
theorem ok__law_any (T : Txt K mg) : FnG P w K mg base (L2.CX P w) 2 T.f__law_any T.fd__law_any ["_law_bag_here"] (spF K 1 F__law_any) := fnG_mk T.F__law_any sc__law_any fun cdv A outer s H E hr hA h64 h70 h0 =>
  (h_cons (h_asg (g_lst (ga_cons g_non (ga_cons g_bl (ga_cons g_bl (ga_cons g_int (ga_cons g_int (ga_cons g_str (ga_cons g_str (ga_cons g_str (ga_cons g_str (ga_cons g_str (ga_cons g_str (ga_cons g_str (ga_cons g_str (ga_cons g_str (ga_cons (g_lst ga_nil) (ga_cons (g_tup ga_nil) (ga_cons (g_tup (ga_cons g_str ga_nil)) (ga_cons (g_tup (ga_cons g_str ga_nil)) ga_nil))))))))))))))))))) (s_name (i := 1) sc__law_any.nd (by rfl) (by first | exact Or.inl rfl | exact Or.inr rfl)))
    (h_cons (h_asg (g_op o_add (g_var (pv 1)) (g_lst (ga_cons (g_tup (ga_cons g_str ga_nil)) (ga_cons (g_tup (ga_cons g_str (ga_cons g_str ga_nil))) (ga_cons (g_tup (ga_cons g_str (ga_cons g_str ga_nil))) (ga_cons (g_tup (ga_cons g_str (ga_cons (g_tup (ga_cons (g_tup (ga_cons g_str ga_nil)) ga_nil)) ga_nil))) (ga_cons (g_lst (ga_cons g_str ga_nil)) (ga_cons (g_tup (ga_cons g_str ga_nil)) (ga_cons (g_op o_pow g_int g_int) ga_nil))))))))) (s_name (i := 1) sc__law_any.nd (by rfl) (by first | exact Or.inl rfl | exact Or.inr rfl)))
    (h_one (h_ret (g_ix (g_var (pv 1)) (g_call (ok__law_take T) (hr.mono (by decide)) hA (by rfl) T.g__law_take T.F__law_take.kp T.b__law_take .nil (fun _ _ => .nil) (passes_call (takes_of rfl rfl rfl rfl) (fun _ _ _ _ h => h)) (ga_cons (g_var (pv 0)) (ga_cons g_int ga_nil))) (fun _ _ => rfl))))))
theorem sc__law_named : FnScope ["_law_thing"] ["_law_thing"] (defScope (top 10)) := ⟨rfl, rfl, rfl, by decide +kernel, rfl, by decide +kernel, by decide +kernel⟩
theorem ok__law_named (T : Txt K mg) : FnG P w K mg base (L2.CX P w) 1 T.f__law_named T.fd__law_named ["_law_thing"] (spF K 1 F__law_named) := fnG_mk T.F__law_named sc__law_named fun cdv A outer s H E hr hA h64 h70 h0 =>
  (h_one (h_ret (g_and (g_callB c_isi (by rfl) T.z_isinstance (by decide +kernel) (ga_cons (g_var (pv 0)) (ga_cons (g_c (v := .ty "str") (pe_bltn (by rfl) T.z_str (by decide +kernel) rfl) (fun _ _ => .ty _)) ga_nil))) (g_and (g_cmp (o_ne h64) (g_var (pv 0)) g_str (nomark _)) (g_one (g_cmp (o_eq h64) (g_m PySem.F.plainAttrs_str PySem.F.slot_str_strip PySem.F.type_str_strip m_strip (g_var (pv 0)) (ga_cons g_str ga_nil)) g_str (nomark _)))))))
theorem sc__law_is_right : FnScope ["_law_thing", "_law_pieces", "_law_due", "_law_one"] ["_law_thing"] (defScope (top 11)) := ⟨rfl, rfl, rfl, by decide +kernel, rfl, by decide +kernel, by decide +kernel⟩
theorem ok__law_is_right (T : Txt K mg) : FnG P w K mg base (L2.CX P w) 3 T.f__law_is_right T.fd__law_is_right ["_law_thing"] (spF K 1 F__law_is_right) := fnG_mk T.F__law_is_right sc__law_is_right fun cdv A outer s H E hr hA h64 h70 h0 =>
  (h_cons (h_asg (g_if (t_val (g_callB c_isi (by rfl) T.z_isinstance (by decide +kernel) (ga_cons (g_var (pv 0)) (ga_cons (g_c (v := .ty "str") (pe_bltn (by rfl) T.z_str (by decide +kernel) rfl) (fun _ _ => .ty _)) ga_nil))) (by intro _; rfl)) (g_m PySem.F.plainAttrs_str PySem.F.slot_str_split PySem.F.type_str_split m_split (g_var (pv 0)) (ga_cons g_str ga_nil)) (g_lst (ga_cons g_non ga_nil))) (s_name (i := 1) sc__law_is_right.nd (by rfl) (by first | exact Or.inl rfl | exact Or.inr rfl)))
    (h_cons (h_asg (g_lst (ga_cons (g_call (ok__law_named T) (hr.mono (by decide)) hA (by rfl) T.g__law_named T.F__law_named.kp T.b__law_named .nil (fun _ _ => .nil) (passes_call (takes_of rfl rfl rfl rfl) (fun _ _ _ _ h => h)) (ga_cons (g_var (pv 0)) ga_nil)) (ga_cons (g_callB (c_all rfl) (by rfl) T.z_all (by decide +kernel) (ga_cons (g_lc (own := [("_law_one", 3)]) rfl sc__law_is_right.nd (i_val (g_var (pv 1))) (blkOk_by (own := [("_law_one", 3)]) (by rfl)) (ct_name (i := 3) (by decide)) (fun _ _ _ _ _ => (pg_name (i := 3) sc__law_is_right.nd (by rfl) (by first | exact Or.inl rfl | exact Or.inr rfl))) (fun _ _ _ _ _ => ts_nil) (fun _ _ _ _ _ => (g_call (ok__law_named T) (hr.mono (by decide)) hA (by rfl) T.g__law_named T.F__law_named.kp T.b__law_named .nil (fun _ _ => .nil) passL (ga_cons (g_var (pv 3)) ga_nil)))) ga_nil)) ga_nil))) (s_name (i := 2) sc__law_is_right.nd (by rfl) (by first | exact Or.inl rfl | exact Or.inr rfl)))
    (h_cons (h_expr (g_m PySem.F.plainAttrs_list PySem.F.slot_list_append PySem.F.type_list_append m_append (g_var (pv 2)) (ga_cons (g_or (g_ix (g_var (pv 2)) g_int (fun _ _ => rfl)) (g_one (g_and (g_cmp (o_eq h64) (g_ix (g_var (pv 1)) (g_un o_neg g_int) (fun _ _ => rfl)) g_str (nomark _)) (g_and (g_cmp o_gt (g_callB c_len (by rfl) T.z_len (by decide +kernel) (ga_cons (g_var (pv 1)) ga_nil)) g_int (nomark _)) (g_one (g_callB (c_all rfl) (by rfl) T.z_all (by decide +kernel) (ga_cons (g_lc (own := [("_law_one", 3)]) rfl sc__law_is_right.nd (i_val (g_sl (g_var (pv 1)) go_none (go_some (g_un o_neg g_int)))) (blkOk_by (own := [("_law_one", 3)]) (by rfl)) (ct_name (i := 3) (by decide)) (fun _ _ _ _ _ => (pg_name (i := 3) sc__law_is_right.nd (by rfl) (by first | exact Or.inl rfl | exact Or.inr rfl))) (fun _ _ _ _ _ => ts_nil) (fun _ _ _ _ _ => (g_call (ok__law_named T) (hr.mono (by decide)) hA (by rfl) T.g__law_named T.F__law_named.kp T.b__law_named .nil (fun _ _ => .nil) passL (ga_cons (g_var (pv 3)) ga_nil)))) ga_nil))))))) ga_nil)))
    (h_one (h_ret (g_cmp (o_eq h64) (g_callB (c_repr hA h70) (by rfl) T.z_repr (by decide +kernel) (ga_cons (g_lst (ga_cons (g_call (ok_is_name T) (hr.mono (by decide)) hA (by rfl) T.g_is_name T.F_is_name.kp T.b_is_name .nil (fun _ _ => .nil) (passes_call (takes_of rfl rfl rfl rfl) (fun _ _ _ _ h => h)) (ga_cons (g_var (pv 0)) ga_nil)) (ga_cons (g_call (ok_is_path T) (hr.mono (by decide)) hA (by rfl) T.g_is_path T.F_is_path.kp T.b_is_path .nil (fun _ _ => .nil) (passes_call (takes_of rfl rfl rfl rfl) (fun _ _ _ _ h => h)) (ga_cons (g_var (pv 0)) ga_nil)) (ga_cons (g_call (ok_is_entry T) (hr.mono (by decide)) hA (by rfl) T.g_is_entry T.F_is_entry.kp T.b_is_entry .nil (fun _ _ => .nil) (passes_call (takes_of rfl rfl rfl rfl) (fun _ _ _ _ h => h)) (ga_cons (g_var (pv 0)) ga_nil)) ga_nil)))) ga_nil)) (g_callB (c_repr hA h70) (by rfl) T.z_repr (by decide +kernel) (ga_cons (g_var (pv 2)) ga_nil)) (nomark _)))))))
theorem sc_law : FnScope ["_law_script", "_law_at", "_law_bag_here", "_law_turn", "_law_signs", "_law_thing", "_law_some", "_law_k"] ["_law_script"] (defScope (top 12)) := ⟨rfl, rfl, rfl, by decide +kernel, rfl, by decide +kernel, by decide +kernel⟩
theorem ok_law (T : Txt K mg) : FnG P w K mg base (L2.CX P w) 4 T.f_law T.fd_law ["_law_script"] (spF K 1 F_law) := fnG_mk T.F_law sc_law fun cdv A outer s H E hr hA h64 h70 h0 =>
  (h_cons (h_for (passes_of rfl) rfl (i_range1 (by rfl) T.z_range (ga_cons (g_callB (c_max rfl) (by rfl) T.z_max (by decide +kernel) (ga_cons g_int (ga_cons (g_callB (c_min rfl) (by rfl) T.z_min (by decide +kernel) (ga_cons g_int (ga_cons (g_callB c_len (by rfl) T.z_len (by decide +kernel) (ga_cons (g_var (pv 0)) ga_nil)) ga_nil))) ga_nil))) ga_nil)) (s_name (i := 1) sc_law.nd (by rfl) (by first | exact Or.inl rfl | exact Or.inr rfl)) (h_cons (h_asg (g_call (ok__law_bag T) (hr.mono (by decide)) hA (by rfl) T.g__law_bag T.F__law_bag.kp T.b__law_bag .nil (fun _ _ => .nil) (passes_call (takes_of rfl rfl rfl rfl) (fun _ _ _ _ h => h)) (ga_cons (g_var (pv 0)) (ga_cons (g_var (pv 1)) ga_nil))) (s_name (i := 2) sc_law.nd (by rfl) (by first | exact Or.inl rfl | exact Or.inr rfl)))
    (h_one (h_for (passes_of rfl) rfl (i_range1 (by rfl) T.z_range (ga_cons g_int ga_nil)) (s_name (i := 3) sc_law.nd (by rfl) (by first | exact Or.inl rfl | exact Or.inr rfl)) (h_cons (h_asg (g_ix (g_lst (ga_cons g_str (ga_cons g_str (ga_cons g_str (ga_cons g_str ga_nil))))) (g_call (ok__law_take T) (hr.mono (by decide)) hA (by rfl) T.g__law_take T.F__law_take.kp T.b__law_take .nil (fun _ _ => .nil) (passes_call (takes_of rfl rfl rfl rfl) (fun _ _ _ _ h => h)) (ga_cons (g_var (pv 2)) (ga_cons g_int ga_nil))) (fun _ _ => rfl)) (s_name (i := 4) sc_law.nd (by rfl) (by first | exact Or.inl rfl | exact Or.inr rfl)))
    (h_cons (h_asg (g_m PySem.F.plainAttrs_str PySem.F.slot_str_join PySem.F.type_str_join m_join g_str (ga_cons (g_lc (own := [("_law_k", 7)]) rfl sc_law.nd (i_range1 (by rfl) T.z_range (ga_cons (g_call (ok__law_take T) (hr.mono (by decide)) hA (by rfl) T.g__law_take T.F__law_take.kp T.b__law_take .nil (fun _ _ => .nil) (passes_call (takes_of rfl rfl rfl rfl) (fun _ _ _ _ h => h)) (ga_cons (g_var (pv 2)) (ga_cons g_int ga_nil))) ga_nil)) (blkOk_by (own := [("_law_k", 7)]) (by rfl)) (ct_name (i := 7) (by decide)) (fun _ _ _ _ _ => (pg_name (i := 7) sc_law.nd (by rfl) (by first | exact Or.inl rfl | exact Or.inr rfl))) (fun _ _ _ _ _ => ts_nil) (fun _ _ _ _ _ => (g_ix (g_var (pv 4)) (g_call (ok__law_take T) (hr.mono (by decide)) hA (by rfl) T.g__law_take T.F__law_take.kp T.b__law_take .nil (fun _ _ => .nil) passL (ga_cons (g_var (pv 2)) (ga_cons (g_callB c_len (by rfl) T.z_len (by decide +kernel) (ga_cons (g_var (pv 4)) ga_nil)) ga_nil))) (fun _ _ => rfl)))) ga_nil)) (s_name (i := 5) sc_law.nd (by rfl) (by first | exact Or.inl rfl | exact Or.inr rfl)))
    (h_one (h_if (PW.pt (tw_or (t_not (t_val (g_call (ok__law_is_right T) (hr.mono (by decide)) hA (by rfl) T.g__law_is_right T.F__law_is_right.kp T.b__law_is_right .nil (fun _ _ => .nil) (passes_call (takes_of rfl rfl rfl rfl) (fun _ _ _ _ h => h)) (ga_cons (g_var (pv 5)) ga_nil)) (by intro _; rfl))) (tw_or (t_not (t_val (g_call (ok__law_is_right T) (hr.mono (by decide)) hA (by rfl) T.g__law_is_right T.F__law_is_right.kp T.b__law_is_right .nil (fun _ _ => .nil) (passes_call (takes_of rfl rfl rfl rfl) (fun _ _ _ _ h => h)) (ga_cons (g_op o_add (g_var (pv 5)) g_str) ga_nil)) (by intro _; rfl))) (tw_or1 (t_not (t_val (g_call (ok__law_is_right T) (hr.mono (by decide)) hA (by rfl) T.g__law_is_right T.F__law_is_right.kp T.b__law_is_right .nil (fun _ _ => .nil) (passes_call (takes_of rfl rfl rfl rfl) (fun _ _ _ _ h => h)) (ga_cons (g_call (ok__law_any T) (hr.mono (by decide)) hA (by rfl) T.g__law_any T.F__law_any.kp T.b__law_any .nil (fun _ _ => .nil) (passes_call (takes_of rfl rfl rfl rfl) (fun _ _ _ _ h => h)) (ga_cons (g_var (pv 2)) ga_nil)) ga_nil)) (by intro _; rfl))))))) (h_one (h_ret g_bl)) h_nil))))))))
    (h_cons (h_asg (g_lst (ga_cons g_str (ga_cons g_str (ga_cons g_str (ga_cons g_str (ga_cons g_str (ga_cons g_str (ga_cons g_str (ga_cons g_str (ga_cons (g_op o_mul g_str g_int) (ga_cons g_str (ga_cons g_str (ga_cons g_str (ga_cons g_str ga_nil)))))))))))))) (s_name (i := 6) sc_law.nd (by rfl) (by first | exact Or.inl rfl | exact Or.inr rfl)))
    (h_one (h_ret (g_callB (c_all rfl) (by rfl) T.z_all (by decide +kernel) (ga_cons (g_lc (own := [("_law_thing", 5)]) rfl sc_law.nd (i_val (g_var (pv 6))) (blkOk_by (own := [("_law_thing", 5)]) (by rfl)) (ct_name (i := 5) (by decide)) (fun _ _ _ _ _ => (pg_name (i := 5) sc_law.nd (by rfl) (by first | exact Or.inl rfl | exact Or.inr rfl))) (fun _ _ _ _ _ => ts_nil) (fun _ _ _ _ _ => (g_call (ok__law_is_right T) (hr.mono (by decide)) hA (by rfl) T.g__law_is_right T.F__law_is_right.kp T.b__law_is_right .nil (fun _ _ => .nil) passL (ga_cons (g_var (pv 5)) ga_nil)))) ga_nil))))))
end

theorem all_mk {l : PySem.W.OpenLaw} {w : World} {K : PySem.W.Frag} {h : Heap} {mg : Str → Option Value} {fa : Addr} (X : K.In h) (Gn : h.Ns mainGlobals mg) (hfa : mg "law" = some (.ref fa))
    {f0 : Addr} {od0 an0 : Option Addr} {sl0 : Array (Option Value)} {oc0 kV0 dc0 pm0 cd0 ct0 : Value}
    {f1 : Addr} {od1 an1 : Option Addr} {sl1 : Array (Option Value)} {oc1 kV1 dc1 pm1 cd1 ct1 : Value}
    {f2 : Addr} {od2 an2 : Option Addr} {sl2 : Array (Option Value)} {oc2 kV2 dc2 pm2 cd2 ct2 : Value}
    {f3 : Addr} {od3 an3 : Option Addr} {sl3 : Array (Option Value)} {oc3 kV3 dc3 pm3 cd3 ct3 : Value}
    {f4 : Addr} {od4 an4 : Option Addr} {sl4 : Array (Option Value)} {oc4 kV4 dc4 pm4 cd4 ct4 : Value}
    {f5 : Addr} {od5 an5 : Option Addr} {sl5 : Array (Option Value)} {oc5 kV5 dc5 pm5 cd5 ct5 : Value}
    {f6 : Addr} {od6 an6 : Option Addr} {sl6 : Array (Option Value)} {oc6 kV6 dc6 pm6 cd6 ct6 : Value}
    {f7 : Addr} {od7 an7 : Option Addr} {sl7 : Array (Option Value)} {oc7 kV7 dc7 pm7 cd7 ct7 : Value}
    {f8 : Addr} {od8 an8 : Option Addr} {sl8 : Array (Option Value)} {oc8 kV8 dc8 pm8 cd8 ct8 : Value}
    {t_NAME_SIGNS : Tok}
    {t_SLASH : Tok}
    (a0 : PySem.W.nsIn K mainGlobals "is_name" = some (some (.ref f0)))
    (l0 : K.lookup f0 = some ⟨oc0, od0, .func (PySem.W.fnOf "is_name" "is_name" (defArgs (top 3)) (defBody (top 3)) (defScope (top 3)) .none kV0 dc0 pm0 an0 cd0 ct0), sl0⟩)
    (d0 : PySem.W.codeIn K cd0 "is_name" = true)
    (k0 : PySem.W.keepIn K (.ref f0) = true)
    (a1 : PySem.W.nsIn K mainGlobals "is_path" = some (some (.ref f1)))
    (l1 : K.lookup f1 = some ⟨oc1, od1, .func (PySem.W.fnOf "is_path" "is_path" (defArgs (top 4)) (defBody (top 4)) (defScope (top 4)) .none kV1 dc1 pm1 an1 cd1 ct1), sl1⟩)
    (d1 : PySem.W.codeIn K cd1 "is_path" = true)
    (k1 : PySem.W.keepIn K (.ref f1) = true)
    (a2 : PySem.W.nsIn K mainGlobals "is_entry" = some (some (.ref f2)))
    (l2 : K.lookup f2 = some ⟨oc2, od2, .func (PySem.W.fnOf "is_entry" "is_entry" (defArgs (top 5)) (defBody (top 5)) (defScope (top 5)) .none kV2 dc2 pm2 an2 cd2 ct2), sl2⟩)
    (d2 : PySem.W.codeIn K cd2 "is_entry" = true)
    (k2 : PySem.W.keepIn K (.ref f2) = true)
    (a3 : PySem.W.nsIn K mainGlobals "_law_bag" = some (some (.ref f3)))
    (l3 : K.lookup f3 = some ⟨oc3, od3, .func (PySem.W.fnOf "_law_bag" "_law_bag" (defArgs (top 7)) (defBody (top 7)) (defScope (top 7)) .none kV3 dc3 pm3 an3 cd3 ct3), sl3⟩)
    (d3 : PySem.W.codeIn K cd3 "_law_bag" = true)
    (k3 : PySem.W.keepIn K (.ref f3) = true)
    (a4 : PySem.W.nsIn K mainGlobals "_law_take" = some (some (.ref f4)))
    (l4 : K.lookup f4 = some ⟨oc4, od4, .func (PySem.W.fnOf "_law_take" "_law_take" (defArgs (top 8)) (defBody (top 8)) (defScope (top 8)) .none kV4 dc4 pm4 an4 cd4 ct4), sl4⟩)
    (d4 : PySem.W.codeIn K cd4 "_law_take" = true)
    (k4 : PySem.W.keepIn K (.ref f4) = true)
    (a5 : PySem.W.nsIn K mainGlobals "_law_any" = some (some (.ref f5)))
    (l5 : K.lookup f5 = some ⟨oc5, od5, .func (PySem.W.fnOf "_law_any" "_law_any" (defArgs (top 9)) (defBody (top 9)) (defScope (top 9)) .none kV5 dc5 pm5 an5 cd5 ct5), sl5⟩)
    (d5 : PySem.W.codeIn K cd5 "_law_any" = true)
    (k5 : PySem.W.keepIn K (.ref f5) = true)
    (a6 : PySem.W.nsIn K mainGlobals "_law_named" = some (some (.ref f6)))
    (l6 : K.lookup f6 = some ⟨oc6, od6, .func (PySem.W.fnOf "_law_named" "_law_named" (defArgs (top 10)) (defBody (top 10)) (defScope (top 10)) .none kV6 dc6 pm6 an6 cd6 ct6), sl6⟩)
    (d6 : PySem.W.codeIn K cd6 "_law_named" = true)
    (k6 : PySem.W.keepIn K (.ref f6) = true)
    (a7 : PySem.W.nsIn K mainGlobals "_law_is_right" = some (some (.ref f7)))
    (l7 : K.lookup f7 = some ⟨oc7, od7, .func (PySem.W.fnOf "_law_is_right" "_law_is_right" (defArgs (top 11)) (defBody (top 11)) (defScope (top 11)) .none kV7 dc7 pm7 an7 cd7 ct7), sl7⟩)
    (d7 : PySem.W.codeIn K cd7 "_law_is_right" = true)
    (k7 : PySem.W.keepIn K (.ref f7) = true)
    (a8 : PySem.W.nsIn K mainGlobals "law" = some (some (.ref f8)))
    (l8 : K.lookup f8 = some ⟨oc8, od8, .func (PySem.W.fnOf "law" "law" (defArgs (top 12)) (defBody (top 12)) (defScope (top 12)) .none kV8 dc8 pm8 an8 cd8 ct8), sl8⟩)
    (d8 : PySem.W.codeIn K cd8 "law" = true)
    (k8 : PySem.W.keepIn K (.ref f8) = true)
    (c_NAME_SIGNS : PySem.W.nsIn K mainGlobals "NAME_SIGNS" = some (some (.str "-.0123456789_abcdefghijklmnopqrstuvwxyz" t_NAME_SIGNS)))
    (c_SLASH : PySem.W.nsIn K mainGlobals "SLASH" = some (some (.str "/" t_SLASH)))
    (z_abs : PySem.W.nsIn K mainGlobals "abs" = some none)
    (z_all : PySem.W.nsIn K mainGlobals "all" = some none)
    (z_isinstance : PySem.W.nsIn K mainGlobals "isinstance" = some none)
    (z_len : PySem.W.nsIn K mainGlobals "len" = some none)
    (z_max : PySem.W.nsIn K mainGlobals "max" = some none)
    (z_min : PySem.W.nsIn K mainGlobals "min" = some none)
    (z_range : PySem.W.nsIn K mainGlobals "range" = some none)
    (z_repr : PySem.W.nsIn K mainGlobals "repr" = some none)
    (z_str : PySem.W.nsIn K mainGlobals "str" = some none) :
    ∃ fd : FuncData, (∀ (s : Shared) (v : Value), BindsTo s fd ⟨[v], []⟩ [("_law_script", v)]) ∧ ∀ base : Heap, K.In base → base.Ns mainGlobals mg → FnG l.prog w K mg base (L2.CX l.prog w) 4 fa fd ["_law_script"] (spF K 1 F_law) := by
  have e := (PySem.W.mg_of X Gn a8).symm.trans hfa
  have e2 : f8 = fa := Value.ref.inj (Option.some.inj e)
  subst e2
  let T : Txt K mg := {
    f_is_name := f0,
    fd_is_name := _,
    F_is_name := fun_mk (st := top 3) l0 d0 k0,
    g_is_name := PySem.W.mg_of X Gn a0,
    b_is_name := (fun_mk (st := top 3) l0 d0 k0).binds (ps := ["thing"]) fun _ _ _ _ _ _ us hl => match us, hl with | [_], _ => rfl,
    f_is_path := f1,
    fd_is_path := _,
    F_is_path := fun_mk (st := top 4) l1 d1 k1,
    g_is_path := PySem.W.mg_of X Gn a1,
    b_is_path := (fun_mk (st := top 4) l1 d1 k1).binds (ps := ["thing"]) fun _ _ _ _ _ _ us hl => match us, hl with | [_], _ => rfl,
    f_is_entry := f2,
    fd_is_entry := _,
    F_is_entry := fun_mk (st := top 5) l2 d2 k2,
    g_is_entry := PySem.W.mg_of X Gn a2,
    b_is_entry := (fun_mk (st := top 5) l2 d2 k2).binds (ps := ["thing"]) fun _ _ _ _ _ _ us hl => match us, hl with | [_], _ => rfl,
    f__law_bag := f3,
    fd__law_bag := _,
    F__law_bag := fun_mk (st := top 7) l3 d3 k3,
    g__law_bag := PySem.W.mg_of X Gn a3,
    b__law_bag := (fun_mk (st := top 7) l3 d3 k3).binds (ps := ["_law_script", "_law_at"]) fun _ _ _ _ _ _ us hl => match us, hl with | [_, _], _ => rfl,
    f__law_take := f4,
    fd__law_take := _,
    F__law_take := fun_mk (st := top 8) l4 d4 k4,
    g__law_take := PySem.W.mg_of X Gn a4,
    b__law_take := (fun_mk (st := top 8) l4 d4 k4).binds (ps := ["_law_bag_here", "_law_many"]) fun _ _ _ _ _ _ us hl => match us, hl with | [_, _], _ => rfl,
    f__law_any := f5,
    fd__law_any := _,
    F__law_any := fun_mk (st := top 9) l5 d5 k5,
    g__law_any := PySem.W.mg_of X Gn a5,
    b__law_any := (fun_mk (st := top 9) l5 d5 k5).binds (ps := ["_law_bag_here"]) fun _ _ _ _ _ _ us hl => match us, hl with | [_], _ => rfl,
    f__law_named := f6,
    fd__law_named := _,
    F__law_named := fun_mk (st := top 10) l6 d6 k6,
    g__law_named := PySem.W.mg_of X Gn a6,
    b__law_named := (fun_mk (st := top 10) l6 d6 k6).binds (ps := ["_law_thing"]) fun _ _ _ _ _ _ us hl => match us, hl with | [_], _ => rfl,
    f__law_is_right := f7,
    fd__law_is_right := _,
    F__law_is_right := fun_mk (st := top 11) l7 d7 k7,
    g__law_is_right := PySem.W.mg_of X Gn a7,
    b__law_is_right := (fun_mk (st := top 11) l7 d7 k7).binds (ps := ["_law_thing"]) fun _ _ _ _ _ _ us hl => match us, hl with | [_], _ => rfl,
    f_law := f8,
    fd_law := _,
    F_law := fun_mk (st := top 12) l8 d8 k8,
    g_law := PySem.W.mg_of X Gn a8,
    b_law := (fun_mk (st := top 12) l8 d8 k8).binds (ps := ["_law_script"]) fun _ _ _ _ _ _ us hl => match us, hl with | [_], _ => rfl,
    t_NAME_SIGNS := _,
    c_NAME_SIGNS := PySem.W.mg_of X Gn c_NAME_SIGNS,
    t_SLASH := _,
    c_SLASH := PySem.W.mg_of X Gn c_SLASH,
    z_abs := PySem.W.mg_none_of X Gn z_abs,
    z_all := PySem.W.mg_none_of X Gn z_all,
    z_isinstance := PySem.W.mg_none_of X Gn z_isinstance,
    z_len := PySem.W.mg_none_of X Gn z_len,
    z_max := PySem.W.mg_none_of X Gn z_max,
    z_min := PySem.W.mg_none_of X Gn z_min,
    z_range := PySem.W.mg_none_of X Gn z_range,
    z_repr := PySem.W.mg_none_of X Gn z_repr,
    z_str := PySem.W.mg_none_of X Gn z_str }
  exact ⟨_, fun s v => .of_eq rfl, fun base _ _ => ok_law T⟩

end Lw

open PySem PySem.W PyProof.Rows in
set_option maxRecDepth 100000 in
set_option maxHeartbeats 0 in
theorem PySem.Challenge.cw_globhouse_k01_names_paths_entries_holds : PySem.Challenge.rw_globhouse_k01_names_paths_entries.Holds := by
  w_on; o_law; k_head; (case hw => w_witness2)
  k_fill
  refine G.walkLaw (l := PySem.Challenge.rw_globhouse_k01_names_paths_entries) (k := 4) (x := "_law_script") (F := Lw.F_law) rfl rfl ⟨rfl, by decide, by decide⟩ (fun w h Y => PySem.W.kIn_of Y) ?F Lw.law_true
  case F =>
    intro w mg fa h KX Gn hmg
    refine' Lw.all_mk KX Gn hmg ?a0 ?l0 ?d0 ?k0 ?a1 ?l1 ?d1 ?k1 ?a2 ?l2 ?d2 ?k2 ?a3 ?l3 ?d3 ?k3 ?a4 ?l4 ?d4 ?k4 ?a5 ?l5 ?d5 ?k5 ?a6 ?l6 ?d6 ?k6 ?a7 ?l7 ?d7 ?k7 ?a8 ?l8 ?d8 ?k8 ?c_NAME_SIGNS ?c_SLASH ?z_abs ?z_all ?z_isinstance ?z_len ?z_max ?z_min ?z_range ?z_repr ?z_str
    (case a0 => k_is)
    (case l0 => k_is)
    (case d0 => k_is)
    (case k0 => k_is)
    (case a1 => k_is)
    (case l1 => k_is)
    (case d1 => k_is)
    (case k1 => k_is)
    (case a2 => k_is)
    (case l2 => k_is)
    (case d2 => k_is)
    (case k2 => k_is)
    (case a3 => k_is)
    (case l3 => k_is)
    (case d3 => k_is)
    (case k3 => k_is)
    (case a4 => k_is)
    (case l4 => k_is)
    (case d4 => k_is)
    (case k4 => k_is)
    (case a5 => k_is)
    (case l5 => k_is)
    (case d5 => k_is)
    (case k5 => k_is)
    (case a6 => k_is)
    (case l6 => k_is)
    (case d6 => k_is)
    (case k6 => k_is)
    (case a7 => k_is)
    (case l7 => k_is)
    (case d7 => k_is)
    (case k7 => k_is)
    (case a8 => k_is)
    (case l8 => k_is)
    (case d8 => k_is)
    (case k8 => k_is)
    (case c_NAME_SIGNS => k_is)
    (case c_SLASH => k_is)
    (case z_abs => k_is)
    (case z_all => k_is)
    (case z_isinstance => k_is)
    (case z_len => k_is)
    (case z_max => k_is)
    (case z_min => k_is)
    (case z_range => k_is)
    (case z_repr => k_is)
    (case z_str => k_is)
