import PyProof.Rows.All
import Wide.All
import OpenK.AllK
import Wide.FinOn
import PySem.Challenge.RW_nu0223_01
open PySem PySem.W PySem.Calls PyProof.Rows
set_option Elab.async false
set_option maxRecDepth 100000
namespace Mine
noncomputable def headE (p q : Program) (rs : WRecords) (as : List Addr) (N : Nat) (w : World) := (openEnds treeTable p w N).map fun s => (openSeen q [] (importedModules p.main.body) (fun s => xlAt q [] s && recOk rs s) true s, as.map s.heap.get?)
lay_quick Mine.headE
noncomputable def headG (q : Program) (K : Frag) := some (openGood q [], K.map fun p => some p.2)
lay_quick Mine.headG
theorem left_of {p q : Program} {rs : WRecords} {as : List Addr} {N : Nat} {K : Params → Frag} {e : ∀ P, as = (K P).map (·.1)} (h : ∀ w : World, headE p q rs as N w = headG q (K w.params)) :
    LeftO p q [] (fun s => xlAt q [] s && recOk rs s) (Hook.obs (kHook K as e)) (Hook.val (kHook K as e)) N := h
abbrev rowT := PySem.Challenge.rw_nu0223_01.row.toRowW
noncomputable def vw : Program := view rowT.prog [0, 2, 3, 4, 5, 6, 7, 8, 9, 11, 12, 13, 14, 15, 16, 17, 19, 21, 22, 23, 24, 25, 26, 27, 28, 29]
abbrev rowO := PySem.Challenge.rw_nu0223_01.row
theorem head_of {K : Params → Frag} {as : List Addr} {e : ∀ P, as = (K P).map (·.1)} {d : DefRec} {kwd : List (Str × PySem.Expr)} (H : Hook) (hH : H = kHook K as e) (k1 : rowO.wellSaid = true)
    (hdef : defOf vw rowO.name = some (d, kwd)) (hp : rowO.prog.theDef rowO.name = some (d.params, d.body, d.scope)) (hk : kwWritten? d.params.kwonlyargs d.params.kw_defaults = some kwd)
    (hl : ∀ w : World, headE rowO.prog vw (RowW.records rowT) as 4742 w = headG vw (K w.params)) (hw : rowO.toRowW.promised)
    (hc : WalkO vw [] (XL vw []) (Hook.says H) rowO.toRowW d kwd fun f vs => PySem.call f vs) : rowO.Holds := by
  subst hH
  exact holds_open (q := vw) (loose := []) (Xt := fun s => xlAt vw [] s && recOk (RowW.records rowT) s) (XP := XL vw []) (Yf := Hook.obs (kHook K as e)) (Ya := Hook.val (kHook K as e)) (YP := Hook.says (kHook K as e)) (N := 4742) (left_of hl) (Hook.of _) (Hook.keeps _) (fun s e => xl_of s (Bool.and_eq_true_iff.mp e).1) XL.keeps hdef hp hk (fun s e => recFacts_of (Bool.and_eq_true_iff.mp e).2) (by rfl) k1 (by decide +kernel) ⟨rfl, rfl, rfl, rfl, rfl, by decide +kernel⟩ hw hc
theorem said : PySem.Challenge.rw_nu0223_01.wellSaid = true := by
  rw [PySem.W.Fast.te9446332074065402090]
  kernel_rfl
theorem st1 : True := by
  k_with "hd hl" => ((case hl => intro w; rw [PySem.W.Fast.te5524094989967043928, PySem.W.Fast.te9870005667250747466]; kernel_rfl))
  k_with "hd law" => (refine holds_law said fun said => ?_)
  trivial
local macro_rules | `(tactic| o_head $H) => `(tactic| (refine head_of $H rfl (by assumption) rfl rfl rfl ?hl ?hw ?hc; k_extra "hd hl"))
local macro_rules | `(tactic| o_law) => `(tactic| k_extra "hd law")
set_option maxHeartbeats 8000000 in
open_top hd for PySem.Challenge.rw_nu0223_01
section
section
/-- the goal kept under a name of one sign while a hypothesis is taken apart -/
theorem opq {T : Prop} (h : ∀ G : Prop, (T → G) → G) : T := h T id
noncomputable abbrev AA (d u : Nat) : Around := { handled := none, depth := d, frames := none, guards := none, units := u }
/-- what every contract asks of its base -/
noncomputable def Gd (w : World) (g : Heap) : Prop := (Mine.hd.heap_1 w.params).In g ∧ ∃ mean mg mb, Top Mine.vw (looseW Mine.vw []) mean mg mb g
/-- the footprint: these objects stand in h, the base does not hold them -/
noncomputable def LedIn (g h : Heap) (news : List (Addr × Obj)) : Prop := ∀ p ∈ news, h.get? p.1 = some p.2 ∧ g.get? p.1 = none
theorem Gd.keeps {w : World} {g h : Heap} (G : Gd w g) (k : g.StaysIn h) : Gd w h :=
  ⟨G.1.keeps k, let ⟨a, b, c, T⟩ := G.2; ⟨a, b, c, T.keeps k⟩⟩
theorem below_le {Γ : Ctx} {A A' : Around} (h : Γ.Below A') (hh : A'.handled = A.handled) (hd : A'.depth ≤ A.depth) (hu : A'.units ≤ A.units) (hf : A.frames = none) (hg : A.guards = none) : Γ.Below A :=
  ⟨h.1.trans hh, Nat.le_trans h.2.1 hd, (fun l hl => by rw [hf] at hl; cases hl), (fun l hl => by rw [hg] at hl; cases hl), Nat.le_trans h.2.2.2.2 hu⟩
theorem in_le {Γ : Ctx} {A A' : Around} (h : Γ.In A') (hh : A'.handled = A.handled) (hd : A'.depth ≤ A.depth) (hu : A'.units ≤ A.units) (hf : A.frames = none) (hg : A.guards = none) : Γ.In A :=
  ⟨h.1.trans hh, Nat.le_trans h.2.1 hd, (fun l hl => by rw [hf] at hl; cases hl), (fun l hl => by rw [hg] at hl; cases hl), Nat.le_trans h.2.2.2.2 hu⟩
theorem code_le {M : Model} {A A' : Around} {c : Code} {R : Result → Shared → Prop} {s : Shared} (h : codeAny M A c R s) (hh : A'.handled = A.handled) (hd : A'.depth ≤ A.depth) (hu : A'.units ≤ A.units) (hf : A.frames = none) (hg : A.guards = none) :
    codeAny M A' c R s := fun Γ p hc hΓ => h Γ p hc (below_le hΓ hh hd hu hf hg)
theorem wp_le {M : Model} {A A' : Around} {α : Type} {t : Sem α} {Q : α → Shared → Prop} {E : Value → Shared → Prop} {s : Shared} (h : wpAny M A t Q E s) (hh : A'.handled = A.handled) (hd : A'.depth ≤ A.depth) (hu : A'.units ≤ A.units) (hf : A.frames = none) (hg : A.guards = none) :
    wpAny M A' t Q E s := fun Γ p hΓ => h Γ p (in_le hΓ hh hd hu hf hg)
/-- the end of a body -/
inductive Out (s : Shared) (g : Heap) (L : Addr) (Post : Value → List (Addr × Obj) → Prop) (fl : Flow) (s' : Shared) : Prop
  | mk (h' : Heap) (tk' : Nat) (m' : Str → Option Value) (news' : List (Addr × Obj)) (e : s' = { s with heap := h', toks := tk' }) (F : Fr g L h' m') (N : News g L h' news') (P : Post (match fl with | .ret v => v | _ => .none) news')
theorem Out.intro {s : Shared} {g : Heap} {L : Addr} {Post : Value → List (Addr × Obj) → Prop} {fl : Flow} {h' : Heap} {tk' : Nat} {m' : Str → Option Value} {news' : List (Addr × Obj)}
    (F : Fr g L h' m') (N : News g L h' news') (P : Post (match fl with | .ret v => v | _ => .none) news') : Out s g L Post fl { s with heap := h', toks := tk' } := ⟨h', tk', m', news', rfl, F, N, P⟩
theorem Out.ret {s : Shared} {g : Heap} {L : Addr} {Post : Value → List (Addr × Obj) → Prop} {v : Value} {h' : Heap} {tk' : Nat} {m' : Str → Option Value} (news' : List (Addr × Obj))
    (F : Fr g L h' m') (N : News g L h' news') (P : Post v news') : Out s g L Post (.ret v) { s with heap := h', toks := tk' } := ⟨h', tk', m', news', rfl, F, N, P⟩
/-- the end of a call, said by the continuation itself -/
noncomputable def KPost (g : Heap) (s : Shared) (Q : Value → Shared → Prop) (v : Value) (news' : List (Addr × Obj)) : Prop := ∀ h' tk', g.StaysIn h' → g.objs.size ≤ h'.objs.size → LedIn g h' news' → Q v { s with heap := h', toks := tk' }
theorem Q_eq {Q : Value → Shared → Prop} {v v' : Value} {s : Shared} (h : Q v s) (e : v' = v) : Q v' s := e ▸ h
theorem Led_eq {g h : Heap} {a b : List (Addr × Obj)} (e : a = b) (k : LedIn g h a) : LedIn g h b := e ▸ k
section
variable {w : World} {A : Around} {g : Heap} {s : Shared} {news : List (Addr × Obj)} {name qual : Str} {params : Arguments} {body : List Stmt} {scope : Scope} {dV kV doc pm cdv ct oc : Value} {an od : Option Addr} {osl : Array (Option Value)} {f : Addr} {args : Args} {binds : List (Str × Value)}
  {R : Result → Shared → Prop} {Q : Value → Shared → Prop} {E : Value → Shared → Prop}
theorem news_stays {h h₁ : Heap} {L' : Addr} (N : LedIn g h news) (hk : ∀ b o, h.get? b = some o → h₁.get? b = some o) (hL : h.objs.size ≤ L') : News g L' h₁ news := fun p hp =>
  ⟨hk _ _ (N p hp).1, Nat.ne_of_lt (Nat.lt_of_lt_of_le (Heap.lt_size (N p hp).1) hL), (N p hp).2⟩
theorem led_of_news {h : Heap} {L : Addr} (N : News g L h news) : LedIn g h news := fun p hp => ⟨(N p hp).1, (N p hp).2.2⟩
theorem kst_lookup (l : List (Str × Value)) : kstB (fun _ => none) l = fun y => l.lookup y := by
  funext y
  induction l with
  | nil => rfl
  | cons p r ih =>
    show (if y = p.1 then some p.2 else kstB (fun _ => none) r y) = (p :: r).lookup y
    rw [List.lookup_cons]
    by_cases h : y = p.1
    · rw [if_pos h, h, beq_self_eq_true]
    · rw [if_neg h, ih, beq_eq_false_iff_ne.mpr h]
theorem enterR (G : Gd w g) (st : g.StaysIn s.heap) (hsz : g.objs.size ≤ s.heap.objs.size) (N : LedIn g s.heap news)
    (ho : (Mine.hd.heap_1 w.params).lookup f = some ⟨oc, od, .func (fnOf name qual params body scope dV kV doc pm an cdv ct), osl⟩)
    (hcd : codeIn (Mine.hd.heap_1 w.params) cdv qual = true) (hroom : A.depth < recursionLimit)
    (hbind : BindsTo s (fnOf name qual params body scope dV kV doc pm an cdv ct) args binds) (hloc : ∀ y ∈ binds, scope.names.lookup y.1 = some .local)
    (hb : ∀ mean mg mb L' h₁, (Mine.hd.heap_1 w.params).In g → Top Mine.vw (looseW Mine.vw []) mean mg mb g → Fr g L' h₁ (kstB (fun _ => none) binds.reverse) → News g L' h₁ news → AllLt L' news → @Eq Nat L' s.heap.objs.size →
      wpAny (model PySem.Challenge.rw_nu0223_01.row.prog w) (A.deeper (envOf qual scope L' f cdv)) (execs body (envOf qual scope L' f cdv)) (Out s g L' (KPost g s fun v s' => R (.ok (.ret v)) s')) (fun _ _ => False) { s with heap := h₁, toks := s.toks + binds.length })
    (hcell : ∀ x ∈ scope.names, x.2 ≠ .cell := by decide) (hco : scope.isCoroutine = false := by rfl) (hgen : scope.isGenerator = false := by rfl) (hk : scope.kind = .function := by rfl) :
    codeAny (model PySem.Challenge.rw_nu0223_01.row.prog w) A (.call (.ref f) args) R s := by
  obtain ⟨X, mean, mg, mb, T⟩ := G
  refine codeAny_call_def (fd := fnOf name qual params body scope dV kV doc pm an cdv ct) (body := body) (binds := binds) hroom ((X.keeps st) _ _ ho) rfl (T.nolimit.keeps st) (codeRec_of (X.keeps st) hcd) rfl hbind hcell hloc (fun h₁ hns hk₁ => ?_) hco hgen hk
  have F : Fr g s.heap.objs.size h₁ (kstB (fun _ => none) binds.reverse) := by
    rw [kst_lookup]; exact ⟨hns, fun b o e => hk₁ b o (st b o e), hsz⟩
  refine wpAny_mono (hb mean mg mb s.heap.objs.size h₁ X T F (news_stays N hk₁ (Nat.le_refl _)) (allLt_of fun p hp => Heap.lt_size (N p hp).1) rfl) (fun fl s' z => ?_) fun _ _ z => z.elim
  obtain ⟨h', tk', m', news', rfl, F', N', P⟩ := z
  exact P h' tk' F'.keep (Nat.le_of_lt (Nat.lt_of_le_of_lt F'.above F'.ns.lt)) (led_of_news N')
theorem enter (G : Gd w g) (st : g.StaysIn s.heap) (hsz : g.objs.size ≤ s.heap.objs.size) (N : LedIn g s.heap news)
    (ho : (Mine.hd.heap_1 w.params).lookup f = some ⟨oc, od, .func (fnOf name qual params body scope dV kV doc pm an cdv ct), osl⟩)
    (hcd : codeIn (Mine.hd.heap_1 w.params) cdv qual = true) (hroom : A.depth < recursionLimit) {pos : List Value}
    (hbind : BindsTo s (fnOf name qual params body scope dV kV doc pm an cdv ct) ⟨pos, []⟩ binds) (hloc : ∀ y ∈ binds, scope.names.lookup y.1 = some .local)
    (hb : ∀ mean mg mb L' h₁, (Mine.hd.heap_1 w.params).In g → Top Mine.vw (looseW Mine.vw []) mean mg mb g → Fr g L' h₁ (kstB (fun _ => none) binds.reverse) → News g L' h₁ news → AllLt L' news → @Eq Nat L' s.heap.objs.size →
      wpAny (model PySem.Challenge.rw_nu0223_01.row.prog w) (A.deeper (envOf qual scope L' f cdv)) (execs body (envOf qual scope L' f cdv)) (Out s g L' (KPost g s Q)) (fun _ _ => False) { s with heap := h₁, toks := s.toks + binds.length })
    (hcell : ∀ x ∈ scope.names, x.2 ≠ .cell := by decide) (hco : scope.isCoroutine = false := by rfl) (hgen : scope.isGenerator = false := by rfl) (hk : scope.kind = .function := by rfl) :
    wpAny (model PySem.Challenge.rw_nu0223_01.row.prog w) A (call (.ref f) pos) Q E s :=
  wpAny_call (enterR G st hsz N ho hcd hroom hbind hloc hb hcell hco hgen hk)
end
/-- a call site: the footprint is hidden from the base -/
theorem site {h₀ h : Heap} {L : Addr} {m : Str → Option Value} {news fp rest : List (Addr × Obj)} (F : Fr h₀ L h m) (N : News h₀ L h news) (h1 : ∀ p ∈ fp, p ∈ news) (h2 : ∀ p ∈ rest, p ∈ news) (h3 : ∀ p ∈ rest, ∀ q ∈ fp, p.1 ≠ q.1) :
    ∃ g : Heap, h₀.StaysIn g ∧ g.StaysIn h ∧ g.objs.size ≤ h.objs.size ∧ LedIn g h fp ∧ (∀ p ∈ rest, g.get? p.1 = some p.2) ∧
      ∀ h' fp', g.StaysIn h' → LedIn g h' fp' → Fr h₀ L h' m ∧ News h₀ L h' (fp' ++ rest) := by
  have nm : ∀ b o, h₀.get? b = some o → b ∉ fp.map (·.1) := fun b o e q => by
    obtain ⟨p, hp, rfl⟩ := List.mem_map.mp q
    rw [(N p (h1 p hp)).2.2] at e; cases e
  have st : h₀.StaysIn (hideAll h (fp.map (·.1))) := fun b o e => hideAll_get _ (F.keep b o e) (nm b o e)
  obtain ⟨oL, es, ep, hL, hLd, hLk, hLf⟩ := F.ns
  have nL : L ∉ fp.map (·.1) := fun q => by
    obtain ⟨p, hp, e⟩ := List.mem_map.mp q
    exact (N p (h1 p hp)).2.1 e
  have hLg := hideAll_get (fp.map (·.1)) hL nL
  have hr : ∀ p ∈ rest, (hideAll h (fp.map (·.1))).get? p.1 = some p.2 := fun p hp => hideAll_get _ (N p (h2 p hp)).1 fun q => by
    obtain ⟨r, hr, e⟩ := List.mem_map.mp q
    exact h3 p hp r hr e.symm
  refine ⟨hideAll h (fp.map (·.1)), st, fun b o e => of_hideAll _ e, Nat.le_of_eq (hideAll_size _ _), fun p hp => ⟨(N p (h1 p hp)).1, hideAll_none _ (List.mem_map_of_mem hp)⟩, hr, fun h' fp' k N' => ⟨⟨⟨oL, es, ep, k L oL hLg, hLd, hLk, hLf⟩, fun b o e => k b o (st b o e), F.above⟩, fun p hp => ?_⟩⟩
  rcases List.mem_append.mp hp with hp | hp
  · refine ⟨(N' p hp).1, fun q => ?_, ?_⟩
    · have := (N' p hp).2; rw [q, hLg] at this; cases this
    · cases q : h₀.get? p.1 with
      | none => rfl
      | some o => have := (N' p hp).2; rw [st _ _ q] at this; cases this
  · exact ⟨k _ _ (hr p hp), (N p (h2 p hp)).2⟩
/-- an object of a class that the base holds, or whose dict alone is of the ledger -/
theorem inst_base {h₀ h : Heap} {L x C dx : Addr} {m : Str → Option Value} {od : Obj} {sl : Array (Option Value)} (F : Fr h₀ L h m) (h1 : h₀.get? x = some ⟨.ref C, some dx, .plain, sl⟩) (h2 : h₀.get? dx = some od) :
    InstAt h x ⟨.ref C, some dx, .plain, sl⟩ C (some od) := ⟨F.keep _ _ h1, rfl, rfl, F.keep _ _ h2⟩
theorem inst_half {h₀ h : Heap} {L x C dx : Addr} {m : Str → Option Value} {news : List (Addr × Obj)} {od : Obj} {sl : Array (Option Value)} (F : Fr h₀ L h m) (N : News h₀ L h news) (h1 : h₀.get? x = some ⟨.ref C, some dx, .plain, sl⟩) (h2 : (dx, od) ∈ news) :
    InstAt h x ⟨.ref C, some dx, .plain, sl⟩ C (some od) := ⟨F.keep _ _ h1, rfl, rfl, (N _ h2).1⟩
end
section
section
variable {prog : Program} {w : World} {A : Around} {E : Value → Shared → Prop} {s : Shared}
theorem getAttrQ_miss_list {a : Addr} {o : Obj} {xs : Array Value} {k : Nat} {name : Str} {Q : Option Value → Shared → Prop}
    (hx : s.heap.get? a = some o) (hc : o.cls = .type "list") (hdat : o.data = .seq xs k) (hd : o.dict = none) (hmiss : typeLookup (.type "list") name = pure none) (hname : (["__module__", "__name__", "__qualname__", "__doc__", "__annotations__"] : List Str).contains name = false) (hA : A.handled = none)
    (h : ∀ h' tk, (∀ b ob, s.heap.get? b = some ob → h'.get? b = some ob) → Q none { s with heap := h', toks := tk }) (hsz : name.length + 100 ≤ sizeLine := by size_fits) :
    wpAny (model prog w) A (getAttr? (.ref a) name) Q E s := by
  obtain ⟨c, dct, dat, sl⟩ := o
  simp only at hc hdat hd
  subst hc hdat hd
  obtain ⟨hp, g, d, tk, os⟩ := s
  have hT : ∀ tk', (⟨hp, g, d, tk', os⟩ : Shared).TypeIs (.ref a) "list" := fun _ => ⟨_, hx, rfl⟩
  have f1 := sub_AttributeError
  have f3 := F.slot_list_getattribute.lookup
  have f4 := F.slot_list_getattribute.bind (.ref a)
  have f5 := am_list_getattr_none
  unfold getAttr? getAttrBy? getAttrBy
  repeat (any_goals (first | assumption | exact hT _ | ((with_reducible show wpAny _ _ (call (Value.builtin "list.__getattribute__") _ _) _ _ _); refine call_meets F.slot_list_getattribute (hT _) am_entry_list_getattribute (F.args_list_getattribute_2 _ _) (meets_getattribute_miss_list a xs k sl name _ hmiss hname hsz) ⟨hx, hA, fun h' tk' e hx' => ?_⟩) | wp_step))
  obtain ⟨t', u', he⟩ := hx'.there
  show wpAny _ _ (getattributeRaised _ _ _ _ _ _ _) _ _ _
  unfold getattributeRaised
  repeat (any_goals (first | assumption | wp_step))
  exact h _ _ hx'.keeps
end
theorem entry_dict_update_loop : entryFor table "dict.update.loop" = some Builtin.«dict.update.loop» := entryFor_of_tree (by kernel_rfl)
theorem plain_dict_update_loop : plainId "dict.update.loop" = true := by decide +kernel
theorem am_list_keys : typeLookup (.type "list") "keys" = pure none := am_miss_of_fast (by decide +kernel)
/-- the pairs -/
noncomputable def PairAt (h : Heap) (v : Value) (p : Int × Value) : Prop := ∃ a t n, v = .ref a ∧ h.get? a = some { cls := .type "tuple", data := .seq #[.int p.1 t, p.2] n }
section
variable {prog : Program} {w : World} {A : Around} {R : Result → Shared → Prop} {I : Addr}
theorem loop_dict {l D : Addr} {items : Array Value} {kvs : List (Int × Value)} (hh : A.handled = none) (hne : l ≠ I) (hDl : D ≠ l) (hDI : D ≠ I) (hlen : items.size = kvs.length) (hz : kvs.length ≤ 1000) (hnd : (kvs.map (·.1)).Nodup) :
    ∀ (k i : Nat) (t : Tok) (s : Shared), kvs.length - i = k → i ≤ kvs.length → s.heap.IsListIter I l i → s.heap.IsList l items → (∀ j v p, i ≤ j → items[j]? = some v → kvs[j]? = some p → PairAt s.heap v p) →
      (∀ (j : Nat) v, items[j]? = some v → v ≠ Value.ref D ∧ v ≠ Value.ref I) →
      s.heap.DictOf (intKind prog w) D (kvs.take i) →
      (∀ h' tk, h'.DictOf (intKind prog w) D kvs → (∀ b o, b ≠ D → b ≠ I → s.heap.get? b = some o → h'.get? b = some o) → R (.ok (.ret .none)) { s with heap := h', toks := tk }) →
      codeAny (model prog w) A (.builtin "dict.update.loop" ⟨[.ref D, .ref I, .int i t, .none], []⟩) R s := by
  intro k
  induction k with
  | zero =>
    intro i t s hk hi hI hL hp hoff hD hR
    have hin : i = kvs.length := by omega
    subst hin
    refine codeAny_builtin entry_dict_update_loop ?_
    rw [Around.under_plainId plain_dict_update_loop _]
    have W := Walks.list (prog := prog) (w := w) (A := A.in1) (by simp [hh]) I l hne items
    show wpAny _ A.in1 (pyNext (.ref I) >>= _) _ _ s
    refine wpAny_bind (W.done s _ _ (hlen ▸ ⟨hI, hL⟩) fun h' tk hm => ?_)
    show wpAny _ A.in1 (Builtin.Dict.addKeywords D [] >>= _) _ _ _
    refine wpAny_bind (wpAny_pure (wpAny_pure (hR _ _ ?_ fun b o h1 h2 e => hm b o (by simp [h2]) e)))
    rw [List.take_length] at hD
    obtain ⟨o, es, ep, ho, rest⟩ := hD
    exact ⟨o, es, ep, hm _ _ (by simpa using hDI) ho, rest⟩
  | succ k ih =>
    intro i t s hk hi hI hL hp hoff hD hR
    have hlt : i < kvs.length := by omega
    refine codeAny_builtin entry_dict_update_loop ?_
    rw [Around.under_plainId plain_dict_update_loop _]
    have W := Walks.list (prog := prog) (w := w) (A := A.in1) (by simp [hh]) I l hne items
    show wpAny _ A.in1 (pyNext (.ref I) >>= _) _ _ s
    refine wpAny_bind (W.item i s _ _ (by rw [hlen]; exact hlt) ⟨hI, hL⟩ fun v h' tk hv hst hm => ?_)
    obtain ⟨p, hpi⟩ : ∃ p, kvs[i]? = some p := ⟨_, List.getElem?_eq_getElem hlt⟩
    obtain ⟨hvD, hvI⟩ := hoff i v hv
    obtain ⟨a, ta, n, rfl, ha⟩ := hp i v p (Nat.le_refl _) hv hpi
    have hai : a ≠ I := fun e => hvI (by rw [e])
    have haD : a ≠ D := fun e => hvD (by rw [e])
    have ha' := hm _ _ (by simpa using hai) ha
    have hD' : h'.DictOf (intKind prog w) D (kvs.take i) := by
      obtain ⟨o, es, ep, ho, rest⟩ := hD
      exact ⟨o, es, ep, hm _ _ (by simpa using hDI) ho, rest⟩
    show wpAny _ A.in1 (holding [Value.ref a] _ >>= _) _ _ _
    refine wpAny_bind (wpAny_holding ?_)
    have hT : ∀ tk', Shared.TypeIs { s with heap := h', toks := tk' } (.ref a) "tuple" := fun _ => ⟨_, ha', rfl⟩
    refine wpAny_bind (wpAny_tryCatch ?_)
    unfold Builtin.Dict.pairItems
    refine wpAny_bind (wpAny_typeOf (hT tk) ?_)
    rw [if_pos (by decide)]
    refine wpAny_bind (wpAny_seqItems ha' rfl ?_)
    refine wpAny_pure ?_
    show wpAny _ A.in1 (holding [Value.int p.1 ta, p.2] (dictSet D (.int p.1 ta) p.2)) _ _ _
    refine wpAny_holding ?_
    have hnot : p.1 ∉ (kvs.take i).map (·.1) := by
      intro hm
      rw [List.map_take] at hm
      obtain ⟨j, hj, e⟩ := List.mem_take_iff_getElem.mp hm
      have h1 : (kvs.map (·.1))[i]? = some p.1 := by rw [List.getElem?_map, hpi]; rfl
      obtain ⟨hi2, h2⟩ := List.getElem?_eq_some_iff.mp h1
      have := (List.nodup_iff_pairwise_ne.mp hnd)
      have h3 := List.pairwise_iff_getElem.mp this j i (by omega) hi2 (by omega)
      exact h3 (by rw [e, h2])
    refine wpAny_dictSet_pairs (knd := intKind prog w) (k := p.1) (intKind_is _ _ _ _) hD' (fun h2 hD2 hs2 => ?_) (by rw [sizeLine_eq, List.length_take]; omega)
    have hst2 : stored (kvs.take i) p.1 p.2 = kvs.take (i + 1) := by
      rw [stored, if_neg, List.take_add_one, hpi]
      · rfl
      · intro h; rw [List.any_eq_true] at h; obtain ⟨x, hx, e⟩ := h
        exact hnot (List.mem_map.mpr ⟨x, hx, by simpa using e⟩)
    rw [hst2] at hD2
    have hext := hs2.extBut
    refine wpAny_pure ⟨plainId_quiet plain_dict_update_loop _, ih (i + 1) _ _ (by omega) hlt (hst.1.extBut hext (Ne.symm hDI)) (hst.2.extBut hext (Ne.symm hDl)) ?_ hoff hD2 fun h' tk hd hk2 => hR h' tk hd fun b o h1 h2 e => hk2 b o h1 h2 (hext b o h1 (hm b o (by simpa using h2) e))⟩
    intro j v q hij hv hq
    obtain ⟨a', t', n', rfl, h9⟩ := hp j v q (by omega) hv hq
    have hv2 := hoff j _ hv
    exact ⟨a', t', n', rfl, hext a' _ (fun e => hv2.1 (by rw [e])) (hm a' _ (by simpa using fun e => hv2.2 (by rw [e])) h9)⟩
end
section
variable {prog : Program} {w : World} {A : Around} {E : Value → Shared → Prop} {s : Shared}
theorem call_dict_pairs {l : Addr} {items : Array Value} {kvs : List (Int × Value)} {Q : Value → Shared → Prop} (hh : A.handled = none) {nn : Nat} (hol : s.heap.get? l = some (listOf items nn)) (hlen : items.size = kvs.length) (hz : kvs.length ≤ 1000) (hnd : (kvs.map (·.1)).Nodup)
    (hp : ∀ (j : Nat) v p, items[j]? = some v → kvs[j]? = some p → PairAt s.heap v p)
    (h : ∀ h' tk, (∀ b o, s.heap.get? b = some o → h'.get? b = some o) → h'.DictOf (intKind prog w) s.heap.objs.size kvs → Q (.ref s.heap.objs.size) { s with heap := h', toks := tk }) :
    wpAny (model prog w) A (call (.type "dict") [.ref l]) Q E s := by
  refine callType_codes (Q₁ := fun obj s₁ => obj = .ref s.heap.objs.size ∧ s₁ = { s with heap := s.heap.push { cls := .type "dict", data := .dict #[] } }) F.kt_called_dict (F.kt_typeCall_dict_1 _) F.entry_dict_init (kt_code_dict_new _ ⟨rfl, rfl⟩) ?_
  rintro obj s₁ ⟨rfl, rfl⟩
  have hnew : (s.heap.push { cls := .type "dict", data := .dict #[] }).DictOf (intKind prog w) s.heap.objs.size [] := Heap.DictOf.new s.heap
  have hlD : l < s.heap.objs.size := Heap.lt_size hol
  have hol' : (s.heap.push { cls := .type "dict", data := .dict #[] }).get? l = some (listOf items nn) := Heap.get?_push_of_some _ hol
  refine ⟨hnew.typeIs, F.args_dict_init_2 _ _, ?_⟩
  unfold Builtin.«dict.__init__»
  refine wpAny_bind ?_
  unfold Builtin.Dict.selfAndRest
  refine wpAny_bind (wpAny_notOrdered_dict hnew.typeIs ?_)
  show wpAny _ _ (pure (s.heap.objs.size, [Value.ref l])) _ _ _
  refine wpAny_pure ?_
  show wpAny _ _ (Builtin.Dict.updateFrom "dict.__init__" s.heap.objs.size (.ref l) [] .none) _ _ _
  unfold Builtin.Dict.updateFrom
  have hT : Shared.TypeIs { s with heap := s.heap.push { cls := .type "dict", data := .dict #[] } } (.ref l) "list" := ⟨_, hol', rfl⟩
  refine wpAny_bind (wpAny_typeOf hT ?_)
  rw [if_pos (by decide)]
  refine wpAny_bind (getAttrQ_miss_list hol' rfl rfl rfl am_list_keys (by decide) (by simp [hh]) fun h2 tk2 k2 => ?_)
  rw [if_pos (by decide)]
  refine wpAny_bind (wpAny_rule ?_)
  refine wpAny_bind (wpAny_pyIter_list (PySem.IsL.isList (k2 _ _ hol')) ?_)
  have hDn : h2.get? s.heap.objs.size = some { cls := .type "dict", data := .dict #[] } := k2 _ _ (Heap.get?_push_size _ rfl)
  have hlI : l ≠ h2.objs.size := Nat.ne_of_lt (Heap.lt_size (k2 _ _ hol'))
  have hDI : s.heap.objs.size ≠ h2.objs.size := Nat.ne_of_lt (Heap.lt_size hDn)
  have hlD' : s.heap.objs.size ≠ l := Nat.ne_of_gt hlD
  have old : ∀ b o, s.heap.get? b = some o → b ≠ s.heap.objs.size ∧ b ≠ h2.objs.size := fun b o e =>
    have h1 := Heap.lt_size e
    ⟨Nat.ne_of_lt h1, Nat.ne_of_lt (Nat.lt_trans h1 (Heap.lt_size hDn))⟩
  have k3 : ∀ b o, s.heap.get? b = some o → (h2.push { cls := .type "list_iterator", data := .fields #[.ref l, .int 0 0] }).get? b = some o := fun b o e => Heap.get?_push_of_some _ (k2 _ _ (Heap.get?_push_of_some _ e))
  refine wpAny_pure ?_
  refine ⟨plainId_quiet plain_dict_update_loop _, loop_dict (kvs := kvs) (by simp [hh]) hlI hlD' hDI hlen hz hnd kvs.length 0 _ _ (by omega) (Nat.zero_le _) ⟨_, Heap.get?_push_size _ rfl, rfl, rfl⟩ (PySem.IsL.isList (k3 l _ hol)) ?_ ?_ ?_ ?_⟩
  · intro j v p _ h1 h2
    obtain ⟨a, t, n, e, h3⟩ := hp j v p h1 h2
    exact ⟨a, t, n, e, k3 _ _ h3⟩
  · intro j v h1
    obtain ⟨p, hpj⟩ : ∃ p, kvs[j]? = some p := ⟨_, List.getElem?_eq_getElem (by have := (Array.getElem?_eq_some_iff.mp h1).1; omega)⟩
    obtain ⟨a, t, n, rfl, h3⟩ := hp j v p h1 hpj
    exact ⟨fun e => (old _ _ h3).1 (Value.ref.inj e), fun e => (old _ _ h3).2 (Value.ref.inj e)⟩
  · obtain ⟨o, es, ep, ho, r⟩ := hnew
    exact ⟨o, es, ep, Heap.get?_push_of_some _ (k2 _ _ ho), r⟩
  · intro h' tk hd hk
    exact ⟨rfl, h h' tk (fun b o e => hk b o (old b o e).1 (old b o e).2 (k3 b o e)) hd⟩
end
end
section
theorem fill_Draw : (fun (_ : OpenLaw) (_ : Params → Frag) => True) PySem.Challenge.rw_nu0223_01 Mine.hd.heap_1 := by k_fill; trivial
inductive Pot (P C : Addr) (b : Int) (oP oC : Obj) : Prop
  | mk (cs : List Value) (ns : List Int) (st pl : Int) (t1 t2 : Tok) (n1 n2 : Nat) (e1 : oP = listOf #[.ref C, .int st t1, .int pl t2] n1) (e2 : oC = listOf (List.toArray cs) n2) (hI : IntsAre cs ns) (hns : ∀ x ∈ ns, 0 ≤ x) (hlen : ns.length ≤ 40) (h1 : 0 ≤ st) (h2 : st < 2147483647) (h3 : 0 ≤ pl) (h4 : pl ≤ b)
theorem Pot.mono {P C : Addr} {b b' : Int} {oP oC : Obj} (h : Pot P C b oP oC) (hb : b ≤ b') : Pot P C b' oP oC := by
  obtain ⟨cs, ns, st, pl, t1, t2, n1, n2, e1, e2, hI, hns, hlen, h1, h2, h3, h4⟩ := h
  exact ⟨cs, ns, st, pl, t1, t2, n1, n2, e1, e2, hI, hns, hlen, h1, h2, h3, Int.le_trans h4 hb⟩
theorem mem_set {ns : List Int} {j : Nat} {y : Int} (h : ∀ x ∈ ns, 0 ≤ x) (hy : 0 ≤ y) : ∀ x ∈ ns.set j y, 0 ≤ x := fun x hx => by
  rcases List.mem_or_eq_of_mem_set hx with h1 | h1
  · exact h x h1
  · exact h1 ▸ hy
theorem fmod_in {x l : Int} (h : 1 ≤ l) : 0 ≤ x.fmod l ∧ x.fmod l < l := ⟨Int.fmod_nonneg_of_pos _ (by omega), Int.fmod_lt_of_pos _ (by omega)⟩
theorem fdiv_in {x l : Int} (h : 1 ≤ l) (hx : 0 ≤ x) : 0 ≤ x.fdiv l := Int.fdiv_nonneg hx (by omega)
set_option maxHeartbeats 4000000 in
theorem draw_spec {w : World} {g : Heap} {s : Shared} {P C : Addr} {b lim : Int} {oP oC : Obj} {tl : Tok} {Q E : Value → Shared → Prop}
    (G : Gd w g) (stay : g.StaysIn s.heap) (hsz : g.objs.size ≤ s.heap.objs.size) (N : LedIn g s.heap [(P, oP), (C, oC)])
    (hPC : @Ne Nat P C) (hp : Pot P C b oP oC) (hb : b < 100000) (h5 : 1 ≤ lim) (h6 : lim ≤ 1000)
    (ret : ∀ r t oP' oC' h' tk', g.StaysIn h' → g.objs.size ≤ h'.objs.size → LedIn g h' [(P, oP'), (C, oC')] → Pot P C (b + 1) oP' oC' → 0 ≤ r → r < lim → Q (.int r t) { s with heap := h', toks := tk' }) :
    wpAny (model PySem.Challenge.rw_nu0223_01.row.prog w) (AA 900 9000) (call (.ref 283) [.ref P, .int lim tl]) Q E s := by
  obtain ⟨cs, ns, st, pl, t1, t2, n1, n2, rfl, rfl, hI, hns, hlen, h1, h2, h3, h4⟩ := hp
  refine enter G stay hsz N (by k_is) (by k_is) (by decide) (BindsTo.of_eq rfl) (locs rfl) ?_
  · intro mean mg mb L' h₁ X T F N' lt eL
    k_fold
    k_steps
    all_goals (dsimp only)
    all_goals (refine Out.ret _ (by k_asm) (by k_asm) ?_)
    · refine (fun hZ tkZ kZ1 kZ2 kZ3 => ret _ _ _ _ hZ tkZ kZ1 kZ2 kZ3 ⟨_, _, st, _, _, _, _, _, rfl, rfl, by assumption, mem_set hns (fdiv_in h5 (by omega)), by simpa using hlen, h1, h2, ?_, ?_⟩ (fmod_in h5).1 (fmod_in h5).2) <;> omega
    · refine (fun hZ tkZ kZ1 kZ2 kZ3 => ret _ _ _ _ hZ tkZ kZ1 kZ2 kZ3 ⟨_, _, _, _, _, _, _, _, rfl, rfl, hI, hns, hlen, (fmod_in (by decide)).1, (fmod_in (by decide)).2, ?_, ?_⟩ (fmod_in h5).1 (fmod_in h5).2) <;> omega
    · refine (fun hZ tkZ kZ1 kZ2 kZ3 => ret _ _ _ _ hZ tkZ kZ1 kZ2 kZ3 ⟨_, _, _, _, _, _, _, _, rfl, rfl, hI, hns, hlen, (fmod_in (by decide)).1, (fmod_in (by decide)).2, ?_, ?_⟩ (fmod_in h5).1 (fmod_in h5).2) <;> omega
end
section
/-- a halt for the walk -/
noncomputable def Hold (p : Prop) : Prop := p
theorem Hold.mk {p : Prop} (h : Hold p) : p := h
theorem Hold.of {p : Prop} (h : p) : Hold p := h
inductive All2 {α β : Type} (R : α → β → Prop) : List α → List β → Prop
  | nil : All2 R [] []
  | cons {a b as bs} : R a b → All2 R as bs → All2 R (a :: as) (b :: bs)
namespace All2
variable {α β : Type} {R S : α → β → Prop}
theorem mono (h : ∀ a b, R a b → S a b) : ∀ {as bs}, All2 R as bs → All2 S as bs
  | _, _, .nil => .nil
  | _, _, .cons x r => .cons (h _ _ x) (mono h r)
theorem length : ∀ {as : List α} {bs : List β}, All2 R as bs → as.length = bs.length
  | _, _, .nil => rfl
  | _, _, .cons _ r => congrArg (· + 1) (length r)
theorem append : ∀ {as : List α} {bs : List β} {cs ds}, All2 R as bs → All2 R cs ds → All2 R (as ++ cs) (bs ++ ds)
  | _, _, _, _, .nil, h => h
  | _, _, _, _, .cons x r, h => .cons x (append r h)
theorem get : ∀ {as : List α} {bs : List β}, All2 R as bs → ∀ {i : Nat} {a : α} {b : β}, as[i]? = some a → bs[i]? = some b → R a b
  | _, _, .nil, i, _, _, h, _ => by simp at h
  | _, _, .cons x r, 0, _, _, h, k => by simp at h k; exact h ▸ k ▸ x
  | _, _, .cons x r, i + 1, _, _, h, k => get r (by simpa using h) (by simpa using k)
theorem get1 : ∀ {as : List α} {bs : List β}, All2 R as bs → ∀ {i : Nat} {b : β}, bs[i]? = some b → ∃ a, as[i]? = some a ∧ R a b
  | _, _, .nil, i, _, h => by simp at h
  | _, _, .cons x r, 0, _, h => by simp at h; exact ⟨_, rfl, h ▸ x⟩
  | _, _, .cons x r, i + 1, _, h => by obtain ⟨a, e, z⟩ := get1 r (i := i) (by simpa using h); exact ⟨a, by simpa using e, z⟩
theorem get2 : ∀ {as : List α} {bs : List β}, All2 R as bs → ∀ {i : Nat} {a : α}, as[i]? = some a → ∃ b, bs[i]? = some b ∧ R a b
  | _, _, .nil, i, _, h => by simp at h
  | _, _, .cons x r, 0, _, h => by simp at h; exact ⟨_, rfl, h ▸ x⟩
  | _, _, .cons x r, i + 1, _, h => by obtain ⟨a, e, z⟩ := get2 r (i := i) (by simpa using h); exact ⟨a, by simpa using e, z⟩
theorem take : ∀ {as : List α} {bs : List β}, All2 R as bs → ∀ n, All2 R (as.take n) (bs.take n)
  | _, _, _, 0 => by simp; exact .nil
  | _, _, .nil, _ + 1 => .nil
  | _, _, .cons x r, n + 1 => .cons x (take r n)
theorem drop : ∀ {as : List α} {bs : List β}, All2 R as bs → ∀ n, All2 R (as.drop n) (bs.drop n)
  | _, _, h, 0 => by simpa using h
  | _, _, .nil, _ + 1 => .nil
  | _, _, .cons _ r, n + 1 => by simpa using drop r n
theorem split : ∀ {as : List α} {bs cs : List β}, All2 R as (bs ++ cs) → ∃ a1 a2, as = a1 ++ a2 ∧ All2 R a1 bs ∧ All2 R a2 cs
  | as, [], cs, h => ⟨[], as, rfl, .nil, h⟩
  | _, b :: bs, cs, .cons x r => by obtain ⟨a1, a2, rfl, h1, h2⟩ := split r; exact ⟨_ :: a1, a2, rfl, .cons x h1, h2⟩
end All2
inductive Pick (fp : List Addr) : List (Addr × Obj) → List (Addr × Obj) → Prop
  | nil : Pick fp [] []
  | take {p : Addr × Obj} {news rest : List (Addr × Obj)} : p.1 ∈ fp → Pick fp news rest → Pick fp (p :: news) rest
  | skip {p : Addr × Obj} {news rest : List (Addr × Obj)} : (∀ q ∈ fp, q ≠ p.1) → Pick fp news rest → Pick fp (p :: news) (p :: rest)
  | all {news : List (Addr × Obj)} : (∀ p ∈ news, ∀ q ∈ fp, q ≠ p.1) → Pick fp news news
theorem Pick.off {fp : List Addr} {news rest : List (Addr × Obj)} (h : Pick fp news rest) : (∀ p ∈ rest, p ∈ news) ∧ ∀ p ∈ rest, ∀ q ∈ fp, p.1 ≠ q := by
  induction h with
  | nil => exact ⟨fun _ h => h, fun _ h => nomatch h⟩
  | take _ _ ih => exact ⟨fun p hp => .tail _ (ih.1 p hp), ih.2⟩
  | skip h _ ih =>
    refine ⟨fun p hp => ?_, fun p hp q hq => ?_⟩
    · rcases List.mem_cons.mp hp with rfl | hp
      · exact .head _
      · exact .tail _ (ih.1 p hp)
    · rcases List.mem_cons.mp hp with rfl | hp
      · exact (h q hq).symm
      · exact ih.2 p hp q hq
  | all h => exact ⟨fun _ h => h, fun p hp q hq => (h p hp q hq).symm⟩
theorem siteP {h₀ h : Heap} {L : Addr} {m : Str → Option Value} {news rest : List (Addr × Obj)} (fp : List (Addr × Obj)) (F : Fr h₀ L h m) (N : News h₀ L h news) (h1 : ∀ p ∈ fp, p ∈ news) (pk : Pick (fp.map (·.1)) news rest) :
    ∃ g : Heap, h₀.StaysIn g ∧ g.StaysIn h ∧ g.objs.size ≤ h.objs.size ∧ LedIn g h fp ∧ (∀ p ∈ rest, g.get? p.1 = some p.2) ∧
      ∀ h' fp', g.StaysIn h' → LedIn g h' fp' → Fr h₀ L h' m ∧ News h₀ L h' (fp' ++ rest) := site F N h1 pk.off.1 fun p hp q hq => pk.off.2 p hp q.1 (List.mem_map_of_mem hq)
/-- what the frame's map is known to hold -/
noncomputable def Has (m : Str → Option Value) : List (Str × Value) → Prop
  | [] => True
  | p :: r => m p.1 = some p.2 ∧ Has m r
theorem Has.mem {m : Str → Option Value} : ∀ {ps : List (Str × Value)}, Has m ps → ∀ p ∈ ps, m p.1 = some p.2
  | _ :: _, ⟨h, _⟩, _, .head _ => h
  | _ :: _, ⟨_, r⟩, _, .tail _ hp => r.mem _ hp
theorem has_upd {m : Str → Option Value} {ps : List (Str × Value)} {x : Str} {v : Value} (h : Has m ps) (hx : (ps.all fun p => p.1 != x) = true) : Has (fun y => if y = x then some v else m y) ((x, v) :: ps) := by
  refine ⟨if_pos rfl, ?_⟩
  induction ps with
  | nil => trivial
  | cons p r ih =>
    obtain ⟨h1, h2⟩ := Bool.and_eq_true_iff.mp hx
    refine ⟨(if_neg (by simpa using h1)).trans h.1, ih h.2 h2⟩
theorem fr_map {h₀ h : Heap} {L : Addr} {m : Str → Option Value} (ps : List (Str × Value)) (F : Fr h₀ L h m) (hm : Has m ps) : Fr h₀ L h (kstB m ps) := by
  have e : kstB m ps = m := by
    funext y
    exact kstB_eq hm.mem fun _ => rfl
  rw [e]; exact F
theorem fr_cut {h₀ h : Heap} {L : Addr} {m : Str → Option Value} (ps : List (Str × Value)) (F : Fr h₀ L h m) (hm : Has m ps) {C : Prop} (k : ∀ u, Fr h₀ L h (kstB u ps) → C) : C := k m (fr_map ps F hm)
section
variable {w : World} {A : Around} {h₀ : Heap} {L : Addr} {m : Str → Option Value} {news rest : List (Addr × Obj)} {s : Shared} {mean : ExcName → Option Value} {mg mb : Str → Option Value} {E : Value → Shared → Prop}
theorem gd (X : (Mine.hd.heap_1 w.params).In h₀) (T : Top Mine.vw (looseW Mine.vw []) mean mg mb h₀) : Gd w h₀ := ⟨X, _, _, _, T⟩
theorem draw_at {P C : Addr} {b lim : Int} {oP oC : Obj} {tl : Tok} {Q : Value → Shared → Prop} (X : (Mine.hd.heap_1 w.params).In h₀) (T : Top Mine.vw (looseW Mine.vw []) mean mg mb h₀) (F : Fr h₀ L s.heap m) (N : News h₀ L s.heap news)
    (hA : A.handled = none) (hd : A.depth ≤ 900) (hu : A.units ≤ 9000) (hp : Pot P C b oP oC) (hPC : @Ne Nat P C) (m1 : (P, oP) ∈ news) (m2 : (C, oC) ∈ news) (pk : Pick [P, C] news rest) (hb : b < 100000) (h5 : 1 ≤ lim) (h6 : lim ≤ 1000)
    (k : ∀ r t oP' oC' h' tk', Fr h₀ L h' m → News h₀ L h' ((P, oP') :: (C, oC') :: rest) → Pot P C (b + 1) oP' oC' → 0 ≤ r → r < lim → Q (.int r t) { s with heap := h', toks := tk' }) :
    wpAny (model PySem.Challenge.rw_nu0223_01.row.prog w) A (call (.ref 283) [.ref P, .int lim tl]) Q E s := by
  obtain ⟨g, a1, a2, a3, a4, _, a6⟩ := siteP [(P, oP), (C, oC)] F N (by
    intro p hp
    rcases List.mem_cons.mp hp with rfl | hp
    · exact m1
    · rcases List.mem_cons.mp hp with rfl | hp
      · exact m2
      · cases hp) pk
  refine wp_le (draw_spec ((gd X T).keeps a1) a2 a3 a4 hPC hp hb h5 h6 ?_) hA hd hu rfl rfl
  intro r t oP' oC' h' tk' k1 _ k3 k4 k5 k6
  obtain ⟨F', N'⟩ := a6 h' _ k1 k3
  exact k r t oP' oC' h' tk' F' N' k4 k5 k6
end
section
variable {prog : Program} {w : World} {A : Around} {E : Value → Shared → Prop} {s : Shared} {env : Env} {h₀ : Heap} {x : Str} {body : List Stmt} {Q : Flow → Shared → Prop}
noncomputable def Turn (h₀ : Heap) (L : Addr) (J : (Str → Option Value) → List (Addr × Obj) → Prop) (own : List (Addr × Obj)) (s₁ : Shared) (Q : Flow → Shared → Prop) (f : Flow) (s₂ : Shared) : Prop := InvPostG h₀ L J own s₁ Q f s₂
theorem Turn.next {L : Addr} {J : (Str → Option Value) → List (Addr × Obj) → Prop} {own : List (Addr × Obj)} {s₁ : Shared} {h' : Heap} {tk' : Nat} {m' : Str → Option Value} {news' : List (Addr × Obj)} (nx : List (Addr × Obj)) (F : Fr h₀ L h' m') (N : News h₀ L h' news')
    (hj : J m' nx) (ha : OwnOff own (nx.map (·.1))) (hn : ∀ p ∈ nx, p ∈ news') (ho : ∀ p ∈ own, p ∈ news') : Turn h₀ L J own s₁ Q .next { s₁ with heap := h', toks := tk' } := InvEndG.intro F N hj ha hn ho
/-- a for over a range, by an invariant over the frame's map and the ledger -/
theorem rng_iter {r : Addr} {a₀ b₀ : Int} {t₀ u₀ v₀ : Tok} {n : Nat} {m₀ : Str → Option Value} {news : List (Addr × Obj)} (J : Nat → (Str → Option Value) → List (Addr × Obj) → Prop)
    (hh : A.handled = none) (hr : IsRange s.heap r a₀ b₀ 1 t₀ u₀ v₀) (hsmall : Builtin.Range.small a₀ b₀ 1 = true) (hsz : Builtin.Range.rangeSize a₀ b₀ 1 = (n : Int)) (F : Fr h₀ env.locals s.heap m₀) (N : News h₀ env.locals s.heap news) (hj : J 0 m₀ news)
    (turn : ∀ i t m₁ nx h tk own, i < n → OwnOff own (nx.map (·.1)) → J i m₁ nx → Fr h₀ env.locals h (fun y => if y = x then some (.int (a₀ + (i : Nat)) t) else m₁ y) → News h₀ env.locals h (nx ++ own) →
      wpAny (model prog w) A (execs body env) (Turn h₀ env.locals (J (i + 1)) own { s with heap := h, toks := tk } Q) E { s with heap := h, toks := tk })
    (done : ∀ m₁ nx h tk, J n m₁ nx → Fr h₀ env.locals h m₁ → News h₀ env.locals h nx → Q .next { s with heap := h, toks := tk }) :
    wpAny (model prog w) A (pyIter (.ref r)) (fun it s₂ => LoopAtV prog w A h₀ env x body Q E it s₂) E s := by
  refine wpAny_pyIter_range hr hsmall ?_
  have W : Walks prog w A s.heap.objs.size [s.heap.objs.size] [s.heap.objs.size] n (fun i v => i < n ∧ ∃ t, v = .int (a₀ + i * 1) t)
      (fun i h => IsRangeIter h s.heap.objs.size (a₀ + (i : Nat) * 1) ((n : Int) - (i : Nat)) 1) := (Walks.range hh _ a₀ 1 n).bound
  refine kdr_loop J W (fun _ h => h) (fun _ h => h) ?_ ?_ ?_ ?_ (by show IsRangeIter _ _ _ _ _; rw [hsz]; simpa using Heap.get?_push_size _ rfl) (F.push _) (fun p hp => ⟨Heap.get?_push_of_some _ (N p hp).1, (N p hp).2⟩) hj ?_ ?_
  · intro i h hi b hb
    rw [List.mem_singleton.mp hb]
    exact ⟨_, hi⟩
  · intro hm
    exact absurd F.ns.lt ((List.mem_singleton.mp hm) ▸ Nat.lt_irrefl _)
  · intro b hb
    rw [List.mem_singleton.mp hb]
    exact next_is_new F
  · intro p hp hI
    exact absurd (Heap.lt_size (N p hp).1) ((List.mem_singleton.mp hI) ▸ Nat.lt_irrefl _)
  · rintro i v m₁ nx h tk own hi ⟨_, t, rfl⟩ hoff hJ F₁ N₁
    have e1 : a₀ + (i : Int) * 1 = a₀ + (i : Int) := by omega
    rw [e1] at F₁
    exact turn i t m₁ nx h tk own hi hoff hJ F₁ N₁
  · exact done
/-- a for over a list of the ledger -/
theorem lst_iter {l : Addr} {vs : List Value} {nn : Nat} {m₀ : Str → Option Value} {news : List (Addr × Obj)} (J : Nat → (Str → Option Value) → List (Addr × Obj) → Prop)
    (hh : A.handled = none) (hl : (l, listOf vs.toArray nn) ∈ news) (F : Fr h₀ env.locals s.heap m₀) (N : News h₀ env.locals s.heap news) (hj : J 0 m₀ news)
    (turn : ∀ i v m₁ news₁ h tk own, vs[i]? = some v → OwnOff own (news₁.map (·.1)) → (l, listOf vs.toArray nn) ∈ news₁ → J i m₁ news₁ → Fr h₀ env.locals h (fun y => if y = x then some v else m₁ y) → News h₀ env.locals h (news₁ ++ own) →
      wpAny (model prog w) A (execs body env) (Turn h₀ env.locals (fun m' nx => (l, listOf vs.toArray nn) ∈ nx ∧ J (i + 1) m' nx) own { s with heap := h, toks := tk } Q) E { s with heap := h, toks := tk })
    (done : ∀ m₁ news₁ h tk, J vs.length m₁ news₁ → Fr h₀ env.locals h m₁ → News h₀ env.locals h news₁ → Q .next { s with heap := h, toks := tk }) :
    wpAny (model prog w) A (pyIter (.ref l)) (fun it s₂ => LoopAtV prog w A h₀ env x body Q E it s₂) E s := kdl_iter J hh hl F N hj turn done
end
section
variable {prog : Program} {w : World} {A : Around} {E : Value → Shared → Prop} {s : Shared} {env : Env} {h₀ : Heap} {L : Addr} {Q : Flow → Shared → Prop}
noncomputable def WTurn (h₀ : Heap) (L : Addr) (s : Shared) (J : Nat → (Str → Option Value) → List (Addr × Obj) → Prop) (Q : Flow → Shared → Prop) (n : Nat) (f : Flow) (s₃ : Shared) : Prop := WhileStep2 h₀ L s J Q n f s₃
theorem WTurn.next {J : Nat → (Str → Option Value) → List (Addr × Obj) → Prop} {n n' : Nat} {h' : Heap} {tk' : Nat} {m' : Str → Option Value} {news' : List (Addr × Obj)} (F : Fr h₀ L h' m') (N : News h₀ L h' news') (hn : n' < n) (hj : J n' m' news') :
    WTurn h₀ L s J Q n .next { s with heap := h', toks := tk' } := ⟨h', tk', m', news', n', rfl, F, N, hn, hj⟩
theorem wh {test : Expr} {body : List Stmt} {pos : Pos} {m : Str → Option Value} {news : List (Addr × Obj)} (J : Nat → (Str → Option Value) → List (Addr × Obj) → Prop) {n₀ : Nat} (F : Fr h₀ L s.heap m) (N : News h₀ L s.heap news) (hJ : J n₀ m news)
    (turn : ∀ n m₁ news₁ h₁ tk₁, Fr h₀ L h₁ m₁ → News h₀ L h₁ news₁ → J n m₁ news₁ →
      wpAny (model prog w) A (isTrue test env (eval test env)) (fun b s₂ => if b = true then wpAny (model prog w) A (execs body env) (WTurn h₀ L s J Q n) E s₂ else Q .next s₂) E { s with heap := h₁, toks := tk₁ })
    (hE : PassesOwn (model prog w) A env E := by passes_own) : wpAny (model prog w) A (exec (.While test body [] pos) env) Q E s := While_inv2 J F N hJ turn hE
end
structure Row where
  gl : Int
  cl : Int
  co : Int
  ma : Int
  li : Int
  lp : Int
  sp : Int
inductive RowL (r : Row) (o : Obj) : Prop
  | mk (t1 t2 t3 t4 t5 t6 t7 : Tok) (n : Nat) (e : o = listOf #[.int r.gl t1, .int r.cl t2, .int r.co t3, .int r.ma t4, .int r.li t5, .int r.lp t6, .int r.sp t7] n)
noncomputable def RowsIn (led : List (Addr × Obj)) (refs : List Addr) (rs : List Row) : Prop := All2 (fun a r => ∃ o, (a, o) ∈ led ∧ RowL r o) refs rs
noncomputable def Sorted (rs : List Row) : Prop := rs.Pairwise fun a b => a.cl ≤ b.cl
noncomputable def OkRow (r : Row) : Prop := 0 ≤ r.ma ∧ r.ma < 32
end
end
local macro_rules | `(tactic| walk_at $s:str) => `(tactic| k_extra $s)
local macro_rules | `(tactic| k_all) => `(tactic| k_extra "my all")
local macro_rules | `(tactic| k_ne) => `(tactic| k_extra "my ne")
local macro_rules | `(tactic| k_mem) => `(tactic| k_extra "my mem")
local macro_rules | `(tactic| k_inst) => `(tactic| k_extra "my inst")
local macro_rules | `(tactic| walk_at "my new") => `(tactic| (intro x' dx' o' h' tk' F' N' hi' l1' l2' l3'; (obtain ⟨kt, oe'⟩ := hi'); (subst oe'); (try dsimp only at N'); (k_lt l1'); (k_lt2 l2'); (k_lt2 l3')))
local macro_rules | `(tactic| walk_at "my lt") => `(tactic| (intro l1'; (try k_lt l1')))
local macro_rules | `(tactic| walk_at "my dn") => `(tactic| (intro N'; (try dsimp only at N')))
local macro_rules | `(tactic| walk_at "call type:range") => `(tactic| (k_here; (with_reducible rename Fr _ _ _ _ => rF'); (with_reducible rename News _ _ _ _ => rN'); k_extra "my range"; intro _ _ _ _ _ _ _ _ _))
section
section
theorem st2 : True := by w_top off; k_with_none; trivial
theorem st3 : True := by
  k_with "my all" => (assumption)
  k_with "my range" => (first | (with_unfolding_all refine range1_rows ‹Fr _ _ _ _› ‹News _ _ _ _› ?_) | (with_unfolding_all refine range2_rows ‹Fr _ _ _ _› ‹News _ _ _ _› ?_))
  k_with "my inst" => (first
    | (refine' inst_base ?F ?h1 ?h2; (case F => k_asm); (case h1 => assumption); (case h2 => assumption))
    | (refine' inst_half ?F ?N ?h1 ?h2; (case F => k_asm); (case N => k_asm); (case h1 => assumption); (case h2 => k_mem)))
  k_with "my ne" => ((try dsimp only); first | with_reducible assumption | (refine Ne.symm ?_; with_reducible assumption) | (have h9 := ‹(_ ≠ _ ∧ _ ≠ _ ∧ _ ≠ _) ∧ _›; first | exact h9.1.1 | exact h9.1.2.1 | exact h9.1.2.2 | exact h9.2.1.1 | exact h9.2.1.2.1 | exact h9.2.1.2.2 | exact h9.2.2.1 | exact h9.2.2.2.1 | exact h9.2.2.2.2 | exact h9.2.1 | exact h9.2.2.1 | exact h9.2.2.2))
  k_with "my pick" => (first | exact Pick.nil | (refine' Pick.take (by k_mem) (by walk_at "my pick")) | (refine' Pick.skip (by k_all) (by walk_at "my pick")) | (refine Pick.all (by assumption)))
  k_with "call ref" => (k_here; (with_reducible show wpAny _ _ (call (Value.ref 283) [Value.ref _, Value.int _ _]) _ _ _); k_dflt (refine' draw_at (by k_asm) (by k_asm) (by k_asm) (by k_asm) (by rfl) (by exact Nat.le_of_ble_eq_true rfl) (by exact Nat.le_of_ble_eq_true rfl) (by k_asm) (by k_asm) (by k_mem) (by k_mem) (by walk_at "my pick") (by omega) (by decide) (by decide) ?_); intro _ _ _ _ _ _ _ _ _ _ _; (try k_sweep))
  trivial
/-- what holds between the turns -/
inductive RowJ (P C l0 : Addr) (b : Int) (i : Nat) (m : Str → Option Value) : List (Addr × Obj) → Prop
  | mk (c : Int) (tc : Tok) (refs : List Addr) (rs : List Row) (n : Nat) (oP oC : Obj) (made : List (Addr × Obj)) (hm : Has m [(Str.ofString "pot", .ref P), (Str.ofString "rows", .ref l0), (Str.ofString "cluster", .int c tc)])
    (hpot : Pot P C (b + 2 + 5 * i) oP oC) (hrows : RowsIn made refs rs) (hlen : rs.length = i) (hsort : Sorted rs) (hle : ∀ r ∈ rs, r.cl ≤ c) (hok : ∀ r ∈ rs, OkRow r)
    (o1 : ∀ p ∈ made, p.1 ≠ P) (o2 : ∀ p ∈ made, p.1 ≠ C) (o3 : ∀ p ∈ made, p.1 ≠ l0) : RowJ P C l0 b i m ((P, oP) :: (C, oC) :: (l0, listOf (List.toArray (List.map Value.ref refs)) n) :: made)
set_option maxHeartbeats 4000000 in
theorem row_spec {w : World} {g : Heap} {s : Shared} {P C : Addr} {b : Int} {oP oC : Obj} {Q E : Value → Shared → Prop}
    (G : Gd w g) (stay : g.StaysIn s.heap) (hsz : g.objs.size ≤ s.heap.objs.size) (N : LedIn g s.heap [(P, oP), (C, oC)])
    (hPC : @Ne Nat P C) (hp : Pot P C b oP oC) (hb : b < 50000)
    (ret : ∀ R rs refs n oP' oC' h' tk' news', g.StaysIn h' → g.objs.size ≤ h'.objs.size → LedIn g h' ((P, oP') :: (C, oC') :: (R, listOf (List.toArray (List.map Value.ref refs)) n) :: news') → Pot P C (b + 100) oP' oC' → RowsIn news' refs rs → Sorted rs → (∀ r ∈ rs, OkRow r) → rs.length ≤ 7 → (∀ q ∈ (R, listOf (List.toArray (List.map Value.ref refs)) n) :: news', @Ne Nat q.1 P ∧ @Ne Nat q.1 C) → Q (.ref R) { s with heap := h', toks := tk' }) :
    wpAny (model PySem.Challenge.rw_nu0223_01.row.prog w) (AA 800 8000) (call (.ref 290) [.ref P]) Q E s := by
  refine enter (binds := [(Str.ofString "pot", .ref P)]) G stay hsz N (by k_is) (by k_is) (by decide) (BindsTo.of_eq rfl) (locs rfl) ?_
  · intro mean mg mb L' h₁ X T F N' lt eL
    dsimp only [List.reverse, List.reverseAux] at F
    k_with "pyIter ref" => (refine Hold.mk ?_)
    k_fold
    k_steps
    all_goals (try dsimp only)
    rename_i l0 x1 lt0 x2 x3 r0 t0 oP0 oC0 x4 x5 hp0 hr0 hl0 x6 r1 t1 oP1 oC1 x7 x8 F1 N1 hp1 hr1 hl1 h2 tk2 ta tb tc IR F2 N2 kp
    refine Hold.of ?_
    have hl0 : @Ne Nat l0 P ∧ @Ne Nat l0 C := ⟨Nat.ne_of_gt lt0.1, Nat.ne_of_gt lt0.2⟩
    obtain ⟨u, F3⟩ : ∃ u, Fr g L' h2 (kstB u [(Str.ofString "pot", .ref P), (Str.ofString "rows", .ref l0), (Str.ofString "cluster", .int r0 t0)]) := ⟨_, fr_map _ F2 ⟨rfl, rfl, rfl, trivial⟩⟩
    clear F1 N1 F2
    refine rng_iter (n := r1.toNat) (RowJ P C l0 b) rfl IR ?small (by rw [rangeSize_nat]; simp) F3 N2 ?hj ?turn ?done
    case small => exact small_one (by decide) (by decide) (by omega) (by omega)
    case hj => exact ⟨_, _, [], [], _, _, _, [], ⟨rfl, rfl, rfl, trivial⟩, by exact hp1.mono (by omega), .nil, rfl, .nil, (fun _ h => nomatch h), (fun _ h => nomatch h), (fun _ h => nomatch h), (fun _ h => nomatch h), (fun _ h => nomatch h)⟩
    case turn =>
      rintro i t m₁ nx h tk own hi hoff ⟨c, tc, refs, rs, n, oP', oC', made, hm, hpot, hrows, hlen, hsort, hle, hok, o1, o2, o3⟩ F N
      obtain ⟨tl, htl⟩ : ∃ tl, tl = made ++ own := ⟨_, rfl⟩
      have hN : News g L' h ((P, oP') :: (C, oC') :: (l0, listOf (List.toArray (List.map Value.ref refs)) n) :: tl) := by rw [htl]; exact N
      clear N
      have w1 : ∀ p ∈ tl, p.1 ≠ P := by grind [OwnOff]
      have w2 : ∀ p ∈ tl, p.1 ≠ C := by grind [OwnOff]
      have w3 : ∀ p ∈ tl, p.1 ≠ l0 := by grind [OwnOff]
      have w4 : ∀ p ∈ tl, ∀ q ∈ [P, C], q ≠ p.1 := by grind
      obtain ⟨u, F4⟩ : ∃ u, Fr g L' h (kstB u [(Str.ofString "turn", .int (0 + (i : Nat)) t), (Str.ofString "pot", .ref P), (Str.ofString "rows", .ref l0), (Str.ofString "cluster", .int c tc)]) := ⟨_, fr_map _ F (has_upd hm rfl)⟩
      clear F
      have hz : (List.toArray (List.map Value.ref refs)).size ≤ sizeLine := by
        have := hrows.length
        simp [sizeLine_eq]; omega
      show wpAny _ _ _ _ _ _
      k_fold
      k_steps
      all_goals (try dsimp only)
      rename_i r4 t4 oP4 oC4 y1 y2 hp4 hr4 hl4 y3 y4 r3 t3 oP3 oC3 y5 y6 hp3 hr3 hl3 y7 y8 r2 t2 oP2 oC2 y9 y10 hp2 hr2 hl2 r5 t5 oP5 oC5 y11 y12 hp5 hr5 hl5 r6 t6 oP6 oC6 y13 y14 hp6 hr6 hl6 d y15 ltd hx F5 N5
      obtain ⟨od, hod, N6⟩ : ∃ od, RowL ⟨1 + r2, c + r4, 65 + (0 + (i : Nat)), r5, r3.fdiv 2 * 5, r6, (0 + ((i : Nat) : Int)).fmod 3 * 20⟩ od ∧ News g L' hx ((d, od) :: (P, oP6) :: (C, oC6) :: (l0, listOf ((List.map Value.ref refs).toArray.push (Value.ref d)) (n + 1)) :: tl) := ⟨_, ⟨_, _, _, _, _, _, _, _, rfl⟩, N5⟩
      have e : (List.map Value.ref refs).toArray.push (Value.ref d) = (List.map Value.ref (refs ++ [d])).toArray := by simp
      rw [e] at N6
      have hlt : ∀ p ∈ tl, @LT.lt Nat _ p.1 d := tb_ltOf ltd.2.2.2
      have hlr := hrows.length
      refine Turn.next ((P, oP6) :: (C, oC6) :: (l0, listOf (List.toArray (List.map Value.ref (refs ++ [d]))) (n + 1)) :: (d, od) :: made) F5 N6 ⟨c + r4, _, refs ++ [d], _, _, _, _, _, ⟨rfl, rfl, rfl, trivial⟩, hp6.mono (by omega), (hrows.mono fun a r ⟨o, ho, hr⟩ => ⟨o, .tail _ ho, hr⟩).append (.cons ⟨od, .head _, hod⟩ .nil), by simp [hlen], ?_, ?_, ?_, ?_, ?_, ?_⟩ ?_ ?_ ?_
      · exact List.pairwise_append.mpr ⟨hsort, by simp, fun a ha b hb => by rw [List.mem_singleton.mp hb]; have := hle a ha; show a.cl ≤ c + r4; omega⟩
      · intro r hr
        rcases List.mem_append.mp hr with hr | hr
        · have := hle r hr; omega
        · rw [List.mem_singleton.mp hr]; exact Int.le_refl _
      · intro r hr
        rcases List.mem_append.mp hr with hr | hr
        · exact hok r hr
        · rw [List.mem_singleton.mp hr]; exact ⟨hr5, hl5⟩
      · grind
      · grind
      · grind
      · intro p hp b hb
        have h1 := hlt p (by rw [htl]; simp [hp])
        simp only [List.map_cons, List.mem_cons] at hb
        have h2 := hoff p hp
        simp only [List.map_cons, List.mem_cons] at h2
        rcases hb with rfl | rfl | rfl | rfl | hb
        · exact h2 _ (.inl rfl)
        · exact h2 _ (.inr (.inl rfl))
        · exact h2 _ (.inr (.inr (.inl rfl)))
        · exact Nat.ne_of_lt h1
        · exact h2 _ (.inr (.inr (.inr hb)))
      · grind
      · grind
    case done =>
      rintro m₁ nx h tk ⟨c, tc, refs, rs, n, oP', oC', made, hm, hpot, hrows, hlen, hsort, hle, hok, o1, o2, o3⟩ F N
      obtain ⟨u, F4⟩ : ∃ u, Fr g L' h (kstB u [(Str.ofString "pot", .ref P), (Str.ofString "rows", .ref l0), (Str.ofString "cluster", .int c tc)]) := ⟨_, fr_map _ F hm⟩
      clear F
      dsimp only
      show wpAny _ _ _ _ _ _
      (try k_fold)
      k_steps
      all_goals (try dsimp only)
      exact Out.ret _ F4 N (fun hZ tkZ kZ1 kZ2 kZ3 => ret l0 rs refs n _ _ hZ tkZ made kZ1 kZ2 kZ3 (hpot.mono (by omega)) hrows hsort hok (by omega) (fun q hq => by
        rcases List.mem_cons.mp hq with rfl | hq
        · exact hl0
        · exact ⟨o1 q hq, o2 q hq⟩))
end
section
theorem st4 : True := by w_top off; k_with_none; trivial
theorem st5 : True := by
  k_with "my all" => (assumption)
  k_with "my range" => (first | (with_unfolding_all refine range1_rows ‹Fr _ _ _ _› ‹News _ _ _ _› ?_) | (with_unfolding_all refine range2_rows ‹Fr _ _ _ _› ‹News _ _ _ _› ?_))
  k_with "my inst" => (first
    | (refine' inst_base ?F ?h1 ?h2; (case F => k_asm); (case h1 => assumption); (case h2 => assumption))
    | (refine' inst_half ?F ?N ?h1 ?h2; (case F => k_asm); (case N => k_asm); (case h1 => assumption); (case h2 => k_mem)))
  k_with "my ne" => ((try dsimp only); first | with_reducible assumption | (refine Ne.symm ?_; with_reducible assumption) | (have h9 := ‹(_ ≠ _ ∧ _ ≠ _ ∧ _ ≠ _) ∧ _›; first | exact h9.1.1 | exact h9.1.2.1 | exact h9.1.2.2 | exact h9.2.1.1 | exact h9.2.1.2.1 | exact h9.2.1.2.2 | exact h9.2.2.1 | exact h9.2.2.2.1 | exact h9.2.2.2.2 | exact h9.2.1 | exact h9.2.2.1 | exact h9.2.2.2))
  k_with "my pick" => (first | exact Pick.nil | (refine' Pick.take (by k_mem) (by walk_at "my pick")) | (refine' Pick.skip (by k_all) (by walk_at "my pick")) | (refine Pick.all (by assumption)))
  k_with "call ref" => (k_here; (with_reducible show wpAny _ _ (call (Value.ref 283) [Value.ref _, Value.int _ _]) _ _ _); k_dflt (refine' draw_at (by k_asm) (by k_asm) (by k_asm) (by k_asm) (by rfl) (by exact Nat.le_of_ble_eq_true rfl) (by exact Nat.le_of_ble_eq_true rfl) (by k_asm) (by k_asm) (by k_mem) (by k_mem) (by walk_at "my pick") (by omega) (by decide) (by decide) ?_); intro _ _ _ _ _ _ _ _ _ _ _; (try k_sweep))
  trivial
theorem fold_in : ∀ (l : List Int) (a : Int), 0 ≤ a → a < 2147483647 → 0 ≤ l.foldl (fun a' n' => (a' * 48271 + n'.fmod 2147483647 + 12345).fmod 2147483647) a ∧ l.foldl (fun a' n' => (a' * 48271 + n'.fmod 2147483647 + 12345).fmod 2147483647) a < 2147483647
  | [], _, h, k => ⟨h, k⟩
  | _ :: r, _, _, _ => fold_in r _ (Int.fmod_nonneg_of_pos _ (by decide)) (Int.fmod_lt_of_pos _ (by decide))
set_option maxHeartbeats 4000000 in
theorem pot_spec {w : World} {g : Heap} {s : Shared} {l : Addr} {vs : List Value} {ns : List Int} {Q E : Value → Shared → Prop}
    (G : Gd w g) (stay : g.StaysIn s.heap) (hsz : g.objs.size ≤ s.heap.objs.size)
    (hL : g.IsList l vs.toArray) (hI : IntsAre vs ns) (hlen : ns.length ≤ 63)
    (ret : ∀ P C oP oC h' tk' led, g.StaysIn h' → g.objs.size ≤ h'.objs.size → LedIn g h' ((P, oP) :: (C, oC) :: led) → @Ne Nat P C → Pot P C 0 oP oC → Q (.ref P) { s with heap := h', toks := tk' }) :
    wpAny (model PySem.Challenge.rw_nu0223_01.row.prog w) (AA 900 9000) (call (.ref 276) [.ref l]) Q E s := by
  refine enter (news := []) (binds := [(Str.ofString "script", .ref l)]) G stay hsz (fun _ h => nomatch h) (by k_is) (by k_is) (by decide) (BindsTo.of_eq rfl) (locs rfl) ?_
  · intro mean mg mb L' h₁ X T F N' lt eL
    dsimp only [List.reverse, List.reverseAux] at F
    k_fold
    k_steps
    all_goals (try dsimp only)
    rename_i D2 x1 x2 x3 x4 x5 x6 x7 x8 x9 y1 hi1 y2 D1 x10 x11 o1 x12 u x13 x14 x15 x16 x17 x18 x19 hi2 hl2 D x20 x21 o2 P x22 F2 N2 lt2
    refine Out.ret _ F2 N2 (fun hZ tkZ kZ1 kZ2 kZ3 => ret P D _ _ hZ tkZ _ kZ1 kZ2 (fun p hp => kZ3 p ((fun p hp => hp) p hp)) (Nat.ne_of_gt lt2.1) (⟨_, _, _, _, _, _, _, _, rfl, rfl, hi2, ?_, ?_, ?_, ?_, Int.le_refl _, Int.le_refl _⟩))
    · intro x hx
      obtain ⟨y, _, rfl⟩ := List.mem_map.mp hx
      exact Int.fmod_nonneg_of_pos _ (Int.pow_pos (by decide))
    · simp; omega
    · exact (fold_in _ 1 (by decide) (by decide)).1
    · exact (fold_in _ 1 (by decide) (by decide)).2
end
section
theorem st6 : True := by w_top off; k_with_none; trivial
theorem st7 : True := by
  k_with "my all" => (assumption)
  k_with "my range" => (first | (with_unfolding_all refine range1_rows ‹Fr _ _ _ _› ‹News _ _ _ _› ?_) | (with_unfolding_all refine range2_rows ‹Fr _ _ _ _› ‹News _ _ _ _› ?_))
  k_with "my inst" => (first
    | (refine' inst_base ?F ?h1 ?h2; (case F => k_asm); (case h1 => assumption); (case h2 => assumption))
    | (refine' inst_half ?F ?N ?h1 ?h2; (case F => k_asm); (case N => k_asm); (case h1 => assumption); (case h2 => k_mem)))
  k_with "my ne" => ((try dsimp only); first | with_reducible assumption | (refine Ne.symm ?_; with_reducible assumption) | (have h9 := ‹(_ ≠ _ ∧ _ ≠ _ ∧ _ ≠ _) ∧ _›; first | exact h9.1.1 | exact h9.1.2.1 | exact h9.1.2.2 | exact h9.2.1.1 | exact h9.2.1.2.1 | exact h9.2.1.2.2 | exact h9.2.2.1 | exact h9.2.2.2.1 | exact h9.2.2.2.2 | exact h9.2.1 | exact h9.2.2.1 | exact h9.2.2.2))
  k_with "my pick" => (first | exact Pick.nil | (refine' Pick.take (by k_mem) (by walk_at "my pick")) | (refine' Pick.skip (by k_all) (by walk_at "my pick")) | (refine Pick.all (by assumption)))
  k_with "call ref" => (k_here; (with_reducible show wpAny _ _ (call (Value.ref 283) [Value.ref _, Value.int _ _]) _ _ _); k_dflt (refine' draw_at (by k_asm) (by k_asm) (by k_asm) (by k_asm) (by rfl) (by exact Nat.le_of_ble_eq_true rfl) (by exact Nat.le_of_ble_eq_true rfl) (by k_asm) (by k_asm) (by k_mem) (by k_mem) (by walk_at "my pick") (by omega) (by decide) (by decide) ?_); intro _ _ _ _ _ _ _ _ _ _ _; (try k_sweep))
  trivial
theorem make_new {w : World} {A : Around} {g : Heap} {s : Shared} {news : List (Addr × Obj)} {C fI : Addr} {rest : List Value} {kw : List (Str × Value)} {R : Result → Shared → Prop}
    (G : Gd w g) (st : g.StaysIn s.heap) (hsz : g.objs.size ≤ s.heap.objs.size) (N : LedIn g s.heap news) (hm : makesIn (Mine.hd.heap_1 w.params) C = true)
    (hi : findIn (Mine.hd.heap_1 w.params) (.ref C) (Str.ofString "__init__") = some (some (.ref fI))) (hf : isFn (Mine.hd.heap_1 w.params) (.ref fI) = true)
    (h : ∀ x dx h', g.StaysIn h' → g.objs.size ≤ h'.objs.size → LedIn g h' ((x, instObj C dx) :: (dx, dictOf [] 0) :: news) → @LE.le Nat _ s.heap.objs.size dx → @LT.lt Nat _ dx x →
      codeAny (model PySem.Challenge.rw_nu0223_01.row.prog w) (A.under (.builtin "type.__call__" ⟨.ref C :: rest, kw⟩)) (.call (.ref fI) ⟨.ref x :: rest, kw⟩) (InitBack x R) { s with heap := h' }) :
    codeAny (model PySem.Challenge.rw_nu0223_01.row.prog w) A (.call (.ref C) ⟨rest, kw⟩) R s := by
  obtain ⟨hh, gs, d, t, os⟩ := s
  have X := G.1.keeps st
  have k : ∀ b o, hh.get? b = some o → ((hh.push emptyDict).push (instObj C hh.objs.size)).get? b = some o := fun b o e => Heap.get?_push_of_some _ (Heap.get?_push_of_some _ e)
  have gn : ∀ a, hh.objs.size ≤ a → g.get? a = none := fun a ha => by
    cases q : g.get? a with
    | none => rfl
    | some o => exact absurd (Heap.lt_size q) (Nat.not_lt.mpr (Nat.le_trans hsz ha))
  have z1 : ((hh.push emptyDict).push (instObj C hh.objs.size)).get? hh.objs.size = some (dictOf [] 0) := Heap.get?_push_of_some _ (Heap.get?_push_size _ rfl)
  have z2 : ((hh.push emptyDict).push (instObj C hh.objs.size)).get? (hh.objs.size + 1) = some (instObj C hh.objs.size) := by
    have := Heap.get?_push_size (h := hh.push emptyDict) (o := instObj C hh.objs.size) rfl
    rwa [Heap.size_push] at this
  refine make_core (makes_of X hm) (looks_findIn X hi) (fun self => bind_fn X self (beq_iff_eq.mp hf)) (.inl rfl) (h (hh.objs.size + 1) hh.objs.size _ (fun b o e => k b o (st b o e)) ?_ ?_ (Nat.le_refl _) (Nat.lt_succ_self _))
  · show g.objs.size ≤ ((hh.push emptyDict).push (instObj C hh.objs.size)).objs.size
    rw [Heap.size_push, Heap.size_push]
    exact Nat.le_trans hsz (Nat.le_trans (Nat.le_succ _) (Nat.le_succ _))
  · intro p hp
    rcases List.mem_cons.mp hp with rfl | hp
    · exact ⟨z2, gn _ (Nat.le_succ _)⟩
    · rcases List.mem_cons.mp hp with rfl | hp
      · exact ⟨z1, gn _ (Nat.le_refl _)⟩
      · exact ⟨k _ _ (N p hp).1, (N p hp).2⟩
noncomputable abbrev ent (P : Params) (n : String) (k : Tok) (v : Value) : DictEntry := ⟨PyData.keyHash P (Str.ofString n), .str (Str.ofString n) k, v⟩
noncomputable def infoO (P : Params) (r : Row) (k : Nat → Tok) : Obj := dictOf [ent P "code" (k 0) (.int r.co (k 16)), ent P "glyph" (k 1) (.int r.gl (k 17)), ent P "cluster" (k 2) (.int r.cl (k 18)), ent P "mask" (k 3) (.int r.ma (k 19)), ent P "is_unsafe" (k 4) (.bool false), ent P "lig_id" (k 5) (.int r.li (k 20)), ent P "lig_part" (k 6) (.int r.lp (k 21)), ent P "lig_count" (k 7) (.int 0 (k 22)), ent P "split_id" (k 8) (.int r.sp (k 23)), ent P "kind" (k 9) (.str (Str.ofString "") (k 24)), ent P "x_advance" (k 10) (.int 0 (k 25)), ent P "y_advance" (k 11) (.int 0 (k 26)), ent P "x_offset" (k 12) (.int 0 (k 27)), ent P "y_offset" (k 13) (.int 0 (k 28)), ent P "parent" (k 14) (.int 0 (k 29)), ent P "bond" (k 15) (.str (Str.ofString "") (k 30))] 16
noncomputable def tkOf (l : List Tok) : Nat → Tok := fun i => l.getD i 0
noncomputable def InfoD (P : Params) (r : Row) (o : Obj) : Prop := ∃ k, o = infoO P r k
set_option maxHeartbeats 4000000 in
theorem info_init {w : World} {g : Heap} {s : Shared} {x dx : Addr} {co gl cl : Int} {t1 t2 t3 : Tok} {R : Result → Shared → Prop}
    (G : Gd w g) (stay : g.StaysIn s.heap) (hsz : g.objs.size ≤ s.heap.objs.size) (N : LedIn g s.heap [(x, instObj 52 dx), (dx, dictOf [] 0)]) (hx : @LT.lt Nat _ dx x)
    (ret : ∀ o h' tk', g.StaysIn h' → g.objs.size ≤ h'.objs.size → LedIn g h' [(x, instObj 52 dx), (dx, o)] → InfoD w.params ⟨gl, cl, co, 0, 0, 0, 0⟩ o → R (.ok (.ret .none)) { s with heap := h', toks := tk' }) :
    codeAny (model PySem.Challenge.rw_nu0223_01.row.prog w) (AA 940 9600) (.call (.ref 35) ⟨[.ref x, .int co t1, .int gl t2, .int cl t3], []⟩) R s := by
  refine enterR (binds := [(Str.ofString "self", .ref x), (Str.ofString "code", .int co t1), (Str.ofString "glyph", .int gl t2), (Str.ofString "cluster", .int cl t3)]) G stay hsz N (by k_is) (by k_is) (by decide) (BindsTo.of_eq rfl) (locs rfl) ?_
  · intro mean mg mb L' h₁ X T F N' lt eL
    dsimp only [List.reverse, List.reverseAux] at F
    k_fold
    k_steps
    all_goals (try dsimp only)
    exact Out.intro (by k_asm) (by k_asm) (fun hZ tkZ kZ1 kZ2 kZ3 => ret _ hZ tkZ kZ1 kZ2 kZ3 (⟨tkOf [_, _, _, _, _, _, _, _, _, _, _, _, _, _, _, _, _, _, _, _, _, _, _, _, _, _, _, _, _, _, _], rfl⟩))
theorem info_new {w : World} {g : Heap} {s : Shared} {co gl cl : Int} {t1 t2 t3 : Tok} {Q E : Value → Shared → Prop}
    (G : Gd w g) (stay : g.StaysIn s.heap) (hsz : g.objs.size ≤ s.heap.objs.size)
    (ret : ∀ x dx o h' tk', g.StaysIn h' → g.objs.size ≤ h'.objs.size → LedIn g h' [(x, instObj 52 dx), (dx, o)] → InfoD w.params ⟨gl, cl, co, 0, 0, 0, 0⟩ o → @LE.le Nat _ s.heap.objs.size dx → @LT.lt Nat _ dx x → Q (.ref x) { s with heap := h', toks := tk' }) :
    wpAny (model PySem.Challenge.rw_nu0223_01.row.prog w) (AA 930 9500) (call (.ref 52) [.int co t1, .int gl t2, .int cl t3]) Q E s := by
  refine wpAny_call (make_new (news := []) G stay hsz (fun _ h => nomatch h) (by k_is) (by k_is) (by k_is) fun x dx h' a1 a2 a3 a4 a5 => ?_)
  refine code_le (info_init (gl := gl) (cl := cl) (co := co) (G) a1 a2 a3 a5 ?_) rfl (Nat.le_of_ble_eq_true rfl) (Nat.le_of_ble_eq_true rfl) rfl rfl
  intro o h2 tk2 b1 b2 b3 b4
  exact ⟨rfl, ret x dx o h2 tk2 b1 b2 b3 b4 a4 a5⟩
theorem info_at {w : World} {A : Around} {h₀ : Heap} {L : Addr} {m : Str → Option Value} {news : List (Addr × Obj)} {s : Shared} {mean : ExcName → Option Value} {mg mb : Str → Option Value} {E : Value → Shared → Prop} {co gl cl : Int} {t1 t2 t3 : Tok} {Q : Value → Shared → Prop}
    (X : (Mine.hd.heap_1 w.params).In h₀) (T : Top Mine.vw (looseW Mine.vw []) mean mg mb h₀) (F : Fr h₀ L s.heap m) (N : News h₀ L s.heap news)
    (hA : A.handled = none) (hd : A.depth ≤ 930) (hu : A.units ≤ 9500)
    (k : ∀ x dx o h' tk', Fr h₀ L h' m → News h₀ L h' ((x, instObj 52 dx) :: (dx, o) :: news) → InfoD w.params ⟨gl, cl, co, 0, 0, 0, 0⟩ o → (∀ p ∈ news, p.1 < dx) → @LT.lt Nat _ dx x → @LT.lt Nat _ L dx → Q (.ref x) { s with heap := h', toks := tk' }) :
    wpAny (model PySem.Challenge.rw_nu0223_01.row.prog w) A (call (.ref 52) [.int co t1, .int gl t2, .int cl t3]) Q E s := by
  obtain ⟨g, a1, a2, a3, a4, _, a6⟩ := siteP [] F N (fun _ h => nomatch h) (.all fun _ _ _ h => nomatch h)
  refine wp_le (info_new ((gd X T).keeps a1) a2 a3 ?_) hA hd hu rfl rfl
  intro x dx o h' tk' k1 _ k3 k4 k5 k6
  obtain ⟨F', N'⟩ := a6 h' _ k1 k3
  exact k x dx o h' tk' F' N' k4 (fun p hp => Nat.lt_of_lt_of_le (Heap.lt_size (N p hp).1) k5) k6 (Nat.lt_of_lt_of_le F.ns.lt k5)
set_option maxHeartbeats 4000000 in
theorem set_cluster_spec {w : World} {g : Heap} {s : Shared} {x dx : Addr} {r : Row} {o : Obj} {c : Int} {t : Tok} {Q E : Value → Shared → Prop}
    (G : Gd w g) (stay : g.StaysIn s.heap) (hsz : g.objs.size ≤ s.heap.objs.size) (N : LedIn g s.heap [(dx, o)]) (hx : g.get? x = some (instObj 52 dx)) (hi : InfoD w.params r o)
    (ret : ∀ o' h' tk', g.StaysIn h' → g.objs.size ≤ h'.objs.size → LedIn g h' [(dx, o')] → InfoD w.params { r with cl := c } o' → Q .none { s with heap := h', toks := tk' }) :
    wpAny (model PySem.Challenge.rw_nu0223_01.row.prog w) (AA 940 9600) (call (.ref 114) [.ref x, .int c t]) Q E s := by
  obtain ⟨kt, rfl⟩ := hi
  refine enter (binds := [(Str.ofString "info", .ref x), (Str.ofString "cluster", .int c t)]) G stay hsz N (by k_is) (by k_is) (by decide) (BindsTo.of_eq rfl) (locs rfl) ?_
  · intro mean mg mb L' h₁ X T F N' lt eL
    dsimp only [List.reverse, List.reverseAux] at F
    k_fold
    k_steps
    all_goals (try dsimp only)
    · exact Out.intro (by k_asm) (by k_asm) (fun hZ tkZ kZ1 kZ2 kZ3 => ret _ hZ tkZ kZ1 kZ2 kZ3 (⟨tkOf [_, _, _, _, _, _, _, _, _, _, _, _, _, _, _, _, _, _, _, _, _, _, _, _, _, _, _, _, _, _, _], rfl⟩))
    · have e : { r with cl := c } = r := by cases r; simp_all
      exact Out.intro (by k_asm) (by k_asm) (fun hZ tkZ kZ1 kZ2 kZ3 => ret _ hZ tkZ kZ1 kZ2 kZ3 (by rw [e]; exact ⟨tkOf [_, _, _, _, _, _, _, _, _, _, _, _, _, _, _, _, _, _, _, _, _, _, _, _, _, _, _, _, _, _, _], rfl⟩))
theorem st8 : True := by
  k_with "call ref" => (k_here; (with_reducible show wpAny _ _ (call (Value.ref 52) [Value.int _ _, Value.int _ _, Value.int _ _]) _ _ _); k_dflt (refine' info_at (by k_asm) (by k_asm) (by k_asm) (by k_asm) (by rfl) (by exact Nat.le_of_ble_eq_true rfl) (by exact Nat.le_of_ble_eq_true rfl) ?_); walk_at "my new"; (try k_sweep))
  trivial
set_option maxHeartbeats 4000000 in
theorem copied_spec {w : World} {g : Heap} {s : Shared} {x dx : Addr} {r : Row} {o : Obj} {Q E : Value → Shared → Prop}
    (G : Gd w g) (stay : g.StaysIn s.heap) (hsz : g.objs.size ≤ s.heap.objs.size) (hx : g.get? x = some (instObj 52 dx)) (hd : g.get? dx = some o) (hi : InfoD w.params r o)
    (ret : ∀ x' dx' o' h' tk', g.StaysIn h' → g.objs.size ≤ h'.objs.size → LedIn g h' [(x', instObj 52 dx'), (dx', o')] → InfoD w.params r o' → @LE.le Nat _ s.heap.objs.size dx' → @LT.lt Nat _ dx' x' → Q (.ref x') { s with heap := h', toks := tk' }) :
    wpAny (model PySem.Challenge.rw_nu0223_01.row.prog w) (AA 920 9400) (call (.ref 42) [.ref x]) Q E s := by
  obtain ⟨kt, rfl⟩ := hi
  refine enter (news := []) (binds := [(Str.ofString "self", .ref x)]) G stay hsz (fun _ h => nomatch h) (by k_is) (by k_is) (by decide) (BindsTo.of_eq rfl) (locs rfl) ?_
  · intro mean mg mb L' h₁ X T F N' lt eL
    dsimp only [List.reverse, List.reverseAux] at F
    k_fold
    k_steps
    all_goals (try dsimp only)
    refine Out.ret _ (by k_asm) (by k_asm) (fun hZ tkZ kZ1 kZ2 kZ3 => ret _ _ _ hZ tkZ kZ1 kZ2 kZ3 (⟨tkOf [_, _, _, _, _, _, _, _, _, _, _, _, _, _, _, _, _, _, _, _, _, _, _, _, _, _, _, _, _, _, _], rfl⟩) (by omega) (by omega))
end
section
inductive BufD (P : Params) (R : Addr) (n : Int) (o : Obj) : Prop
  | mk (k1 k2 k3 k4 : Tok) (t3 t4 : Tok) (e : o = dictOf [ent P "row" k1 (.ref R), ent P "is_backward" k2 (.bool false), ent P "last_lig" k3 (.int 0 t3), ent P "last_split" k4 (.int n t4)] 4)
inductive SceneD (P : Params) (buf : Addr) (mask : Int) (o : Obj) : Prop
  | mk (k1 k2 k3 k4 k5 k6 k7 : Tok) (t5 t6 : Tok) (l l2 : Addr) (e : o = dictOf [ent P "buffer" k1 (.ref buf), ent P "gdef" k2 .none, ent P "lookups" k3 (.ref l), ent P "lookup" k4 .none, ent P "mask" k5 (.int mask t5), ent P "depth" k6 (.int 0 t6), ent P "steps" k7 (.ref l2)] 7)
noncomputable def TabD (P : Params) (M : Addr) (o : Obj) : Prop := ∃ k, o = dictOf [ent P "mapping" k (.ref M)] 1
noncomputable abbrev MapI (w : World) (h : Heap) (M : Addr) (f : Int → Option Value) : Prop := h.MapOf (PySem.intKind PySem.Challenge.rw_nu0223_01.row.prog w) M f
section
variable {w : World} {A : Around} {E : Value → Shared → Prop} {s : Shared} {h₀ : Heap} {L M : Addr} {m : Str → Option Value} {f : Int → Option Value} {k : Int} {t : Tok} {v : Value}
theorem map_keep (F : Fr h₀ L s.heap m) (hm : MapI w h₀ M f) : MapI w s.heap M f := let ⟨o, es, ep, ho, r⟩ := hm; ⟨o, es, ep, F.keep _ _ ho, r⟩
theorem m_in {Q : Value → Shared → Prop} (F : Fr h₀ L s.heap m) (hm : MapI w h₀ M f) (lo : (M == sysModules) = false) (hv : f k = some v) (h : Q (.bool true) { s with toks := s.toks + 1 }) :
    wpAny (model PySem.Challenge.rw_nu0223_01.row.prog w) A (compareOp .In (.int k t) (.ref M)) Q E s := wpAny_in_of (intKind_is _ _ _ _) lo (map_keep F hm) (by rw [hv]; exact h)
theorem m_in0 {Q : Value → Shared → Prop} (F : Fr h₀ L s.heap m) (hm : MapI w h₀ M f) (lo : (M == sysModules) = false) (hv : f k = none) (h : Q (.bool false) { s with toks := s.toks + 1 }) :
    wpAny (model PySem.Challenge.rw_nu0223_01.row.prog w) A (compareOp .In (.int k t) (.ref M)) Q E s := wpAny_in_of (intKind_is _ _ _ _) lo (map_keep F hm) (by rw [hv]; exact h)
theorem m_nin {Q : Value → Shared → Prop} (F : Fr h₀ L s.heap m) (hm : MapI w h₀ M f) (lo : (M == sysModules) = false) (hv : f k = some v) (h : Q (.bool false) { s with toks := s.toks + 1 }) :
    wpAny (model PySem.Challenge.rw_nu0223_01.row.prog w) A (compareOp .NotIn (.int k t) (.ref M)) Q E s := wpAny_notIn_of (intKind_is _ _ _ _) lo (map_keep F hm) (by rw [hv]; exact h)
theorem m_nin0 {Q : Value → Shared → Prop} (F : Fr h₀ L s.heap m) (hm : MapI w h₀ M f) (lo : (M == sysModules) = false) (hv : f k = none) (h : Q (.bool true) { s with toks := s.toks + 1 }) :
    wpAny (model PySem.Challenge.rw_nu0223_01.row.prog w) A (compareOp .NotIn (.int k t) (.ref M)) Q E s := wpAny_notIn_of (intKind_is _ _ _ _) lo (map_keep F hm) (by rw [hv]; exact h)
theorem m_item {value slice : PySem.Expr} {Q : Value → Shared → Prop} (F : Fr h₀ L s.heap m) (hm : MapI w h₀ M f) (hv : f k = some v) (h : Q v { s with toks := s.toks + 1 })
    (hs : subscripted slice false (.ref M) (.int k t) = operate [.ref M, .int k t] (getItem (.ref M) (.int k t)) := by with_unfolding_all rfl) :
    wpAny (model PySem.Challenge.rw_nu0223_01.row.prog w) A (subscriptTail value slice (.ref M) (.int k t)) Q E s :=
  have hM := map_keep F hm
  tail_any hM.typeIs slot_dict_getitem.lookup (wpAny_getItem_of (intKind_is _ _ _ _) hM hv h) hs
theorem b_item {value slice : PySem.Expr} {R : Addr} {vs : List Value} {n : Nat} {k : Int} {Q : Value → Shared → Prop} (F : Fr h₀ L s.heap m) (hl : h₀.get? R = some (listOf (List.toArray vs) n)) (h0 : 0 ≤ k) (h1 : k < 2 ^ 63) (hx : vs[k.toNat]? = some v) (h : Q v s)
    (hs : subscripted slice false (.ref R) (.int k t) = operate [.ref R, .int k t] (getItem (.ref R) (.int k t)) := by with_unfolding_all rfl) :
    wpAny (model PySem.Challenge.rw_nu0223_01.row.prog w) A (subscriptTail value slice (.ref R) (.int k t)) Q E s :=
  have hL : s.heap.IsList R (List.toArray vs) := PySem.IsL.isList (F.keep _ _ hl)
  tail_any hL.typeIs slot_list_getitem.lookup (wpAny_getItem_list hL h0 h1 (by simpa using hx) h) hs
theorem l_item {value slice : PySem.Expr} {R : Addr} {vs : List Value} {n : Nat} {k : Int} {news : List (Addr × Obj)} {Q : Value → Shared → Prop} (N : News h₀ L s.heap news) (hl : (R, listOf (List.toArray vs) n) ∈ news) (h0 : 0 ≤ k) (h1 : k < 2 ^ 63) (hx : vs[k.toNat]? = some v) (h : Q v s)
    (hs : subscripted slice false (.ref R) (.int k t) = operate [.ref R, .int k t] (getItem (.ref R) (.int k t)) := by with_unfolding_all rfl) :
    wpAny (model PySem.Challenge.rw_nu0223_01.row.prog w) A (subscriptTail value slice (.ref R) (.int k t)) Q E s :=
  have hL : s.heap.IsList R (List.toArray vs) := PySem.IsL.isList (N _ hl).1
  tail_any hL.typeIs slot_list_getitem.lookup (wpAny_getItem_list hL h0 h1 (by simpa using hx) h) hs
end
theorem st9 : True := by w_top off; k_with_none; trivial
theorem st10 : True := by
  k_with "my all" => (assumption)
  k_with "my range" => (first | (with_unfolding_all refine range1_rows ‹Fr _ _ _ _› ‹News _ _ _ _› ?_) | (with_unfolding_all refine range2_rows ‹Fr _ _ _ _› ‹News _ _ _ _› ?_))
  k_with "my inst" => (first
    | (refine' inst_base ?F ?h1 ?h2; (case F => k_asm); (case h1 => assumption); (case h2 => assumption))
    | (refine' inst_half ?F ?N ?h1 ?h2; (case F => k_asm); (case N => k_asm); (case h1 => assumption); (case h2 => k_mem)))
  k_with "my ne" => ((try dsimp only); first | with_reducible assumption | (refine Ne.symm ?_; with_reducible assumption) | (have h9 := ‹(_ ≠ _ ∧ _ ≠ _ ∧ _ ≠ _) ∧ _›; first | exact h9.1.1 | exact h9.1.2.1 | exact h9.1.2.2 | exact h9.2.1.1 | exact h9.2.1.2.1 | exact h9.2.1.2.2 | exact h9.2.2.1 | exact h9.2.2.2.1 | exact h9.2.2.2.2 | exact h9.2.1 | exact h9.2.2.1 | exact h9.2.2.2))
  k_with "my pick" => (first | exact Pick.nil | (refine' Pick.take (by k_mem) (by walk_at "my pick")) | (refine' Pick.skip (by k_all) (by walk_at "my pick")) | (refine Pick.all (by assumption)))
  k_with "call ref" => (k_here; (with_reducible show wpAny _ _ (call (Value.ref 283) [Value.ref _, Value.int _ _]) _ _ _); k_dflt (refine' draw_at (by k_asm) (by k_asm) (by k_asm) (by k_asm) (by rfl) (by exact Nat.le_of_ble_eq_true rfl) (by exact Nat.le_of_ble_eq_true rfl) (by k_asm) (by k_asm) (by k_mem) (by k_mem) (by walk_at "my pick") (by omega) (by decide) (by decide) ?_); intro _ _ _ _ _ _ _ _ _ _ _; (try k_sweep))
  trivial
theorem st11 : True := by
  k_with "call ref" => (k_here; (with_reducible show wpAny _ _ (call (Value.ref 52) [Value.int _ _, Value.int _ _, Value.int _ _]) _ _ _); k_dflt (refine' info_at (by k_asm) (by k_asm) (by k_asm) (by k_asm) (by rfl) (by exact Nat.le_of_ble_eq_true rfl) (by exact Nat.le_of_ble_eq_true rfl) ?_); walk_at "my new"; (try k_sweep))
  trivial
theorem st12 : True := by
  k_with "compareOp NotIn int ref" => (k_here; k_dflt (first | (refine' m_nin0 (by k_asm) (by assumption) (by assumption) (by assumption) ?_; k_whole) | (refine' m_nin (by k_asm) (by assumption) (by assumption) (by assumption) ?_; k_whole)))
  k_with "compareOp In int ref" => (k_here; k_dflt (first | (refine' m_in0 (by k_asm) (by assumption) (by assumption) (by assumption) ?_; k_whole) | (refine' m_in (by k_asm) (by assumption) (by assumption) (by assumption) ?_; k_whole)))
  k_with "subscriptTail" => (k_here; (with_reducible show wpAny _ _ (subscriptTail _ _ (Value.ref _) (Value.int _ _)) _ _ _); k_dflt (first | (refine' m_item (by k_asm) (by assumption) (by assumption) ?_; k_whole) | (refine' b_item (by k_asm) (by assumption) (by omega) (by omega) (by assumption) ?_; k_whole) | (refine' l_item (by k_asm) (by k_mem) (by omega) (by omega) (by assumption) ?_; k_whole)))
  trivial
set_option maxHeartbeats 4000000 in
theorem single_spec {w : World} {g : Heap} {s : Shared} {sc dsc buf dbuf R x dx tb dtb M : Addr} {osc ob ot o : Obj} {mask sp : Int} {vs : List Value} {nR : Nat} {i : Nat} {t : Tok} {r : Row} {f : Int → Option Value} {Q E : Value → Shared → Prop}
    (G : Gd w g) (stay : g.StaysIn s.heap) (hsz : g.objs.size ≤ s.heap.objs.size) (N : LedIn g s.heap [(dx, o)]) (hi : InfoD w.params r o)
    (h1 : g.get? sc = some (instObj 267 dsc)) (h2 : g.get? dsc = some osc) (hS : SceneD w.params buf mask osc) (h3 : g.get? buf = some (instObj 103 dbuf)) (h4 : g.get? dbuf = some ob) (hB : BufD w.params R sp ob)
    (h5 : g.get? R = some (listOf (List.toArray vs) nR)) (hx : vs[((i : Nat) : Int).toNat]? = some (.ref x)) (hi0 : i < 1000000) (h6 : g.get? x = some (instObj 52 dx)) (h7 : g.get? tb = some (instObj 165 dtb)) (h8 : g.get? dtb = some ot) (hT : TabD w.params M ot)
    (hm : MapI w g M f) (lo : (M == sysModules) = false) (hf : ∀ v, f r.gl = some v → ∃ n tn, v = .int n tn)
    (ret0 : f r.gl = none → ∀ o' h' tk' t', g.StaysIn h' → g.objs.size ≤ h'.objs.size → LedIn g h' [(dx, o')] → InfoD w.params r o' → Q (.int (-1) t') { s with heap := h', toks := tk' })
    (ret1 : ∀ n tn, f r.gl = some (.int n tn) → ∀ o' h' tk' t', g.StaysIn h' → g.objs.size ≤ h'.objs.size → LedIn g h' [(dx, o')] → InfoD w.params { r with gl := n } o' → Q (.int (i + 1) t') { s with heap := h', toks := tk' }) :
    wpAny (model PySem.Challenge.rw_nu0223_01.row.prog w) (AA 800 8000) (call (.ref 228) [.ref sc, .ref tb, .int (i : Nat) t]) Q E s := by
  obtain ⟨kt, rfl⟩ := hi
  obtain ⟨a1, a2, a3, a4, a5, a6, a7, c5, c6, l, l2, rfl⟩ := hS
  obtain ⟨b1, b2, b3, b4, d3, d4, rfl⟩ := hB
  obtain ⟨e1, rfl⟩ := hT
  cases hv : f r.gl with
  | none =>
    refine enter (binds := [(Str.ofString "scene", .ref sc), (Str.ofString "table", .ref tb), (Str.ofString "at", .int (i : Nat) t)]) G stay hsz N (by k_is) (by k_is) (by decide) (BindsTo.of_eq rfl) (locs rfl) ?_
    · intro mean mg mb L' h₁ X T F N' lt eL
      dsimp only [List.reverse, List.reverseAux] at F
      k_fold
      k_steps
      all_goals (try dsimp only)
      refine Out.ret _ (by k_asm) (by k_asm) (fun hZ tkZ kZ1 kZ2 kZ3 => ret0 hv _ hZ tkZ _ kZ1 kZ2 kZ3 (⟨tkOf [_, _, _, _, _, _, _, _, _, _, _, _, _, _, _, _, _, _, _, _, _, _, _, _, _, _, _, _, _, _, _], rfl⟩))
  | some v =>
    obtain ⟨n, tn, rfl⟩ := hf v hv
    refine enter (binds := [(Str.ofString "scene", .ref sc), (Str.ofString "table", .ref tb), (Str.ofString "at", .int (i : Nat) t)]) G stay hsz N (by k_is) (by k_is) (by decide) (BindsTo.of_eq rfl) (locs rfl) ?_
    · intro mean mg mb L' h₁ X T F N' lt eL
      dsimp only [List.reverse, List.reverseAux] at F
      k_fold
      k_steps
      all_goals (try dsimp only)
      refine Out.ret _ (by k_asm) (by k_asm) (fun hZ tkZ kZ1 kZ2 kZ3 => ret1 n tn hv _ hZ tkZ _ kZ1 kZ2 kZ3 (⟨tkOf [_, _, _, _, _, _, _, _, _, _, _, _, _, _, _, _, _, _, _, _, _, _, _, _, _, _, _, _, _, _, _], rfl⟩))
end
section
theorem st13 : True := by w_top off; k_with_none; trivial
theorem st14 : True := by
  k_with "my all" => (assumption)
  k_with "my range" => (first | (with_unfolding_all refine range1_rows ‹Fr _ _ _ _› ‹News _ _ _ _› ?_) | (with_unfolding_all refine range2_rows ‹Fr _ _ _ _› ‹News _ _ _ _› ?_))
  k_with "my inst" => (first
    | (refine' inst_base ?F ?h1 ?h2; (case F => k_asm); (case h1 => assumption); (case h2 => assumption))
    | (refine' inst_half ?F ?N ?h1 ?h2; (case F => k_asm); (case N => k_asm); (case h1 => assumption); (case h2 => k_mem)))
  k_with "my ne" => ((try dsimp only); first | with_reducible assumption | (refine Ne.symm ?_; with_reducible assumption) | (have h9 := ‹(_ ≠ _ ∧ _ ≠ _ ∧ _ ≠ _) ∧ _›; first | exact h9.1.1 | exact h9.1.2.1 | exact h9.1.2.2 | exact h9.2.1.1 | exact h9.2.1.2.1 | exact h9.2.1.2.2 | exact h9.2.2.1 | exact h9.2.2.2.1 | exact h9.2.2.2.2 | exact h9.2.1 | exact h9.2.2.1 | exact h9.2.2.2))
  k_with "my pick" => (first | exact Pick.nil | (refine' Pick.take (by k_mem) (by walk_at "my pick")) | (refine' Pick.skip (by k_all) (by walk_at "my pick")) | (refine Pick.all (by assumption)))
  k_with "call ref" => (k_here; (with_reducible show wpAny _ _ (call (Value.ref 283) [Value.ref _, Value.int _ _]) _ _ _); k_dflt (refine' draw_at (by k_asm) (by k_asm) (by k_asm) (by k_asm) (by rfl) (by exact Nat.le_of_ble_eq_true rfl) (by exact Nat.le_of_ble_eq_true rfl) (by k_asm) (by k_asm) (by k_mem) (by k_mem) (by walk_at "my pick") (by omega) (by decide) (by decide) ?_); intro _ _ _ _ _ _ _ _ _ _ _; (try k_sweep))
  trivial
theorem st15 : True := by
  k_with "call ref" => (k_here; (with_reducible show wpAny _ _ (call (Value.ref 52) [Value.int _ _, Value.int _ _, Value.int _ _]) _ _ _); k_dflt (refine' info_at (by k_asm) (by k_asm) (by k_asm) (by k_asm) (by rfl) (by exact Nat.le_of_ble_eq_true rfl) (by exact Nat.le_of_ble_eq_true rfl) ?_); walk_at "my new"; (try k_sweep))
  trivial
theorem st16 : True := by
  k_with "compareOp NotIn int ref" => (k_here; k_dflt (first | (refine' m_nin0 (by k_asm) (by assumption) (by assumption) (by assumption) ?_; k_whole) | (refine' m_nin (by k_asm) (by assumption) (by assumption) (by assumption) ?_; k_whole)))
  k_with "compareOp In int ref" => (k_here; k_dflt (first | (refine' m_in0 (by k_asm) (by assumption) (by assumption) (by assumption) ?_; k_whole) | (refine' m_in (by k_asm) (by assumption) (by assumption) (by assumption) ?_; k_whole)))
  k_with "subscriptTail" => (k_here; (with_reducible show wpAny _ _ (subscriptTail _ _ (Value.ref _) (Value.int _ _)) _ _ _); k_dflt (first | (refine' m_item (by k_asm) (by assumption) (by assumption) ?_; k_whole) | (refine' b_item (by k_asm) (by assumption) (by omega) (by omega) (by assumption) ?_; k_whole) | (refine' l_item (by k_asm) (by k_mem) (by omega) (by omega) (by assumption) ?_; k_whole)))
  trivial
theorem bits_even (wd n : Nat) (hw : wd < 3) (h1 : 1 ≤ wd) (hn : n < 4) : (((2 : Int) ^ wd - 1) * 2 ^ n).fmod 2 = 0 ↔ n ≠ 0 := by
  have : ∀ wd < 3, ∀ n < 4, 1 ≤ wd → ((((2 : Int) ^ wd - 1) * 2 ^ n).fmod 2 = 0 ↔ n ≠ 0) := by decide
  exact this wd hw n hn h1
theorem bits_half (wd n : Nat) : (((2 : Int) ^ wd - 1) * 2 ^ (n + 1)).fdiv 2 = ((2 : Int) ^ wd - 1) * 2 ^ n := by
  rw [Int.pow_succ, ← Int.mul_assoc, Int.mul_fdiv_cancel _ (by decide)]
theorem fdiv_two (c : Int) (i : Nat) (h : 0 ≤ c) : (c.fdiv (2 ^ i)).fdiv 2 = c.fdiv (2 ^ (i + 1)) := by
  have h2 : (0 : Int) ≤ 2 ^ i := Int.pow_nonneg (by decide)
  rw [Int.fdiv_eq_ediv_of_nonneg _ h2, Int.fdiv_eq_ediv_of_nonneg _ (by decide), Int.fdiv_eq_ediv_of_nonneg _ (Int.pow_nonneg (by decide)), Int.pow_succ, Int.ediv_ediv, if_neg (fun h => absurd h.1 (by omega)), Int.sub_zero]
theorem land_all : ∀ m < 32, ∀ wd < 3, ∀ sh < 4, 0 ≤ Builtin.bitAnd ((m : Nat) : Int) (((2 : Int) ^ wd - 1) * 2 ^ sh) ∧ (Builtin.bitAnd ((m : Nat) : Int) (((2 : Int) ^ wd - 1) * 2 ^ sh)).fdiv (2 ^ sh) = (((m : Nat) : Int).fdiv (2 ^ sh)).fmod (2 ^ wd) := by decide +kernel
theorem land_is {mask : Int} {wd sh : Nat} (h0 : 0 ≤ mask) (h1 : mask < 32) (hw : wd < 3) (hs : sh < 4) : 0 ≤ Builtin.bitAnd mask (((2 : Int) ^ wd - 1) * 2 ^ sh) ∧ (Builtin.bitAnd mask (((2 : Int) ^ wd - 1) * 2 ^ sh)).fdiv (2 ^ sh) = (mask.fdiv (2 ^ sh)).fmod (2 ^ wd) := by
  obtain ⟨m, rfl⟩ := Int.eq_ofNat_of_zero_le h0
  exact land_all m (by omega) wd hw sh hs
theorem bits_zero {wd sh : Nat} (h : wd ≠ 0) (hw : wd < 3) : (((2 : Int) ^ wd - 1) * 2 ^ sh) ≠ 0 := by
  refine Int.mul_ne_zero ?_ (Int.ne_of_gt (Int.pow_pos (by decide)))
  have : ∀ wd < 3, wd ≠ 0 → ((2 : Int) ^ wd - 1) ≠ 0 := by decide
  exact this wd hw h
set_option maxHeartbeats 4000000 in
theorem choice_spec {w : World} {g : Heap} {s : Shared} {mask bits : Int} {wd sh : Nat} {t1 t2 : Tok} {Q E : Value → Shared → Prop}
    (G : Gd w g) (stay : g.StaysIn s.heap) (hsz : g.objs.size ≤ s.heap.objs.size) (hw : wd < 3) (hs : sh < 4) (hb : bits = (2 ^ wd - 1) * 2 ^ sh) (h0 : 0 ≤ mask) (h1 : mask < 32)
    (ret : ∀ h' tk' t', g.StaysIn h' → g.objs.size ≤ h'.objs.size → Q (.int ((mask.fdiv (2 ^ sh)).fmod (2 ^ wd)) t') { s with heap := h', toks := tk' }) :
    wpAny (model PySem.Challenge.rw_nu0223_01.row.prog w) (AA 900 9000) (call (.ref 242) [.int mask t1, .int bits t2]) Q E s := by
  refine enter (news := []) (binds := [(Str.ofString "mask", .int mask t1), (Str.ofString "bits", .int bits t2)]) G stay hsz (fun _ h => nomatch h) (by k_is) (by k_is) (by decide) (BindsTo.of_eq rfl) (locs rfl) ?_
  · intro mean mg mb L' h₁ X T F N' lt eL
    dsimp only [List.reverse, List.reverseAux] at F
    k_with "exec While Compare cons nil" => (refine Hold.mk ?_)
    k_fold
    k_steps
    all_goals (try dsimp only)
    · have hz : wd = 0 := by
        refine Decidable.byContradiction fun h => bits_zero (sh := sh) h hw ?_
        omega
      have e : (mask.fdiv (2 ^ sh)).fmod (2 ^ wd) = 0 := by subst hz; simp [Int.fmod_one]
      exact Out.ret _ (by k_asm) (by k_asm) (fun hZ tkZ kZ1 kZ2 kZ3 => Q_eq (ret hZ tkZ _ kZ1 kZ2) (by rw [e]))
    · rename Fr _ _ _ _ => F2
      rename News _ _ _ _ => N2
      refine Hold.of ?_
      have hw1 : 1 ≤ wd := by
        rcases Nat.eq_zero_or_pos wd with h | h
        · subst h; simp at hb; contradiction
        · exact h
      have hland : 0 ≤ Builtin.bitAnd mask bits ∧ (Builtin.bitAnd mask bits).fdiv (2 ^ sh) = (mask.fdiv (2 ^ sh)).fmod (2 ^ wd) := by rw [hb]; exact land_is h0 h1 hw hs
      refine fr_cut [(Str.ofString "bits", .int bits t2), (Str.ofString "choice", .int (Builtin.bitAnd mask bits) _)] F2 ⟨rfl, rfl, trivial⟩ fun u F3 => ?_
      refine wh (n₀ := sh) (fun n m nx => nx = [] ∧ n ≤ sh ∧ ∃ bv cv tb tc, Has m [(Str.ofString "bits", .int bv tb), (Str.ofString "choice", .int cv tc)] ∧ bv = (2 ^ wd - 1) * 2 ^ n ∧ cv = (Builtin.bitAnd mask bits).fdiv (2 ^ (sh - n))) F3 N2 ⟨rfl, Nat.le_refl _, _, _, _, _, ⟨rfl, rfl, trivial⟩, hb, by simp⟩ ?_
      rintro n m₁ nx h tk F N ⟨rfl, hn, bv, cv, tb, tc, hm, hbv, hcv⟩
      refine fr_cut _ F hm fun u F4 => ?_
      clear F F3 F2
      show wpAny _ _ _ _ _ _
      k_fold
      k_steps
      all_goals (try dsimp only)
      · obtain ⟨n', rfl⟩ : ∃ n', n = n' + 1 := ⟨n - 1, by have := (bits_even wd n hw hw1 (by omega)).mp (by rw [← hbv]; assumption); omega⟩
        have e : sh - (n' + 1) + 1 = sh - n' := by omega
        exact WTurn.next (by k_asm) (by k_asm) (Nat.lt_succ_self n') ⟨rfl, by omega, _, _, _, _, ⟨rfl, rfl, trivial⟩, by rw [hbv]; exact bits_half wd n', by rw [hcv, fdiv_two _ _ hland.1, e]⟩
      · have hn0 : n = 0 := Decidable.byContradiction fun h => by
          have := (bits_even wd n hw hw1 (by omega)).mpr h
          rw [← hbv] at this
          contradiction
        subst hn0
        exact Out.ret _ (by k_asm) (by k_asm) (fun hZ tkZ kZ1 kZ2 kZ3 => Q_eq (ret hZ tkZ _ kZ1 kZ2) (by rw [hcv, ← hland.2, Nat.sub_zero]))
end
section
theorem st17 : True := by w_top off; k_with_none; trivial
theorem st18 : True := by
  k_with "my all" => (assumption)
  k_with "my range" => (first | (with_unfolding_all refine range1_rows ‹Fr _ _ _ _› ‹News _ _ _ _› ?_) | (with_unfolding_all refine range2_rows ‹Fr _ _ _ _› ‹News _ _ _ _› ?_))
  k_with "my inst" => (first
    | (refine' inst_base ?F ?h1 ?h2; (case F => k_asm); (case h1 => assumption); (case h2 => assumption))
    | (refine' inst_half ?F ?N ?h1 ?h2; (case F => k_asm); (case N => k_asm); (case h1 => assumption); (case h2 => k_mem)))
  k_with "my ne" => ((try dsimp only); first | with_reducible assumption | (refine Ne.symm ?_; with_reducible assumption) | (have h9 := ‹(_ ≠ _ ∧ _ ≠ _ ∧ _ ≠ _) ∧ _›; first | exact h9.1.1 | exact h9.1.2.1 | exact h9.1.2.2 | exact h9.2.1.1 | exact h9.2.1.2.1 | exact h9.2.1.2.2 | exact h9.2.2.1 | exact h9.2.2.2.1 | exact h9.2.2.2.2 | exact h9.2.1 | exact h9.2.2.1 | exact h9.2.2.2))
  k_with "my pick" => (first | exact Pick.nil | (refine' Pick.take (by k_mem) (by walk_at "my pick")) | (refine' Pick.skip (by k_all) (by walk_at "my pick")) | (refine Pick.all (by assumption)))
  k_with "call ref" => (k_here; (with_reducible show wpAny _ _ (call (Value.ref 283) [Value.ref _, Value.int _ _]) _ _ _); k_dflt (refine' draw_at (by k_asm) (by k_asm) (by k_asm) (by k_asm) (by rfl) (by exact Nat.le_of_ble_eq_true rfl) (by exact Nat.le_of_ble_eq_true rfl) (by k_asm) (by k_asm) (by k_mem) (by k_mem) (by walk_at "my pick") (by omega) (by decide) (by decide) ?_); intro _ _ _ _ _ _ _ _ _ _ _; (try k_sweep))
  trivial
section
variable {prog : Program} {w : World} {A : Around} {h₀ : Heap} {L : Addr} {m : Str → Option Value} {env : Env} {elt ct : PySem.Expr} {x : Str} {scope : Scope} {cl : List (Str × Addr)} {s : Shared} {S : List (Addr × Obj) → Prop} {P : Nat → Value → Prop} {Fin : List Value → List (Addr × Obj) → Prop} {news : List (Addr × Obj)}
/-- a comprehension by an invariant -/
theorem comp_inv (J : Nat → List Value → List (Addr × Obj) → Prop) {n : Nat} (h0 : J 0 [] news)
    (turn : ∀ i ys nx v I oI C oC D m₂ h tk (E' : Value → Shared → Prop), i < n → J i ys nx → P i v → LCg.NsObj oC m₂ → m₂ x = some v → Fr h₀ L h m → News h₀ L h ((I, oI) :: (C, oC) :: (D, LCg.lst ys) :: nx) → LCg.Off3 I C D nx → ((@Ne Nat I C) ∧ (@Ne Nat I D) ∧ (@Ne Nat C D)) →
      wpAny (model prog w) A (eval elt (compEnvC scope cl C env)) (LCg.CompEnd h₀ L m { s with heap := h, toks := tk } I oI C oC D (LCg.lst ys) S (fun y nx' => J (i + 1) (ys ++ [y]) nx')) E' { s with heap := h, toks := tk })
    (fin : ∀ ys nx, J n ys nx → Fin ys nx) : LCg.CompRest prog w A h₀ L m env elt x scope cl s S P Fin n 0 [] news := by
  have key : ∀ (j i : Nat) (ys : List Value) nx, i + j = n → J i ys nx → LCg.CompRest prog w A h₀ L m env elt x scope cl s S P Fin j i ys nx := by
    intro j
    induction j with
    | zero => intro i ys nx hi hj; obtain rfl : i = n := by omega
              exact LCg.CompRest.zero (fin _ _ hj)
    | succ j ih =>
      intro i ys nx hi hj
      refine LCg.CompRest.succ fun v I oI C oC D m₂ h tk E' hv hC hx F N off ne => ?_
      refine wpAny_mono (turn i ys nx v I oI C oC D m₂ h tk E' (by omega) hj hv hC hx F N off ne) (fun y s₂ hq => ?_) fun _ _ e => e
      obtain ⟨h', tk', nw, e, F', N', off', hS, hj'⟩ := hq
      exact ⟨h', tk', nw, e, F', N', off', hS, ih (i + 1) _ nw (by omega) hj'⟩
  exact key n 0 [] news (by omega) h0
end
noncomputable def InfosIn (P : Params) (g : Heap) (vs : List Value) (rs : List Row) : Prop := All2 (fun v r => ∃ x dx o, v = .ref x ∧ g.get? x = some (instObj 52 dx) ∧ g.get? dx = some o ∧ InfoD P r o) vs rs
set_option maxHeartbeats 4000000 in
theorem told_spec {w : World} {g : Heap} {s : Shared} {buf dbuf R : Addr} {ob : Obj} {sp : Int} {vs : List Value} {rs : List Row} {nR : Nat} {Q E : Value → Shared → Prop}
    (G : Gd w g) (stay : g.StaysIn s.heap) (hsz : g.objs.size ≤ s.heap.objs.size) (h3 : g.get? buf = some (instObj 103 dbuf)) (h4 : g.get? dbuf = some ob) (hB : BufD w.params R sp ob)
    (h5 : g.get? R = some (listOf (List.toArray vs) nR)) (hi : InfosIn w.params g vs rs) (hl : vs.length ≤ 1000)
    (ret : ∀ D refs n h' tk' led, g.StaysIn h' → g.objs.size ≤ h'.objs.size → LedIn g h' ((D, listOf (List.toArray (List.map Value.ref refs)) n) :: led) → RowsIn led refs rs → Q (.ref D) { s with heap := h', toks := tk' }) :
    wpAny (model PySem.Challenge.rw_nu0223_01.row.prog w) (AA 800 8000) (call (.ref 302) [.ref buf]) Q E s := by
  obtain ⟨b1, b2, b3, b4, d3, d4, rfl⟩ := hB
  refine enter (news := []) (binds := [(Str.ofString "buffer", .ref buf)]) G stay hsz (fun _ h => nomatch h) (by k_is) (by k_is) (by decide) (BindsTo.of_eq rfl) (locs rfl) ?_
  · intro mean mg mb L' h₁ X T F N' lt eL
    dsimp only [List.reverse, List.reverseAux] at F
    k_with "CompSrc" => (refine Hold.mk ?_)
    k_with "eval ListComp" => (k_here; k_dflt (refine LCg.ListComp_U (F₀ := by k_asm) (by rfl) (by decide) (by rfl) (by decide) (by rfl) ?_))
    k_fold
    k_steps
    all_goals (try dsimp only)
    refine Hold.of ?_
    have hlen := hi.length
    refine LCg.CompSrc.base rfl F N' (PySem.IsL.isList h5) (by simp [sizeLine_eq]; omega) ?_
    intro g'
    refine comp_inv (fun i ys nx => ∃ refs, ys = List.map Value.ref refs ∧ RowsIn nx refs (rs.take i)) ⟨[], rfl, .nil⟩ ?turn ?fin
    case turn =>
      rintro i ys nx v I oI C oC D m₂ h tk E' hi' ⟨refs, rfl, hrows⟩ hv hC hx F2 N2 off ne
      obtain ⟨r, hr, x, dx, o, rfl, hx1, hx2, hI⟩ := hi.get2 (by simpa using hv)
      obtain ⟨kt, rfl⟩ := hI
      k_fold
      k_steps
      all_goals (try dsimp only)
      rename_i d hq F3 N3 ltd
      have hlr := hrows.length
      obtain ⟨od, hod, N4⟩ : ∃ od, RowL r od ∧ News g L' hq ((d, od) :: (I, oI) :: (C, oC) :: (D, LCg.lst (List.map Value.ref refs)) :: nx) := ⟨_, ⟨_, _, _, _, _, _, _, _, rfl⟩, N3⟩
      refine LCg.CompEnd.intro F3 N4 ((d, od) :: nx) ?_ ⟨⟨Nat.ne_of_gt ltd.1, Nat.ne_of_gt ltd.2.1, Nat.ne_of_gt ltd.2.2.1⟩, off⟩ (.inl (PySem.IsL.isList h5)) ⟨refs ++ [d], by simp, ?_⟩
      · intro p hp
        simp only [List.mem_cons] at hp ⊢
        rcases hp with rfl | rfl | rfl | rfl | hp <;> simp_all
      · rw [List.take_add_one, hr]
        exact (hrows.mono fun a r ⟨o, ho, hr⟩ => ⟨o, .tail _ ho, hr⟩).append (.cons ⟨od, .head _, hod⟩ .nil)
    case fin =>
      rintro ys nx ⟨refs, rfl, hrows⟩
      rw [List.size_toArray, hlen, List.take_length] at hrows
      intro D h tk F2 N2 o1
      exact Out.ret _ F2 N2 (fun hZ tkZ kZ1 kZ2 kZ3 => ret D refs _ hZ tkZ nx kZ1 kZ2 kZ3 hrows)
end
section
section
variable {w : World} {A : Around} {E : Value → Shared → Prop} {s : Shared} {h₀ : Heap} {L M : Addr} {m : Str → Option Value} {f : Int → Option Value} {k : Int} {t : Tok} {v dflt : Value}
theorem m_meth {pl : Sem Bool} {Q : Value × List Value → Shared → Prop} (F : Fr h₀ L s.heap m) (hm : MapI w h₀ M f) (h : Q (.builtin "dict.get", [.ref M]) s) :
    wpAny (model PySem.Challenge.rw_nu0223_01.row.prog w) A (getMethod (.ref M) "get" pl) Q E s :=
  have hM := map_keep F hm
  getMethod_builtin hM.typeIs PySem.F.plainAttrs_dict PySem.F.slot_dict_get PySem.F.type_dict_get hM.noDict h
theorem m_get {Q : Value → Shared → Prop} (F : Fr h₀ L s.heap m) (hm : MapI w h₀ M f) (lo : (M == sysModules) = false) (hv : f k = some v) (h : Q v { s with toks := s.toks + 1 }) :
    wpAny (model PySem.Challenge.rw_nu0223_01.row.prog w) A (call (.builtin "dict.get") [.ref M, .int k t, dflt]) Q E s :=
  have hM := map_keep F hm
  call_meetsIn PySem.F.slot_dict_get hM.typeIs PySem.F.entry_dict_get (PySem.F.args_dict_get_3 _ _ _) (meets_dict_get_default _ M (intKind_is _ _ _ _) lo dflt) ⟨_, hM, by rw [hv]; exact h⟩
theorem m_get0 {Q : Value → Shared → Prop} (F : Fr h₀ L s.heap m) (hm : MapI w h₀ M f) (lo : (M == sysModules) = false) (hv : f k = none) (h : Q dflt { s with toks := s.toks + 1 }) :
    wpAny (model PySem.Challenge.rw_nu0223_01.row.prog w) A (call (.builtin "dict.get") [.ref M, .int k t, dflt]) Q E s :=
  have hM := map_keep F hm
  call_meetsIn PySem.F.slot_dict_get hM.typeIs PySem.F.entry_dict_get (PySem.F.args_dict_get_3 _ _ _) (meets_dict_get_default _ M (intKind_is _ _ _ _) lo dflt) ⟨_, hM, by rw [hv]; exact h⟩
variable {prog : Program}
theorem t_len {T : Addr} {vs : List Value} {ps : List Int} {Q : Value → Shared → Prop} (F : Fr h₀ L s.heap m) (ht : IsTup h₀ T vs.toArray) (hi : IntsAre vs ps) (hz : ps.length ≤ 1000) (h : Q (.int ps.length (s.toks + 1)) { s with toks := s.toks + 1 + 1 }) :
    wpAny (model prog w) A (call (.builtin "len") [.ref T]) Q E s := by
  have e : (List.toArray vs).size = ps.length := by rw [List.size_toArray]; exact hi.length
  exact len_tuple (F.tup ht) (by rw [e]; omega) (by rw [e]; exact h)
theorem t_item {value slice : PySem.Expr} {T : Addr} {vs : List Value} {ps : List Int} {Q : Value → Shared → Prop} (F : Fr h₀ L s.heap m) (ht : IsTup h₀ T vs.toArray) (hi : IntsAre vs ps) (hz : ps.length ≤ 1000) (h0 : 0 ≤ k) (h1 : k < ps.length) (h : ∀ u, Q (.int (ps.getD k.toNat 0) u) s)
    (hs : subscripted slice false (.ref T) (.int k t) = operate [.ref T, .int k t] (getItem (.ref T) (.int k t)) := by with_unfolding_all rfl) :
    wpAny (model prog w) A (subscriptTail value slice (.ref T) (.int k t)) Q E s := by
  have e : (List.toArray vs).size = ps.length := by rw [List.size_toArray]; exact hi.length
  have hk : k.toNat < ps.length := by omega
  obtain ⟨u, hu⟩ := hi.get k.toNat (ps.getD k.toNat 0) (by rw [List.getD_eq_getElem?_getD, List.getElem?_eq_getElem hk]; rfl)
  have hT := F.tup ht
  refine tail_any hT.typeIs slot_tuple_getitem.lookup (getItem_tuple hT (by omega) (by omega) (j := k.toNat) ?_ (by simpa using hu) (h u)) hs
  rw [e]; unfold seqIndex?
  have q : ¬ k < 0 := by omega
  simp only [if_neg q]
  exact if_pos (by simp; omega)
theorem choice_at {mask bits : Int} {wd sh : Nat} {t1 t2 : Tok} {news : List (Addr × Obj)} {mean : ExcName → Option Value} {mg mb : Str → Option Value} {Q : Value → Shared → Prop}
    (X : (Mine.hd.heap_1 w.params).In h₀) (T : Top Mine.vw (looseW Mine.vw []) mean mg mb h₀) (F : Fr h₀ L s.heap m) (N : News h₀ L s.heap news)
    (hA : A.handled = none) (hd : A.depth ≤ 900) (hu : A.units ≤ 9000) (hw : wd < 3) (hs : sh < 4) (hb : bits = (2 ^ wd - 1) * 2 ^ sh) (h0 : 0 ≤ mask) (h1 : mask < 32)
    (h : ∀ h' tk' t', Fr h₀ L h' m → News h₀ L h' news → Q (.int ((mask.fdiv (2 ^ sh)).fmod (2 ^ wd)) t') { s with heap := h', toks := tk' }) :
    wpAny (model PySem.Challenge.rw_nu0223_01.row.prog w) A (call (.ref 242) [.int mask t1, .int bits t2]) Q E s := by
  obtain ⟨g, a1, a2, a3, a4, _, a6⟩ := siteP [] F N (fun _ h => nomatch h) (.all fun _ _ _ h => nomatch h)
  refine wp_le (choice_spec ((gd X T).keeps a1) a2 a3 hw hs hb h0 h1 ?_) hA hd hu rfl rfl
  intro h' tk' t' k1 _
  obtain ⟨F', N'⟩ := a6 h' [] k1 (fun _ h => nomatch h)
  exact h h' tk' t' F' N'
end
theorem st19 : True := by w_top off; k_with_none; trivial
theorem st20 : True := by
  k_with "my all" => (assumption)
  k_with "my range" => (first | (with_unfolding_all refine range1_rows ‹Fr _ _ _ _› ‹News _ _ _ _› ?_) | (with_unfolding_all refine range2_rows ‹Fr _ _ _ _› ‹News _ _ _ _› ?_))
  k_with "my inst" => (first
    | (refine' inst_base ?F ?h1 ?h2; (case F => k_asm); (case h1 => assumption); (case h2 => assumption))
    | (refine' inst_half ?F ?N ?h1 ?h2; (case F => k_asm); (case N => k_asm); (case h1 => assumption); (case h2 => k_mem)))
  k_with "my ne" => ((try dsimp only); first | with_reducible assumption | (refine Ne.symm ?_; with_reducible assumption) | (have h9 := ‹(_ ≠ _ ∧ _ ≠ _ ∧ _ ≠ _) ∧ _›; first | exact h9.1.1 | exact h9.1.2.1 | exact h9.1.2.2 | exact h9.2.1.1 | exact h9.2.1.2.1 | exact h9.2.1.2.2 | exact h9.2.2.1 | exact h9.2.2.2.1 | exact h9.2.2.2.2 | exact h9.2.1 | exact h9.2.2.1 | exact h9.2.2.2))
  k_with "my pick" => (first | exact Pick.nil | (refine' Pick.take (by k_mem) (by walk_at "my pick")) | (refine' Pick.skip (by k_all) (by walk_at "my pick")) | (refine Pick.all (by assumption)))
  k_with "call ref" => (k_here; (with_reducible show wpAny _ _ (call (Value.ref 283) [Value.ref _, Value.int _ _]) _ _ _); k_dflt (refine' draw_at (by k_asm) (by k_asm) (by k_asm) (by k_asm) (by rfl) (by exact Nat.le_of_ble_eq_true rfl) (by exact Nat.le_of_ble_eq_true rfl) (by k_asm) (by k_asm) (by k_mem) (by k_mem) (by walk_at "my pick") (by omega) (by decide) (by decide) ?_); intro _ _ _ _ _ _ _ _ _ _ _; (try k_sweep))
  trivial
theorem st21 : True := by
  k_with "call ref" => (k_here; (with_reducible show wpAny _ _ (call (Value.ref 52) [Value.int _ _, Value.int _ _, Value.int _ _]) _ _ _); k_dflt (refine' info_at (by k_asm) (by k_asm) (by k_asm) (by k_asm) (by rfl) (by exact Nat.le_of_ble_eq_true rfl) (by exact Nat.le_of_ble_eq_true rfl) ?_); walk_at "my new"; (try k_sweep))
  trivial
theorem st22 : True := by
  k_with "compareOp NotIn int ref" => (k_here; k_dflt (first | (refine' m_nin0 (by k_asm) (by assumption) (by assumption) (by assumption) ?_; k_whole) | (refine' m_nin (by k_asm) (by assumption) (by assumption) (by assumption) ?_; k_whole)))
  k_with "compareOp In int ref" => (k_here; k_dflt (first | (refine' m_in0 (by k_asm) (by assumption) (by assumption) (by assumption) ?_; k_whole) | (refine' m_in (by k_asm) (by assumption) (by assumption) (by assumption) ?_; k_whole)))
  k_with "subscriptTail" => (k_here; (with_reducible show wpAny _ _ (subscriptTail _ _ (Value.ref _) (Value.int _ _)) _ _ _); k_dflt (first | (refine' m_item (by k_asm) (by assumption) (by assumption) ?_; k_whole) | (refine' b_item (by k_asm) (by assumption) (by omega) (by omega) (by assumption) ?_; k_whole) | (refine' l_item (by k_asm) (by k_mem) (by omega) (by omega) (by assumption) ?_; k_whole)))
  trivial
theorem st23 : True := by
  k_with "getMethod ref" => (k_here; (with_reducible show wpAny _ _ (getMethod (Value.ref _) (Str.ofString "get") _) _ _ _); k_dflt (refine' m_meth (by k_asm) (by assumption) ?_; k_whole))
  k_with "call builtin:dict.get" => (k_here; (with_reducible show wpAny _ _ (call (Value.builtin "dict.get") [Value.ref _, Value.int _ _, _]) _ _ _); k_dflt (first | (refine' m_get0 (by k_asm) (by assumption) (by assumption) (by assumption) ?_; k_whole) | (refine' m_get (by k_asm) (by assumption) (by assumption) (by assumption) ?_; k_whole)))
  k_with "call builtin:len" => (k_here; (with_reducible show wpAny _ _ (call (Value.builtin "len") [Value.ref _]) _ _ _); k_dflt (refine' t_len (by k_asm) (by assumption) (by assumption) (by omega) ?_; k_whole))
  k_with "subscriptTail" => (k_here; (with_reducible show wpAny _ _ (subscriptTail _ _ (Value.ref _) (Value.int _ _)) _ _ _); k_dflt (refine' t_item (by k_asm) (by assumption) (by assumption) (by omega) (by omega) (by omega) ?_; k_whole; intro _))
  k_with "call ref" => (k_here; (with_reducible show wpAny _ _ (call (Value.ref 242) [Value.int _ _, Value.int _ _]) _ _ _); k_dflt (refine' choice_at (by k_asm) (by k_asm) (by k_asm) (by k_asm) (by rfl) (by exact Nat.le_of_ble_eq_true rfl) (by exact Nat.le_of_ble_eq_true rfl) (by assumption) (by assumption) (by assumption) (by assumption) (by assumption) ?_; intro _ _ _ _ _))
  trivial
noncomputable def choose (ps : List Int) (k : Int) : Option Int := if 0 < k ∧ k ≤ ps.length then some (ps.getD (k - 1).toNat 0) else none
theorem choose_none {ps : List Int} {k : Int} (h : ¬ 1 ≤ k ∨ ¬ k ≤ ps.length) : choose ps k = none := if_neg (by omega)
theorem choose_nil {k : Int} : choose [] k = none := if_neg (by simp)
theorem choose_some {ps : List Int} {k : Int} (h1 : 1 ≤ k) (h2 : k ≤ ps.length) : choose ps k = some (ps.getD (k - 1).toNat 0) := if_pos (by omega)
set_option maxHeartbeats 4000000 in
theorem alternate_spec {w : World} {g : Heap} {s : Shared} {sc dsc buf dbuf R x dx tb dtb M : Addr} {osc ob ot o : Obj} {bits sp : Int} {vs : List Value} {nR : Nat} {i wd sh : Nat} {t : Tok} {r : Row} {f : Int → Option Value} {ps : List Int} {Q E : Value → Shared → Prop}
    (G : Gd w g) (stay : g.StaysIn s.heap) (hsz : g.objs.size ≤ s.heap.objs.size) (N : LedIn g s.heap [(dx, o)]) (hi : InfoD w.params r o)
    (h1 : g.get? sc = some (instObj 267 dsc)) (h2 : g.get? dsc = some osc) (hS : SceneD w.params buf bits osc) (h3 : g.get? buf = some (instObj 103 dbuf)) (h4 : g.get? dbuf = some ob) (hB : BufD w.params R sp ob)
    (h5 : g.get? R = some (listOf (List.toArray vs) nR)) (hx : vs[((i : Nat) : Int).toNat]? = some (.ref x)) (hi0 : i < 1000000) (h6 : g.get? x = some (instObj 52 dx)) (h7 : g.get? tb = some (instObj 217 dtb)) (h8 : g.get? dtb = some ot) (hT : TabD w.params M ot)
    (hm : MapI w g M f) (lo : (M == sysModules) = false) (hf : (f r.gl = none ∧ ps = []) ∨ ∃ tp us, f r.gl = some (.ref tp) ∧ IsTup g tp (List.toArray us) ∧ IntsAre us ps) (hz : ps.length ≤ 1000)
    (hw : wd < 3) (hs : sh < 4) (hb : bits = (2 ^ wd - 1) * 2 ^ sh) (h0 : 0 ≤ r.ma) (h9 : r.ma < 32)
    (ret0 : choose ps ((r.ma.fdiv (2 ^ sh)).fmod (2 ^ wd)) = none → ∀ o' h' tk' t', g.StaysIn h' → g.objs.size ≤ h'.objs.size → LedIn g h' [(dx, o')] → InfoD w.params r o' → Q (.int (-1) t') { s with heap := h', toks := tk' })
    (ret1 : ∀ n, choose ps ((r.ma.fdiv (2 ^ sh)).fmod (2 ^ wd)) = some n → ∀ o' h' tk' t', g.StaysIn h' → g.objs.size ≤ h'.objs.size → LedIn g h' [(dx, o')] → InfoD w.params { r with gl := n } o' → Q (.int (i + 1) t') { s with heap := h', toks := tk' }) :
    wpAny (model PySem.Challenge.rw_nu0223_01.row.prog w) (AA 800 8000) (call (.ref 249) [.ref sc, .ref tb, .int (i : Nat) t]) Q E s := by
  obtain ⟨kt, rfl⟩ := hi
  obtain ⟨a1, a2, a3, a4, a5, a6, a7, c5, c6, l, l2, rfl⟩ := hS
  obtain ⟨b1, b2, b3, b4, d3, d4, rfl⟩ := hB
  obtain ⟨e1, rfl⟩ := hT
  refine enter (binds := [(Str.ofString "scene", .ref sc), (Str.ofString "table", .ref tb), (Str.ofString "at", .int (i : Nat) t)]) G stay hsz N (by k_is) (by k_is) (by decide) (BindsTo.of_eq rfl) (locs rfl) ?_
  · intro mean mg mb L' h₁ X T F N' lt eL
    dsimp only [List.reverse, List.reverseAux] at F
    rcases hf with ⟨hf, rfl⟩ | ⟨tp, us, hf, htp, hus⟩
    · k_fold
      k_steps
      all_goals (try dsimp only)
      all_goals (rename Fr _ _ _ _ => Fz; rename News _ _ _ _ => Nz)
      all_goals (first
        | refine Out.ret _ Fz Nz (fun hZ tkZ kZ1 kZ2 kZ3 => ret0 ?_ _ hZ tkZ _ kZ1 kZ2 (fun p hp => List.mem_singleton.mp hp ▸ kZ3 _ (.tail _ (.head _))) ⟨tkOf [_, _, _, _, _, _, _, _, _, _, _, _, _, _, _, _, _, _, _, _, _, _, _, _, _, _, _, _, _, _, _], rfl⟩)
        | refine Out.ret _ Fz Nz (fun hZ tkZ kZ1 kZ2 kZ3 => ret1 (ps.getD ((r.ma.fdiv (2 ^ sh)).fmod (2 ^ wd) - 1).toNat 0) ?_ _ hZ tkZ _ kZ1 kZ2 (fun p hp => List.mem_singleton.mp hp ▸ kZ3 _ (.tail _ (.head _))) ⟨tkOf [_, _, _, _, _, _, _, _, _, _, _, _, _, _, _, _, _, _, _, _, _, _, _, _, _, _, _, _, _, _, _], rfl⟩))
      all_goals (first
        | exact choose_none (.inl (by assumption))
        | exact choose_none (.inr (by assumption))
        | exact choose_some (by assumption) (by assumption)
        | exact choose_nil)
    · k_fold
      k_steps
      all_goals (try dsimp only)
      all_goals (rename Fr _ _ _ _ => Fz; rename News _ _ _ _ => Nz)
      all_goals (first
        | refine Out.ret _ Fz Nz (fun hZ tkZ kZ1 kZ2 kZ3 => ret0 ?_ _ hZ tkZ _ kZ1 kZ2 (fun p hp => List.mem_singleton.mp hp ▸ kZ3 _ (.tail _ (.head _))) ⟨tkOf [_, _, _, _, _, _, _, _, _, _, _, _, _, _, _, _, _, _, _, _, _, _, _, _, _, _, _, _, _, _, _], rfl⟩)
        | refine Out.ret _ Fz Nz (fun hZ tkZ kZ1 kZ2 kZ3 => ret1 (ps.getD ((r.ma.fdiv (2 ^ sh)).fmod (2 ^ wd) - 1).toNat 0) ?_ _ hZ tkZ _ kZ1 kZ2 (fun p hp => List.mem_singleton.mp hp ▸ kZ3 _ (.tail _ (.head _))) ⟨tkOf [_, _, _, _, _, _, _, _, _, _, _, _, _, _, _, _, _, _, _, _, _, _, _, _, _, _, _, _, _, _, _], rfl⟩))
      all_goals (first
        | exact choose_none (.inl (by assumption))
        | exact choose_none (.inr (by assumption))
        | exact choose_some (by assumption) (by assumption)
        | exact choose_nil)
end
section
section
variable {prog : Program} {w : World} {A : Around} {E : Value → Shared → Prop} {s : Shared} {h₀ : Heap} {L : Addr} {m : Str → Option Value}
noncomputable def sliceSet (vs ws : List Value) (a b : Nat) : List Value := vs.take a ++ ws ++ vs.drop (max a b)
theorem wp_listItems {l : Addr} {items : Array Value} {Q : Array Value → Shared → Prop} {M : Model} (hl : s.heap.IsList l items) (h : Q items s) : wpAny M A (Builtin.List.listItems (.ref l)) Q E s := by
  obtain ⟨o, ho, _, ne, hd⟩ := hl
  unfold Builtin.List.listItems
  exact wpAny_bind (wpAny_seqItems ho hd (wpAny_pure h))
theorem mapSeq_list (f : Array Value → Array Value) (xs : Array Value) (n : Nat) : ∃ n', Obj.mapSeq f (listOf xs n) = listOf (f xs) n' := ⟨_, rfl⟩
theorem setItem_slice {l sl b : Addr} {vs ws : List Value} {vl vu : Value} {lo hi : Option Int} {c d : Nat} {Q : Unit → Shared → Prop} {nl : Nat} (ho : s.heap.get? l = some (listOf vs.toArray nl)) (hs : s.heap.IsSliceOf sl vl vu .none) (pl : IsPart vl lo) (pu : IsPart vu hi)
    (hb : s.heap.IsList b ws.toArray) (hne : (l == b) = false) (hc : sliceBounds lo hi none vs.length = ((c : Int), (d : Int), 1)) (hcn : c ≤ vs.length) (hdn : d ≤ vs.length) (hz : vs.length + ws.length ≤ 1000000)
    (h : ∀ h' n', h'.get? l = some (listOf (sliceSet vs ws c d).toArray n') → Heap.SameBut l s.heap h' → Q () { s with heap := h' }) :
    wpAny (model prog w) A (setItem (.ref l) (.ref sl) (.ref b)) Q E s := by
  have hl : s.heap.IsList l vs.toArray := PySem.IsL.isList ho
  have hd : (listOf vs.toArray nl).data = .seq vs.toArray nl := rfl
  obtain ⟨os, hos, hcs, hds⟩ := id hs
  have hTs : s.TypeIs (.ref sl) "slice" := ⟨os, hos, hcs⟩
  unfold setItem
  try with_reducible refine wpAny_holding ?_
  first | refine wpAny_bind (wpAny_pure ?_) | skip
  refine wpAny_bind (wpAny_sequenceKey hl.typeIs (by decide) ?_)
  refine wpAny_bind (wpAny_callSpecial?_slot (name := Str.ofString "__setitem__") hl.typeIs slot_list_setitem
    (wpAny_call_entry slot_list_setitem hl.typeIs entry_list_setitem ?_ (args_list_setitem _ _ _)))
  show wpAny _ _ (Builtin.List.listSubscript? (.ref sl) >>= _) _ _ s
  refine wpAny_bind ?_
  unfold Builtin.List.listSubscript?
  refine wpAny_bind (wpAny_specialOf hTs slice_no_index ?_)
  simp only [Option.isNone_none, if_true]
  refine wpAny_pure ?_
  show wpAny _ _ (typeOf (.ref sl) >>= _) _ _ s
  refine wpAny_bind (wpAny_typeOf hTs ?_)
  rw [if_neg (by decide)]
  rw [listSliceParts_eq]
  refine wpAny_bind (wpAny_bind (wpAny_field hos hds (x := .none) rfl (wpAny_bind (wpAny_listPart .none ?_))))
  rw [if_neg (show ¬ ((rawPart none == rawInt 0) = true) from Bool.false_ne_true)]
  refine wpAny_bind (wpAny_field hos hds (x := vl) rfl (wpAny_bind (wpAny_listPart pl ?_)))
  refine wpAny_bind (wpAny_field hos hds (x := vu) rfl (wpAny_bind (wpAny_listPart pu (wpAny_pure ?_))))
  have e1 : Builtin.List.listSameRef (.ref l) (.ref b) = false := hne
  dsimp only
  rw [if_neg (by rw [e1]; decide)]
  refine wpAny_bind (m := Builtin.List.listAllItems (.ref b) _) ?_
  unfold Builtin.List.listAllItems
  refine wpAny_bind (wpAny_typeOf hb.typeIs ?_)
  rw [if_pos (by decide)]
  refine wp_listItems hb ?_
  refine wpAny_bind (m := Builtin.List.listItems (.ref l)) (wp_listItems hl ?_)
  refine wpAny_bind (wpAny_of_eq (sliceIndices_raw lo hi none vs.toArray.size (by simp)) ?_)
  rw [List.size_toArray, hc]
  dsimp only
  rw [if_pos (by decide)]
  refine wpAny_bind (wpAny_rule ?_)
  rw [if_neg (by simp [Builtin.List.listTooLong, sizeLine_eq]; omega)]
  obtain ⟨n', hd'⟩ := Obj.data_mapSeq hd (fun xs => xs.extract 0 (c : Int).toNat ++ ws.toArray ++ xs.extract (max (c : Int) (d : Int)).toNat xs.size)
  have es : (vs.toArray.extract 0 (c : Int).toNat ++ ws.toArray ++ vs.toArray.extract (max (c : Int) (d : Int)).toNat vs.toArray.size) = (sliceSet vs ws c d).toArray := by
    have e2 : (max (c : Int) (d : Int)).toNat = max c d := by omega
    rw [e2, Int.toNat_natCast]
    unfold sliceSet
    apply Array.toList_inj.mp
    simp only [List.extract_toArray, List.extract_eq_take_drop, Nat.sub_zero, List.drop_zero, List.append_toArray, List.append_assoc]
    rw [List.take_of_length_le (l := List.drop _ _) (by simp)]
  rw [es] at hd'
  obtain ⟨n2, hfin⟩ : ∃ n2, (s.heap.update l (Obj.mapSeq fun xs => xs.extract 0 (c : Int).toNat ++ ws.toArray ++ xs.extract (max (c : Int) (d : Int)).toNat xs.size)).get? l = some (listOf (sliceSet vs ws c d).toArray n2) := by
    rw [Heap.get?_update_self _ ho (Obj.isFreed_of_seq hd')]
    obtain ⟨n2, e⟩ := mapSeq_list (fun xs => xs.extract 0 (c : Int).toNat ++ ws.toArray ++ xs.extract (max (c : Int) (d : Int)).toNat xs.size) vs.toArray nl
    exact ⟨n2, by rw [e, es]⟩
  have hss : (sliceSet vs ws c d).length ≤ vs.length + ws.length := by unfold sliceSet; simp; omega
  refine wpAny_bind (m := Builtin.List.listUpdate (.ref l) _) (wpAny_updateSeq ho hd ?_ (by rw [sizeLine_eq, List.size_toArray]; omega) (by rw [es, sizeLine_eq, List.size_toArray]; omega))
  refine wpAny_bind (wpAny_letGo ?_)
  exact wpAny_pure ⟨.none, rfl, wpAny_pure (h _ n2 hfin (Heap.SameBut.update ..))⟩
theorem pick_one {vs : List Value} {v : Value} {i : Nat} (h : vs[i]? = some v) : (slicePick vs.toArray (some (i : Int)) (some ((i : Int) + 1)) none).toList = [v] := by
  obtain ⟨hi, hv⟩ := List.getElem?_eq_some_iff.mp h
  have e := slicePick_run vs.toArray i (i + 1) (by simp; omega) (by omega)
  rw [show ((i + 1 : Nat) : Int) = (i : Int) + 1 by omega] at e
  rw [e]
  have e3 : i + 1 - i = 1 := by omega
  simp only [e3]
  rw [List.drop_eq_getElem_cons hi, hv]
  rfl
theorem pick_from {vs : List Value} {a : Int} (h : 0 ≤ a) : (slicePick vs.toArray (some a) none none).toList = vs.drop a.toNat := by
  obtain ⟨i, rfl⟩ := Int.eq_ofNat_of_zero_le h
  rw [slicePick_from']; simp
theorem pick_upto {vs : List Value} {b : Int} (h : 0 ≤ b) : (slicePick vs.toArray none (some b) none).toList = vs.take b.toNat := by
  obtain ⟨i, rfl⟩ := Int.eq_ofNat_of_zero_le h
  rw [slicePick_upto']; simp
theorem pick_zero {vs : List Value} {b : Int} (h : 0 ≤ b) : (slicePick vs.toArray (some 0) (some b) none).toList = vs.take b.toNat := by
  obtain ⟨i, rfl⟩ := Int.eq_ofNat_of_zero_le h
  have e := slicePick_plain vs.toArray (some 0) (some (i : Int))
  rw [e]
  simp only [Option.elim, clipAt_nat]
  rw [show clipAt vs.toArray.size 0 = 0 from by have := clipAt_nat vs.toArray.size 0; simpa using this]
  simp only [List.drop_zero, Nat.sub_zero, Int.toNat_natCast, List.size_toArray]
  rcases Nat.le_total i vs.length with h | h
  · rw [Nat.min_eq_left h]
  · rw [Nat.min_eq_right h, List.take_of_length_le (by simp), List.take_of_length_le (by simpa using h)]
theorem bounds_one {n i : Nat} (h : i < n) : sliceBounds (some (i : Int)) (some ((i : Int) + 1)) none n = ((i : Int), ((i + 1 : Nat) : Int), 1) := by
  rw [show (i : Int) + 1 = ((i + 1 : Nat) : Int) by omega, sliceBounds_plain]
  simp only [Option.elim, clipAt_nat]
  rw [Nat.min_eq_left (by omega), Nat.min_eq_left (by omega)]
/-- a slice's store upon a list of the ledger -/
theorem l_setSlice {l sl b : Addr} {vs ws : List Value} {nl nb : Nat} {vl vu : Value} {lo hi : Option Int} {c d : Nat} {news : List (Addr × Obj)} {g : Obj → List (Addr × Obj)} {Q : Unit → Shared → Prop} (F : Fr h₀ L s.heap m) (N : News h₀ L s.heap news)
    (U : UpdF l (listOf vs.toArray nl) news g) (hb : (b, listOf ws.toArray nb) ∈ news) (hs : s.heap.IsSliceOf sl vl vu .none) (pl : IsPart vl lo) (pu : IsPart vu hi)
    (hne : (l == b) = false) (hc : sliceBounds lo hi none vs.length = ((c : Int), (d : Int), 1)) (hcn : c ≤ vs.length) (hdn : d ≤ vs.length) (hz : vs.length + ws.length ≤ 1000000)
    (h : ∀ h' n', Fr h₀ L h' m → News h₀ L h' (g (listOf (sliceSet vs ws c d).toArray n')) → Q () { s with heap := h' }) :
    wpAny (model prog w) A (setItem (.ref l) (.ref sl) (.ref b)) Q E s := by
  obtain ⟨pre, post, rfl, hg, a1, a2⟩ := U.split
  have hm := N (l, listOf vs.toArray nl) (List.mem_append_right _ (.head _))
  refine setItem_slice hm.1 hs pl pu (PySem.IsL.isList (N _ hb).1) hne hc hcn hdn hz fun h' n' e sb => ?_
  exact h h' n' (F.change sb hm.2.1 hm.2.2) (hg _ ▸ N.setIn a1 a2 sb e)
theorem l_setSlice1 {l b : Addr} {vs ws : List Value} {nl nb i : Nat} {u v : Tok} {news : List (Addr × Obj)} {g : Obj → List (Addr × Obj)} {Q : Unit → Shared → Prop} (F : Fr h₀ L s.heap m) (N : News h₀ L s.heap news)
    (U : UpdF l (listOf vs.toArray nl) news g) (hb : (b, listOf ws.toArray nb) ∈ news) (hne : @Ne Nat l b) (hi : i < vs.length) (hz : vs.length + ws.length ≤ 1000000)
    (h : ∀ h' n', Fr h₀ L h' m → News h₀ L h' (g (listOf (sliceSet vs ws i (i + 1)).toArray n')) → Q () { s with heap := h' }) :
    wpAny (model prog w) A (setItem (.ref l) (.ref s.heap.objs.size) (.ref b)) Q E { s with heap := s.heap.push { cls := .type "slice", data := .fields #[.int (i : Nat) u, .int ((i : Nat) + 1) v, .none] } } :=
  l_setSlice (s := { s with heap := s.heap.push { cls := .type "slice", data := .fields #[.int (i : Nat) u, .int ((i : Nat) + 1) v, .none] } }) (F.push _) (N.grown fun _ _ e => Heap.get?_push_of_some _ e) U hb (Heap.IsSliceOf.new ..) (.int _ _) (.int _ _)
    (beq_eq_false_iff_ne.mpr hne) (bounds_one hi) (Nat.le_of_lt hi) hi hz h
end
end
section
theorem st24 : True := by w_top off; k_with_none; trivial
theorem st25 : True := by
  k_with "my all" => (assumption)
  k_with "my range" => (first | (with_unfolding_all refine range1_rows ‹Fr _ _ _ _› ‹News _ _ _ _› ?_) | (with_unfolding_all refine range2_rows ‹Fr _ _ _ _› ‹News _ _ _ _› ?_))
  k_with "my inst" => (first
    | (refine' inst_base ?F ?h1 ?h2; (case F => k_asm); (case h1 => assumption); (case h2 => assumption))
    | (refine' inst_half ?F ?N ?h1 ?h2; (case F => k_asm); (case N => k_asm); (case h1 => assumption); (case h2 => k_mem)))
  k_with "my ne" => ((try dsimp only); first | with_reducible assumption | (refine Ne.symm ?_; with_reducible assumption) | (have h9 := ‹(_ ≠ _ ∧ _ ≠ _ ∧ _ ≠ _) ∧ _›; first | exact h9.1.1 | exact h9.1.2.1 | exact h9.1.2.2 | exact h9.2.1.1 | exact h9.2.1.2.1 | exact h9.2.1.2.2 | exact h9.2.2.1 | exact h9.2.2.2.1 | exact h9.2.2.2.2 | exact h9.2.1 | exact h9.2.2.1 | exact h9.2.2.2))
  k_with "my pick" => (first | exact Pick.nil | (refine' Pick.take (by k_mem) (by walk_at "my pick")) | (refine' Pick.skip (by k_all) (by walk_at "my pick")) | (refine Pick.all (by assumption)))
  k_with "call ref" => (k_here; (with_reducible show wpAny _ _ (call (Value.ref 283) [Value.ref _, Value.int _ _]) _ _ _); k_dflt (refine' draw_at (by k_asm) (by k_asm) (by k_asm) (by k_asm) (by rfl) (by exact Nat.le_of_ble_eq_true rfl) (by exact Nat.le_of_ble_eq_true rfl) (by k_asm) (by k_asm) (by k_mem) (by k_mem) (by walk_at "my pick") (by omega) (by decide) (by decide) ?_); intro _ _ _ _ _ _ _ _ _ _ _; (try k_sweep))
  trivial
theorem st26 : True := by
  k_with "call ref" => (k_here; (with_reducible show wpAny _ _ (call (Value.ref 52) [Value.int _ _, Value.int _ _, Value.int _ _]) _ _ _); k_dflt (refine' info_at (by k_asm) (by k_asm) (by k_asm) (by k_asm) (by rfl) (by exact Nat.le_of_ble_eq_true rfl) (by exact Nat.le_of_ble_eq_true rfl) ?_); walk_at "my new"; (try k_sweep))
  trivial
theorem st27 : True := by
  k_with "compareOp NotIn int ref" => (k_here; k_dflt (first | (refine' m_nin0 (by k_asm) (by assumption) (by assumption) (by assumption) ?_; k_whole) | (refine' m_nin (by k_asm) (by assumption) (by assumption) (by assumption) ?_; k_whole)))
  k_with "compareOp In int ref" => (k_here; k_dflt (first | (refine' m_in0 (by k_asm) (by assumption) (by assumption) (by assumption) ?_; k_whole) | (refine' m_in (by k_asm) (by assumption) (by assumption) (by assumption) ?_; k_whole)))
  k_with "subscriptTail" => (k_here; (with_reducible show wpAny _ _ (subscriptTail _ _ (Value.ref _) (Value.int _ _)) _ _ _); k_dflt (first | (refine' m_item (by k_asm) (by assumption) (by assumption) ?_; k_whole) | (refine' b_item (by k_asm) (by assumption) (by omega) (by omega) (by assumption) ?_; k_whole) | (refine' l_item (by k_asm) (by k_mem) (by omega) (by omega) (by assumption) ?_; k_whole)))
  trivial
set_option maxHeartbeats 4000000 in
theorem merge1_spec {w : World} {g : Heap} {s : Shared} {buf : Addr} {b e : Int} {t1 t2 : Tok} {Q E : Value → Shared → Prop}
    (G : Gd w g) (stay : g.StaysIn s.heap) (hsz : g.objs.size ≤ s.heap.objs.size) (hbe : e - b < 2) 
    (ret : ∀ h' tk', g.StaysIn h' → g.objs.size ≤ h'.objs.size → Q .none { s with heap := h', toks := tk' }) :
    wpAny (model PySem.Challenge.rw_nu0223_01.row.prog w) (AA 900 9000) (call (.ref 126) [.ref buf, .int b t1, .int e t2]) Q E s := by
  refine enter (news := []) (binds := [(Str.ofString "buffer", .ref buf), (Str.ofString "begin", .int b t1), (Str.ofString "end", .int e t2)]) G stay hsz (fun _ h => nomatch h) (by k_is) (by k_is) (by decide) (BindsTo.of_eq rfl) (locs rfl) ?_
  · intro mean mg mb L' h₁ X T F N' lt eL
    dsimp only [List.reverse, List.reverseAux] at F
    k_fold
    k_steps
    all_goals (try dsimp only)
    · exact Out.ret _ (by k_asm) (by k_asm) (fun hZ tkZ kZ1 kZ2 kZ3 => ret hZ tkZ kZ1 kZ2)
section
variable {w : World} {A : Around} {E : Value → Shared → Prop} {s : Shared} {h₀ : Heap} {L : Addr} {m : Str → Option Value} {news : List (Addr × Obj)} {mean : ExcName → Option Value} {mg mb : Str → Option Value} {Q : Value → Shared → Prop}
theorem merge1_at {buf : Addr} {b e : Int} {t1 t2 : Tok} (X : (Mine.hd.heap_1 w.params).In h₀) (T : Top Mine.vw (looseW Mine.vw []) mean mg mb h₀) (F : Fr h₀ L s.heap m) (N : News h₀ L s.heap news)
    (hA : A.handled = none) (hd : A.depth ≤ 900) (hu : A.units ≤ 9000) (hbe : e - b < 2)
    (h : ∀ h' tk', Fr h₀ L h' m → News h₀ L h' news → Q .none { s with heap := h', toks := tk' }) :
    wpAny (model PySem.Challenge.rw_nu0223_01.row.prog w) A (call (.ref 126) [.ref buf, .int b t1, .int e t2]) Q E s := by
  obtain ⟨g, a1, a2, a3, a4, _, a6⟩ := siteP [] F N (fun _ h => nomatch h) (.all fun _ _ _ h => nomatch h)
  refine wp_le (merge1_spec ((gd X T).keeps a1) a2 a3 hbe ?_) hA hd hu rfl rfl
  intro h' tk' k1 _
  obtain ⟨F', N'⟩ := a6 h' [] k1 (fun _ h => nomatch h)
  exact h h' tk' F' N'
theorem copied_at {x dx : Addr} {r : Row} {o : Obj} (X : (Mine.hd.heap_1 w.params).In h₀) (T : Top Mine.vw (looseW Mine.vw []) mean mg mb h₀) (F : Fr h₀ L s.heap m) (N : News h₀ L s.heap news)
    (hA : A.handled = none) (hd : A.depth ≤ 920) (hu : A.units ≤ 9400) (hx : h₀.get? x = some (instObj 52 dx)) (hm : (dx, o) ∈ news) (hi : InfoD w.params r o)
    (h : ∀ x' dx' o' h' tk', Fr h₀ L h' m → News h₀ L h' ((x', instObj 52 dx') :: (dx', o') :: news) → InfoD w.params r o' → (∀ p ∈ news, p.1 < dx') → @LT.lt Nat _ dx' x' → @LT.lt Nat _ L dx' → Q (.ref x') { s with heap := h', toks := tk' }) :
    wpAny (model PySem.Challenge.rw_nu0223_01.row.prog w) A (call (.ref 42) [.ref x]) Q E s := by
  obtain ⟨g, a1, a2, a3, a4, a5, a6⟩ := siteP [] F N (fun _ h => nomatch h) (.all fun _ _ _ h => nomatch h)
  refine wp_le (copied_spec ((gd X T).keeps a1) a2 a3 (a1 _ _ hx) (a5 _ hm) hi ?_) hA hd hu rfl rfl
  intro x' dx' o' h' tk' k1 _ k3 k4 k5 k6
  obtain ⟨F', N'⟩ := a6 h' _ k1 k3
  exact h x' dx' o' h' tk' F' N' k4 (fun p hp => Nat.lt_of_lt_of_le (Heap.lt_size (N p hp).1) k5) k6 (Nat.lt_of_lt_of_le F.ns.lt k5)
end
end
section
section
variable {prog : Program} {w : World} {A : Around} {E : Value → Shared → Prop} {s : Shared} {env : Env} {h₀ : Heap} {x : Str} {body : List Stmt} {Q : Flow → Shared → Prop}
/-- a for over a tuple of the base -/
theorem tup_iter {l : Addr} {vs : List Value} {m₀ : Str → Option Value} {news : List (Addr × Obj)} (J : Nat → (Str → Option Value) → List (Addr × Obj) → Prop)
    (hh : A.handled = none) (hl : IsTup h₀ l vs.toArray) (F : Fr h₀ env.locals s.heap m₀) (N : News h₀ env.locals s.heap news) (hj : J 0 m₀ news)
    (turn : ∀ i v m₁ nx h tk own, vs[i]? = some v → OwnOff own (nx.map (·.1)) → J i m₁ nx → Fr h₀ env.locals h (fun y => if y = x then some v else m₁ y) → News h₀ env.locals h (nx ++ own) →
      wpAny (model prog w) A (execs body env) (Turn h₀ env.locals (J (i + 1)) own { s with heap := h, toks := tk } Q) E { s with heap := h, toks := tk })
    (done : ∀ m₁ nx h tk, J vs.length m₁ nx → Fr h₀ env.locals h m₁ → News h₀ env.locals h nx → Q .next { s with heap := h, toks := tk }) :
    wpAny (model prog w) A (pyIter (.ref l)) (fun it s₂ => LoopAtV prog w A h₀ env x body Q E it s₂) E s := by
  have hT : s.heap.IsTuple l vs.toArray := F.tup hl
  have hb : ∃ o, h₀.get? l = some o := let ⟨o, e, _⟩ := hl; ⟨o, e⟩
  obtain ⟨ol, hol⟩ := hb
  have hlt : l < h₀.objs.size := Heap.lt_size hol
  have hlL : l < env.locals := Nat.lt_of_lt_of_le hlt F.above
  have hne : l ≠ s.heap.objs.size := Nat.ne_of_lt (Nat.lt_trans hlL F.ns.lt)
  have hI0 : h₀.get? s.heap.objs.size = none := next_is_new F
  refine wpAny_pyIter_tuple hT ?_
  have W := Walks.tuple (prog := prog) (w := w) hh s.heap.objs.size l hne vs.toArray
  rw [List.size_toArray] at W
  refine ⟨_, _, _, vs.length, _, _, m₀, news, J, rfl, W, ?_, ?_, ?_, ⟨⟨_, Heap.get?_push_size _ rfl, rfl, rfl⟩, hT.at fun o e => Heap.get?_push_of_some _ e⟩, F.push _, (fun p hp => ⟨Heap.get?_push_of_some _ (N p hp).1, (N p hp).2⟩), hj, ?_, ?_⟩
  · intro hm
    rcases List.mem_cons.mp hm with e | hm
    · exact absurd F.ns.lt (by rw [e]; exact Nat.lt_irrefl _)
    · exact absurd hlL (by rw [← List.mem_singleton.mp hm]; exact Nat.lt_irrefl _)
  · intro b hb
    rw [List.mem_singleton.mp hb]; exact hI0
  · intro p hp hI
    exact absurd (Heap.lt_size (N p hp).1) (by rw [List.mem_singleton.mp hI]; exact Nat.lt_irrefl _)
  · rintro i v m₁ nx s₁ own ⟨hh', tk', rfl⟩ hin hP hJ hoff hown hget hfp hst F₁ N₁
    have hP' : vs[i]? = some v := by simpa using hP
    have hsep : OwnOff own (nx.map (·.1)) := by
      intro p hp b hb e
      obtain ⟨q, hq, rfl⟩ := List.mem_map.mp hb
      rcases List.mem_cons.mp (hown p hp) with h1 | h1
      · exact hoff q hq (List.mem_singleton.mpr (e ▸ h1))
      · have h2 := (N₁ q (List.mem_append.mpr (.inr hq))).2.2
        rw [← e, List.mem_singleton.mp h1, hol] at h2
        cases h2
    have N₂ : News h₀ env.locals hh' (nx ++ own) := fun p hp => N₁ p ((List.mem_append.mp hp).elim (fun h => List.mem_append.mpr (.inr h)) fun h => List.mem_append.mpr (.inl h))
    obtain ⟨⟨oI, hoI, _⟩, _⟩ := id hst
    have hIown : (s.heap.objs.size, oI) ∈ own := hfp _ (List.mem_cons.mpr (.inl rfl)) hI0 _ hoI
    refine wpAny_mono (turn i v m₁ nx hh' tk' own hP' hsep hJ F₁ N₂) (fun f s₂ p => ?_) fun _ _ e => e
    have fin : InvEndG h₀ env.locals (J (i + 1)) own { s with heap := hh', toks := tk' } s₂ → LoopStepU h₀ env.locals [s.heap.objs.size] own (J (i + 1)) { s with heap := hh', toks := tk' } .next s₂ := by
      rintro ⟨h', tk, m', news', nx', e, F', N', hn, ho, ha, hm⟩
      refine ⟨rfl, h', tk, m', nx', e, F', fun p hp => N' p ((List.mem_append.mp hp).elim (ho p) (hn p)), fun p hp hq => ?_, hm⟩
      exact ha _ hIown p.1 (List.mem_map.mpr ⟨p, hp, rfl⟩) (List.mem_singleton.mp hq).symm
    cases f with
    | ret v => exact .ret p
    | brk => exact .brk p
    | next => exact .next (fin p)
    | cont => exact .cont (fin p)
  · rintro h' tk m' news' F' N' _ hJ
    exact done m' news' h' tk hJ F' N'
end
end
section
noncomputable abbrev tupOf (its : Array Value) (n : Nat) : Obj := { cls := .type "tuple", data := .seq its n }
theorem tupX {h : Heap} {tp : Addr} {us : List Value} {n : Nat} (e : h.get? tp = some (tupOf us.toArray n)) : IsTup h tp us.toArray := ⟨_, e, rfl, _, rfl⟩
structure Cell where
  x : Addr
  dx : Addr
  o : Obj
noncomputable def cled : List Cell → List (Addr × Obj)
  | [] => []
  | c :: r => (c.x, instObj 52 c.dx) :: (c.dx, c.o) :: cled r
noncomputable def crefs (cs : List Cell) : List Value := cs.map fun c => .ref c.x
theorem cled_append : ∀ a b : List Cell, cled (a ++ b) = cled a ++ cled b
  | [], _ => rfl
  | _ :: r, b => by simp [cled, cled_append r b]
noncomputable def Cells (P : Params) (cs : List Cell) (rs : List Row) : Prop := All2 (fun c r => InfoD P r c.o) cs rs
/-- addresses apart -/
noncomputable def Apart (l : List (Addr × Obj)) : Prop := (l.map (·.1)).Nodup
theorem Apart.off {a : Addr × Obj} {l : List (Addr × Obj)} (h : Apart (a :: l)) : ∀ p ∈ l, p.1 ≠ a.1 := fun p hp e => (List.nodup_cons.mp h).1 (List.mem_map.mpr ⟨p, hp, e⟩)
theorem Apart.tl {a : Addr × Obj} {l : List (Addr × Obj)} (h : Apart (a :: l)) : Apart l := (List.nodup_cons.mp h).2
theorem Apart.congr {a b : List (Addr × Obj)} (e : a.map (·.1) = b.map (·.1)) (h : Apart a) : Apart b := by unfold Apart; rw [← e]; exact h
theorem Apart.two {a b : List (Addr × Obj)} (h : Apart (a ++ b)) : Apart a ∧ Apart b ∧ ∀ p ∈ a, ∀ q ∈ b, p.1 ≠ q.1 := by
  unfold Apart at *
  rw [List.map_append, List.nodup_append] at h
  exact ⟨h.1, h.2.1, fun p hp q hq => h.2.2 _ (List.mem_map_of_mem hp) _ (List.mem_map_of_mem hq)⟩
theorem Apart.of_two {a b : List (Addr × Obj)} (ha : Apart a) (hb : Apart b) (h : ∀ p ∈ a, ∀ q ∈ b, p.1 ≠ q.1) : Apart (a ++ b) := by
  unfold Apart at *
  rw [List.map_append, List.nodup_append]
  refine ⟨ha, hb, fun x hx y hy => ?_⟩
  obtain ⟨p, hp, rfl⟩ := List.mem_map.mp hx
  obtain ⟨q, hq, rfl⟩ := List.mem_map.mp hy
  exact h p hp q hq
theorem Apart.mid {a b c : List (Addr × Obj)} (h : Apart (a ++ (b ++ c))) : (∀ p ∈ a ++ c, ∀ q ∈ b, p.1 ≠ q.1) ∧ Apart b := by
  obtain ⟨_, h2, h3⟩ := h.two
  obtain ⟨h4, _, h5⟩ := h2.two
  refine ⟨fun p hp q hq => ?_, h4⟩
  rcases List.mem_append.mp hp with hp | hp
  · exact h3 p hp q (List.mem_append.mpr (.inl hq))
  · exact (h5 q hq p hp).symm
theorem Apart.pair {p q : Addr × Obj} (h : Apart [p, q]) : p.1 ≠ q.1 := by unfold Apart at h; simp at h; exact h
theorem Apart.snoc2 {a : List (Addr × Obj)} {p q : Addr × Obj} (h : Apart a) (h1 : ∀ x ∈ a, @LT.lt Nat _ x.1 q.1) (h2 : @LT.lt Nat _ q.1 p.1) : Apart (a ++ [p, q]) := by
  unfold Apart at *
  rw [List.map_append, List.nodup_append]
  refine ⟨h, by simp; exact Nat.ne_of_gt h2, fun x hx y hy => ?_⟩
  obtain ⟨z, hz, rfl⟩ := List.mem_map.mp hx
  have := h1 z hz
  simp only [List.map_cons, List.map_nil, List.mem_cons, List.not_mem_nil, or_false] at hy
  rcases hy with rfl | rfl
  · exact Nat.ne_of_lt (Nat.lt_trans this h2)
  · exact Nat.ne_of_lt this
section
variable {w : World} {A : Around} {E : Value → Shared → Prop} {s : Shared} {h₀ : Heap} {L : Addr} {m : Str → Option Value} {news : List (Addr × Obj)} {prog : Program}
theorem t_true {tp : Addr} {us : List Value} {ps : List Int} {n : Nat} {Q : Bool → Shared → Prop} (F : Fr h₀ L s.heap m) (ht : h₀.get? tp = some (tupOf us.toArray n)) (hu : IntsAre us ps) (h0 : 0 < ps.length) (hz : ps.length ≤ 1000) (h : Q true { s with toks := s.toks + 1 + 1 }) :
    wpAny (model prog w) A (truthy (.ref tp)) Q E s := by
  have hl := hu.length
  refine ktl_truthy (F.keep _ _ ht) (by rw [List.size_toArray]; omega) ?_
  have e : (!us.toArray.isEmpty) = true := by rw [List.isEmpty_toArray]; cases us with | nil => simp at hl; omega | cons _ _ => rfl
  rw [e]; exact h
theorem t_false {tp : Addr} {us : List Value} {ps : List Int} {n : Nat} {Q : Bool → Shared → Prop} (F : Fr h₀ L s.heap m) (ht : h₀.get? tp = some (tupOf us.toArray n)) (hu : IntsAre us ps) (h0 : ps.length = 0) (h : Q false { s with toks := s.toks + 1 + 1 }) :
    wpAny (model prog w) A (truthy (.ref tp)) Q E s := by
  have hl := hu.length
  refine ktl_truthy (F.keep _ _ ht) (by rw [List.size_toArray]; omega) ?_
  have e : (!us.toArray.isEmpty) = false := by rw [List.isEmpty_toArray]; cases us with | nil => rfl | cons _ _ => simp at hl; omega
  rw [e]; exact h
theorem eq_nil {a b : Addr} {vs : List Value} {n k : Nat} {Q : Value → Shared → Prop} (N : News h₀ L s.heap news) (ha : (a, listOf vs.toArray n) ∈ news) (hb : (b, listOf #[] k) ∈ news) (hv : 0 < vs.length) (hu : A.units < cLine) (h : Q (.bool false) s) :
    wpAny (model prog w) A (compareOp .Eq (.ref a) (.ref b)) Q E s :=
  PySem.SeqAt.RcAt.lists_lengths (PySem.IsL.isList (N _ ha).1) (PySem.IsL.isList (N _ hb).1) (by simp; intro e; subst e; simp at hv) hu prog w E Q h
end
theorem st28 : True := by w_top off; k_with_none; trivial
theorem st29 : True := by
  k_with "my all" => (assumption)
  k_with "my range" => (first | (with_unfolding_all refine range1_rows ‹Fr _ _ _ _› ‹News _ _ _ _› ?_) | (with_unfolding_all refine range2_rows ‹Fr _ _ _ _› ‹News _ _ _ _› ?_))
  k_with "my inst" => (first
    | (refine' inst_base ?F ?h1 ?h2; (case F => k_asm); (case h1 => assumption); (case h2 => assumption))
    | (refine' inst_half ?F ?N ?h1 ?h2; (case F => k_asm); (case N => k_asm); (case h1 => assumption); (case h2 => k_mem)))
  k_with "my ne" => ((try dsimp only); first | with_reducible assumption | (refine Ne.symm ?_; with_reducible assumption) | (have h9 := ‹(_ ≠ _ ∧ _ ≠ _ ∧ _ ≠ _) ∧ _›; first | exact h9.1.1 | exact h9.1.2.1 | exact h9.1.2.2 | exact h9.2.1.1 | exact h9.2.1.2.1 | exact h9.2.1.2.2 | exact h9.2.2.1 | exact h9.2.2.2.1 | exact h9.2.2.2.2 | exact h9.2.1 | exact h9.2.2.1 | exact h9.2.2.2))
  k_with "my pick" => (first | exact Pick.nil | (refine' Pick.take (by k_mem) (by walk_at "my pick")) | (refine' Pick.skip (by k_all) (by walk_at "my pick")) | (refine Pick.all (by assumption)))
  k_with "call ref" => (k_here; (with_reducible show wpAny _ _ (call (Value.ref 283) [Value.ref _, Value.int _ _]) _ _ _); k_dflt (refine' draw_at (by k_asm) (by k_asm) (by k_asm) (by k_asm) (by rfl) (by exact Nat.le_of_ble_eq_true rfl) (by exact Nat.le_of_ble_eq_true rfl) (by k_asm) (by k_asm) (by k_mem) (by k_mem) (by walk_at "my pick") (by omega) (by decide) (by decide) ?_); intro _ _ _ _ _ _ _ _ _ _ _; (try k_sweep))
  trivial
theorem st30 : True := by
  k_with "call ref" => (k_here; (with_reducible show wpAny _ _ (call (Value.ref 52) [Value.int _ _, Value.int _ _, Value.int _ _]) _ _ _); k_dflt (refine' info_at (by k_asm) (by k_asm) (by k_asm) (by k_asm) (by rfl) (by exact Nat.le_of_ble_eq_true rfl) (by exact Nat.le_of_ble_eq_true rfl) ?_); walk_at "my new"; (try k_sweep))
  trivial
theorem st31 : True := by
  k_with "compareOp NotIn int ref" => (k_here; k_dflt (first | (refine' m_nin0 (by k_asm) (by assumption) (by assumption) (by assumption) ?_; k_whole) | (refine' m_nin (by k_asm) (by assumption) (by assumption) (by assumption) ?_; k_whole)))
  k_with "compareOp In int ref" => (k_here; k_dflt (first | (refine' m_in0 (by k_asm) (by assumption) (by assumption) (by assumption) ?_; k_whole) | (refine' m_in (by k_asm) (by assumption) (by assumption) (by assumption) ?_; k_whole)))
  k_with "subscriptTail" => (k_here; (with_reducible show wpAny _ _ (subscriptTail _ _ (Value.ref _) (Value.int _ _)) _ _ _); k_dflt (first | (refine' m_item (by k_asm) (by assumption) (by assumption) ?_; k_whole) | (refine' b_item (by k_asm) (by assumption) (by omega) (by omega) (by assumption) ?_; k_whole) | (refine' l_item (by k_asm) (by k_mem) (by omega) (by omega) (by assumption) ?_; k_whole)))
  trivial
theorem st32 : True := by
  k_with "call ref" => (k_here; (with_reducible show wpAny _ _ (call (Value.ref 126) [Value.ref _, Value.int _ _, Value.int _ _]) _ _ _); k_dflt (refine' merge1_at (by k_asm) (by k_asm) (by k_asm) (by k_asm) (by rfl) (by exact Nat.le_of_ble_eq_true rfl) (by exact Nat.le_of_ble_eq_true rfl) (by omega) ?_; intro _ _ _ _))
  k_with "call ref" => (k_here; (first | (with_reducible show wpAny _ _ (call (Value.ref 42) [Value.ref _]) _ _ _) | (with_reducible show wpAny _ _ (call (Value.ref 42) ([Value.ref _] ++ [])) _ _ _)); k_dflt (refine' copied_at (by k_asm) (by k_asm) (by k_asm) (by k_asm) (by rfl) (by exact Nat.le_of_ble_eq_true rfl) (by exact Nat.le_of_ble_eq_true rfl) (by assumption) (by k_mem) (by first | assumption | exact ⟨tkOf [_, _, _, _, _, _, _, _, _, _, _, _, _, _, _, _, _, _, _, _, _, _, _, _, _, _, _, _, _, _, _], rfl⟩) ?_); walk_at "my new"; (try k_sweep))
  trivial
theorem st33 : True := by
  k_with "my slice" => (k_here; k_dflt (refine' kmk_slice_lit (by k_asm) (by k_asm) (by kmk_list) (by kmk_part) (by kmk_part) (by first | exact pick_one (by assumption) | exact pick_zero (by omega) | exact pick_from (by omega) | exact pick_upto (by omega)) ?_ (by with_unfolding_all rfl) (by kmk_pure) (by ((rw [PySem.sizeLine_eq]); (simp only [List.size_toArray]); omega))); intro _ _ _ _; walk_at "my lt"; (try k_sweep))
  k_with "subscriptTail Name Slice ref ref" => (walk_at "my slice")
  k_with "subscriptTail Attribute Slice ref ref" => (walk_at "my slice")
  k_with "setItem ref ref" => (k_here; k_dflt (refine' l_setSlice1 (by k_asm) (by k_asm) (by k_updF) (by k_mem) (by omega) (by assumption) (by omega) ?_; intro _ _ _; walk_at "my dn"))
  trivial
theorem st34 : True := by
  k_with "compareOp Eq ref ref" => (k_here; (with_reducible show wpAny _ _ (compareOp CmpOp.Eq (Value.ref _) (Value.ref _)) _ _ _); k_dflt (refine' eq_nil (by k_asm) (by k_mem) (by k_mem) (by omega) (by exact Nat.le_of_ble_eq_true rfl) ?_; k_whole))
  trivial
inductive PutJ (P : Params) (buf x fl R dx : Addr) (i : Nat) (u1 u2 : Tok) (vs : List Value) (nR : Nat) (od : Obj) (ps : List Int) (r : Row) (j : Nat) (m : Str → Option Value) : List (Addr × Obj) → Prop
  | mk (made : List Cell) (n : Nat) (hm : Has m [(Str.ofString "buffer", .ref buf), (Str.ofString "at", .int (i : Nat) u1), (Str.ofString "count", .int 1 u2), (Str.ofString "first", .ref x), (Str.ofString "found", .ref fl)]) (hap : Apart ((fl, listOf (List.toArray (crefs made)) n) :: (R, listOf vs.toArray nR) :: (dx, od) :: cled made)) (hlen : made.length = j)
    (hc : Cells P made ((ps.take j).map fun p => { r with gl := p })) : PutJ P buf x fl R dx i u1 u2 vs nR od ps r j m ((fl, listOf (List.toArray (crefs made)) n) :: (R, listOf vs.toArray nR) :: (dx, od) :: cled made)
set_option maxHeartbeats 4000000 in
theorem put_spec {w : World} {g : Heap} {s : Shared} {buf dbuf R x dx tp : Addr} {ob o : Obj} {sp : Int} {vs us : List Value} {ps : List Int} {nR : Nat} {i : Nat} {u1 u2 : Tok} {r : Row} {Q E : Value → Shared → Prop}
    (G : Gd w g) (stay : g.StaysIn s.heap) (hsz : g.objs.size ≤ s.heap.objs.size) (N : LedIn g s.heap [(R, listOf (List.toArray vs) nR), (dx, o)]) (hRd : @Ne Nat R dx) (hi : InfoD w.params r o)
    (h3 : g.get? buf = some (instObj 103 dbuf)) (h4 : g.get? dbuf = some ob) (hB : BufD w.params R sp ob) 
    (hx : vs[((i : Nat) : Int).toNat]? = some (.ref x)) (hz : vs.length ≤ 1000) (h6 : g.get? x = some (instObj 52 dx)) (ht : IsTup g tp us.toArray) (hu : IntsAre us ps) (hps : 2 ≤ ps.length) (hps3 : ps.length ≤ 1000)
    (ret : ∀ made n' o' h' tk', g.StaysIn h' → g.objs.size ≤ h'.objs.size → LedIn g h' ((R, listOf (List.toArray (sliceSet vs (crefs made) i (i + 1))) n') :: (dx, o') :: cled made) → Apart ((R, listOf (List.toArray (sliceSet vs (crefs made) i (i + 1))) n') :: (dx, o') :: cled made) →
      InfoD w.params r o' → Cells w.params made (ps.map fun p => { r with gl := p }) → Q .none { s with heap := h', toks := tk' }) :
    wpAny (model PySem.Challenge.rw_nu0223_01.row.prog w) (AA 850 8500) (call (.ref 143) [.ref buf, .int (i : Nat) u1, .int 1 u2, .ref tp]) Q E s := by
  obtain ⟨kt, rfl⟩ := hi
  obtain ⟨b1, b2, b3, b4, d3, d4, rfl⟩ := hB
  have hx0 : vs[i]? = some (.ref x) := by simpa using hx
  obtain ⟨hi1, _⟩ := List.getElem?_eq_some_iff.mp hx0
  refine enter (binds := [(Str.ofString "buffer", .ref buf), (Str.ofString "at", .int (i : Nat) u1), (Str.ofString "count", .int 1 u2), (Str.ofString "glyphs", .ref tp)]) G stay hsz N (by k_is) (by k_is) (by decide) (BindsTo.of_eq rfl) (locs rfl) ?_
  · intro mean mg mb L' h₁ X T F N' lt eL
    dsimp only [List.reverse, List.reverseAux] at F
    k_with "pyIter ref" => (refine Hold.mk ?_)
    k_fold
    k_steps
    all_goals (try dsimp only)
    rename_i l0 hA l10 hB fl hC l1 hq F2 N2
    refine Hold.of ?_
    obtain ⟨od, rest, hod, N4, hm1, hm2⟩ : ∃ od rest, InfoD w.params r od ∧ News g L' hq ((fl, listOf #[] 0) :: rest) ∧ (R, listOf vs.toArray nR) ∈ rest ∧ (dx, od) ∈ rest :=
      ⟨_, _, ⟨tkOf [_, _, _, _, _, _, _, _, _, _, _, _, _, _, _, _, _, _, _, _, _, _, _, _, _, _, _, _, _, _, _], rfl⟩, N2, .tail _ (.tail _ (.tail _ (.head _))), .tail _ (.tail _ (.tail _ (.tail _ (.head _))))⟩
    obtain ⟨u, F3⟩ : ∃ u, Fr g L' hq (kstB u [(Str.ofString "buffer", .ref buf), (Str.ofString "at", .int (i : Nat) u1), (Str.ofString "count", .int 1 u2), (Str.ofString "first", .ref x), (Str.ofString "found", .ref fl)]) := ⟨_, fr_map _ F2 ⟨rfl, rfl, rfl, rfl, rfl, trivial⟩⟩
    have N3 : News g L' hq [(fl, listOf #[] 0), (R, listOf vs.toArray nR), (dx, od)] := fun p hp => N4 p (by
      simp only [List.mem_cons, List.not_mem_nil, or_false] at hp ⊢
      rcases hp with rfl | rfl | rfl
      · exact .inl rfl
      · exact .inr hm1
      · exact .inr hm2)
    have hfR : @Ne Nat fl R := by omega
    have hfd : @Ne Nat fl dx := by omega
    have hul := hu.length
    clear N2 F2 l1 l10 N4 hm1 hm2
    refine tup_iter (PutJ w.params buf x fl R dx i u1 u2 vs nR od ps r) rfl ht F3 N3 ?hj ?turn ?done
    case hj => exact ⟨[], 0, ⟨rfl, rfl, rfl, rfl, rfl, trivial⟩, by simp [Apart, cled]; exact ⟨⟨hfR, hfd⟩, hRd⟩, rfl, .nil⟩
    case turn =>
      rintro j v m₁ nx h tk own hv hoff ⟨made, n, hm, hap, hlen, hc⟩ F N
      obtain ⟨p, tpv, rfl, hp⟩ := hu.at j v hv
      obtain ⟨kt, rfl⟩ := hod
      obtain ⟨tl, htl⟩ : ∃ tl, tl = cled made ++ own := ⟨_, rfl⟩
      have hN : News g L' h (_ :: _ :: _ :: (cled made ++ own)) := N
      rw [← htl] at hN
      clear N
      have w1 : ∀ p ∈ tl, p.1 ≠ fl := by
        intro p hp; rw [htl] at hp
        rcases List.mem_append.mp hp with hp | hp
        · exact hap.off p (.tail _ (.tail _ hp))
        · exact hoff p hp fl (.head _)
      have F' : Fr g L' h _ := F
      refine fr_cut _ F' (has_upd hm rfl) fun u F4 => ?_
      clear F'
      clear F
      have hz2 : (List.toArray (crefs made)).size ≤ sizeLine := by
        simp [sizeLine_eq, crefs]; have := (List.getElem?_eq_some_iff.mp hv).1; omega
      show wpAny _ _ _ _ _ _
      k_fold
      k_steps
      all_goals (try dsimp only)
      rename_i x' dx' hb1 tkb kt' l1' l2' l3' hb2 hb3 hb4 F5 N5
      obtain ⟨oc, hoc, N6⟩ : ∃ oc, InfoD w.params { r with gl := p } oc ∧ News g L' hb4 ((x', instObj 52 dx') :: (dx', oc) :: (fl, listOf ((crefs made).toArray.push (.ref x')) (n + 1)) :: (R, listOf vs.toArray nR) :: _ :: tl) := ⟨_, ⟨tkOf [_, _, _, _, _, _, _, _, _, _, _, _, _, _, _, _, _, _, _, _, _, _, _, _, _, _, _, _, _, _, _], rfl⟩, N5⟩
      have e1 : (crefs made).toArray.push (.ref x') = (crefs (made ++ [⟨x', dx', oc⟩])).toArray := by simp [crefs]
      rw [e1] at N6
      have hlt : ∀ q ∈ tl, @LT.lt Nat _ q.1 dx' := tb_ltOf l1'.2.2.2
      refine Turn.next ((fl, listOf (crefs (made ++ [⟨x', dx', oc⟩])).toArray (n + 1)) :: (R, listOf vs.toArray nR) :: _ :: cled (made ++ [⟨x', dx', oc⟩])) F5 N6 ⟨made ++ [⟨x', dx', oc⟩], _, ⟨rfl, rfl, rfl, rfl, rfl, trivial⟩, ?_, by simp [hlen], ?_⟩ ?_ ?_ ?_
      · rw [cled_append]
        exact Apart.snoc2 (Apart.congr rfl hap) (fun q hq => by
          rcases hq with _ | ⟨_, _ | ⟨_, _ | ⟨_, hq⟩⟩⟩
          · exact l1'.1
          · exact l1'.2.1
          · exact l1'.2.2.1
          · exact hlt q (by rw [htl]; exact List.mem_append.mpr (.inl hq))) l2'
      · rw [List.take_add_one, hp, List.map_append]
        exact hc.append (.cons hoc .nil)
      · intro q hq b hb
        have h1 := hlt q (by rw [htl]; simp [hq])
        have h2 := hoff q hq
        simp only [cled_append, List.map_cons, List.map_append, List.mem_cons, List.mem_append, cled, List.map_nil, List.not_mem_nil, or_false] at hb h2
        rcases hb with rfl | rfl | rfl | hb | rfl | rfl
        · exact h2 _ (.inl rfl)
        · exact h2 _ (.inr (.inl rfl))
        · exact h2 _ (.inr (.inr (.inl rfl)))
        · exact h2 _ (.inr (.inr (.inr hb)))
        · exact Nat.ne_of_lt (Nat.lt_trans h1 l2')
        · exact Nat.ne_of_lt h1
      · intro q hq
        simp only [cled_append, List.mem_cons, List.mem_append, cled, List.not_mem_nil, or_false, htl] at hq ⊢
        rcases hq with rfl | rfl | rfl | hq | rfl | rfl <;> simp_all
      · intro q hq
        simp [htl, hq]
    case done =>
      rintro m₁ nx h tk ⟨made, n, hm, hap, hlen, hc⟩ F N
      have F' : Fr g L' h _ := F
      have N' : News g L' h _ := N
      refine fr_cut _ F' hm fun u F4 => ?_
      clear F F' N
      have w1 : ∀ p ∈ cled made, p.1 ≠ fl := fun p hp => hap.off p (.tail _ (.tail _ hp))
      have w2 : ∀ p ∈ cled made, p.1 ≠ R := fun p hp => hap.tl.off p (.tail _ hp)
      have w3 : ∀ p ∈ cled made, p.1 ≠ dx := fun p hp => hap.tl.tl.off p hp
      have hl3 : vs.length + (crefs made).length ≤ 1000000 := by simp [crefs]; omega
      have hv0 : 0 < (crefs made).length := by simp [crefs]; omega
      dsimp only
      show wpAny _ _ _ _ _ _
      (try k_fold)
      k_steps
      all_goals (try dsimp only)
      rename Fr _ _ _ _ => F5
      rename News _ _ _ _ => N5
      refine Out.intro F5 (news' := (R, _) :: (dx, od) :: cled made) (fun p hp => N5 p (.tail _ (.tail _ hp))) (fun hZ tkZ kZ1 kZ2 kZ3 => ret made _ od hZ tkZ kZ1 kZ2 kZ3 ?_ hod ?_)
      · simp [Apart] at hap ⊢; exact hap.2
      · rw [hul, List.take_length] at hc; exact hc
end
section
theorem st35 : True := by w_top off; k_with_none; trivial
theorem st36 : True := by
  k_with "my all" => (assumption)
  k_with "my range" => (first | (with_unfolding_all refine range1_rows ‹Fr _ _ _ _› ‹News _ _ _ _› ?_) | (with_unfolding_all refine range2_rows ‹Fr _ _ _ _› ‹News _ _ _ _› ?_))
  k_with "my inst" => (first
    | (refine' inst_base ?F ?h1 ?h2; (case F => k_asm); (case h1 => assumption); (case h2 => assumption))
    | (refine' inst_half ?F ?N ?h1 ?h2; (case F => k_asm); (case N => k_asm); (case h1 => assumption); (case h2 => k_mem)))
  k_with "my ne" => ((try dsimp only); first | with_reducible assumption | (refine Ne.symm ?_; with_reducible assumption) | (have h9 := ‹(_ ≠ _ ∧ _ ≠ _ ∧ _ ≠ _) ∧ _›; first | exact h9.1.1 | exact h9.1.2.1 | exact h9.1.2.2 | exact h9.2.1.1 | exact h9.2.1.2.1 | exact h9.2.1.2.2 | exact h9.2.2.1 | exact h9.2.2.2.1 | exact h9.2.2.2.2 | exact h9.2.1 | exact h9.2.2.1 | exact h9.2.2.2))
  k_with "my pick" => (first | exact Pick.nil | (refine' Pick.take (by k_mem) (by walk_at "my pick")) | (refine' Pick.skip (by k_all) (by walk_at "my pick")) | (refine Pick.all (by assumption)))
  k_with "call ref" => (k_here; (with_reducible show wpAny _ _ (call (Value.ref 283) [Value.ref _, Value.int _ _]) _ _ _); k_dflt (refine' draw_at (by k_asm) (by k_asm) (by k_asm) (by k_asm) (by rfl) (by exact Nat.le_of_ble_eq_true rfl) (by exact Nat.le_of_ble_eq_true rfl) (by k_asm) (by k_asm) (by k_mem) (by k_mem) (by walk_at "my pick") (by omega) (by decide) (by decide) ?_); intro _ _ _ _ _ _ _ _ _ _ _; (try k_sweep))
  trivial
theorem st37 : True := by
  k_with "call ref" => (k_here; (with_reducible show wpAny _ _ (call (Value.ref 52) [Value.int _ _, Value.int _ _, Value.int _ _]) _ _ _); k_dflt (refine' info_at (by k_asm) (by k_asm) (by k_asm) (by k_asm) (by rfl) (by exact Nat.le_of_ble_eq_true rfl) (by exact Nat.le_of_ble_eq_true rfl) ?_); walk_at "my new"; (try k_sweep))
  trivial
theorem st38 : True := by
  k_with "compareOp NotIn int ref" => (k_here; k_dflt (first | (refine' m_nin0 (by k_asm) (by assumption) (by assumption) (by assumption) ?_; k_whole) | (refine' m_nin (by k_asm) (by assumption) (by assumption) (by assumption) ?_; k_whole)))
  k_with "compareOp In int ref" => (k_here; k_dflt (first | (refine' m_in0 (by k_asm) (by assumption) (by assumption) (by assumption) ?_; k_whole) | (refine' m_in (by k_asm) (by assumption) (by assumption) (by assumption) ?_; k_whole)))
  k_with "subscriptTail" => (k_here; (with_reducible show wpAny _ _ (subscriptTail _ _ (Value.ref _) (Value.int _ _)) _ _ _); k_dflt (first | (refine' m_item (by k_asm) (by assumption) (by assumption) ?_; k_whole) | (refine' b_item (by k_asm) (by assumption) (by omega) (by omega) (by assumption) ?_; k_whole) | (refine' l_item (by k_asm) (by k_mem) (by omega) (by omega) (by assumption) ?_; k_whole)))
  trivial
theorem st39 : True := by
  k_with "getMethod ref" => (k_here; (with_reducible show wpAny _ _ (getMethod (Value.ref _) (Str.ofString "get") _) _ _ _); k_dflt (refine' m_meth (by k_asm) (by assumption) ?_; k_whole))
  k_with "call builtin:dict.get" => (k_here; (with_reducible show wpAny _ _ (call (Value.builtin "dict.get") [Value.ref _, Value.int _ _, _]) _ _ _); k_dflt (first | (refine' m_get0 (by k_asm) (by assumption) (by assumption) (by assumption) ?_; k_whole) | (refine' m_get (by k_asm) (by assumption) (by assumption) (by assumption) ?_; k_whole)))
  k_with "call builtin:len" => (k_here; (with_reducible show wpAny _ _ (call (Value.builtin "len") [Value.ref _]) _ _ _); k_dflt (refine' t_len (by k_asm) (by assumption) (by assumption) (by omega) ?_; k_whole))
  k_with "subscriptTail" => (k_here; (with_reducible show wpAny _ _ (subscriptTail _ _ (Value.ref _) (Value.int _ _)) _ _ _); k_dflt (refine' t_item (by k_asm) (by assumption) (by assumption) (by omega) (by omega) (by omega) ?_; k_whole; intro _))
  k_with "call ref" => (k_here; (with_reducible show wpAny _ _ (call (Value.ref 242) [Value.int _ _, Value.int _ _]) _ _ _); k_dflt (refine' choice_at (by k_asm) (by k_asm) (by k_asm) (by k_asm) (by rfl) (by exact Nat.le_of_ble_eq_true rfl) (by exact Nat.le_of_ble_eq_true rfl) (by assumption) (by assumption) (by assumption) (by assumption) (by assumption) ?_; intro _ _ _ _ _))
  trivial
theorem st40 : True := by
  k_with "call ref" => (k_here; (with_reducible show wpAny _ _ (call (Value.ref 126) [Value.ref _, Value.int _ _, Value.int _ _]) _ _ _); k_dflt (refine' merge1_at (by k_asm) (by k_asm) (by k_asm) (by k_asm) (by rfl) (by exact Nat.le_of_ble_eq_true rfl) (by exact Nat.le_of_ble_eq_true rfl) (by omega) ?_; intro _ _ _ _))
  k_with "call ref" => (k_here; (first | (with_reducible show wpAny _ _ (call (Value.ref 42) [Value.ref _]) _ _ _) | (with_reducible show wpAny _ _ (call (Value.ref 42) ([Value.ref _] ++ [])) _ _ _)); k_dflt (refine' copied_at (by k_asm) (by k_asm) (by k_asm) (by k_asm) (by rfl) (by exact Nat.le_of_ble_eq_true rfl) (by exact Nat.le_of_ble_eq_true rfl) (by assumption) (by k_mem) (by first | assumption | exact ⟨tkOf [_, _, _, _, _, _, _, _, _, _, _, _, _, _, _, _, _, _, _, _, _, _, _, _, _, _, _, _, _, _, _], rfl⟩) ?_); walk_at "my new"; (try k_sweep))
  trivial
theorem st41 : True := by
  k_with "my slice" => (k_here; k_dflt (refine' kmk_slice_lit (by k_asm) (by k_asm) (by kmk_list) (by kmk_part) (by kmk_part) (by first | exact pick_one (by assumption) | exact pick_zero (by omega) | exact pick_from (by omega) | exact pick_upto (by omega)) ?_ (by with_unfolding_all rfl) (by kmk_pure) (by ((rw [PySem.sizeLine_eq]); (simp only [List.size_toArray]); omega))); intro _ _ _ _; walk_at "my lt"; (try k_sweep))
  k_with "subscriptTail Name Slice ref ref" => (walk_at "my slice")
  k_with "subscriptTail Attribute Slice ref ref" => (walk_at "my slice")
  k_with "setItem ref ref" => (k_here; k_dflt (refine' l_setSlice1 (by k_asm) (by k_asm) (by k_updF) (by k_mem) (by omega) (by assumption) (by omega) ?_; intro _ _ _; walk_at "my dn"))
  trivial
set_option maxHeartbeats 4000000 in
theorem next_spec {w : World} {g : Heap} {s : Shared} {buf dbuf R : Addr} {ob : Obj} {sp : Int} {Q E : Value → Shared → Prop}
    (G : Gd w g) (stay : g.StaysIn s.heap) (hsz : g.objs.size ≤ s.heap.objs.size) (N : LedIn g s.heap [(dbuf, ob)]) (h3 : g.get? buf = some (instObj 103 dbuf)) (hB : BufD w.params R sp ob)
    (ret : ∀ ob' h' tk' t', g.StaysIn h' → g.objs.size ≤ h'.objs.size → LedIn g h' [(dbuf, ob')] → BufD w.params R (sp + 1) ob' → Q (.int (sp + 1) t') { s with heap := h', toks := tk' }) :
    wpAny (model PySem.Challenge.rw_nu0223_01.row.prog w) (AA 900 9000) (call (.ref 100) [.ref buf]) Q E s := by
  obtain ⟨b1, b2, b3, b4, d3, d4, rfl⟩ := hB
  refine enter (binds := [(Str.ofString "self", .ref buf)]) G stay hsz N (by k_is) (by k_is) (by decide) (BindsTo.of_eq rfl) (locs rfl) ?_
  · intro mean mg mb L' h₁ X T F N' lt eL
    dsimp only [List.reverse, List.reverseAux] at F
    k_fold
    k_steps
    all_goals (try dsimp only)
    rename Fr _ _ _ _ => Fz
    rename News _ _ _ _ => Nz
    refine Out.ret _ Fz Nz (fun hZ tkZ kZ1 kZ2 kZ3 => ret _ hZ tkZ _ kZ1 kZ2 kZ3 (⟨_, _, _, _, _, _, rfl⟩))
section
variable {w : World} {A : Around} {E : Value → Shared → Prop} {s : Shared} {h₀ : Heap} {L : Addr} {m : Str → Option Value} {news rest : List (Addr × Obj)} {mean : ExcName → Option Value} {mg mb : Str → Option Value} {Q : Value → Shared → Prop}
theorem next_at {buf dbuf R : Addr} {ob : Obj} {sp : Int} (X : (Mine.hd.heap_1 w.params).In h₀) (T : Top Mine.vw (looseW Mine.vw []) mean mg mb h₀) (F : Fr h₀ L s.heap m) (N : News h₀ L s.heap news)
    (hA : A.handled = none) (hd : A.depth ≤ 900) (hu : A.units ≤ 9000) (h3 : h₀.get? buf = some (instObj 103 dbuf)) (hm : (dbuf, ob) ∈ news) (hB : BufD w.params R sp ob) (pk : Pick [dbuf] news rest)
    (h : ∀ ob' h' tk' t', Fr h₀ L h' m → News h₀ L h' ((dbuf, ob') :: rest) → BufD w.params R (sp + 1) ob' → Q (.int (sp + 1) t') { s with heap := h', toks := tk' }) :
    wpAny (model PySem.Challenge.rw_nu0223_01.row.prog w) A (call (.ref 100) [.ref buf]) Q E s := by
  obtain ⟨g, a1, a2, a3, a4, _, a6⟩ := siteP [(dbuf, ob)] F N (fun p hp => List.mem_singleton.mp hp ▸ hm) pk
  refine wp_le (next_spec ((gd X T).keeps a1) a2 a3 a4 (a1 _ _ h3) hB ?_) hA hd hu rfl rfl
  intro ob' h' tk' t' k1 _ k3 k4
  obtain ⟨F', N'⟩ := a6 h' _ k1 k3
  exact h ob' h' tk' t' F' N' k4
theorem put_at {buf dbuf R x dx tp : Addr} {ob o : Obj} {sp : Int} {vs us : List Value} {ps : List Int} {nR : Nat} {i : Nat} {u1 u2 : Tok} {r : Row} (X : (Mine.hd.heap_1 w.params).In h₀) (T : Top Mine.vw (looseW Mine.vw []) mean mg mb h₀) (F : Fr h₀ L s.heap m) (N : News h₀ L s.heap news)
    (hA : A.handled = none) (hd : A.depth ≤ 850) (hu : A.units ≤ 8500) (h3 : h₀.get? buf = some (instObj 103 dbuf)) (hB : BufD w.params R sp ob) (hm2 : (R, listOf (List.toArray vs) nR) ∈ news) (hm3 : (dx, o) ∈ news) (hi : InfoD w.params r o) (hRd : @Ne Nat R dx) (pk : Pick [R, dx] news rest)
    (hx : vs[((i : Nat) : Int).toNat]? = some (.ref x)) (hz : vs.length ≤ 1000) (h6 : h₀.get? x = some (instObj 52 dx)) (ht : IsTup h₀ tp us.toArray) (hus : IntsAre us ps) (hps : 2 ≤ ps.length) (hps3 : ps.length ≤ 1000)
    (hr : (dbuf, ob) ∈ rest)
    (h : ∀ made n' o' h' tk', Fr h₀ L h' m → News h₀ L h' ((R, listOf (List.toArray (sliceSet vs (crefs made) i (i + 1))) n') :: (dx, o') :: (rest ++ cled made)) → Apart ((R, listOf (List.toArray (sliceSet vs (crefs made) i (i + 1))) n') :: (dx, o') :: cled made) → (∀ p ∈ rest, ∀ q ∈ cled made, p.1 ≠ q.1) →
      InfoD w.params r o' → Cells w.params made (ps.map fun p => { r with gl := p }) → Q .none { s with heap := h', toks := tk' }) :
    wpAny (model PySem.Challenge.rw_nu0223_01.row.prog w) A (call (.ref 143) [.ref buf, .int (i : Nat) u1, .int 1 u2, .ref tp]) Q E s := by
  obtain ⟨g, a1, a2, a3, a4, a5, a6⟩ := siteP [(R, listOf (List.toArray vs) nR), (dx, o)] F N (by
    intro p hp
    rcases List.mem_cons.mp hp with rfl | hp
    · exact hm2
    · exact List.mem_singleton.mp hp ▸ hm3) pk
  refine wp_le (put_spec ((gd X T).keeps a1) a2 a3 a4 hRd hi (a1 _ _ h3) (a5 _ hr) hB hx hz (a1 _ _ h6) (ht.keeps a1) hus hps hps3 ?_) hA hd hu rfl rfl
  intro made n' o' h' tk' k1 _ k3 k4 k5 k6
  obtain ⟨F', N'⟩ := a6 h' _ k1 k3
  refine h made n' o' h' tk' F' (fun p hp => N' p ?_) k4 (fun p hp q hq e => ?_) k5 k6
  · simp only [List.mem_cons, List.mem_append] at hp ⊢
    rcases hp with hp | hp | hp | hp <;> simp [hp]
  have h1 := a5 p hp
  have h2 := (k3 q (.tail _ (.tail _ hq))).2
  rw [e, h2] at h1; cases h1
end
theorem st42 : True := by
  k_with "my put" => (k_dflt (refine' put_at ?k1 ?k2 ?k3 ?k4 ?kA ?kB ?kC ?k5 ?k7 ?k8 ?k9 ?ka ?kd ?kf ?kg ?kh ?ki ?kj ?kk ?kl ?km ?kn ?_; (case k1 => k_asm); (case k2 => k_asm); (case k3 => k_asm); (case k4 => k_asm); (case kA => rfl); (case kB => exact Nat.le_of_ble_eq_true rfl); (case kC => exact Nat.le_of_ble_eq_true rfl); (case k5 => assumption); (case k8 => k_mem); (case kg => assumption); (case ki => assumption); (case k9 => k_mem); (case ka => first | assumption | exact ⟨tkOf [_, _, _, _, _, _, _, _, _, _, _, _, _, _, _, _, _, _, _, _, _, _, _, _, _, _, _, _, _, _, _], rfl⟩); (case kd => assumption); (case kf => walk_at "my pick"); (case kn => k_mem); (case k7 => first | assumption | exact ⟨_, _, _, _, _, _, rfl⟩); (case kh => omega); (case kj => exact tupX (by assumption)); (case kk => assumption); (case kl => omega); (case km => omega)))
  k_with "truthy ref" => (k_here; (with_reducible show wpAny _ _ (truthy (Value.ref _)) _ _ _); k_dflt (first | (refine' t_true (by k_asm) (by assumption) (by assumption) (by omega) (by omega) ?_; k_whole) | (refine' t_false (by k_asm) (by assumption) (by assumption) (by omega) ?_; k_whole)))
  k_with "call ref" => (k_here; (first | (with_reducible show wpAny _ _ (call (Value.ref 100) [Value.ref _]) _ _ _) | (with_reducible show wpAny _ _ (call (Value.ref 100) ([Value.ref _] ++ [])) _ _ _)); k_dflt (refine' next_at (by k_asm) (by k_asm) (by k_asm) (by k_asm) (by rfl) (by exact Nat.le_of_ble_eq_true rfl) (by exact Nat.le_of_ble_eq_true rfl) (by assumption) (by k_mem) (by first | assumption | exact ⟨_, _, _, _, _, _, rfl⟩) (by walk_at "my pick") ?_); intro _ _ _ _ _ _ _; (try k_sweep))
  k_with "call ref" => (k_here; (with_reducible show wpAny _ _ (call (Value.ref 143) [Value.ref _, Value.int _ _, Value.int _ _, Value.ref _]) _ _ _); refine Hold.mk ?_)
  trivial
noncomputable def pieceRow (r : Row) (p : Int) (j : Nat) (sp : Int) : Row := { r with gl := p, lp := if r.li ≠ 0 then r.lp else (j : Int), sp := sp }
theorem sliceSet_mid {vs : List Value} {made : List Cell} {i j : Nat} {c : Cell} (hi : i < vs.length) (hc : made[j]? = some c) : (sliceSet vs (crefs made) i (i + 1))[i + j]? = some (.ref c.x) := by
  obtain ⟨hj, e⟩ := List.getElem?_eq_some_iff.mp hc
  unfold sliceSet
  have h1 : (vs.take i).length = i := by simp; omega
  rw [List.append_assoc, List.getElem?_append_right (by omega), h1, Nat.add_sub_cancel_left, List.getElem?_append_left (by simp [crefs]; exact hj)]
  simp [crefs, hj, e]
theorem All2.of_index {α β : Type} {S : α → β → Prop} : ∀ {as : List α} {bs : List β}, as.length = bs.length → (∀ (i : Nat) a b, as[i]? = some a → bs[i]? = some b → S a b) → All2 S as bs
  | [], [], _, _ => .nil
  | [], _ :: _, h, _ => by simp at h
  | _ :: _, [], h, _ => by simp at h
  | a :: as, b :: bs, h, k => .cons (k 0 a b rfl rfl) (All2.of_index (by simpa using h) fun i x y hx hy => k (i + 1) x y (by simpa using hx) (by simpa using hy))
theorem split_at {α : Type} {l : List α} {j : Nat} {c : α} (h : l[j]? = some c) : l = l.take j ++ c :: l.drop (j + 1) := by
  obtain ⟨hj, e⟩ := List.getElem?_eq_some_iff.mp h
  rw [← e, ← List.drop_eq_getElem_cons hj, List.take_append_drop]
theorem crefs_set {mk : List Cell} {j : Nat} {x dx : Addr} {o o' : Obj} (h : mk[j]? = some ⟨x, dx, o⟩) : crefs (mk.set j ⟨x, dx, o'⟩) = crefs mk := by
  unfold crefs
  apply List.ext_getElem?
  intro k
  rw [List.getElem?_map, List.getElem?_map, List.getElem?_set]
  by_cases e : j = k
  · subst e; rw [h]; simp [(List.getElem?_eq_some_iff.mp h).1]
  · rw [if_neg e]
theorem cled_fst (ms : List Cell) : (cled ms).map (·.1) = ms.flatMap fun c => [c.x, c.dx] := by
  induction ms with
  | nil => rfl
  | cons c r ih => simp only [cled, List.map_cons, ih, List.flatMap_cons]; rfl
theorem set_split {mk ma mb : List Cell} {j : Nat} {c c' : Cell} (h : mk = ma ++ c :: mb) (hl : ma.length = j) : mk.set j c' = ma ++ c' :: mb := by
  subst h; subst hl; simp
noncomputable def pieceRows (r : Row) (ps : List Int) (sp : Int) : List Row := ps.zipIdx.map fun q => pieceRow r q.1 q.2 sp
inductive MulJ (P : Params) (sc tb tp dbuf R dx : Addr) (i : Nat) (t : Tok) (isb : Bool) (sp : Int) (tspl : Tok) (ob1 o1 : Obj) (vs2 : List Value) (n1 : Nat) (made : List Cell) (ps : List Int) (r : Row) (j : Nat) (m : Str → Option Value) : List (Addr × Obj) → Prop
  | mk (mk : List Cell) (hm : Has m [(Str.ofString "scene", .ref sc), (Str.ofString "table", .ref tb), (Str.ofString "at", .int (i : Nat) t), (Str.ofString "pieces", .ref tp), (Str.ofString "is_bound", .bool isb), (Str.ofString "split_id", .int (sp + 1) tspl)]) (hre : crefs mk = crefs made) (had : (cled mk).map (·.1) = (cled made).map (·.1)) (hml : mk.length = made.length)
    (hin : ∀ (k : Nat) c p, mk[k]? = some c → ps[k]? = some p → InfoD P (if k < j then pieceRow r p k (sp + 1) else { r with gl := p }) c.o) : MulJ P sc tb tp dbuf R dx i t isb sp tspl ob1 o1 vs2 n1 made ps r j m ((dbuf, ob1) :: (R, listOf vs2.toArray n1) :: (dx, o1) :: cled mk)
set_option maxHeartbeats 4000000 in
theorem multi_spec {w : World} {g : Heap} {s : Shared} {sc dsc buf dbuf R x dx tb dtb M tp : Addr} {osc ob ot o : Obj} {bits sp : Int} {vs us : List Value} {nR nt : Nat} {i : Nat} {t : Tok} {r : Row} {f : Int → Option Value} {ps : List Int} {Q E : Value → Shared → Prop}
    (G : Gd w g) (stay : g.StaysIn s.heap) (hsz : g.objs.size ≤ s.heap.objs.size) (N : LedIn g s.heap [(dbuf, ob), (R, listOf (List.toArray vs) nR), (dx, o)]) (hRd : @Ne Nat R dx) (hbR : @Ne Nat dbuf R) (hbd : @Ne Nat dbuf dx) (hi : InfoD w.params r o)
    (h1 : g.get? sc = some (instObj 267 dsc)) (h2 : g.get? dsc = some osc) (hS : SceneD w.params buf bits osc) (h3 : g.get? buf = some (instObj 103 dbuf)) (hB : BufD w.params R sp ob)
    (hx : vs[((i : Nat) : Int).toNat]? = some (.ref x)) (hz : vs.length ≤ 1000) (h6 : g.get? x = some (instObj 52 dx)) (h7 : g.get? tb = some (instObj 191 dtb)) (h8 : g.get? dtb = some ot) (hT : TabD w.params M ot)
    (hm : MapI w g M f) (lo : (M == sysModules) = false) (hf : f r.gl = some (.ref tp)) (ht : g.get? tp = some (tupOf us.toArray nt)) (hus : IntsAre us ps) (hps : 2 ≤ ps.length) (hps3 : ps.length ≤ 1000)
    (ret : ∀ made n' o' ob' h' tk' t', g.StaysIn h' → g.objs.size ≤ h'.objs.size → LedIn g h' ((dbuf, ob') :: (R, listOf (List.toArray (sliceSet vs (crefs made) i (i + 1))) n') :: (dx, o') :: cled made) → Apart ((dbuf, ob') :: (R, listOf (List.toArray (sliceSet vs (crefs made) i (i + 1))) n') :: (dx, o') :: cled made) →
      BufD w.params R (sp + 1) ob' → Cells w.params made (pieceRows r ps (sp + 1)) → Q (.int (i + ps.length) t') { s with heap := h', toks := tk' }) :
    wpAny (model PySem.Challenge.rw_nu0223_01.row.prog w) (AA 800 8000) (call (.ref 235) [.ref sc, .ref tb, .int (i : Nat) t]) Q E s := by
  obtain ⟨kt, rfl⟩ := hi
  obtain ⟨a1, a2, a3, a4, a5, a6, a7, c5, c6, l, l2, rfl⟩ := hS
  obtain ⟨b1, b2, b3, b4, d3, d4, rfl⟩ := hB
  obtain ⟨e1, rfl⟩ := hT
  have htT := tupX ht
  have hx0 : vs[i]? = some (.ref x) := by simpa using hx
  obtain ⟨hi1, _⟩ := List.getElem?_eq_some_iff.mp hx0
  refine enter (binds := [(Str.ofString "scene", .ref sc), (Str.ofString "table", .ref tb), (Str.ofString "at", .int (i : Nat) t)]) G stay hsz N (by k_is) (by k_is) (by decide) (BindsTo.of_eq rfl) (locs rfl) ?_
  · intro mean mg mb L' h₁ X T F N' lt eL
    dsimp only [List.reverse, List.reverseAux] at F
    k_with "pyIter ref" => (refine Hold.mk ?_)
    k_fold
    k_steps
    all_goals (try dsimp only)
    · exfalso; omega
    · refine Hold.of ?_
      show wpAny _ _ (call (Value.ref 143) [Value.ref _, Value.int _ _, Value.int _ _, Value.ref _]) _ _ _
      walk_at "my put"
      intro made n1 o1 hq tkq F1 N1 ap1 of1 hi1' hc1
      simp only [List.cons_append, List.nil_append] at N1
      refine fr_cut [(Str.ofString "scene", .ref sc), (Str.ofString "table", .ref tb), (Str.ofString "at", .int (i : Nat) t), (Str.ofString "pieces", .ref tp), (Str.ofString "is_bound", .bool (r.li != 0))] F1 ⟨rfl, rfl, rfl, rfl, rfl, trivial⟩ fun u F2 => ?_
      clear F1
      have hcl := hc1.length
      have ap2 : Apart ((dbuf, (⟨.type "list", none, .freed, #[]⟩ : Obj)) :: (R, listOf (List.toArray (sliceSet vs (crefs made) i (i + 1))) n1) :: (dx, o1) :: cled made) := by
        unfold Apart at ap1 ⊢
        rw [List.map_cons, List.nodup_cons]
        refine ⟨fun hm => ?_, ap1⟩
        simp only [List.map_cons, List.mem_cons, List.mem_map] at hm
        rcases hm with hm | hm | ⟨q, hq, e⟩
        · exact hbR hm
        · exact hbd hm
        · exact of1 _ (.head _) q hq e.symm
      have w1 : ∀ p ∈ cled made, p.1 ≠ dbuf := fun p hp e => of1 _ (.head _) p hp e.symm
      have w2 : ∀ p ∈ cled made, p.1 ≠ R := fun p hp => ap1.off p (.tail _ hp)
      have w3 : ∀ p ∈ cled made, p.1 ≠ dx := fun p hp => ap1.tl.off p hp
      have w4 : ∀ p ∈ cled made, ∀ q ∈ [dbuf], q ≠ p.1 := fun p hp q hq => by rw [List.mem_singleton.mp hq]; exact (w1 p hp).symm
      generalize hvs : sliceSet vs (crefs made) i (i + 1) = vs2 at N1 ap1 ap2
      generalize hbl : (r.li != 0) = isb at F2
      dsimp only
      show wpAny _ _ _ _ _ _
      (try k_fold)
      k_steps
      all_goals (try dsimp only)
      rename_i ob1 hA tkA tspl hb1 hB rF0 rN0 hC tkC tz1 tz2 tz3 IR F3 N3 kp
      refine Hold.of ?_
      simp only [List.length_map] at hcl
      refine fr_cut [(Str.ofString "scene", .ref sc), (Str.ofString "table", .ref tb), (Str.ofString "at", .int (i : Nat) t), (Str.ofString "pieces", .ref tp), (Str.ofString "is_bound", .bool isb), (Str.ofString "split_id", .int (sp + 1) tspl)] F3 ⟨rfl, rfl, rfl, rfl, rfl, rfl, trivial⟩ fun u F4 => ?_
      clear F3 rF0 rN0
      have hc2 : ∀ (k : Nat) c p, made[k]? = some c → ps[k]? = some p → InfoD w.params { r with gl := p } c.o := fun k c p h1 h2 => hc1.get h1 (by simp [h2])
      refine rng_iter (n := ps.length) (MulJ w.params sc tb tp dbuf R dx i t isb sp tspl ob1 o1 vs2 n1 made ps r) rfl IR ?small (by rw [rangeSize_nat]; simp) F4 N3 ?hj ?turn ?done
      case small => exact small_one (by decide) (by decide) (by omega) (by omega)
      case hj => exact ⟨made, ⟨rfl, rfl, rfl, rfl, rfl, rfl, trivial⟩, rfl, rfl, rfl, fun k c p h1 h2 => by simpa using hc2 k c p h1 h2⟩
      case turn =>
        rintro j tj m₁ nx h tk own hj hoff ⟨mk, hm, hre, had, hml, hin⟩ F N
        obtain ⟨c, hcj⟩ : ∃ c, mk[j]? = some c := ⟨_, List.getElem?_eq_getElem (by omega)⟩
        obtain ⟨p, hpj⟩ : ∃ p, ps[j]? = some p := ⟨_, List.getElem?_eq_getElem hj⟩
        have hmk := split_at hcj
        generalize ha : mk.take j = ma at hmk
        generalize hb : mk.drop (j + 1) = mb at hmk
        have hal : ma.length = j := by rw [← ha, List.length_take]; omega
        have hIc := hin j c p hcj hpj
        rw [if_neg (Nat.lt_irrefl j)] at hIc
        have hxr : vs2[((i : Nat) : Int) + (0 + ((j : Nat) : Int))|>.toNat]? = some (.ref c.x) := by
          obtain ⟨c2, hc2'⟩ : ∃ c2, made[j]? = some c2 := ⟨_, List.getElem?_eq_getElem (by omega)⟩
          have h1 := sliceSet_mid (vs := vs) hi1 hc2'
          have h2 : (crefs mk)[j]? = (crefs made)[j]? := by rw [hre]
          simp [crefs, hcj, hc2'] at h2
          rw [hvs, ← h2] at h1
          have e : (((i : Nat) : Int) + (0 + ((j : Nat) : Int))).toNat = i + j := by omega
          rw [e]; exact h1
        obtain ⟨cx, cdx, co⟩ := c
        dsimp only at hIc hxr
        obtain ⟨tl, htl⟩ : ∃ tl, tl = (dx, o1) :: cled ma ++ cled mb ++ own := ⟨_, rfl⟩
        have hN : News g L' h ((dbuf, ob1) :: (R, listOf vs2.toArray n1) :: (cx, instObj 52 cdx) :: (cdx, co) :: tl) := fun q hq => N q (by
          rw [hmk, cled_append]
          simp only [htl, cled, List.mem_cons, List.mem_append, List.cons_append, List.append_assoc] at hq ⊢
          rcases hq with hq | hq | hq | hq | hq | hq | hq | hq <;> simp only [hq, true_or, or_true])
        have hF : Fr g L' h _ := F
        refine fr_cut _ hF (has_upd hm rfl) fun u F6 => ?_
        clear N F hF F4
        have apm : Apart ((dbuf, (⟨.type "list", none, .freed, #[]⟩ : Obj)) :: (R, listOf vs2.toArray n1) :: (dx, o1) :: cled mk) := Apart.congr (by simp only [List.map_cons, had]) ap2
        rw [hmk, cled_append] at apm
        obtain ⟨am1, am2⟩ := Apart.mid (a := (dbuf, (⟨.type "list", none, .freed, #[]⟩ : Obj)) :: (R, listOf vs2.toArray n1) :: (dx, o1) :: cled ma) (b := [(cx, instObj 52 cdx), (cdx, co)]) (c := cled mb) apm
        have am3 : ∀ q ∈ tl, q.1 ≠ cdx ∧ q.1 ≠ cx := by
          intro q hq
          rw [htl] at hq
          rcases List.mem_append.mp hq with hq | hq
          · have hq' : q ∈ ((dbuf, (⟨.type "list", none, .freed, #[]⟩ : Obj)) :: (R, listOf vs2.toArray n1) :: (dx, o1) :: cled ma) ++ cled mb := .tail _ (.tail _ hq)
            exact ⟨am1 q hq' _ (.tail _ (.head _)), am1 q hq' _ (.head _)⟩
          · exact ⟨fun e => hoff q hq cdx (by rw [hmk, cled_append]; simp [cled]) e, fun e => hoff q hq cx (by rw [hmk, cled_append]; simp [cled]) e⟩
        have v1 : ∀ q ∈ tl, q.1 ≠ cdx := fun q hq => (am3 q hq).1
        have v2 : ∀ q ∈ tl, q.1 ≠ cx := fun q hq => (am3 q hq).2
        have v3a : @Ne Nat dbuf cdx := am1 _ (.head _) _ (.tail _ (.head _))
        have v3b : @Ne Nat R cdx := am1 _ (.tail _ (.head _)) _ (.tail _ (.head _))
        have v3c : @Ne Nat cx cdx := am2.pair
        have fin : ∀ {co' : Obj} {hq9 : Heap} {tk9 : Nat} {m9 : Str → Option Value} {Qf : Flow → Shared → Prop} {s9 : Shared}, Fr g L' hq9 m9 → Has m9 [(Str.ofString "scene", .ref sc), (Str.ofString "table", .ref tb), (Str.ofString "at", .int (i : Nat) t), (Str.ofString "pieces", .ref tp), (Str.ofString "is_bound", .bool isb), (Str.ofString "split_id", .int (sp + 1) tspl)] → News g L' hq9 ((dbuf, ob1) :: (R, listOf vs2.toArray n1) :: (cx, instObj 52 cdx) :: (cdx, co') :: tl) → InfoD w.params (pieceRow r p j (sp + 1)) co' →
            Turn g L' (MulJ w.params sc tb tp dbuf R dx i t isb sp tspl ob1 o1 vs2 n1 made ps r (j + 1)) own s9 Qf .next { s9 with heap := hq9, toks := tk9 } := by
          intro co' hq9 tk9 m9 Qf s9 F9 h9 N9 hI'
          have hset := set_split (c' := ⟨cx, cdx, co'⟩) hmk hal
          have had2 : (cled (mk.set j ⟨cx, cdx, co'⟩)).map (·.1) = (cled mk).map (·.1) := by
            rw [hset, hmk, cled_append, cled_append]; simp [cled]
          refine Turn.next _ F9 N9 ⟨mk.set j ⟨cx, cdx, co'⟩, h9, (crefs_set hcj).trans hre, had2.trans had, by simp [hml], ?_⟩ ?_ ?_ ?_
          · intro k c p' h1 h2
            rw [List.getElem?_set] at h1
            by_cases e : j = k
            · subst e
              rw [if_pos rfl, if_pos (by omega)] at h1
              rw [hpj] at h2
              cases h1; cases h2
              rw [if_pos (Nat.lt_succ_self j)]
              exact hI'
            · rw [if_neg e] at h1
              have := hin k c p' h1 h2
              by_cases e2 : k < j
              · rw [if_pos e2] at this; rw [if_pos (by omega)]; exact this
              · rw [if_neg e2] at this; rw [if_neg (by omega)]; exact this
          · have e : ((dbuf, ob1) :: (R, listOf vs2.toArray n1) :: (dx, o1) :: cled (mk.set j ⟨cx, cdx, co'⟩)).map (·.1) = ((dbuf, ob1) :: (R, listOf vs2.toArray n1) :: (dx, o1) :: cled mk).map (·.1) := by
              simp only [List.map_cons, had2]
            rw [e]; exact hoff
          · intro q hq
            rw [hset, cled_append] at hq
            simp only [htl, cled, List.mem_cons, List.mem_append, List.cons_append, List.append_assoc] at hq ⊢
            rcases hq with hq | hq | hq | hq | hq | hq | hq <;> simp only [hq, true_or, or_true]
          · intro q hq
            rw [htl]; exact .tail _ (.tail _ (.tail _ (.tail _ (List.mem_append.mpr (.inr hq)))))
        clear apm am1 am2 am3
        obtain ⟨kt, rfl⟩ := hIc
        refine opq fun G9 k9 => ?_
        obtain ⟨b1, b2, b3, b4, d3, d4, hob⟩ := hb1
        refine k9 ?_
        clear k9 G9
        rw [hob] at hN
        show wpAny _ _ _ _ _ _
        k_fold
        k_steps
        all_goals (try dsimp only)
        all_goals (rename Fr _ _ _ _ => F9; rename News _ _ _ _ => N9)
        · rename_i hq9 e9
          rw [← hob] at N9
          have e : pieceRow r p j (sp + 1) = { r with gl := p, sp := sp + 1 } := by
            unfold pieceRow; rw [if_pos (by simp_all)]
          exact fin F9 ⟨rfl, rfl, rfl, rfl, rfl, rfl, trivial⟩ N9 (by rw [e]; exact ⟨tkOf [_, _, _, _, _, _, _, _, _, _, _, _, _, _, _, _, _, _, _, _, _, _, _, _, _, _, _, _, _, _, _], rfl⟩)
        · rename_i e9 hq9
          rw [← hob] at N9
          have e : pieceRow r p j (sp + 1) = { r with gl := p, lp := 0 + ((j : Nat) : Int), sp := sp + 1 } := by
            unfold pieceRow; rw [if_neg (by simp_all)]; simp
          exact fin F9 ⟨rfl, rfl, rfl, rfl, rfl, rfl, trivial⟩ N9 (by rw [e]; exact ⟨tkOf [_, _, _, _, _, _, _, _, _, _, _, _, _, _, _, _, _, _, _, _, _, _, _, _, _, _, _, _, _, _, _], rfl⟩)
      case done =>
        rintro m₁ nx h tk ⟨mk, hm, hre, had, hml, hin⟩ F N
        have F' : Fr g L' h _ := F
        have N' : News g L' h _ := N
        refine fr_cut _ F' hm fun u F5 => ?_
        clear F F' N
        dsimp only
        show wpAny _ _ _ _ _ _
        (try k_fold)
        k_steps
        all_goals (try dsimp only)
        refine Out.ret _ F5 N' (fun hZ tkZ kZ1 kZ2 kZ3 => ret mk n1 o1 ob1 hZ tkZ _ kZ1 kZ2 (Led_eq (by rw [hre, hvs]) kZ3) (Apart.congr (by simp only [List.map_cons, had]) ap2) hb1 (All2.of_index (by simp [pieceRows, hml, hcl]) fun k c rr h1 h2 => ?_))
        simp only [pieceRows, List.getElem?_map, List.getElem?_zipIdx, Option.map_eq_some_iff] at h2
        obtain ⟨q, ⟨p, hp, rfl⟩, rfl⟩ := h2
        have := hin k c p h1 hp
        rw [if_pos (List.getElem?_eq_some_iff.mp hp).1] at this
        simpa using this
end
section
theorem st43 : True := by w_top off; k_with_none; trivial
theorem st44 : True := by
  k_with "my all" => (assumption)
  k_with "my range" => (first | (with_unfolding_all refine range1_rows ‹Fr _ _ _ _› ‹News _ _ _ _› ?_) | (with_unfolding_all refine range2_rows ‹Fr _ _ _ _› ‹News _ _ _ _› ?_))
  k_with "my inst" => (first
    | (refine' inst_base ?F ?h1 ?h2; (case F => k_asm); (case h1 => assumption); (case h2 => assumption))
    | (refine' inst_half ?F ?N ?h1 ?h2; (case F => k_asm); (case N => k_asm); (case h1 => assumption); (case h2 => k_mem)))
  k_with "my ne" => ((try dsimp only); first | with_reducible assumption | (refine Ne.symm ?_; with_reducible assumption) | (have h9 := ‹(_ ≠ _ ∧ _ ≠ _ ∧ _ ≠ _) ∧ _›; first | exact h9.1.1 | exact h9.1.2.1 | exact h9.1.2.2 | exact h9.2.1.1 | exact h9.2.1.2.1 | exact h9.2.1.2.2 | exact h9.2.2.1 | exact h9.2.2.2.1 | exact h9.2.2.2.2 | exact h9.2.1 | exact h9.2.2.1 | exact h9.2.2.2))
  k_with "my pick" => (first | exact Pick.nil | (refine' Pick.take (by k_mem) (by walk_at "my pick")) | (refine' Pick.skip (by k_all) (by walk_at "my pick")) | (refine Pick.all (by assumption)))
  k_with "call ref" => (k_here; (with_reducible show wpAny _ _ (call (Value.ref 283) [Value.ref _, Value.int _ _]) _ _ _); k_dflt (refine' draw_at (by k_asm) (by k_asm) (by k_asm) (by k_asm) (by rfl) (by exact Nat.le_of_ble_eq_true rfl) (by exact Nat.le_of_ble_eq_true rfl) (by k_asm) (by k_asm) (by k_mem) (by k_mem) (by walk_at "my pick") (by omega) (by decide) (by decide) ?_); intro _ _ _ _ _ _ _ _ _ _ _; (try k_sweep))
  trivial
theorem st45 : True := by
  k_with "call ref" => (k_here; (with_reducible show wpAny _ _ (call (Value.ref 52) [Value.int _ _, Value.int _ _, Value.int _ _]) _ _ _); k_dflt (refine' info_at (by k_asm) (by k_asm) (by k_asm) (by k_asm) (by rfl) (by exact Nat.le_of_ble_eq_true rfl) (by exact Nat.le_of_ble_eq_true rfl) ?_); walk_at "my new"; (try k_sweep))
  trivial
theorem st46 : True := by
  k_with "compareOp NotIn int ref" => (k_here; k_dflt (first | (refine' m_nin0 (by k_asm) (by assumption) (by assumption) (by assumption) ?_; k_whole) | (refine' m_nin (by k_asm) (by assumption) (by assumption) (by assumption) ?_; k_whole)))
  k_with "compareOp In int ref" => (k_here; k_dflt (first | (refine' m_in0 (by k_asm) (by assumption) (by assumption) (by assumption) ?_; k_whole) | (refine' m_in (by k_asm) (by assumption) (by assumption) (by assumption) ?_; k_whole)))
  k_with "subscriptTail" => (k_here; (with_reducible show wpAny _ _ (subscriptTail _ _ (Value.ref _) (Value.int _ _)) _ _ _); k_dflt (first | (refine' m_item (by k_asm) (by assumption) (by assumption) ?_; k_whole) | (refine' b_item (by k_asm) (by assumption) (by omega) (by omega) (by assumption) ?_; k_whole) | (refine' l_item (by k_asm) (by k_mem) (by omega) (by omega) (by assumption) ?_; k_whole)))
  trivial
theorem st47 : True := by
  k_with "getMethod ref" => (k_here; (with_reducible show wpAny _ _ (getMethod (Value.ref _) (Str.ofString "get") _) _ _ _); k_dflt (refine' m_meth (by k_asm) (by assumption) ?_; k_whole))
  k_with "call builtin:dict.get" => (k_here; (with_reducible show wpAny _ _ (call (Value.builtin "dict.get") [Value.ref _, Value.int _ _, _]) _ _ _); k_dflt (first | (refine' m_get0 (by k_asm) (by assumption) (by assumption) (by assumption) ?_; k_whole) | (refine' m_get (by k_asm) (by assumption) (by assumption) (by assumption) ?_; k_whole)))
  k_with "call builtin:len" => (k_here; (with_reducible show wpAny _ _ (call (Value.builtin "len") [Value.ref _]) _ _ _); k_dflt (refine' t_len (by k_asm) (by assumption) (by assumption) (by omega) ?_; k_whole))
  k_with "subscriptTail" => (k_here; (with_reducible show wpAny _ _ (subscriptTail _ _ (Value.ref _) (Value.int _ _)) _ _ _); k_dflt (refine' t_item (by k_asm) (by assumption) (by assumption) (by omega) (by omega) (by omega) ?_; k_whole; intro _))
  k_with "call ref" => (k_here; (with_reducible show wpAny _ _ (call (Value.ref 242) [Value.int _ _, Value.int _ _]) _ _ _); k_dflt (refine' choice_at (by k_asm) (by k_asm) (by k_asm) (by k_asm) (by rfl) (by exact Nat.le_of_ble_eq_true rfl) (by exact Nat.le_of_ble_eq_true rfl) (by assumption) (by assumption) (by assumption) (by assumption) (by assumption) ?_; intro _ _ _ _ _))
  trivial
theorem st48 : True := by
  k_with "my put" => (k_dflt (refine' put_at ?k1 ?k2 ?k3 ?k4 ?kA ?kB ?kC ?k5 ?k7 ?k8 ?k9 ?ka ?kd ?kf ?kg ?kh ?ki ?kj ?kk ?kl ?km ?kn ?_; (case k1 => k_asm); (case k2 => k_asm); (case k3 => k_asm); (case k4 => k_asm); (case kA => rfl); (case kB => exact Nat.le_of_ble_eq_true rfl); (case kC => exact Nat.le_of_ble_eq_true rfl); (case k5 => assumption); (case k8 => k_mem); (case kg => assumption); (case ki => assumption); (case k9 => k_mem); (case ka => first | assumption | exact ⟨tkOf [_, _, _, _, _, _, _, _, _, _, _, _, _, _, _, _, _, _, _, _, _, _, _, _, _, _, _, _, _, _, _], rfl⟩); (case kd => assumption); (case kf => walk_at "my pick"); (case kn => k_mem); (case k7 => first | assumption | exact ⟨_, _, _, _, _, _, rfl⟩); (case kh => omega); (case kj => exact tupX (by assumption)); (case kk => assumption); (case kl => omega); (case km => omega)))
  k_with "truthy ref" => (k_here; (with_reducible show wpAny _ _ (truthy (Value.ref _)) _ _ _); k_dflt (first | (refine' t_true (by k_asm) (by assumption) (by assumption) (by omega) (by omega) ?_; k_whole) | (refine' t_false (by k_asm) (by assumption) (by assumption) (by omega) ?_; k_whole)))
  k_with "call ref" => (k_here; (first | (with_reducible show wpAny _ _ (call (Value.ref 100) [Value.ref _]) _ _ _) | (with_reducible show wpAny _ _ (call (Value.ref 100) ([Value.ref _] ++ [])) _ _ _)); k_dflt (refine' next_at (by k_asm) (by k_asm) (by k_asm) (by k_asm) (by rfl) (by exact Nat.le_of_ble_eq_true rfl) (by exact Nat.le_of_ble_eq_true rfl) (by assumption) (by k_mem) (by first | assumption | exact ⟨_, _, _, _, _, _, rfl⟩) (by walk_at "my pick") ?_); intro _ _ _ _ _ _ _; (try k_sweep))
  k_with "call ref" => (k_here; (with_reducible show wpAny _ _ (call (Value.ref 143) [Value.ref _, Value.int _ _, Value.int _ _, Value.ref _]) _ _ _); refine Hold.mk ?_)
  trivial
set_option maxHeartbeats 4000000 in
theorem one_spec {w : World} {g : Heap} {s : Shared} {sc dsc buf dbuf R x dx tb dtb M : Addr} {osc ob ot o : Obj} {mask sp : Int} {vs : List Value} {nR : Nat} {i : Nat} {t : Tok} {r : Row} {f : Int → Option Value} {Q E : Value → Shared → Prop}
    (G : Gd w g) (stay : g.StaysIn s.heap) (hsz : g.objs.size ≤ s.heap.objs.size) (N : LedIn g s.heap [(dx, o)]) (hi : InfoD w.params r o)
    (h1 : g.get? sc = some (instObj 267 dsc)) (h2 : g.get? dsc = some osc) (hS : SceneD w.params buf mask osc) (h3 : g.get? buf = some (instObj 103 dbuf)) (h4 : g.get? dbuf = some ob) (hB : BufD w.params R sp ob)
    (h5 : g.get? R = some (listOf (List.toArray vs) nR)) (hx : vs[((i : Nat) : Int).toNat]? = some (.ref x)) (hi0 : i < 1000000) (h6 : g.get? x = some (instObj 52 dx)) (h7 : g.get? tb = some (instObj 191 dtb)) (h8 : g.get? dtb = some ot) (hT : TabD w.params M ot)
    (hm : MapI w g M f) (lo : (M == sysModules) = false) (hf : f r.gl = none ∨ ∃ tp us ps, f r.gl = some (.ref tp) ∧ IsTup g tp (List.toArray us) ∧ IntsAre us ps ∧ ps.length = 1)
    (ret0 : f r.gl = none → ∀ o' h' tk' t', g.StaysIn h' → g.objs.size ≤ h'.objs.size → LedIn g h' [(dx, o')] → InfoD w.params r o' → Q (.int (-1) t') { s with heap := h', toks := tk' })
    (ret1 : ∀ tp us ps, f r.gl = some (.ref tp) → IsTup g tp (List.toArray us) → IntsAre us ps → ps.length = 1 → ∀ o' h' tk' t', g.StaysIn h' → g.objs.size ≤ h'.objs.size → LedIn g h' [(dx, o')] → InfoD w.params { r with gl := ps.getD 0 0 } o' → Q (.int (i + 1) t') { s with heap := h', toks := tk' }) :
    wpAny (model PySem.Challenge.rw_nu0223_01.row.prog w) (AA 800 8000) (call (.ref 235) [.ref sc, .ref tb, .int (i : Nat) t]) Q E s := by
  obtain ⟨kt, rfl⟩ := hi
  obtain ⟨a1, a2, a3, a4, a5, a6, a7, c5, c6, l, l2, rfl⟩ := hS
  obtain ⟨b1, b2, b3, b4, d3, d4, rfl⟩ := hB
  obtain ⟨e1, rfl⟩ := hT
  rcases hf with hv | ⟨tp, us, ps, hv, htp, hus, hps⟩
  · refine enter (binds := [(Str.ofString "scene", .ref sc), (Str.ofString "table", .ref tb), (Str.ofString "at", .int (i : Nat) t)]) G stay hsz N (by k_is) (by k_is) (by decide) (BindsTo.of_eq rfl) (locs rfl) ?_
    · intro mean mg mb L' h₁ X T F N' lt eL
      dsimp only [List.reverse, List.reverseAux] at F
      k_fold
      k_steps
      all_goals (try dsimp only)
      refine Out.ret _ (by k_asm) (by k_asm) (fun hZ tkZ kZ1 kZ2 kZ3 => ret0 hv _ hZ tkZ _ kZ1 kZ2 kZ3 ⟨tkOf [_, _, _, _, _, _, _, _, _, _, _, _, _, _, _, _, _, _, _, _, _, _, _, _, _, _, _, _, _, _, _], rfl⟩)
  · have hz : ps.length ≤ 1000 := by omega
    refine enter (binds := [(Str.ofString "scene", .ref sc), (Str.ofString "table", .ref tb), (Str.ofString "at", .int (i : Nat) t)]) G stay hsz N (by k_is) (by k_is) (by decide) (BindsTo.of_eq rfl) (locs rfl) ?_
    · intro mean mg mb L' h₁ X T F N' lt eL
      dsimp only [List.reverse, List.reverseAux] at F
      k_fold
      k_steps
      all_goals (try dsimp only)
      · refine Out.ret _ (by k_asm) (by k_asm) (fun hZ tkZ kZ1 kZ2 kZ3 => ret1 tp us ps hv htp hus hps _ hZ tkZ _ kZ1 kZ2 kZ3 (⟨tkOf [_, _, _, _, _, _, _, _, _, _, _, _, _, _, _, _, _, _, _, _, _, _, _, _, _, _, _, _, _, _, _], rfl⟩))
      · exfalso; omega
end
section
section
variable {prog : Program} {w : World} {A : Around} {E : Value → Shared → Prop} {s : Shared} {h₀ : Heap} {L R : Addr} {m : Str → Option Value} {vs : List Value} {n k : Nat} {news : List (Addr × Obj)} {Q : Value → Shared → Prop}
theorem b_len (F : Fr h₀ L s.heap m) (hl : h₀.get? R = some (listOf (List.toArray vs) n)) (hk : vs.length = k) (hz : k ≤ 1000000) (h : Q (.int (k : Nat) (s.toks + 1)) { s with toks := s.toks + 1 + 1 }) : wpAny (model prog w) A (call (.builtin "len") [.ref R]) Q E s := by
  have e : (List.toArray vs).size = k := by rw [List.size_toArray]; exact hk
  exact call_len_list (PySem.IsL.isList (F.keep _ _ hl)) (by rw [e]; omega) (by rw [e]; exact h)
theorem l_len (N : News h₀ L s.heap news) (hl : (R, listOf (List.toArray vs) n) ∈ news) (hk : vs.length = k) (hz : k ≤ 1000000) (h : Q (.int (k : Nat) (s.toks + 1)) { s with toks := s.toks + 1 + 1 }) : wpAny (model prog w) A (call (.builtin "len") [.ref R]) Q E s := by
  have e : (List.toArray vs).size = k := by rw [List.size_toArray]; exact hk
  exact call_len_list (PySem.IsL.isList (N _ hl).1) (by rw [e]; omega) (by rw [e]; exact h)
end
theorem st49 : True := by w_top off; k_with_none; trivial
theorem st50 : True := by
  k_with "my all" => (assumption)
  k_with "my range" => (first | (with_unfolding_all refine range1_rows ‹Fr _ _ _ _› ‹News _ _ _ _› ?_) | (with_unfolding_all refine range2_rows ‹Fr _ _ _ _› ‹News _ _ _ _› ?_))
  k_with "my inst" => (first
    | (refine' inst_base ?F ?h1 ?h2; (case F => k_asm); (case h1 => assumption); (case h2 => assumption))
    | (refine' inst_half ?F ?N ?h1 ?h2; (case F => k_asm); (case N => k_asm); (case h1 => assumption); (case h2 => k_mem)))
  k_with "my ne" => ((try dsimp only); first | with_reducible assumption | (refine Ne.symm ?_; with_reducible assumption) | (have h9 := ‹(_ ≠ _ ∧ _ ≠ _ ∧ _ ≠ _) ∧ _›; first | exact h9.1.1 | exact h9.1.2.1 | exact h9.1.2.2 | exact h9.2.1.1 | exact h9.2.1.2.1 | exact h9.2.1.2.2 | exact h9.2.2.1 | exact h9.2.2.2.1 | exact h9.2.2.2.2 | exact h9.2.1 | exact h9.2.2.1 | exact h9.2.2.2))
  k_with "my pick" => (first | exact Pick.nil | (refine' Pick.take (by k_mem) (by walk_at "my pick")) | (refine' Pick.skip (by k_all) (by walk_at "my pick")) | (refine Pick.all (by assumption)))
  k_with "call ref" => (k_here; (with_reducible show wpAny _ _ (call (Value.ref 283) [Value.ref _, Value.int _ _]) _ _ _); k_dflt (refine' draw_at (by k_asm) (by k_asm) (by k_asm) (by k_asm) (by rfl) (by exact Nat.le_of_ble_eq_true rfl) (by exact Nat.le_of_ble_eq_true rfl) (by k_asm) (by k_asm) (by k_mem) (by k_mem) (by walk_at "my pick") (by omega) (by decide) (by decide) ?_); intro _ _ _ _ _ _ _ _ _ _ _; (try k_sweep))
  trivial
theorem st51 : True := by
  k_with "call ref" => (k_here; (with_reducible show wpAny _ _ (call (Value.ref 52) [Value.int _ _, Value.int _ _, Value.int _ _]) _ _ _); k_dflt (refine' info_at (by k_asm) (by k_asm) (by k_asm) (by k_asm) (by rfl) (by exact Nat.le_of_ble_eq_true rfl) (by exact Nat.le_of_ble_eq_true rfl) ?_); walk_at "my new"; (try k_sweep))
  trivial
theorem st52 : True := by
  k_with "compareOp NotIn int ref" => (k_here; k_dflt (first | (refine' m_nin0 (by k_asm) (by assumption) (by assumption) (by assumption) ?_; k_whole) | (refine' m_nin (by k_asm) (by assumption) (by assumption) (by assumption) ?_; k_whole)))
  k_with "compareOp In int ref" => (k_here; k_dflt (first | (refine' m_in0 (by k_asm) (by assumption) (by assumption) (by assumption) ?_; k_whole) | (refine' m_in (by k_asm) (by assumption) (by assumption) (by assumption) ?_; k_whole)))
  k_with "subscriptTail" => (k_here; (with_reducible show wpAny _ _ (subscriptTail _ _ (Value.ref _) (Value.int _ _)) _ _ _); k_dflt (first | (refine' m_item (by k_asm) (by assumption) (by assumption) ?_; k_whole) | (refine' b_item (by k_asm) (by assumption) (by omega) (by omega) (by assumption) ?_; k_whole) | (refine' l_item (by k_asm) (by k_mem) (by omega) (by omega) (by assumption) ?_; k_whole)))
  trivial
theorem st53 : True := by
  k_with "my slice" => (k_here; k_dflt (refine' kmk_slice_lit (by k_asm) (by k_asm) (by kmk_list) (by kmk_part) (by kmk_part) (by first | exact pick_one (by assumption) | exact pick_zero (by omega) | exact pick_from (by omega) | exact pick_upto (by omega)) ?_ (by with_unfolding_all rfl) (by kmk_pure) (by ((rw [PySem.sizeLine_eq]); (simp only [List.size_toArray]); omega))); intro _ _ _ _; walk_at "my lt"; (try k_sweep))
  k_with "subscriptTail Name Slice ref ref" => (walk_at "my slice")
  k_with "subscriptTail Attribute Slice ref ref" => (walk_at "my slice")
  k_with "setItem ref ref" => (k_here; k_dflt (refine' l_setSlice1 (by k_asm) (by k_asm) (by k_updF) (by k_mem) (by omega) (by assumption) (by omega) ?_; intro _ _ _; walk_at "my dn"))
  trivial
theorem st54 : True := by
  k_with "call builtin:len" => (k_here; (with_reducible show wpAny _ _ (call (Value.builtin "len") [Value.ref _]) _ _ _); k_dflt (first | (refine' b_len (by k_asm) (by assumption) (by assumption) (by omega) ?_; k_whole) | (refine' l_len (by k_asm) (by k_mem) (by assumption) (by omega) ?_; k_whole)))
  trivial
noncomputable def clAt (rs : List Row) (k : Nat) : Int := ((rs[k]?).map Row.cl).getD 0
theorem clAt_of {rs : List Row} {k : Nat} {r : Row} (h : rs[k]? = some r) : clAt rs k = r.cl := by simp [clAt, h]
/-- the reach of the second cluster -/
noncomputable def Wid (rs : List Row) (b : Nat) : Prop := 2 ≤ b ∧ b ≤ rs.length ∧ (∀ k, 1 ≤ k → k < b → clAt rs k = clAt rs 1) ∧ (b < rs.length → clAt rs b ≠ clAt rs 1)
theorem info_of {P : Params} {g : Heap} {vs : List Value} {rs : List Row} (hi : InfosIn P g vs rs) {k : Nat} (hk : k < rs.length) : ∃ x dx o r, vs[k]? = some (.ref x) ∧ rs[k]? = some r ∧ g.get? x = some (instObj 52 dx) ∧ g.get? dx = some o ∧ InfoD P r o ∧ clAt rs k = r.cl := by
  obtain ⟨v, hv, x, dx, o, rfl, h1, h2, h3⟩ := hi.get1 (b := rs[k]) (List.getElem?_eq_getElem hk)
  exact ⟨x, dx, o, _, hv, List.getElem?_eq_getElem hk, h1, h2, h3, clAt_of (List.getElem?_eq_getElem hk)⟩
set_option maxHeartbeats 4000000 in
theorem wid_spec {w : World} {g : Heap} {s : Shared} {R : Addr} {vs : List Value} {rs : List Row} {nR : Nat} {c1 c2 : Tok} {Q E : Value → Shared → Prop}
    (G : Gd w g) (stay : g.StaysIn s.heap) (hsz : g.objs.size ≤ s.heap.objs.size) (h5 : g.get? R = some (listOf (List.toArray vs) nR)) (hi : InfosIn w.params g vs rs) (h2 : 2 ≤ rs.length) (hl : rs.length ≤ 1000)
    (ret : ∀ T b n u1 u2 h' tk', g.StaysIn h' → g.objs.size ≤ h'.objs.size → LedIn g h' [(T, tupOf #[.int 0 u1, .int (b : Nat) u2] n)] → Wid rs b → Q (.ref T) { s with heap := h', toks := tk' }) :
    wpAny (model PySem.Challenge.rw_nu0223_01.row.prog w) (AA 920 9200) (call (.ref 121) [.ref R, .int 0 c1, .int 2 c2]) Q E s := by
  have hlv : vs.length = rs.length := hi.length
  refine enter (news := []) (binds := [(Str.ofString "row", .ref R), (Str.ofString "begin", .int 0 c1), (Str.ofString "end", .int 2 c2)]) G stay hsz (fun _ h => nomatch h) (by k_is) (by k_is) (by decide) (BindsTo.of_eq rfl) (locs rfl) ?_
  · intro mean mg mb L' h₁ X T F N' lt eL
    dsimp only [List.reverse, List.reverseAux] at F
    k_with "exec While BoolOp cons nil" => (refine Hold.mk ?_)
    k_fold
    k_steps
    all_goals (try dsimp only)
    rename Fr _ _ _ _ => F2
    rename News _ _ _ _ => N2
    refine Hold.of ?_
    refine fr_cut [(Str.ofString "row", .ref R), (Str.ofString "first", .int 0 c1), (Str.ofString "behind", .int 2 c2)] F2 ⟨rfl, rfl, rfl, trivial⟩ fun u F3 => ?_
    refine wh (n₀ := rs.length - 2) (fun n m nx => nx = [] ∧ ∃ b : Nat, ∃ tb, Has m [(Str.ofString "row", .ref R), (Str.ofString "first", .int 0 c1), (Str.ofString "behind", .int (b : Nat) tb)] ∧ n = rs.length - b ∧ 2 ≤ b ∧ b ≤ rs.length ∧ ∀ k, 1 ≤ k → k < b → clAt rs k = clAt rs 1) F3 N2
      ⟨rfl, 2, c2, ⟨rfl, rfl, rfl, trivial⟩, rfl, Nat.le_refl _, h2, fun k q1 q2 => by rw [show k = 1 by omega]⟩ ?_
    rintro n m₁ nx h tk F N ⟨rfl, b, tb, hm, hn, hb2, hbl, hk⟩
    refine fr_cut _ F hm fun u F4 => ?_
    clear F F3 F2 N2
    have hsz2 : vs.toArray.size ≤ sizeLine := by simp [sizeLine_eq]; omega
    by_cases hb : b < rs.length
    · obtain ⟨x, dx, o, r, q1, q2, q3, q4, q5, q6⟩ := info_of hi hb
      obtain ⟨x', dx', o', r', p1, p2, p3, p4, p5, p6⟩ := info_of hi (k := b - 1) (by omega)
      have q1' : vs[((b : Nat) : Int).toNat]? = some (.ref x) := by simpa using q1
      have p1' : vs[(((b : Nat) : Int) - 1).toNat]? = some (.ref x') := by rw [show (((b : Nat) : Int) - 1).toNat = b - 1 by omega]; exact p1
      obtain ⟨kt, rfl⟩ := q5
      obtain ⟨kt', rfl⟩ := p5
      show wpAny _ _ _ _ _ _
      k_fold
      k_steps
      all_goals (try dsimp only)
      · rename Fr _ _ _ _ => F7
        rename News _ _ _ _ => N7
        rename r.cl = r'.cl => he
        refine WTurn.next F7 N7 (n' := rs.length - (b + 1)) (by omega) ⟨rfl, b + 1, _, ⟨rfl, rfl, rfl, trivial⟩, rfl, by omega, by omega, fun k z1 z2 => ?_⟩
        by_cases e : k = b
        · rw [e, q6, he, ← p6]; exact hk _ (by omega) (by omega)
        · exact hk k z1 (by omega)
      · rename r.cl ≠ r'.cl => he
        have hW : Wid rs b := ⟨hb2, hbl, hk, fun _ => by rw [q6, ← hk (b - 1) (by omega) (by omega), p6]; exact he⟩
        refine Hold.of ?_
        rename Fr _ _ _ _ => F7
        rename News _ _ _ _ => N7
        refine wh (n₀ := 0) (fun n m nx => nx = [] ∧ Has m [(Str.ofString "row", .ref R), (Str.ofString "first", .int 0 c1), (Str.ofString "behind", .int (b : Nat) tb)]) F7 N7 ⟨rfl, rfl, rfl, rfl, trivial⟩ ?_
        rintro n m₁ nx h tk F N ⟨rfl, hm⟩
        refine fr_cut _ F hm fun u F8 => ?_
        clear F F7 N7
        show wpAny _ _ _ _ _ _
        k_fold
        k_steps
        all_goals (try dsimp only)
        rename Fr _ _ _ _ => F9
        rename News _ _ _ _ => N9
        exact Out.ret _ F9 N9 (fun hZ tkZ kZ1 kZ2 kZ3 => ret _ b _ _ _ hZ tkZ kZ1 kZ2 kZ3 hW)
    · show wpAny _ _ _ _ _ _
      k_fold
      k_steps
      all_goals (try dsimp only)
      · have hW : Wid rs b := ⟨hb2, hbl, hk, fun h => absurd h hb⟩
        refine Hold.of ?_
        rename Fr _ _ _ _ => F7
        rename News _ _ _ _ => N7
        refine wh (n₀ := 0) (fun n m nx => nx = [] ∧ Has m [(Str.ofString "row", .ref R), (Str.ofString "first", .int 0 c1), (Str.ofString "behind", .int (b : Nat) tb)]) F7 N7 ⟨rfl, rfl, rfl, rfl, trivial⟩ ?_
        rintro n m₁ nx h tk F N ⟨rfl, hm⟩
        refine fr_cut _ F hm fun u F8 => ?_
        clear F F7 N7
        show wpAny _ _ _ _ _ _
        k_fold
        k_steps
        all_goals (try dsimp only)
        rename Fr _ _ _ _ => F9
        rename News _ _ _ _ => N9
        exact Out.ret _ F9 N9 (fun hZ tkZ kZ1 kZ2 kZ3 => ret _ b _ _ _ hZ tkZ kZ1 kZ2 kZ3 hW)
end
section
noncomputable def dled (cs : List Cell) : List (Addr × Obj) := cs.map fun c => (c.dx, c.o)
noncomputable def InfosMix (P : Params) (h₀ : Heap) (news : List (Addr × Obj)) (vs : List Value) (rs : List Row) : Prop := All2 (fun v r => ∃ x dx o, v = .ref x ∧ h₀.get? x = some (instObj 52 dx) ∧ (dx, o) ∈ news ∧ InfoD P r o) vs rs
section
variable {w : World} {A : Around} {E : Value → Shared → Prop} {s : Shared} {h₀ : Heap} {L : Addr} {m : Str → Option Value} {news rest : List (Addr × Obj)} {mean : ExcName → Option Value} {mg mb : Str → Option Value} {Q : Value → Shared → Prop}
theorem wid_at {R : Addr} {vs : List Value} {rs : List Row} {nR : Nat} {t1 t2 : Tok} (X : (Mine.hd.heap_1 w.params).In h₀) (T : Top Mine.vw (looseW Mine.vw []) mean mg mb h₀) (F : Fr h₀ L s.heap m) (N : News h₀ L s.heap news)
    (hA : A.handled = none) (hd : A.depth ≤ 920) (hu : A.units ≤ 9200) (h5 : h₀.get? R = some (listOf (List.toArray vs) nR)) (hi : InfosMix w.params h₀ news vs rs) (h2 : 2 ≤ rs.length) (hl : rs.length ≤ 1000)
    (h : ∀ T b n u1 u2 h' tk', Fr h₀ L h' m → News h₀ L h' ((T, tupOf #[.int 0 u1, .int (b : Nat) u2] n) :: news) → (∀ p ∈ news, p.1 ≠ T) → Wid rs b → Q (.ref T) { s with heap := h', toks := tk' }) :
    wpAny (model PySem.Challenge.rw_nu0223_01.row.prog w) A (call (.ref 121) [.ref R, .int 0 t1, .int 2 t2]) Q E s := by
  obtain ⟨g, a1, a2, a3, a4, a5, a6⟩ := siteP [] F N (fun _ h => nomatch h) (.all fun _ _ _ h => nomatch h)
  refine wp_le (wid_spec ((gd X T).keeps a1) a2 a3 (a1 _ _ h5) (hi.mono fun v r ⟨x, dx, o, q1, q2, q3, q4⟩ => ⟨x, dx, o, q1, a1 _ _ q2, a5 _ q3, q4⟩) h2 hl ?_) hA hd hu rfl rfl
  intro T b n u1 u2 h' tk' k1 _ k3 k4
  obtain ⟨F', N'⟩ := a6 h' _ k1 k3
  refine h T b n u1 u2 h' tk' F' N' (fun p hp e => ?_) k4
  have h1 := a5 p hp
  have h2 := (k3 _ (.head _)).2
  rw [e, h2] at h1; cases h1
theorem setc_at {x dx : Addr} {r : Row} {o : Obj} {c : Int} {t : Tok} (X : (Mine.hd.heap_1 w.params).In h₀) (T : Top Mine.vw (looseW Mine.vw []) mean mg mb h₀) (F : Fr h₀ L s.heap m) (N : News h₀ L s.heap news)
    (hA : A.handled = none) (hd : A.depth ≤ 940) (hu : A.units ≤ 9600) (hx : h₀.get? x = some (instObj 52 dx)) (hm : (dx, o) ∈ news) (hi : InfoD w.params r o) (h1 : ∀ p ∈ rest, p ∈ news) (h2 : ∀ p ∈ rest, p.1 ≠ dx)
    (h : ∀ o' h' tk', Fr h₀ L h' m → News h₀ L h' ((dx, o') :: rest) → InfoD w.params { r with cl := c } o' → Q .none { s with heap := h', toks := tk' }) :
    wpAny (model PySem.Challenge.rw_nu0223_01.row.prog w) A (call (.ref 114) [.ref x, .int c t]) Q E s := by
  obtain ⟨g, a1, a2, a3, a4, a5, a6⟩ := site (fp := [(dx, o)]) F N (fun p hp => List.mem_singleton.mp hp ▸ hm) h1 (fun p hp q hq => by rw [List.mem_singleton.mp hq]; exact h2 p hp)
  refine wp_le (set_cluster_spec ((gd X T).keeps a1) a2 a3 a4 (a1 _ _ hx) hi ?_) hA hd hu rfl rfl
  intro o' h' tk' k1 _ k3 k4
  obtain ⟨F', N'⟩ := a6 h' _ k1 k3
  exact h o' h' tk' F' N' k4
theorem mix_of {P : Params} : ∀ {cs : List Cell} {rs : List Row}, Cells P cs rs → (∀ c ∈ cs, h₀.get? c.x = some (instObj 52 c.dx)) → (∀ c ∈ cs, (c.dx, c.o) ∈ news) → InfosMix P h₀ news (crefs cs) rs
  | _, _, .nil, _, _ => .nil
  | _, _, .cons i r, h1, h2 => .cons ⟨_, _, _, rfl, h1 _ (.head _), h2 _ (.head _), i⟩ (mix_of r (fun c hc => h1 c (.tail _ hc)) fun c hc => h2 c (.tail _ hc))
theorem mem_dled {cs : List Cell} {c : Cell} (h : c ∈ cs) : (c.dx, c.o) ∈ dled cs := List.mem_map_of_mem h
theorem pick_two {a b : Value} {vr : List Value} : (slicePick (a :: b :: vr).toArray (some 0) (some 2) none).toList = [a, b] := (pick_zero (by decide)).trans rfl
end
theorem dled_append (a b : List Cell) : dled (a ++ b) = dled a ++ dled b := by simp [dled]
theorem sorted_cl {rs : List Row} (hs : Sorted rs) {a b : Nat} (h : a < b) (hb : b < rs.length) : clAt rs a ≤ clAt rs b := by
  have h1 := List.pairwise_iff_getElem.mp hs a b (by omega) hb h
  rw [clAt_of (List.getElem?_eq_getElem (by omega : a < rs.length)), clAt_of (List.getElem?_eq_getElem hb)]
  exact h1
theorem merged_row {rs : List Row} {b : Nat} (hs : Sorted rs) (W : Wid rs b) (hc : clAt rs 0 ≠ clAt rs 1) {k : Nat} {r : Row} (h : rs[k]? = some r) :
    (if k < b then { r with cl := clAt rs 0 } else r) = if r.cl = clAt rs 1 then { r with cl := clAt rs 0 } else r := by
  obtain ⟨w1, w2, w3, w4⟩ := W
  have e := clAt_of h
  have hk := (List.getElem?_eq_some_iff.mp h).1
  by_cases h1 : k < b
  · rw [if_pos h1]
    by_cases h0 : k = 0
    · subst h0
      rw [if_neg (by rw [← e]; exact hc), e]
    · rw [if_pos (by rw [← e]; exact w3 k (by omega) h1)]
  · rw [if_neg h1, if_neg]
    rw [← e]
    intro e2
    have hb : b < rs.length := by omega
    have h3 := w4 hb
    have h4 := sorted_cl hs (a := 1) (b := b) (by omega) hb
    by_cases h5 : k = b
    · rw [h5] at e2; exact h3 e2
    · have h6 := sorted_cl hs (a := b) (b := k) (by omega) hk
      omega
theorem dled_fst (ds : List Cell) : (dled ds).map (·.1) = (ds.map fun c => (c.x, c.dx)).map (·.2) := by simp [dled, Function.comp_def]
theorem xdx_get {ds cs : List Cell} (h : ds.map (fun c => (c.x, c.dx)) = cs.map (fun c => (c.x, c.dx))) {k : Nat} {c : Cell} (hc : cs[k]? = some c) : ∃ o, ds[k]? = some ⟨c.x, c.dx, o⟩ := by
  have h1 : (ds.map (fun c => (c.x, c.dx)))[k]? = (cs.map (fun c => (c.x, c.dx)))[k]? := by rw [h]
  rw [List.getElem?_map, List.getElem?_map, hc] at h1
  cases hd : ds[k]? with
  | none => rw [hd] at h1; simp at h1
  | some d =>
    rw [hd] at h1; simp at h1
    obtain ⟨dx, ddx, o⟩ := d
    simp at h1
    exact ⟨o, by rw [h1.1, h1.2]⟩
theorem set_xdx {ds : List Cell} {k : Nat} {x dx : Addr} {o o' : Obj} (h : ds[k]? = some ⟨x, dx, o⟩) : (ds.set k ⟨x, dx, o'⟩).map (fun c => (c.x, c.dx)) = ds.map (fun c => (c.x, c.dx)) := by
  apply List.ext_getElem?
  intro j
  rw [List.getElem?_map, List.getElem?_map, List.getElem?_set]
  by_cases e : k = j
  · subst e; rw [h]; simp [(List.getElem?_eq_some_iff.mp h).1]
  · rw [if_neg e]
theorem st55 : True := by w_top off; k_with_none; trivial
theorem st56 : True := by
  k_with "my all" => (assumption)
  k_with "my range" => (first | (with_unfolding_all refine range1_rows ‹Fr _ _ _ _› ‹News _ _ _ _› ?_) | (with_unfolding_all refine range2_rows ‹Fr _ _ _ _› ‹News _ _ _ _› ?_))
  k_with "my inst" => (first
    | (refine' inst_base ?F ?h1 ?h2; (case F => k_asm); (case h1 => assumption); (case h2 => assumption))
    | (refine' inst_half ?F ?N ?h1 ?h2; (case F => k_asm); (case N => k_asm); (case h1 => assumption); (case h2 => k_mem)))
  k_with "my ne" => ((try dsimp only); first | with_reducible assumption | (refine Ne.symm ?_; with_reducible assumption) | (have h9 := ‹(_ ≠ _ ∧ _ ≠ _ ∧ _ ≠ _) ∧ _›; first | exact h9.1.1 | exact h9.1.2.1 | exact h9.1.2.2 | exact h9.2.1.1 | exact h9.2.1.2.1 | exact h9.2.1.2.2 | exact h9.2.2.1 | exact h9.2.2.2.1 | exact h9.2.2.2.2 | exact h9.2.1 | exact h9.2.2.1 | exact h9.2.2.2))
  k_with "my pick" => (first | exact Pick.nil | (refine' Pick.take (by k_mem) (by walk_at "my pick")) | (refine' Pick.skip (by k_all) (by walk_at "my pick")) | (refine Pick.all (by assumption)))
  k_with "call ref" => (k_here; (with_reducible show wpAny _ _ (call (Value.ref 283) [Value.ref _, Value.int _ _]) _ _ _); k_dflt (refine' draw_at (by k_asm) (by k_asm) (by k_asm) (by k_asm) (by rfl) (by exact Nat.le_of_ble_eq_true rfl) (by exact Nat.le_of_ble_eq_true rfl) (by k_asm) (by k_asm) (by k_mem) (by k_mem) (by walk_at "my pick") (by omega) (by decide) (by decide) ?_); intro _ _ _ _ _ _ _ _ _ _ _; (try k_sweep))
  trivial
theorem st57 : True := by
  k_with "call ref" => (k_here; (with_reducible show wpAny _ _ (call (Value.ref 52) [Value.int _ _, Value.int _ _, Value.int _ _]) _ _ _); k_dflt (refine' info_at (by k_asm) (by k_asm) (by k_asm) (by k_asm) (by rfl) (by exact Nat.le_of_ble_eq_true rfl) (by exact Nat.le_of_ble_eq_true rfl) ?_); walk_at "my new"; (try k_sweep))
  trivial
theorem st58 : True := by
  k_with "compareOp NotIn int ref" => (k_here; k_dflt (first | (refine' m_nin0 (by k_asm) (by assumption) (by assumption) (by assumption) ?_; k_whole) | (refine' m_nin (by k_asm) (by assumption) (by assumption) (by assumption) ?_; k_whole)))
  k_with "compareOp In int ref" => (k_here; k_dflt (first | (refine' m_in0 (by k_asm) (by assumption) (by assumption) (by assumption) ?_; k_whole) | (refine' m_in (by k_asm) (by assumption) (by assumption) (by assumption) ?_; k_whole)))
  k_with "subscriptTail" => (k_here; (with_reducible show wpAny _ _ (subscriptTail _ _ (Value.ref _) (Value.int _ _)) _ _ _); k_dflt (first | (refine' m_item (by k_asm) (by assumption) (by assumption) ?_; k_whole) | (refine' b_item (by k_asm) (by assumption) (by omega) (by omega) (by assumption) ?_; k_whole) | (refine' l_item (by k_asm) (by k_mem) (by omega) (by omega) (by assumption) ?_; k_whole)))
  trivial
theorem st59 : True := by
  k_with "my slice" => (k_here; k_dflt (refine' kmk_slice_lit (by k_asm) (by k_asm) (by kmk_list) (by kmk_part) (by kmk_part) (by first | exact pick_one (by assumption) | exact pick_zero (by omega) | exact pick_from (by omega) | exact pick_upto (by omega)) ?_ (by with_unfolding_all rfl) (by kmk_pure) (by ((rw [PySem.sizeLine_eq]); (simp only [List.size_toArray]); omega))); intro _ _ _ _; walk_at "my lt"; (try k_sweep))
  k_with "subscriptTail Name Slice ref ref" => (walk_at "my slice")
  k_with "subscriptTail Attribute Slice ref ref" => (walk_at "my slice")
  k_with "setItem ref ref" => (k_here; k_dflt (refine' l_setSlice1 (by k_asm) (by k_asm) (by k_updF) (by k_mem) (by omega) (by assumption) (by omega) ?_; intro _ _ _; walk_at "my dn"))
  trivial
theorem st60 : True := by
  k_with "call builtin:len" => (k_here; (with_reducible show wpAny _ _ (call (Value.builtin "len") [Value.ref _]) _ _ _); k_dflt (first | (refine' b_len (by k_asm) (by assumption) (by assumption) (by omega) ?_; k_whole) | (refine' l_len (by k_asm) (by k_mem) (by assumption) (by omega) ?_; k_whole)))
  trivial
theorem st61 : True := by
  k_with "my slice" => (k_here; k_dflt (refine' kmk_slice_lit (by k_asm) (by k_asm) (by exact PySem.IsL.isList (Fr.keep (by k_asm) _ _ (by assumption))) (by kmk_part) (by kmk_part) (by first | exact pick_two | exact pick_zero (by omega)) ?_ (by with_unfolding_all rfl) (by kmk_pure) (by ((rw [PySem.sizeLine_eq]); (simp only [List.size_toArray, List.length_cons]); omega))); intro _ _ _ _; walk_at "my lt"; (try k_sweep))
  k_with "call ref" => (k_here; (with_reducible show wpAny _ _ (call (Value.ref 121) [Value.ref _, Value.int _ _, Value.int _ _]) _ _ _); refine Hold.mk ?_)
  k_with "call ref" => (k_here; (with_reducible show wpAny _ _ (call (Value.ref 114) [Value.ref _, Value.int _ _]) _ _ _); refine Hold.mk ?_)
  k_with "CompEnd" => (refine LCg.CompEnd.intro (by k_asm) (by k_asm) _ (fun _ h => h) (by first | assumption | (simp only [LCg.Off3, and_true]; assumption)) (by lcg_src) ?_)
  trivial
inductive MrgJ (P : Params) (lc : Int) (tM : Tok) (S : Addr) (so : Obj) (cs : List Cell) (rs : List Row) (j : Nat) (m : Str → Option Value) : List (Addr × Obj) → Prop
  | mk (ds : List Cell) (hm : Has m [(Str.ofString "least_cluster", .int lc tM)]) (hxd : ds.map (fun c => (c.x, c.dx)) = cs.map (fun c => (c.x, c.dx)))
    (hin2 : ∀ (k : Nat) c r, ds[k]? = some c → rs[k]? = some r → InfoD P (if k < j then { r with cl := lc } else r) c.o) : MrgJ P lc tM S so cs rs j m ((S, so) :: dled ds)
set_option maxHeartbeats 4000000 in
theorem merge2_spec {w : World} {g : Heap} {s : Shared} {buf dbuf R : Addr} {ob : Obj} {sp : Int} {cs : List Cell} {rs : List Row} {nR : Nat} {v1 v2 : Tok} {Q E : Value → Shared → Prop}
    (G : Gd w g) (stay : g.StaysIn s.heap) (hsz : g.objs.size ≤ s.heap.objs.size) (N : LedIn g s.heap (dled cs)) (ap : Apart (dled cs)) (hi : Cells w.params cs rs) (hin : ∀ c ∈ cs, g.get? c.x = some (instObj 52 c.dx))
    (h3 : g.get? buf = some (instObj 103 dbuf)) (h4 : g.get? dbuf = some ob) (hB : BufD w.params R sp ob) (h5 : g.get? R = some (listOf (crefs cs).toArray nR)) (h2 : 2 ≤ rs.length) (hl : rs.length ≤ 1000) (hs : Sorted rs) (hc : clAt rs 0 ≠ clAt rs 1)
    (ret : ∀ ds h' tk', g.StaysIn h' → g.objs.size ≤ h'.objs.size → LedIn g h' (dled ds) → ds.map (fun c => (c.x, c.dx)) = cs.map (fun c => (c.x, c.dx)) → Cells w.params ds (rs.map fun r => if r.cl = clAt rs 1 then { r with cl := clAt rs 0 } else r) → Q .none { s with heap := h', toks := tk' }) :
    wpAny (model PySem.Challenge.rw_nu0223_01.row.prog w) (AA 900 9000) (call (.ref 126) [.ref buf, .int 0 v1, .int 2 v2]) Q E s := by
  obtain ⟨b1, b2, b3, b4, d3, d4, rfl⟩ := hB
  have hlc : cs.length = rs.length := hi.length
  refine enter (binds := [(Str.ofString "buffer", .ref buf), (Str.ofString "begin", .int 0 v1), (Str.ofString "end", .int 2 v2)]) G stay hsz N (by k_is) (by k_is) (by decide) (BindsTo.of_eq rfl) (locs rfl) ?_
  · intro mean mg mb L' h₁ X T F N' lt eL
    dsimp only [List.reverse, List.reverseAux] at F
    have hi' := hi
    rcases hi with _ | ⟨i0, _ | ⟨i1, ir⟩⟩
    · simp at h2
    · simp at h2
    rename_i c0 r0 c1 r1 cr rr
    obtain ⟨x0, dx0, o0⟩ := c0
    obtain ⟨x1, dx1, o1⟩ := c1
    have g0 := hin _ (.head _)
    have g1 := hin _ (.tail _ (.head _))
    dsimp only at g0 g1 i0 i1
    have hcl : r0.cl < r1.cl := by
      have := hs; simp [Sorted] at this
      have h9 := this.1.1
      simp [clAt] at hc; omega
    obtain ⟨kt, e0⟩ := i0
    obtain ⟨kt', e1⟩ := i1
    obtain ⟨vr, hvr⟩ : ∃ vr, vr = crefs cr := ⟨_, rfl⟩
    have h5' : g.get? R = some (listOf (.ref x0 :: .ref x1 :: vr).toArray nR) := by rw [hvr]; exact h5
    have hlr : vr.length + 2 ≤ 1000 := by rw [hvr]; simp [crefs] at hlc hl ⊢; omega
    obtain ⟨tl, htl⟩ : ∃ tl, tl = dled cr := ⟨_, rfl⟩
    have N2 : News g L' h₁ ((dx0, o0) :: (dx1, o1) :: tl) := by rw [htl]; exact N'
    rw [e0, e1] at N2
    clear N' lt
    k_with "pyIter ref" => (refine Hold.mk ?_)
    show wpAny _ _ _ _ _ _
    k_fold
    k_steps
    all_goals (try dsimp only)
    rename Fr _ _ _ _ => F3
    rename News _ _ _ _ => N3
    rename_i M tM kM aM bM hM
    refine Hold.of ?_
    have eM : M = r0.cl := by omega
    subst eM
    rw [← e0, ← e1, htl] at N3
    have hmix := mix_of (news := dled _) hi' hin (fun c hc => mem_dled hc)
    obtain ⟨cs', hcs⟩ : ∃ cs' : List Cell, cs' = ⟨x0, dx0, o0⟩ :: ⟨x1, dx1, o1⟩ :: cr := ⟨_, rfl⟩
    obtain ⟨rs', hrs⟩ : ∃ rs' : List Row, rs' = r0 :: r1 :: rr := ⟨_, rfl⟩
    have N4 : News g L' hM (dled cs') := fun p hp => N3 p (.tail _ (.tail _ (by rw [hcs] at hp; exact hp)))
    have h5'' : g.get? R = some (listOf (crefs cs').toArray nR) := by rw [hcs]; exact h5
    rw [← hcs] at hi' hin hmix ap hlc
    rw [← hrs] at hi' h2 hl hs hc hmix hlc
    have hlr' : (crefs cs').length = rs'.length := by simp [crefs, hlc]
    refine fr_cut [(Str.ofString "buffer", .ref buf), (Str.ofString "begin", .int 0 v1), (Str.ofString "end", .int 2 v2), (Str.ofString "least_cluster", .int r0.cl tM)] F3 ⟨rfl, rfl, rfl, rfl, trivial⟩ fun u F4 => ?_
    clear N3 F3 h5'
    k_with "pyIter ref" => (refine Hold.mk ?_)
    refine wid_at X T F4 N4 rfl (Nat.le_of_ble_eq_true rfl) (Nat.le_of_ble_eq_true rfl) h5'' hmix h2 hl ?_
    intro tp b nb u1 u2 hW tkW F5 N5 off5 hW2
    dsimp only
    clear F4 N4
    show wpAny _ _ _ _ _ _
    (try k_fold)
    k_steps
    all_goals (try dsimp only)
    rename Fr _ _ _ _ => F6
    rename News _ _ _ _ => N6
    rename_i hz1 hz2 hz3 S hS l1S
    refine Hold.of ?_
    have hb : ((b : Nat) : Int).toNat = b := Int.toNat_natCast b
    rw [hb] at N6
    refine fr_cut [(Str.ofString "least_cluster", .int r0.cl tM)] F6 ⟨rfl, trivial⟩ fun u F7 => ?_
    have hSoff : ∀ p ∈ dled cs', @LT.lt Nat _ p.1 S := tb_ltOf l1S.2
    have N7 : News g L' hS ((S, listOf (List.take b (crefs cs')).toArray 0) :: dled cs') := fun p hp => N6 p (by
      rcases List.mem_cons.mp hp with rfl | hp
      · exact .head _
      · exact .tail _ (.tail _ hp))
    clear N6 F6
    have hc0 : clAt rs' 0 = r0.cl := by rw [hrs]; rfl
    have hbl : b ≤ rs'.length := hW2.2.1
    have hi0 : ∀ (k : Nat) c r, cs'[k]? = some c → rs'[k]? = some r → InfoD w.params r c.o := fun k c r q1 q2 => hi'.get q1 q2
    refine lst_iter (vs := List.take b (crefs cs')) (nn := 0) (MrgJ w.params r0.cl tM S (listOf (List.take b (crefs cs')).toArray 0) cs' rs') rfl (.head _) F7 N7 ⟨cs', ⟨rfl, trivial⟩, rfl, fun k c r q1 q2 => by simpa using hi0 k c r q1 q2⟩ ?turn ?done
    case turn =>
      rintro j v m₁ nx h tk own hv hoff hmem ⟨ds, hm, hxd, hin2⟩ F N
      have hjb : j < b := by have := (List.getElem?_eq_some_iff.mp hv).1; simp at this; omega
      obtain ⟨c, hcj⟩ : ∃ c, cs'[j]? = some c := ⟨_, List.getElem?_eq_getElem (by omega)⟩
      obtain ⟨r, hrj⟩ : ∃ r, rs'[j]? = some r := ⟨_, List.getElem?_eq_getElem (by omega)⟩
      obtain ⟨x, dx, o⟩ := c
      have hvx : v = .ref x := by
        rw [List.getElem?_take, if_pos hjb] at hv
        simp [crefs, hcj] at hv
        exact hv.symm
      subst hvx
      obtain ⟨o', hdj⟩ := xdx_get hxd hcj
      dsimp only at hdj
      have hix := hin _ (List.mem_of_getElem? hcj)
      dsimp only at hix
      have hI := hin2 j _ r hdj hrj
      rw [if_neg (Nat.lt_irrefl j)] at hI
      dsimp only at hI
      have hF : Fr g L' h _ := F
      have hN : News g L' h _ := N
      refine fr_cut _ hF (has_upd hm rfl) fun u F8 => ?_
      clear F hF N F7 N7
      show wpAny _ _ _ _ _ _
      k_fold
      k_steps
      all_goals (try dsimp only)
      refine Hold.of ?_
      rename Fr _ _ _ _ => F9
      rename News _ _ _ _ => N9
      have hsp := split_at hdj
      have apd : Apart (dled (ds.take j) ++ ([(dx, o')] ++ dled (ds.drop (j + 1)))) := by
        have e : Apart (dled ds) := by unfold Apart at ap ⊢; rw [dled_fst, hxd, ← dled_fst]; exact ap
        rw [hsp, dled_append] at e
        exact e
      obtain ⟨am1, _⟩ := apd.mid
      have hdS : @LT.lt Nat _ dx S := hSoff (dx, o) (mem_dled (List.mem_of_getElem? hcj))
      obtain ⟨rest, hrest⟩ : ∃ rest, rest = (S, listOf (List.take b (crefs cs')).toArray 0) :: (dled (ds.take j) ++ dled (ds.drop (j + 1)) ++ own) := ⟨_, rfl⟩
      refine setc_at (rest := rest) X T F9 N9 rfl (Nat.le_of_ble_eq_true rfl) (Nat.le_of_ble_eq_true rfl) hix (.tail _ (List.mem_append.mpr (.inl (mem_dled (List.mem_of_getElem? hdj))))) hI ?h1 ?h2 ?_
      case h1 =>
        intro p hp
        rw [hrest] at hp
        rw [hsp, dled_append]
        simp only [List.mem_cons, List.mem_append, List.cons_append, dled, List.map_cons] at hp ⊢
        rcases hp with hp | (hp | hp) | hp <;> simp only [hp, true_or, or_true]
      case h2 =>
        intro p hp
        rw [hrest] at hp
        simp only [List.mem_cons, List.mem_append] at hp
        rcases hp with rfl | (hp | hp) | hp
        · exact Nat.ne_of_gt hdS
        · exact am1 p (List.mem_append.mpr (.inl hp)) _ (.head _)
        · exact am1 p (List.mem_append.mpr (.inr hp)) _ (.head _)
        · exact hoff p hp dx (by rw [hsp, dled_append]; simp [dled])
      intro o2 hq tkq F10 N10 hI2
      dsimp only
      clear F9 N9 hm
      (try show wpAny _ _ _ _ _ _)
      (try k_fold)
      k_steps
      all_goals (try dsimp only)
      rename Fr _ _ _ _ => F11
      rename News _ _ _ _ => N11
      have hxd2 := set_xdx (o' := o2) hdj
      have hset := set_split (j := j) (c' := ⟨x, dx, o2⟩) hsp (by rw [List.length_take]; have := (List.getElem?_eq_some_iff.mp hdj).1; omega)
      refine Turn.next ((S, listOf (List.take b (crefs cs')).toArray 0) :: dled (ds.set j ⟨x, dx, o2⟩)) F11 N11 ⟨.head _, ds.set j ⟨x, dx, o2⟩, ⟨rfl, trivial⟩, hxd2.trans hxd, ?_⟩ ?_ ?_ ?_
      · intro k c' r' q1 q2
        rw [List.getElem?_set] at q1
        by_cases e : j = k
        · subst e
          rw [if_pos rfl, if_pos (List.getElem?_eq_some_iff.mp hdj).1] at q1
          rw [hrj] at q2
          cases q1; cases q2
          rw [if_pos (Nat.lt_succ_self j)]
          exact hI2
        · rw [if_neg e] at q1
          have := hin2 k c' r' q1 q2
          by_cases e2 : k < j
          · rw [if_pos e2] at this; rw [if_pos (by omega)]; exact this
          · rw [if_neg e2] at this; rw [if_neg (by omega)]; exact this
      · intro p hp q hq
        have h9 := hoff p hp q
        simp only [List.map_cons, dled_fst] at h9 hq
        rw [hxd2] at hq
        exact h9 hq
      · intro p hp
        rw [hset, dled_append] at hp
        rw [hrest]
        simp only [List.mem_cons, List.mem_append, dled, List.map_cons] at hp ⊢
        rcases hp with hp | hp | hp | hp <;> simp only [hp, true_or, or_true]
      · intro p hp
        rw [hrest]
        simp only [List.mem_cons, List.mem_append]
        simp only [hp, or_true]
    case done =>
      rintro m₁ nx h tk ⟨ds, hm, hxd, hin2⟩ F N
      have hF : Fr g L' h _ := F
      have hN : News g L' h _ := N
      refine fr_cut _ hF hm fun u F8 => ?_
      clear F hF N F7 N7
      dsimp only
      show wpAny _ _ _ _ _ _
      (try k_fold)
      k_steps
      all_goals (try dsimp only)
      refine Out.intro F8 (news' := dled ds) (fun p hp => hN p (.tail _ hp)) (fun hZ tkZ kZ1 kZ2 kZ3 => ret ds hZ tkZ kZ1 kZ2 kZ3 (by rw [hxd, hcs]) ?_)
      rw [← hrs]
      have hdl : ds.length = cs'.length := by have := congrArg List.length hxd; simpa using this
      refine All2.of_index (by simp [hdl, hlc]) fun k c r' q1 q2 => ?_
      simp only [List.getElem?_map, Option.map_eq_some_iff] at q2
      obtain ⟨r, hr, rfl⟩ := q2
      have h9 := hin2 k c r q1 hr
      rw [← hc0, List.length_take, hlr', Nat.min_eq_left hbl] at h9
      rw [← merged_row hs hW2 hc hr]
      exact h9
end
section
theorem st62 : True := by w_top off; k_with_none; trivial
theorem st63 : True := by
  k_with "my all" => (assumption)
  k_with "my range" => (first | (with_unfolding_all refine range1_rows ‹Fr _ _ _ _› ‹News _ _ _ _› ?_) | (with_unfolding_all refine range2_rows ‹Fr _ _ _ _› ‹News _ _ _ _› ?_))
  k_with "my inst" => (first
    | (refine' inst_base ?F ?h1 ?h2; (case F => k_asm); (case h1 => assumption); (case h2 => assumption))
    | (refine' inst_half ?F ?N ?h1 ?h2; (case F => k_asm); (case N => k_asm); (case h1 => assumption); (case h2 => k_mem)))
  k_with "my ne" => ((try dsimp only); first | with_reducible assumption | (refine Ne.symm ?_; with_reducible assumption) | (have h9 := ‹(_ ≠ _ ∧ _ ≠ _ ∧ _ ≠ _) ∧ _›; first | exact h9.1.1 | exact h9.1.2.1 | exact h9.1.2.2 | exact h9.2.1.1 | exact h9.2.1.2.1 | exact h9.2.1.2.2 | exact h9.2.2.1 | exact h9.2.2.2.1 | exact h9.2.2.2.2 | exact h9.2.1 | exact h9.2.2.1 | exact h9.2.2.2))
  k_with "my pick" => (first | exact Pick.nil | (refine' Pick.take (by k_mem) (by walk_at "my pick")) | (refine' Pick.skip (by k_all) (by walk_at "my pick")) | (refine Pick.all (by assumption)))
  k_with "call ref" => (k_here; (with_reducible show wpAny _ _ (call (Value.ref 283) [Value.ref _, Value.int _ _]) _ _ _); k_dflt (refine' draw_at (by k_asm) (by k_asm) (by k_asm) (by k_asm) (by rfl) (by exact Nat.le_of_ble_eq_true rfl) (by exact Nat.le_of_ble_eq_true rfl) (by k_asm) (by k_asm) (by k_mem) (by k_mem) (by walk_at "my pick") (by omega) (by decide) (by decide) ?_); intro _ _ _ _ _ _ _ _ _ _ _; (try k_sweep))
  trivial
theorem st64 : True := by
  k_with "call ref" => (k_here; (with_reducible show wpAny _ _ (call (Value.ref 52) [Value.int _ _, Value.int _ _, Value.int _ _]) _ _ _); k_dflt (refine' info_at (by k_asm) (by k_asm) (by k_asm) (by k_asm) (by rfl) (by exact Nat.le_of_ble_eq_true rfl) (by exact Nat.le_of_ble_eq_true rfl) ?_); walk_at "my new"; (try k_sweep))
  trivial
theorem st65 : True := by
  k_with "compareOp NotIn int ref" => (k_here; k_dflt (first | (refine' m_nin0 (by k_asm) (by assumption) (by assumption) (by assumption) ?_; k_whole) | (refine' m_nin (by k_asm) (by assumption) (by assumption) (by assumption) ?_; k_whole)))
  k_with "compareOp In int ref" => (k_here; k_dflt (first | (refine' m_in0 (by k_asm) (by assumption) (by assumption) (by assumption) ?_; k_whole) | (refine' m_in (by k_asm) (by assumption) (by assumption) (by assumption) ?_; k_whole)))
  k_with "subscriptTail" => (k_here; (with_reducible show wpAny _ _ (subscriptTail _ _ (Value.ref _) (Value.int _ _)) _ _ _); k_dflt (first | (refine' m_item (by k_asm) (by assumption) (by assumption) ?_; k_whole) | (refine' b_item (by k_asm) (by assumption) (by omega) (by omega) (by assumption) ?_; k_whole) | (refine' l_item (by k_asm) (by k_mem) (by omega) (by omega) (by assumption) ?_; k_whole)))
  trivial
theorem st66 : True := by
  k_with "my slice" => (k_here; k_dflt (refine' kmk_slice_lit (by k_asm) (by k_asm) (by kmk_list) (by kmk_part) (by kmk_part) (by first | exact pick_one (by assumption) | exact pick_zero (by omega) | exact pick_from (by omega) | exact pick_upto (by omega)) ?_ (by with_unfolding_all rfl) (by kmk_pure) (by ((rw [PySem.sizeLine_eq]); (simp only [List.size_toArray]); omega))); intro _ _ _ _; walk_at "my lt"; (try k_sweep))
  k_with "subscriptTail Name Slice ref ref" => (walk_at "my slice")
  k_with "subscriptTail Attribute Slice ref ref" => (walk_at "my slice")
  k_with "setItem ref ref" => (k_here; k_dflt (refine' l_setSlice1 (by k_asm) (by k_asm) (by k_updF) (by k_mem) (by omega) (by assumption) (by omega) ?_; intro _ _ _; walk_at "my dn"))
  trivial
theorem st67 : True := by
  k_with "call builtin:len" => (k_here; (with_reducible show wpAny _ _ (call (Value.builtin "len") [Value.ref _]) _ _ _); k_dflt (first | (refine' b_len (by k_asm) (by assumption) (by assumption) (by omega) ?_; k_whole) | (refine' l_len (by k_asm) (by k_mem) (by assumption) (by omega) ?_; k_whole)))
  trivial
set_option maxHeartbeats 4000000 in
theorem hb_spec {w : World} {g : Heap} {s : Shared} {R x dx : Addr} {o : Obj} {r : Row} {vs : List Value} {nR : Nat} {k c : Int} {u1 u2 : Tok} {Q E : Value → Shared → Prop}
    (G : Gd w g) (stay : g.StaysIn s.heap) (hsz : g.objs.size ≤ s.heap.objs.size) (h5 : g.get? R = some (listOf (List.toArray vs) nR)) (h0 : 0 ≤ k) (h1 : k < 1000) (hx : vs[k.toNat]? = some (.ref x)) (h6 : g.get? x = some (instObj 52 dx)) (h7 : g.get? dx = some o) (hi : InfoD w.params r o) (hc : r.cl ≤ c)
    (ret : ∀ h' tk', g.StaysIn h' → g.objs.size ≤ h'.objs.size → Q .none { s with heap := h', toks := tk' }) :
    wpAny (model PySem.Challenge.rw_nu0223_01.row.prog w) (AA 920 9200) (call (.ref 133) [.ref R, .int k u1, .int c u2]) Q E s := by
  obtain ⟨kt, rfl⟩ := hi
  refine enter (news := []) (binds := [(Str.ofString "row", .ref R), (Str.ofString "at", .int k u1), (Str.ofString "cluster", .int c u2)]) G stay hsz (fun _ h => nomatch h) (by k_is) (by k_is) (by decide) (BindsTo.of_eq rfl) (locs rfl) ?_
  · intro mean mg mb L' h₁ X T F N' lt eL
    dsimp only [List.reverse, List.reverseAux] at F
    k_with "exec While BoolOp cons nil" => (refine Hold.mk ?_)
    k_fold
    k_steps
    all_goals (try dsimp only)
    rename Fr _ _ _ _ => F2
    rename News _ _ _ _ => N2
    refine Hold.of ?_
    refine fr_cut [(Str.ofString "cluster", .int c u2), (Str.ofString "before", .int r.cl (kt 18))] F2 ⟨rfl, rfl, trivial⟩ fun u F3 => ?_
    refine wh (n₀ := 0) (fun n m nx => nx = [] ∧ Has m [(Str.ofString "cluster", .int c u2), (Str.ofString "before", .int r.cl (kt 18))]) F3 N2 ⟨rfl, rfl, rfl, trivial⟩ ?_
    rintro n m₁ nx h tk F N ⟨rfl, hm⟩
    refine fr_cut _ F hm fun u F4 => ?_
    clear F F3 F2 N2
    show wpAny _ _ _ _ _ _
    k_fold
    k_steps
    all_goals (try dsimp only)
    all_goals (rename Fr _ _ _ _ => F9; rename News _ _ _ _ => N9)
    · exact Out.intro F9 N9 (fun hZ tkZ kZ1 kZ2 kZ3 => ret hZ tkZ kZ1 kZ2)
section
variable {w : World} {A : Around} {E : Value → Shared → Prop} {s : Shared} {h₀ : Heap} {L : Addr} {m : Str → Option Value} {news rest : List (Addr × Obj)} {mean : ExcName → Option Value} {mg mb : Str → Option Value} {Q : Value → Shared → Prop}
theorem hb_at {R x dx : Addr} {o : Obj} {r : Row} {vs : List Value} {nR : Nat} {k c : Int} {u1 u2 : Tok} (X : (Mine.hd.heap_1 w.params).In h₀) (T : Top Mine.vw (looseW Mine.vw []) mean mg mb h₀) (F : Fr h₀ L s.heap m) (N : News h₀ L s.heap news)
    (hA : A.handled = none) (hd : A.depth ≤ 920) (hu : A.units ≤ 9200) (h5 : h₀.get? R = some (listOf (List.toArray vs) nR)) (h0 : 0 ≤ k) (h1 : k < 1000) (hx : vs[k.toNat]? = some (.ref x)) (h6 : h₀.get? x = some (instObj 52 dx)) (h7 : h₀.get? dx = some o) (hi : InfoD w.params r o) (hc : r.cl ≤ c)
    (h : ∀ h' tk', Fr h₀ L h' m → News h₀ L h' news → Q .none { s with heap := h', toks := tk' }) :
    wpAny (model PySem.Challenge.rw_nu0223_01.row.prog w) A (call (.ref 133) [.ref R, .int k u1, .int c u2]) Q E s := by
  obtain ⟨g, a1, a2, a3, a4, a5, a6⟩ := siteP [] F N (fun _ h => nomatch h) (.all fun _ _ _ h => nomatch h)
  refine wp_le (hb_spec ((gd X T).keeps a1) a2 a3 (a1 _ _ h5) h0 h1 hx (a1 _ _ h6) (a1 _ _ h7) hi hc ?_) hA hd hu rfl rfl
  intro h' tk' k1 _
  obtain ⟨F', N'⟩ := a6 h' [] k1 (fun _ h => nomatch h)
  exact h h' tk' F' N'
end
end
section
section
variable {w : World} {A : Around} {g : Heap} {s : Shared} {news : List (Addr × Obj)} {name qual : Str} {params : Arguments} {body : List Stmt} {scope : Scope} {dV kV doc pm cdv ct oc : Value} {an od : Option Addr} {osl : Array (Option Value)} {f : Addr} {args : Args} {binds : List (Str × Value)}
  {Q : Value → Shared → Prop} {E : Value → Shared → Prop}
/-- the entry of a def with cells -/
theorem enterC (G : Gd w g) (st : g.StaysIn s.heap) (hsz : g.objs.size ≤ s.heap.objs.size) (N : LedIn g s.heap news)
    (ho : (Mine.hd.heap_1 w.params).lookup f = some ⟨oc, od, .func (fnOf name qual params body scope dV kV doc pm an cdv ct), osl⟩)
    (hcd : codeIn (Mine.hd.heap_1 w.params) cdv qual = true) (hroom : A.depth < recursionLimit) {pos : List Value}
    (hbind : BindsTo s (fnOf name qual params body scope dV kV doc pm an cdv ct) ⟨pos, []⟩ binds)
    (hkind : (binds.all fun y => scope.names.lookup y.1 == some .local || scope.names.lookup y.1 == some .cell) = true) (hnd : ((cellsFrom 0 scope.names []).map (·.1)).Nodup)
    (hb : ∀ mean mg mb L' h₁ tk cells, (Mine.hd.heap_1 w.params).In g → Top Mine.vw (looseW Mine.vw []) mean mg mb g → Fr g L' h₁ (bindL (envOfC qual scope L' f cdv).kindOf binds fun _ => none) → News g L' h₁ (cells ++ news) →
      CellsAre (bindC (envOfC qual scope L' f cdv).kindOf binds fun _ => none) (cellsFrom (L' + 1) scope.names []) cells → AllLt L' news → @Eq Nat L' s.heap.objs.size →
      wpAny (model PySem.Challenge.rw_nu0223_01.row.prog w) (A.deeper (envOfC qual scope L' f cdv)) (execs body (envOfC qual scope L' f cdv)) (Out s g L' (KPost g s Q)) (fun _ _ => False) { s with heap := h₁, toks := tk })
    (hco : scope.isCoroutine = false := by rfl) (hgen : scope.isGenerator = false := by rfl) (hk : scope.kind = .function := by rfl) :
    wpAny (model PySem.Challenge.rw_nu0223_01.row.prog w) A (call (.ref f) pos) Q E s := by
  obtain ⟨X, mean, mg, mb, T⟩ := G
  refine wpAny_call ?_
  refine codeAny_call_function (fd := fnOf name qual params body scope dV kV doc pm an cdv ct) (body := body) hroom ((X.keeps st) _ _ ho) rfl hco hgen rfl (codeRec_of (X.keeps st) hcd) (hbind _ _ _ _ ?_)
  refine wpAny_newFunctionEnv_cells hk (kindsX hkind _) fun env' he s' x => ?_
  subst he
  have hk₁ := x.toInCall.keep
  refine ⟨(T.nolimit.keeps st).keeps hk₁, codeAny_func ?_⟩
  obtain ⟨h₁, tk, rfl, _⟩ := x.done
  obtain ⟨cells, NC, Y⟩ := Cl.news (h₀ := s.heap) (Nat.le_refl _) fun n c hm => ⟨x.cell n c (lookup_of_mem_nodup (cellsFrom_names scope.names 0 (s.heap.objs.size + 1) [] [] rfl ▸ hnd) hm), x.above n c hm⟩
  have F : Fr g s.heap.objs.size h₁ (bindL (envOfC qual scope s.heap.objs.size f cdv).kindOf binds fun _ => none) := ⟨x.toInCall.ns, fun b o e => hk₁ b o (st b o e), hsz⟩
  have NN : News g s.heap.objs.size h₁ (cells ++ news) := fun p hp => by
    rcases List.mem_append.mp hp with hp | hp
    · refine ⟨(NC p hp).1, (NC p hp).2.1, ?_⟩
      cases q : g.get? p.1 with
      | none => rfl
      | some o => have := st _ _ q; rw [(NC p hp).2.2] at this; cases this
    · exact news_stays N hk₁ (Nat.le_refl _) p hp
  refine wpAny_mono (hb mean mg mb s.heap.objs.size h₁ tk cells X T F NN Y (allLt_of fun p hp => Heap.lt_size (N p hp).1) rfl) (fun fl s' z => ?_) fun _ _ z => z.elim
  obtain ⟨h', tk', m', news', rfl, F', N', P⟩ := z
  exact P h' tk' F'.keep (Nat.le_of_lt (Nat.lt_of_le_of_lt F'.above F'.ns.lt)) (led_of_news N')
end
end
section
section
variable {prog : Program} {w : World} {A : Around} {E : Value → Shared → Prop} {s : Shared} {h₀ : Heap} {L : Addr} {m : Str → Option Value} {env : Env}
inductive ItBase (prog : Program) (w : World) (A : Around) (h₀ : Heap) (L : Addr) (m : Str → Option Value) (it : Value) (s₂ : Shared) (K : (List (Addr × Obj) → Prop) → (Nat → Value → Prop) → Nat → List (Addr × Obj) → Prop) : Prop
  | mk (I : Addr) (fp : List Addr) (n : Nat) (P : Nat → Value → Prop) (St : Nat → Heap → Prop) (S : List (Addr × Obj) → Prop) (news : List (Addr × Obj)) (e : it = .ref I) (W : Walks prog w A I fp [I] n P St) (hsz : n ≤ sizeLine) (hIo : ∀ i h, St i h → ∃ o, h.get? I = some o)
    (hSt : ∀ i h h' o nw, St i h → h.get? I = some o → h'.get? I = some o → (∀ b o, h₀.get? b = some o → h'.get? b = some o) → News h₀ L h' nw → S nw → St i h')
    (hst : St 0 s₂.heap) (hfp : ∀ b ∈ fp, b < s₂.heap.objs.size) (F : Fr h₀ L s₂.heap m) (N : News h₀ L s₂.heap news) (hIL : L ≠ I) (hI0 : h₀.get? I = none) (off : ∀ p ∈ news, p.1 ≠ I) (hS : S news) (R : K S P n news)
noncomputable def ItT (prog : Program) (w : World) (A : Around) (h₀ : Heap) (L : Addr) (m : Str → Option Value) (env : Env) (ct elt : PySem.Expr) (x : Str) (scope : Scope) (cl : List (Str × Addr)) (Fin : Shared → List Value → List (Addr × Obj) → Prop) (it : Value) (s₂ : Shared) : Prop :=
  ItBase prog w A h₀ L m it s₂ fun S P n news => LCt.CompRestT prog w A h₀ L m env ct elt x scope cl s₂ S P (Fin s₂) n 0 [] news
noncomputable def ItU (prog : Program) (w : World) (A : Around) (h₀ : Heap) (L : Addr) (m : Str → Option Value) (env : Env) (elt : PySem.Expr) (x : Str) (scope : Scope) (cl : List (Str × Addr)) (Fin : Shared → List Value → List (Addr × Obj) → Prop) (it : Value) (s₂ : Shared) : Prop :=
  ItBase prog w A h₀ L m it s₂ fun S P n news => LCg.CompRest prog w A h₀ L m env elt x scope cl s₂ S P (Fin s₂) n 0 [] news
theorem assignT (F0 : Fr h₀ L s.heap m) {ct elt iter : PySem.Expr} {x y : Str} {px py : Pos} {scope : Scope} {cl : List (Str × Addr)} {pos spos : Pos} {Q : Flow → Shared → Prop} (hLe : env.locals = L)
    (hsw : swapsWith (.ListComp elt [⟨.Name x px, iter, [ct], 0⟩] scope pos) (some (.Name y py)) spos.line env = pure true)
    (hclos : closureFor scope env = pure cl) (hcell : ∀ z ∈ scope.names, z.2 ≠ .cell) (hkind : scope.kind = .function)
    (hnames : ∀ z ∈ scope.names, z.2 = .local → scope.names.lookup z.1 = some .local) (hx : scope.names.lookup x = some .local)
    (hy : env.kindOf y = some .local) (hp : (env.scope.kind == .class || (env.scope.kind == .module && env.locals != env.globals)) = false)
    (h : wpAny (model prog w) A (eval iter env) (fun xv s₁ => wpAny (model prog w) A (pyIter xv) (ItT prog w A h₀ L m env ct elt x scope cl (fun s₂ => LCg.FinA h₀ L m s₂ y Q)) E s₁) E s)
    (hs : ∀ x, foldedSetIterable iter env x = pure x := by intro _; rfl) :
    wpAny (model prog w) A (exec (.Assign [.Name y py] (.ListComp elt [⟨.Name x px, iter, [ct], 0⟩] scope pos) spos) env) Q E s := by
  subst hLe
  rw [exec_Assign_Name_used _ _ _ _ hsw]
  refine wpAny_bind (wpAny_standAt (wpAny_bind ?_))
  show wpAny _ A (do let _ ← comprehension (.ListComp elt [⟨.Name x px, iter, [ct], 0⟩] scope pos) scope env _ (newList []) false (eval iter env) (some (assign (.Name y py) env))) _ _ s
  refine wpAny_bind (wpAny_mono (wpAny_comprehension_free (use := some (assign (.Name y py) env)) (Q := fun _ s' => Q .next s') rfl hs hclos hkind hnames
    (wpAny_mono h (fun xv s₁ h₁ => wpAny_mono h₁ (fun it s₂ h₂ => ?_) fun _ _ e => e) fun _ _ e => e)) (fun _ s' hq => wpAny_pure (wpAny_pure hq)) fun _ _ e => e)
  obtain ⟨I, fp, n, P, St, S, news, rfl, W, hsz, hIo, hSt, hst, hfp, F, N, hIL, hI0, off, hS, R⟩ := h₂
  refine LCt.block_T W hsz hIo hSt hcell hkind hx hst hfp F N hIL hI0 off hS R ?_
  intro D C h' tk m' ys news' F' N' o1 hn hC₀ hD₀ hCL hDL hCD offC fin
  show wpAny _ A (assign (.Name y py) env (.ref D)) _ _ _
  refine wpAny_assign_Name (wpAny_storeName_local hy F'.ns (fun h₂ hn₂ hs₂ => ?_) hp)
  have hL₀ : h₀.get? env.locals = none := Heap.get?_none_of_le F'.above
  have F₂ : Fr h₀ env.locals h₂ (fun z => if z = y then some (.ref D) else m z) := ⟨hn₂, fun b o e => hs₂.extBut b o (fun q => by rw [q, hL₀] at e; cases e) (F'.keep b o e), F'.above⟩
  refine ⟨m', hn.sameBut hs₂ hCL, fun h'' hs'' => fin D h'' _ (F₂.change hs'' hCL hC₀) (fun p hp => ?_) o1⟩
  have z : h₂.get? p.1 = some p.2 := hs₂.extBut _ _ (N' p hp).2.1 (N' p hp).1
  refine ⟨hs''.extBut _ _ ?_ z, (N' p hp).2⟩
  rcases List.mem_cons.mp hp with rfl | hp
  · exact Ne.symm hCD
  · exact offC p hp
theorem evalT (F0 : Fr h₀ L s.heap m) {ct elt iter : PySem.Expr} {x : Str} {px : Pos} {scope : Scope} {cl : List (Str × Addr)} {pos : Pos} {Q : Value → Shared → Prop}
    (hclos : closureFor scope env = pure cl) (hcell : ∀ z ∈ scope.names, z.2 ≠ .cell) (hkind : scope.kind = .function)
    (hnames : ∀ z ∈ scope.names, z.2 = .local → scope.names.lookup z.1 = some .local) (hx : scope.names.lookup x = some .local)
    (h : wpAny (model prog w) A (eval iter env) (fun xv s₁ => wpAny (model prog w) A (pyIter xv) (ItT prog w A h₀ L m env ct elt x scope cl (fun s₂ => LCg.FinE h₀ L m s₂ Q)) E s₁) E s)
    (hs : ∀ x, foldedSetIterable iter env x = pure x := by intro _; rfl) :
    wpAny (model prog w) A (eval (.ListComp elt [⟨.Name x px, iter, [ct], 0⟩] scope pos) env) Q E s := by
  rw [eval_ListComp]
  refine wpAny_comprehension_free (use := none) rfl hs hclos hkind hnames (wpAny_mono h (fun xv s₁ h₁ => wpAny_mono h₁ (fun it s₂ h₂ => ?_) fun _ _ e => e) fun _ _ e => e)
  obtain ⟨I, fp, n, P, St, S, news, rfl, W, hsz, hIo, hSt, hst, hfp, F, N, hIL, hI0, off, hS, R⟩ := h₂
  refine LCt.block_T W hsz hIo hSt hcell hkind hx hst hfp F N hIL hI0 off hS R ?_
  intro D C h' tk m' ys news' F' N' o1 hn hC₀ hD₀ hCL hDL hCD offC fin
  refine ⟨m', hn, fun h'' hs'' => fin D h'' tk (F'.change hs'' hCL hC₀) (fun p hp => ?_) o1⟩
  refine ⟨hs''.extBut _ _ ?_ (N' p hp).1, (N' p hp).2⟩
  rcases List.mem_cons.mp hp with rfl | hp
  · exact Ne.symm hCD
  · exact offC p hp
theorem evalU (F0 : Fr h₀ L s.heap m) {elt iter : PySem.Expr} {x : Str} {px : Pos} {scope : Scope} {cl : List (Str × Addr)} {pos : Pos} {Q : Value → Shared → Prop}
    (hclos : closureFor scope env = pure cl) (hcell : ∀ z ∈ scope.names, z.2 ≠ .cell) (hkind : scope.kind = .function)
    (hnames : ∀ z ∈ scope.names, z.2 = .local → scope.names.lookup z.1 = some .local) (hx : scope.names.lookup x = some .local)
    (h : wpAny (model prog w) A (eval iter env) (fun xv s₁ => wpAny (model prog w) A (pyIter xv) (ItU prog w A h₀ L m env elt x scope cl (fun s₂ => LCg.FinE h₀ L m s₂ Q)) E s₁) E s)
    (hs : ∀ x, foldedSetIterable iter env x = pure x := by intro _; rfl) :
    wpAny (model prog w) A (eval (.ListComp elt [⟨.Name x px, iter, [], 0⟩] scope pos) env) Q E s := by
  rw [eval_ListComp]
  refine wpAny_comprehension_free (use := none) rfl hs hclos hkind hnames (wpAny_mono h (fun xv s₁ h₁ => wpAny_mono h₁ (fun it s₂ h₂ => ?_) fun _ _ e => e) fun _ _ e => e)
  obtain ⟨I, fp, n, P, St, S, news, rfl, W, hsz, hIo, hSt, hst, hfp, F, N, hIL, hI0, off, hS, R⟩ := h₂
  refine LCg.block_U W hsz hIo hSt hcell hkind hx hst hfp F N hIL hI0 off hS R ?_
  intro D C h' tk m' ys news' F' N' o1 hn hC₀ hD₀ hCL hDL hCD offC fin
  refine ⟨m', hn, fun h'' hs'' => fin D h'' tk (F'.change hs'' hCL hC₀) (fun p hp => ?_) o1⟩
  refine ⟨hs''.extBut _ _ ?_ (N' p hp).1, (N' p hp).2⟩
  rcases List.mem_cons.mp hp with rfl | hp
  · exact Ne.symm hCD
  · exact offC p hp
/-- the source: a tuple of the ledger -/
theorem tup_src {ax : Addr} {its : Array Value} {k : Nat} {news : List (Addr × Obj)} {K : Shared → (List (Addr × Obj) → Prop) → (Nat → Value → Prop) → Nat → List (Addr × Obj) → Prop} (hh : A.handled = none) (F : Fr h₀ L s.heap m) (N : News h₀ L s.heap news) (hm : (ax, tupOf its k) ∈ news) (hsz : its.size ≤ sizeLine)
    (h : ∀ g, K { s with heap := g } (fun nw => (ax, tupOf its k) ∈ nw) (fun i v => its[i]? = some v) its.size news) :
    wpAny (model prog w) A (pyIter (.ref ax)) (fun it s₂ => ItBase prog w A h₀ L m it s₂ (K s₂)) E s := by
  have ha := (N _ hm).1
  have ht : s.heap.IsTuple ax its := ⟨_, ha, rfl, k, rfl⟩
  have hlt : ax < s.heap.objs.size := Heap.lt_size ha
  have up : ∀ o', ∀ b o, s.heap.get? b = some o → (s.heap.push o').get? b = some o := fun o' b o e => Heap.get?_push_of_some _ e
  refine wpAny_pyIter_tuple ht ⟨s.heap.objs.size, _, its.size, _, _, fun nw => (ax, tupOf its k) ∈ nw, news, rfl, Walks.tuple hh s.heap.objs.size ax (Nat.ne_of_lt hlt) its, hsz, fun i h st => by obtain ⟨o, e, _⟩ := st.1; exact ⟨o, e⟩, ?_, ⟨⟨_, Heap.get?_push_size _ rfl, rfl, rfl⟩, ht.at fun o e => up _ _ _ e⟩, ?_,
    F.keeps (up _), N.grown (up _), Nat.ne_of_lt F.ns.lt, next_is_new F, fun p hp => Nat.ne_of_lt (Heap.lt_size (N p hp).1), hm, h _⟩
  · intro i h1 h2 o nw st e e' _ N' S
    refine ⟨by obtain ⟨o', q, r⟩ := st.1; rw [e] at q; cases q; exact ⟨o, e', r⟩, ⟨_, (N' _ S).1, rfl, k, rfl⟩⟩
  · intro b hb
    show b < (s.heap.push _).objs.size
    rw [Heap.size_push]
    rcases List.mem_cons.mp hb with rfl | hb
    · exact Nat.lt_succ_self _
    · rw [List.mem_singleton.mp hb]; exact Nat.lt_succ_of_lt hlt
/-- the source: a dict of the ledger -/
theorem dict_src {KK : Type} [DecidableEq KK] {knd : KeyKind prog w KK} {d : Addr} {o : Obj} {kvs : List (KK × Value)} {news : List (Addr × Obj)} {K : Shared → (List (Addr × Obj) → Prop) → (Nat → Value → Prop) → Nat → List (Addr × Obj) → Prop} (hh : A.handled = none) (F : Fr h₀ L s.heap m) (N : News h₀ L s.heap news) (lo : (d == sysModules) = false) (hm : (d, o) ∈ news) (hd : o.IsDictOf knd kvs) (hsz : kvs.length ≤ sizeLine)
    (h : ∀ g, K { s with heap := g } (fun nw => (d, o) ∈ nw) (fun i v => ∃ k x, kvs[i]? = some (k, x) ∧ knd.is k v = true) kvs.length news) :
    wpAny (model prog w) A (pyIter (.ref d)) (fun it s₂ => ItBase prog w A h₀ L m it s₂ (K s₂)) E s := by
  have ha := (N _ hm).1
  obtain ⟨ep, hat⟩ : ∃ ep, ∀ h' : Heap, h'.get? d = some o → h'.DictAt knd d kvs ep := by
    obtain ⟨es, ep, h1, h2, h3, h4, h5⟩ := hd
    exact ⟨ep, fun h' e => ⟨o, es, e, h1, h2, h3, h4, h5⟩⟩
  have hlt : d < s.heap.objs.size := Heap.lt_size ha
  have up : ∀ o', ∀ b o, s.heap.get? b = some o → (s.heap.push o').get? b = some o := fun o' b o e => Heap.get?_push_of_some _ e
  refine wpAny_pyIter_dict lo (hat _ ha) ⟨s.heap.objs.size, _, kvs.length, _, _, fun nw => (d, o) ∈ nw, news, rfl, Walks.dictKeys (knd := knd) hh s.heap.objs.size d (Nat.ne_of_lt hlt) kvs ep, hsz, fun i h st => by obtain ⟨o, e, _⟩ := st.1; exact ⟨o, e⟩, ?_, ⟨⟨_, Heap.get?_push_size _ rfl, rfl, rfl⟩, hat _ (up _ _ _ ha)⟩, ?_,
    F.keeps (up _), N.grown (up _), Nat.ne_of_lt F.ns.lt, next_is_new F, fun p hp => Nat.ne_of_lt (Heap.lt_size (N p hp).1), hm, h _⟩
  · intro i h1 h2 o nw st e e' _ N' S
    refine ⟨by obtain ⟨o', q, r⟩ := st.1; rw [e] at q; cases q; exact ⟨o, e', r⟩, hat _ (N' _ S).1⟩
  · intro b hb
    show b < (s.heap.push _).objs.size
    rw [Heap.size_push]
    rcases List.mem_cons.mp hb with rfl | hb
    · exact Nat.lt_succ_self _
    · rw [List.mem_singleton.mp hb]; exact Nat.lt_succ_of_lt hlt
theorem tup_srcT {ct elt : PySem.Expr} {x : Str} {scope : Scope} {cl : List (Str × Addr)} {Fin : Shared → List Value → List (Addr × Obj) → Prop} {ax : Addr} {its : Array Value} {k : Nat} {news : List (Addr × Obj)} (hh : A.handled = none) (F : Fr h₀ L s.heap m) (N : News h₀ L s.heap news) (hm : (ax, tupOf its k) ∈ news) (hsz : its.size ≤ sizeLine)
    (h : ∀ g, LCt.CompRestT prog w A h₀ L m env ct elt x scope cl { s with heap := g } (fun nw => (ax, tupOf its k) ∈ nw) (fun i v => its[i]? = some v) (Fin { s with heap := g }) its.size 0 [] news) :
    wpAny (model prog w) A (pyIter (.ref ax)) (ItT prog w A h₀ L m env ct elt x scope cl Fin) E s :=
  tup_src (K := fun s₂ S P n news => LCt.CompRestT prog w A h₀ L m env ct elt x scope cl s₂ S P (Fin s₂) n 0 [] news) hh F N hm hsz h
theorem dict_srcT {KK : Type} [DecidableEq KK] {knd : KeyKind prog w KK} {ct elt : PySem.Expr} {x : Str} {scope : Scope} {cl : List (Str × Addr)} {Fin : Shared → List Value → List (Addr × Obj) → Prop} {d : Addr} {o : Obj} {kvs : List (KK × Value)} {news : List (Addr × Obj)} (hh : A.handled = none) (F : Fr h₀ L s.heap m) (N : News h₀ L s.heap news) (lo : (d == sysModules) = false) (hm : (d, o) ∈ news) (hd : o.IsDictOf knd kvs) (hsz : kvs.length ≤ sizeLine)
    (h : ∀ g, LCt.CompRestT prog w A h₀ L m env ct elt x scope cl { s with heap := g } (fun nw => (d, o) ∈ nw) (fun i v => ∃ k x, kvs[i]? = some (k, x) ∧ knd.is k v = true) (Fin { s with heap := g }) kvs.length 0 [] news) :
    wpAny (model prog w) A (pyIter (.ref d)) (ItT prog w A h₀ L m env ct elt x scope cl Fin) E s :=
  dict_src (K := fun s₂ S P n news => LCt.CompRestT prog w A h₀ L m env ct elt x scope cl s₂ S P (Fin s₂) n 0 [] news) hh F N lo hm hd hsz h
theorem dict_srcU {KK : Type} [DecidableEq KK] {knd : KeyKind prog w KK} {elt : PySem.Expr} {x : Str} {scope : Scope} {cl : List (Str × Addr)} {Fin : Shared → List Value → List (Addr × Obj) → Prop} {d : Addr} {o : Obj} {kvs : List (KK × Value)} {news : List (Addr × Obj)} (hh : A.handled = none) (F : Fr h₀ L s.heap m) (N : News h₀ L s.heap news) (lo : (d == sysModules) = false) (hm : (d, o) ∈ news) (hd : o.IsDictOf knd kvs) (hsz : kvs.length ≤ sizeLine)
    (h : ∀ g, LCg.CompRest prog w A h₀ L m env elt x scope cl { s with heap := g } (fun nw => (d, o) ∈ nw) (fun i v => ∃ k x, kvs[i]? = some (k, x) ∧ knd.is k v = true) (Fin { s with heap := g }) kvs.length 0 [] news) :
    wpAny (model prog w) A (pyIter (.ref d)) (ItU prog w A h₀ L m env elt x scope cl Fin) E s :=
  dict_src (K := fun s₂ S P n news => LCg.CompRest prog w A h₀ L m env elt x scope cl s₂ S P (Fin s₂) n 0 [] news) hh F N lo hm hd hsz h
end
end
section
theorem st68 : True := by w_top off; k_with_none; trivial
theorem st69 : True := by
  k_with "my all" => (assumption)
  k_with "my range" => (first | (with_unfolding_all refine range1_rows ‹Fr _ _ _ _› ‹News _ _ _ _› ?_) | (with_unfolding_all refine range2_rows ‹Fr _ _ _ _› ‹News _ _ _ _› ?_))
  k_with "my inst" => (first
    | (refine' inst_base ?F ?h1 ?h2; (case F => k_asm); (case h1 => assumption); (case h2 => assumption))
    | (refine' inst_half ?F ?N ?h1 ?h2; (case F => k_asm); (case N => k_asm); (case h1 => assumption); (case h2 => k_mem)))
  k_with "my ne" => ((try dsimp only); first | with_reducible assumption | (refine Ne.symm ?_; with_reducible assumption) | (have h9 := ‹(_ ≠ _ ∧ _ ≠ _ ∧ _ ≠ _) ∧ _›; first | exact h9.1.1 | exact h9.1.2.1 | exact h9.1.2.2 | exact h9.2.1.1 | exact h9.2.1.2.1 | exact h9.2.1.2.2 | exact h9.2.2.1 | exact h9.2.2.2.1 | exact h9.2.2.2.2 | exact h9.2.1 | exact h9.2.2.1 | exact h9.2.2.2))
  k_with "my pick" => (first | exact Pick.nil | (refine' Pick.take (by k_mem) (by walk_at "my pick")) | (refine' Pick.skip (by k_all) (by walk_at "my pick")) | (refine Pick.all (by assumption)))
  k_with "call ref" => (k_here; (with_reducible show wpAny _ _ (call (Value.ref 283) [Value.ref _, Value.int _ _]) _ _ _); k_dflt (refine' draw_at (by k_asm) (by k_asm) (by k_asm) (by k_asm) (by rfl) (by exact Nat.le_of_ble_eq_true rfl) (by exact Nat.le_of_ble_eq_true rfl) (by k_asm) (by k_asm) (by k_mem) (by k_mem) (by walk_at "my pick") (by omega) (by decide) (by decide) ?_); intro _ _ _ _ _ _ _ _ _ _ _; (try k_sweep))
  trivial
theorem st70 : True := by
  k_with "call ref" => (k_here; (with_reducible show wpAny _ _ (call (Value.ref 52) [Value.int _ _, Value.int _ _, Value.int _ _]) _ _ _); k_dflt (refine' info_at (by k_asm) (by k_asm) (by k_asm) (by k_asm) (by rfl) (by exact Nat.le_of_ble_eq_true rfl) (by exact Nat.le_of_ble_eq_true rfl) ?_); walk_at "my new"; (try k_sweep))
  trivial
theorem st71 : True := by
  k_with "compareOp NotIn int ref" => (k_here; k_dflt (first | (refine' m_nin0 (by k_asm) (by assumption) (by assumption) (by assumption) ?_; k_whole) | (refine' m_nin (by k_asm) (by assumption) (by assumption) (by assumption) ?_; k_whole)))
  k_with "compareOp In int ref" => (k_here; k_dflt (first | (refine' m_in0 (by k_asm) (by assumption) (by assumption) (by assumption) ?_; k_whole) | (refine' m_in (by k_asm) (by assumption) (by assumption) (by assumption) ?_; k_whole)))
  k_with "subscriptTail" => (k_here; (with_reducible show wpAny _ _ (subscriptTail _ _ (Value.ref _) (Value.int _ _)) _ _ _); k_dflt (first | (refine' m_item (by k_asm) (by assumption) (by assumption) ?_; k_whole) | (refine' b_item (by k_asm) (by assumption) (by omega) (by omega) (by assumption) ?_; k_whole) | (refine' l_item (by k_asm) (by k_mem) (by omega) (by omega) (by assumption) ?_; k_whole)))
  trivial
theorem st72 : True := by
  k_with "my slice" => (k_here; k_dflt (refine' kmk_slice_lit (by k_asm) (by k_asm) (by kmk_list) (by kmk_part) (by kmk_part) (by first | exact pick_one (by assumption) | exact pick_zero (by omega) | exact pick_from (by omega) | exact pick_upto (by omega)) ?_ (by with_unfolding_all rfl) (by kmk_pure) (by ((rw [PySem.sizeLine_eq]); (simp only [List.size_toArray]); omega))); intro _ _ _ _; walk_at "my lt"; (try k_sweep))
  k_with "subscriptTail Name Slice ref ref" => (walk_at "my slice")
  k_with "subscriptTail Attribute Slice ref ref" => (walk_at "my slice")
  k_with "setItem ref ref" => (k_here; k_dflt (refine' l_setSlice1 (by k_asm) (by k_asm) (by k_updF) (by k_mem) (by omega) (by assumption) (by omega) ?_; intro _ _ _; walk_at "my dn"))
  trivial
theorem st73 : True := by
  k_with "call builtin:len" => (k_here; (with_reducible show wpAny _ _ (call (Value.builtin "len") [Value.ref _]) _ _ _); k_dflt (first | (refine' b_len (by k_asm) (by assumption) (by assumption) (by omega) ?_; k_whole) | (refine' l_len (by k_asm) (by k_mem) (by assumption) (by omega) ?_; k_whole)))
  trivial
theorem st74 : True := by
  k_with "call ref" => (k_here; (with_reducible show wpAny _ _ (call (Value.ref 133) [Value.ref _, Value.int _ _, Value.int _ _]) _ _ _); k_dflt (refine' hb_at (by k_asm) (by k_asm) (by k_asm) (by k_asm) (by rfl) (by exact Nat.le_of_ble_eq_true rfl) (by exact Nat.le_of_ble_eq_true rfl) (by assumption) (by omega) (by omega) (by assumption) (by assumption) (by assumption) (by exact ⟨tkOf [_, _, _, _, _, _, _, _, _, _, _, _, _, _, _, _, _, _, _, _, _, _, _, _, _, _, _, _, _, _, _], rfl⟩) (by omega) ?_); intro _ _ _ _)
  trivial
theorem st75 : True := by
  k_with "exec Assign cons ListComp" => (k_here; k_dflt (refine assignT (F0 := by k_asm) (by rfl) (by with_unfolding_all rfl) (by with_unfolding_all rfl) (by decide) (by rfl) (by decide) (by rfl) (by rfl) (by rfl) ?_))
  k_with "pyIter ref" => (k_here; k_dflt (refine tup_srcT (by rfl) (by k_asm) (by k_asm) (by k_mem) (by exact Nat.le_of_ble_eq_true rfl) ?_; intro _; lct_lit))
  k_with "CompEnd" => (refine LCg.CompEnd.intro (by k_asm) (by k_asm) _ (fun _ h => h) (by first | assumption | (simp only [LCg.Off3, and_true]; done) | (simp only [LCg.Off3, and_true]; assumption)) (by first | lcg_src | k_mem) ?_)
  trivial
theorem info_ex {P : Params} {g : Heap} {vs : List Value} {rs : List Row} (hi : InfosIn P g vs rs) {k : Nat} (hk : k < rs.length) {z : Int} (hz : z.toNat = k) : ∃ x dx o r, vs[z.toNat]? = some (.ref x) ∧ g.get? x = some (instObj 52 dx) ∧ g.get? dx = some o ∧ InfoD P r o ∧ clAt rs k = r.cl := by
  obtain ⟨x, dx, o, r, q1, q2, q3, q4, q5, q6⟩ := info_of hi hk
  exact ⟨x, dx, o, r, by rw [hz]; exact q1, q3, q4, q5, q6⟩
set_option maxHeartbeats 8000000 in
theorem dropR_spec {w : World} {g : Heap} {s : Shared} {buf dbuf R : Addr} {ob : Obj} {sp : Int} {vs : List Value} {rs : List Row} {nR i : Nat} {u1 : Tok} {Q E : Value → Shared → Prop}
    (G : Gd w g) (stay : g.StaysIn s.heap) (hsz : g.objs.size ≤ s.heap.objs.size) (h3 : g.get? buf = some (instObj 103 dbuf)) (h4 : g.get? dbuf = some ob) (hB : BufD w.params R sp ob)
    (h5 : g.get? R = some (listOf (List.toArray vs) nR)) (hi : InfosIn w.params g vs rs) (hl : rs.length ≤ 900) (hs : Sorted rs) (h1 : i < rs.length) (hc : 0 < i ∨ (i + 1 < rs.length ∧ clAt rs 0 = clAt rs 1))
    (ret : ∀ h' tk', g.StaysIn h' → g.objs.size ≤ h'.objs.size → Q .none { s with heap := h', toks := tk' }) :
    wpAny (model PySem.Challenge.rw_nu0223_01.row.prog w) (AA 870 8700) (call (.ref 138) [.ref buf, .int (i : Nat) u1]) Q E s := by
  obtain ⟨b1, b2, b3, b4, d3, d4, rfl⟩ := hB
  have hlv : vs.length = rs.length := hi.length
  refine enterC (news := []) (binds := [(Str.ofString "buffer", .ref buf), (Str.ofString "at", .int (i : Nat) u1)]) G stay hsz (fun _ h => nomatch h) (by k_is) (by k_is) (by decide) (BindsTo.of_eq rfl) rfl (by decide +kernel) ?_
  · intro mean mg mb L' h₁ tk0 cells X T F0 N' Y lt eL
    refine fr_cut [(Str.ofString "buffer", .ref buf), (Str.ofString "at", .int (i : Nat) u1)] F0 ⟨rfl, rfl, trivial⟩ fun u F => ?_
    clear F0
    k_cells Y
    simp only [List.cons_append, List.nil_append] at N'
    (try dsimp only)
    obtain ⟨x, dx, o, r, q1, q3, q4, q5, q6⟩ := info_ex hi h1 (z := ((i : Nat) : Int)) (by omega)
    obtain ⟨kt, rfl⟩ := q5
    by_cases c1 : 0 < i
    · obtain ⟨x', dx', o', r', p1, p3, p4, p5, p6⟩ := info_ex hi (k := i - 1) (by omega) (z := ((i : Nat) : Int) - 1) (by omega)
      have hle : r'.cl ≤ r.cl := by rw [← p6, ← q6]; exact sorted_cl hs (by omega) (by omega)
      obtain ⟨kt', rfl⟩ := p5
      by_cases c2 : i + 1 < rs.length
      · obtain ⟨x'', dx'', o'', r'', l1, l3, l4, l5, l6⟩ := info_ex hi c2 (z := ((i : Nat) : Int) + 1) (by omega)
        obtain ⟨m1, m2, m3, m4, m5, m6, m7, m8, m9, m10, m11, m12, m13, m14, m15, m16, n1, n2, n3, n4, n6, n7, n8, n9, n10, n11, n12, n13, n14, n15, n16, rfl⟩ := l5
        clear q6 p6 l6 hs hc hi
        show wpAny _ _ _ _ _ _
        k_fold
        k_steps
        all_goals (try dsimp only)
        all_goals (rename Fr _ _ _ _ => Fz; rename News _ _ _ _ => Nz)
        all_goals (exact Out.intro (L := L') Fz Nz (fun hZ tkZ kZ1 kZ2 kZ3 => ret hZ tkZ kZ1 kZ2))
      · clear q6 p6 hs hc hi
        show wpAny _ _ _ _ _ _
        k_fold
        k_steps
        all_goals (try dsimp only)
        all_goals (rename Fr _ _ _ _ => Fz; rename News _ _ _ _ => Nz)
        all_goals (exact Out.intro (L := L') Fz Nz (fun hZ tkZ kZ1 kZ2 kZ3 => ret hZ tkZ kZ1 kZ2))
    · have hi0 : i = 0 := by omega
      by_cases c2 : i + 1 < rs.length
      · obtain ⟨x'', dx'', o'', r'', l1, l3, l4, l5, l6⟩ := info_ex hi c2 (z := ((i : Nat) : Int) + 1) (by omega)
        have hce : r.cl = r''.cl := by simp only [hi0, Nat.zero_add] at q6 l6; rw [← q6, ← l6]; omega
        obtain ⟨m1, m2, m3, m4, m5, m6, m7, m8, m9, m10, m11, m12, m13, m14, m15, m16, n1, n2, n3, n4, n6, n7, n8, n9, n10, n11, n12, n13, n14, n15, n16, rfl⟩ := l5
        clear q6 l6 hs hc hi
        show wpAny _ _ _ _ _ _
        k_fold
        k_steps
        all_goals (try dsimp only)
        all_goals (first
          | (rename Fr _ _ _ _ => Fz; rename News _ _ _ _ => Nz; exact Out.intro (L := L') Fz Nz (fun hZ tkZ kZ1 kZ2 kZ3 => ret hZ tkZ kZ1 kZ2))
          | (rename List.any _ _ = false => hf; simp [hce] at hf))
      · exfalso; omega
end
section
theorem pick_solo {a : Value} : (slicePick #[a] (some 0) (some 2) none).toList = [a] := (pick_zero (vs := [a]) (by decide)).trans rfl
theorem st76 : True := by w_top off; k_with_none; trivial
theorem st77 : True := by
  k_with "my all" => (assumption)
  k_with "my range" => (first | (with_unfolding_all refine range1_rows ‹Fr _ _ _ _› ‹News _ _ _ _› ?_) | (with_unfolding_all refine range2_rows ‹Fr _ _ _ _› ‹News _ _ _ _› ?_))
  k_with "my inst" => (first
    | (refine' inst_base ?F ?h1 ?h2; (case F => k_asm); (case h1 => assumption); (case h2 => assumption))
    | (refine' inst_half ?F ?N ?h1 ?h2; (case F => k_asm); (case N => k_asm); (case h1 => assumption); (case h2 => k_mem)))
  k_with "my ne" => ((try dsimp only); first | with_reducible assumption | (refine Ne.symm ?_; with_reducible assumption) | (have h9 := ‹(_ ≠ _ ∧ _ ≠ _ ∧ _ ≠ _) ∧ _›; first | exact h9.1.1 | exact h9.1.2.1 | exact h9.1.2.2 | exact h9.2.1.1 | exact h9.2.1.2.1 | exact h9.2.1.2.2 | exact h9.2.2.1 | exact h9.2.2.2.1 | exact h9.2.2.2.2 | exact h9.2.1 | exact h9.2.2.1 | exact h9.2.2.2))
  k_with "my pick" => (first | exact Pick.nil | (refine' Pick.take (by k_mem) (by walk_at "my pick")) | (refine' Pick.skip (by k_all) (by walk_at "my pick")) | (refine Pick.all (by assumption)))
  k_with "call ref" => (k_here; (with_reducible show wpAny _ _ (call (Value.ref 283) [Value.ref _, Value.int _ _]) _ _ _); k_dflt (refine' draw_at (by k_asm) (by k_asm) (by k_asm) (by k_asm) (by rfl) (by exact Nat.le_of_ble_eq_true rfl) (by exact Nat.le_of_ble_eq_true rfl) (by k_asm) (by k_asm) (by k_mem) (by k_mem) (by walk_at "my pick") (by omega) (by decide) (by decide) ?_); intro _ _ _ _ _ _ _ _ _ _ _; (try k_sweep))
  trivial
theorem st78 : True := by
  k_with "call ref" => (k_here; (with_reducible show wpAny _ _ (call (Value.ref 52) [Value.int _ _, Value.int _ _, Value.int _ _]) _ _ _); k_dflt (refine' info_at (by k_asm) (by k_asm) (by k_asm) (by k_asm) (by rfl) (by exact Nat.le_of_ble_eq_true rfl) (by exact Nat.le_of_ble_eq_true rfl) ?_); walk_at "my new"; (try k_sweep))
  trivial
theorem st79 : True := by
  k_with "compareOp NotIn int ref" => (k_here; k_dflt (first | (refine' m_nin0 (by k_asm) (by assumption) (by assumption) (by assumption) ?_; k_whole) | (refine' m_nin (by k_asm) (by assumption) (by assumption) (by assumption) ?_; k_whole)))
  k_with "compareOp In int ref" => (k_here; k_dflt (first | (refine' m_in0 (by k_asm) (by assumption) (by assumption) (by assumption) ?_; k_whole) | (refine' m_in (by k_asm) (by assumption) (by assumption) (by assumption) ?_; k_whole)))
  k_with "subscriptTail" => (k_here; (with_reducible show wpAny _ _ (subscriptTail _ _ (Value.ref _) (Value.int _ _)) _ _ _); k_dflt (first | (refine' m_item (by k_asm) (by assumption) (by assumption) ?_; k_whole) | (refine' b_item (by k_asm) (by assumption) (by omega) (by omega) (by assumption) ?_; k_whole) | (refine' l_item (by k_asm) (by k_mem) (by omega) (by omega) (by assumption) ?_; k_whole)))
  trivial
theorem st80 : True := by
  k_with "my slice" => (k_here; k_dflt (refine' kmk_slice_lit (by k_asm) (by k_asm) (by kmk_list) (by kmk_part) (by kmk_part) (by first | exact pick_one (by assumption) | exact pick_zero (by omega) | exact pick_from (by omega) | exact pick_upto (by omega)) ?_ (by with_unfolding_all rfl) (by kmk_pure) (by ((rw [PySem.sizeLine_eq]); (simp only [List.size_toArray]); omega))); intro _ _ _ _; walk_at "my lt"; (try k_sweep))
  k_with "subscriptTail Name Slice ref ref" => (walk_at "my slice")
  k_with "subscriptTail Attribute Slice ref ref" => (walk_at "my slice")
  k_with "setItem ref ref" => (k_here; k_dflt (refine' l_setSlice1 (by k_asm) (by k_asm) (by k_updF) (by k_mem) (by omega) (by assumption) (by omega) ?_; intro _ _ _; walk_at "my dn"))
  trivial
theorem st81 : True := by
  k_with "call builtin:len" => (k_here; (with_reducible show wpAny _ _ (call (Value.builtin "len") [Value.ref _]) _ _ _); k_dflt (first | (refine' b_len (by k_asm) (by assumption) (by assumption) (by omega) ?_; k_whole) | (refine' l_len (by k_asm) (by k_mem) (by assumption) (by omega) ?_; k_whole)))
  trivial
theorem st82 : True := by
  k_with "my slice" => (k_here; k_dflt (refine' kmk_slice_lit (by k_asm) (by k_asm) (by exact PySem.IsL.isList (Fr.keep (by k_asm) _ _ (by assumption))) (by kmk_part) (by kmk_part) (by exact pick_solo) ?_ (by with_unfolding_all rfl) (by kmk_pure) (by simp [PySem.sizeLine_eq])); intro _ _ _ _; walk_at "my lt"; (try k_sweep))
  trivial
set_option maxHeartbeats 4000000 in
theorem wid1_spec {w : World} {g : Heap} {s : Shared} {R : Addr} {v : Value} {nR : Nat} {c1 c2 : Tok} {Q E : Value → Shared → Prop}
    (G : Gd w g) (stay : g.StaysIn s.heap) (hsz : g.objs.size ≤ s.heap.objs.size) (h5 : g.get? R = some (listOf #[v] nR))
    (ret : ∀ T n u1 u2 h' tk', g.StaysIn h' → g.objs.size ≤ h'.objs.size → LedIn g h' [(T, tupOf #[.int 0 u1, .int 2 u2] n)] → Q (.ref T) { s with heap := h', toks := tk' }) :
    wpAny (model PySem.Challenge.rw_nu0223_01.row.prog w) (AA 920 9200) (call (.ref 121) [.ref R, .int 0 c1, .int 2 c2]) Q E s := by
  have h6 : g.get? R = some (listOf (List.toArray [v]) nR) := h5
  have hlv : [v].length = 1 := rfl
  refine enter (news := []) (binds := [(Str.ofString "row", .ref R), (Str.ofString "begin", .int 0 c1), (Str.ofString "end", .int 2 c2)]) G stay hsz (fun _ h => nomatch h) (by k_is) (by k_is) (by decide) (BindsTo.of_eq rfl) (locs rfl) ?_
  · intro mean mg mb L' h₁ X T F N' lt eL
    dsimp only [List.reverse, List.reverseAux] at F
    k_with "exec While BoolOp cons nil" => (refine Hold.mk ?_)
    k_fold
    k_steps
    all_goals (try dsimp only)
    rename Fr _ _ _ _ => F2
    rename News _ _ _ _ => N2
    refine Hold.of ?_
    refine fr_cut [(Str.ofString "row", .ref R), (Str.ofString "first", .int 0 c1), (Str.ofString "behind", .int 2 c2)] F2 ⟨rfl, rfl, rfl, trivial⟩ fun u F3 => ?_
    refine wh (n₀ := 0) (fun n m nx => nx = [] ∧ Has m [(Str.ofString "row", .ref R), (Str.ofString "first", .int 0 c1), (Str.ofString "behind", .int 2 c2)]) F3 N2 ⟨rfl, rfl, rfl, rfl, trivial⟩ ?_
    rintro n m₁ nx h tk F N ⟨rfl, hm⟩
    refine fr_cut _ F hm fun u F4 => ?_
    clear F F3 F2 N2
    show wpAny _ _ _ _ _ _
    k_fold
    k_steps
    all_goals (try dsimp only)
    rename Fr _ _ _ _ => F2
    rename News _ _ _ _ => N2
    refine Hold.of ?_
    refine wh (n₀ := 0) (fun n m nx => nx = [] ∧ Has m [(Str.ofString "row", .ref R), (Str.ofString "first", .int 0 c1), (Str.ofString "behind", .int 2 c2)]) F2 N2 ⟨rfl, rfl, rfl, rfl, trivial⟩ ?_
    rintro n m₁ nx h tk F N ⟨rfl, hm⟩
    refine fr_cut _ F hm fun u F5 => ?_
    clear F F2 N2
    show wpAny _ _ _ _ _ _
    k_fold
    k_steps
    all_goals (try dsimp only)
    rename Fr _ _ _ _ => Fz
    rename News _ _ _ _ => Nz
    refine Out.ret _ Fz Nz (fun hZ tkZ kZ1 kZ2 kZ3 => ret _ _ _ _ hZ tkZ kZ1 kZ2 kZ3)
section
variable {w : World} {A : Around} {E : Value → Shared → Prop} {s : Shared} {h₀ : Heap} {L : Addr} {m : Str → Option Value} {news rest : List (Addr × Obj)} {mean : ExcName → Option Value} {mg mb : Str → Option Value} {Q : Value → Shared → Prop}
theorem wid1_at {R : Addr} {v : Value} {nR : Nat} {t1 t2 : Tok} (X : (Mine.hd.heap_1 w.params).In h₀) (T : Top Mine.vw (looseW Mine.vw []) mean mg mb h₀) (F : Fr h₀ L s.heap m) (N : News h₀ L s.heap news)
    (hA : A.handled = none) (hd : A.depth ≤ 920) (hu : A.units ≤ 9200) (h5 : h₀.get? R = some (listOf #[v] nR))
    (h : ∀ T n u1 u2 h' tk', Fr h₀ L h' m → News h₀ L h' ((T, tupOf #[.int 0 u1, .int 2 u2] n) :: news) → (∀ p ∈ news, p.1 ≠ T) → Q (.ref T) { s with heap := h', toks := tk' }) :
    wpAny (model PySem.Challenge.rw_nu0223_01.row.prog w) A (call (.ref 121) [.ref R, .int 0 t1, .int 2 t2]) Q E s := by
  obtain ⟨g, a1, a2, a3, a4, a5, a6⟩ := siteP [] F N (fun _ h => nomatch h) (.all fun _ _ _ h => nomatch h)
  refine wp_le (wid1_spec ((gd X T).keeps a1) a2 a3 (a1 _ _ h5) ?_) hA hd hu rfl rfl
  intro T n u1 u2 h' tk' k1 _ k3
  obtain ⟨F', N'⟩ := a6 h' _ k1 k3
  refine h T n u1 u2 h' tk' F' N' fun p hp e => ?_
  have h1 := a5 p hp
  have h2 := (k3 _ (.head _)).2
  rw [e, h2] at h1; cases h1
end
theorem st83 : True := by
  k_with "call ref" => (k_here; (with_reducible show wpAny _ _ (call (Value.ref 121) [Value.ref _, Value.int _ _, Value.int _ _]) _ _ _); k_dflt (refine' wid1_at (by k_asm) (by k_asm) (by k_asm) (by k_asm) (by rfl) (by exact Nat.le_of_ble_eq_true rfl) (by exact Nat.le_of_ble_eq_true rfl) (by assumption) ?_; intro _ _ _ _ _ _ _ _ _; (try k_sweep)))
  k_with "call ref" => (k_here; (with_reducible show wpAny _ _ (call (Value.ref 114) [Value.ref _, Value.int _ _]) _ _ _); refine Hold.mk ?_)
  trivial
set_option maxHeartbeats 4000000 in
theorem st84 : True := by k_with_none; trivial
theorem st85 : True := by
  k_with "my all" => (assumption)
  k_with "my range" => (first | (with_unfolding_all refine range1_rows ‹Fr _ _ _ _› ‹News _ _ _ _› ?_) | (with_unfolding_all refine range2_rows ‹Fr _ _ _ _› ‹News _ _ _ _› ?_))
  k_with "my inst" => (first
    | (refine' inst_base ?F ?h1 ?h2; (case F => k_asm); (case h1 => assumption); (case h2 => assumption))
    | (refine' inst_half ?F ?N ?h1 ?h2; (case F => k_asm); (case N => k_asm); (case h1 => assumption); (case h2 => k_mem)))
  k_with "my ne" => ((try dsimp only); first | with_reducible assumption | (refine Ne.symm ?_; with_reducible assumption) | (have h9 := ‹(_ ≠ _ ∧ _ ≠ _ ∧ _ ≠ _) ∧ _›; first | exact h9.1.1 | exact h9.1.2.1 | exact h9.1.2.2 | exact h9.2.1.1 | exact h9.2.1.2.1 | exact h9.2.1.2.2 | exact h9.2.2.1 | exact h9.2.2.2.1 | exact h9.2.2.2.2 | exact h9.2.1 | exact h9.2.2.1 | exact h9.2.2.2))
  k_with "my pick" => (first | exact Pick.nil | (refine' Pick.take (by k_mem) (by walk_at "my pick")) | (refine' Pick.skip (by k_all) (by walk_at "my pick")) | (refine Pick.all (by assumption)))
  k_with "call ref" => (k_here; (with_reducible show wpAny _ _ (call (Value.ref 283) [Value.ref _, Value.int _ _]) _ _ _); k_dflt (refine' draw_at (by k_asm) (by k_asm) (by k_asm) (by k_asm) (by rfl) (by exact Nat.le_of_ble_eq_true rfl) (by exact Nat.le_of_ble_eq_true rfl) (by k_asm) (by k_asm) (by k_mem) (by k_mem) (by walk_at "my pick") (by omega) (by decide) (by decide) ?_); intro _ _ _ _ _ _ _ _ _ _ _; (try k_sweep))
  trivial
theorem st86 : True := by
  k_with "call ref" => (k_here; (with_reducible show wpAny _ _ (call (Value.ref 52) [Value.int _ _, Value.int _ _, Value.int _ _]) _ _ _); k_dflt (refine' info_at (by k_asm) (by k_asm) (by k_asm) (by k_asm) (by rfl) (by exact Nat.le_of_ble_eq_true rfl) (by exact Nat.le_of_ble_eq_true rfl) ?_); walk_at "my new"; (try k_sweep))
  trivial
theorem st87 : True := by
  k_with "compareOp NotIn int ref" => (k_here; k_dflt (first | (refine' m_nin0 (by k_asm) (by assumption) (by assumption) (by assumption) ?_; k_whole) | (refine' m_nin (by k_asm) (by assumption) (by assumption) (by assumption) ?_; k_whole)))
  k_with "compareOp In int ref" => (k_here; k_dflt (first | (refine' m_in0 (by k_asm) (by assumption) (by assumption) (by assumption) ?_; k_whole) | (refine' m_in (by k_asm) (by assumption) (by assumption) (by assumption) ?_; k_whole)))
  k_with "subscriptTail" => (k_here; (with_reducible show wpAny _ _ (subscriptTail _ _ (Value.ref _) (Value.int _ _)) _ _ _); k_dflt (first | (refine' m_item (by k_asm) (by assumption) (by assumption) ?_; k_whole) | (refine' b_item (by k_asm) (by assumption) (by omega) (by omega) (by assumption) ?_; k_whole) | (refine' l_item (by k_asm) (by k_mem) (by omega) (by omega) (by assumption) ?_; k_whole)))
  trivial
theorem st88 : True := by
  k_with "my slice" => (k_here; k_dflt (refine' kmk_slice_lit (by k_asm) (by k_asm) (by kmk_list) (by kmk_part) (by kmk_part) (by first | exact pick_one (by assumption) | exact pick_zero (by omega) | exact pick_from (by omega) | exact pick_upto (by omega)) ?_ (by with_unfolding_all rfl) (by kmk_pure) (by ((rw [PySem.sizeLine_eq]); (simp only [List.size_toArray]); omega))); intro _ _ _ _; walk_at "my lt"; (try k_sweep))
  k_with "subscriptTail Name Slice ref ref" => (walk_at "my slice")
  k_with "subscriptTail Attribute Slice ref ref" => (walk_at "my slice")
  k_with "setItem ref ref" => (k_here; k_dflt (refine' l_setSlice1 (by k_asm) (by k_asm) (by k_updF) (by k_mem) (by omega) (by assumption) (by omega) ?_; intro _ _ _; walk_at "my dn"))
  trivial
theorem st89 : True := by
  k_with "call builtin:len" => (k_here; (with_reducible show wpAny _ _ (call (Value.builtin "len") [Value.ref _]) _ _ _); k_dflt (first | (refine' b_len (by k_asm) (by assumption) (by assumption) (by omega) ?_; k_whole) | (refine' l_len (by k_asm) (by k_mem) (by assumption) (by omega) ?_; k_whole)))
  trivial
theorem st90 : True := by
  k_with "my slice" => (k_here; k_dflt (refine' kmk_slice_lit (by k_asm) (by k_asm) (by exact PySem.IsL.isList (Fr.keep (by k_asm) _ _ (by assumption))) (by kmk_part) (by kmk_part) (by exact pick_solo) ?_ (by with_unfolding_all rfl) (by kmk_pure) (by simp [PySem.sizeLine_eq])); intro _ _ _ _; walk_at "my lt"; (try k_sweep))
  trivial
theorem st91 : True := by
  k_with "call ref" => (k_here; (with_reducible show wpAny _ _ (call (Value.ref 121) [Value.ref _, Value.int _ _, Value.int _ _]) _ _ _); k_dflt (refine' wid1_at (by k_asm) (by k_asm) (by k_asm) (by k_asm) (by rfl) (by exact Nat.le_of_ble_eq_true rfl) (by exact Nat.le_of_ble_eq_true rfl) (by assumption) ?_; intro _ _ _ _ _ _ _ _ _; (try k_sweep)))
  k_with "call ref" => (k_here; (with_reducible show wpAny _ _ (call (Value.ref 114) [Value.ref _, Value.int _ _]) _ _ _); refine Hold.mk ?_)
  trivial
theorem merge3_spec {w : World} {g : Heap} {s : Shared} {buf dbuf R x0 dx0 : Addr} {ob o0 : Obj} {sp : Int} {r0 : Row} {nR : Nat} {v1 v2 : Tok} {Q E : Value → Shared → Prop}
    (G : Gd w g) (stay : g.StaysIn s.heap) (hsz : g.objs.size ≤ s.heap.objs.size) (N : LedIn g s.heap [(dx0, o0)]) (i0 : InfoD w.params r0 o0) (g0 : g.get? x0 = some (instObj 52 dx0))
    (h3 : g.get? buf = some (instObj 103 dbuf)) (h4 : g.get? dbuf = some ob) (hB : BufD w.params R sp ob) (h5 : g.get? R = some (listOf #[.ref x0] nR))
    (ret : ∀ o' h' tk', g.StaysIn h' → g.objs.size ≤ h'.objs.size → LedIn g h' [(dx0, o')] → InfoD w.params r0 o' → Q .none { s with heap := h', toks := tk' }) :
    wpAny (model PySem.Challenge.rw_nu0223_01.row.prog w) (AA 900 9000) (call (.ref 126) [.ref buf, .int 0 v1, .int 2 v2]) Q E s := by
  obtain ⟨b1, b2, b3, b4, d3, d4, rfl⟩ := hB
  have hi0 := i0
  obtain ⟨kt, rfl⟩ := i0
  refine enter (binds := [(Str.ofString "buffer", .ref buf), (Str.ofString "begin", .int 0 v1), (Str.ofString "end", .int 2 v2)]) G stay hsz N (by k_is) (by k_is) (by decide) (BindsTo.of_eq rfl) (locs rfl) ?_
  · intro mean mg mb L' h₁ X T F N' lt eL
    dsimp only [List.reverse, List.reverseAux] at F
    k_with "pyIter ref" => (refine Hold.mk ?_)
    show wpAny _ _ _ _ _ _
    k_fold
    k_steps
    all_goals (try dsimp only)
    rename Fr _ _ _ _ => F6
    rename News _ _ _ _ => N6
    rename_i M tM kM aM bM hM hMt tp nb u1 u2 hW tkW offW hz1 hz2 hz3 S hS l1S
    refine Hold.of ?_
    subst aM
    obtain ⟨od, hod, N7⟩ : ∃ od, InfoD w.params r0 od ∧ News g L' hS [(S, listOf #[.ref x0] 0), (dx0, od)] := ⟨_, hi0, fun p hp => N6 p (by
      rcases hp with _ | ⟨_, _ | ⟨_, hp⟩⟩
      · exact .head _
      · exact .tail _ (.tail _ (.tail _ (.tail _ (.head _))))
      · exact nomatch hp)⟩
    refine fr_cut [(Str.ofString "least_cluster", .int r0.cl tM)] F6 ⟨rfl, trivial⟩ fun u F7 => ?_
    have hSd : @LT.lt Nat _ dx0 S := l1S.2.2.2
    clear N6 F6 l1S
    refine lst_iter (vs := [.ref x0]) (nn := 0) (fun j m nx => ∃ o', Has m [(Str.ofString "least_cluster", .int r0.cl tM)] ∧ nx = [(S, listOf #[.ref x0] 0), (dx0, o')] ∧ InfoD w.params r0 o') rfl (.head _) F7 N7 ⟨od, ⟨rfl, trivial⟩, rfl, hod⟩ ?turn ?done
    case turn =>
      rintro j v m₁ nx h tk own hv hoff hmem ⟨o', hm, rfl, hI⟩ F N
      have hj : j = 0 := by have := (List.getElem?_eq_some_iff.mp hv).1; simpa using this
      subst hj
      have hvx : v = .ref x0 := by simpa using hv.symm
      subst hvx
      have hF : Fr g L' h _ := F
      have hN : News g L' h ((S, listOf #[.ref x0] 0) :: (dx0, o') :: own) := N
      refine fr_cut _ hF (has_upd hm rfl) fun u F8 => ?_
      clear F hF N F7 N7
      show wpAny _ _ _ _ _ _
      k_fold
      k_steps
      all_goals (try dsimp only)
      refine Hold.of ?_
      rename Fr _ _ _ _ => F9
      rename News _ _ _ _ => N9
      refine setc_at (rest := (S, listOf #[.ref x0] 0) :: own) X T F9 N9 rfl (Nat.le_of_ble_eq_true rfl) (Nat.le_of_ble_eq_true rfl) g0 (.tail _ (.head _)) hI ?h1 ?h2 ?_
      case h1 =>
        intro p hp
        rcases List.mem_cons.mp hp with rfl | hp
        · exact .head _
        · exact .tail _ (.tail _ hp)
      case h2 =>
        intro p hp
        rcases List.mem_cons.mp hp with rfl | hp
        · exact Nat.ne_of_gt hSd
        · exact hoff p hp dx0 (by simp)
      intro o2 hq tkq F10 N10 hI2
      dsimp only
      clear F9 N9 hm
      (try show wpAny _ _ _ _ _ _)
      (try k_fold)
      k_steps
      all_goals (try dsimp only)
      rename Fr _ _ _ _ => F11
      rename News _ _ _ _ => N11
      refine Turn.next [(S, listOf #[.ref x0] 0), (dx0, o2)] F11 N11 ⟨.head _, o2, ⟨rfl, trivial⟩, rfl, hI2⟩ hoff ?_ ?_
      · intro p hp
        rcases hp with _ | ⟨_, _ | ⟨_, hp⟩⟩
        · exact .tail _ (.head _)
        · exact .head _
        · exact nomatch hp
      · intro p hp
        exact .tail _ (.tail _ hp)
    case done =>
      rintro m₁ nx h tk ⟨o', hm, rfl, hI⟩ F N
      have hF : Fr g L' h _ := F
      have hN : News g L' h _ := N
      refine fr_cut _ hF hm fun u F8 => ?_
      clear F hF N F7 N7
      dsimp only
      show wpAny _ _ _ _ _ _
      (try k_fold)
      k_steps
      all_goals (try dsimp only)
      exact Out.intro F8 (news' := [(dx0, o')]) (fun p hp => hN p (.tail _ hp)) (fun hZ tkZ kZ1 kZ2 kZ3 => ret o' hZ tkZ kZ1 kZ2 kZ3 hI)
end
section
theorem allLt_mem {d : Addr} {l : List (Addr × Obj)} (h : AllLt d l) : ∀ p ∈ l, @LT.lt Nat _ p.1 d := by
  induction l with
  | nil => exact fun _ h => nomatch h
  | cons q r ih =>
    intro p hp
    rcases List.mem_cons.mp hp with rfl | hp
    · exact h.1
    · exact ih h.2 p hp
theorem off1_mem {D : Addr} {l : List (Addr × Obj)} (h : LCg.Off1 D l) : ∀ p ∈ l, @Ne Nat p.1 D := by
  induction l with
  | nil => exact fun _ h => nomatch h
  | cons q r ih =>
    intro p hp
    rcases List.mem_cons.mp hp with rfl | hp
    · exact h.1
    · exact ih h.2 p hp
noncomputable def mergedRows (rs : List Row) : List Row := rs.map fun r => if r.cl = clAt rs 1 then { r with cl := clAt rs 0 } else r
section
variable {w : World} {A : Around} {E : Value → Shared → Prop} {s : Shared} {h₀ : Heap} {L : Addr} {m : Str → Option Value} {news rest : List (Addr × Obj)} {mean : ExcName → Option Value} {mg mb : Str → Option Value} {Q : Value → Shared → Prop}
theorem merge2_at {buf dbuf R : Addr} {ob : Obj} {sp b e : Int} {cs : List Cell} {rs : List Row} {nR : Nat} {t1 t2 : Tok} (X : (Mine.hd.heap_1 w.params).In h₀) (T : Top Mine.vw (looseW Mine.vw []) mean mg mb h₀) (F : Fr h₀ L s.heap m) (N : News h₀ L s.heap news)
    (hA : A.handled = none) (hd : A.depth ≤ 900) (hu : A.units ≤ 9000) (hb0 : b = 0) (he2 : e = 2) (m1 : ∀ p ∈ dled cs, p ∈ news) (m2 : ∀ p ∈ rest, p ∈ news) (m3 : ∀ p ∈ rest, ∀ q ∈ dled cs, p.1 ≠ q.1) (ap : Apart (dled cs)) (hi : Cells w.params cs rs) (hin : ∀ c ∈ cs, h₀.get? c.x = some (instObj 52 c.dx))
    (h3 : h₀.get? buf = some (instObj 103 dbuf)) (h4 : h₀.get? dbuf = some ob) (hB : BufD w.params R sp ob) (h5 : h₀.get? R = some (listOf (crefs cs).toArray nR)) (h2 : 2 ≤ rs.length) (hl : rs.length ≤ 1000) (hs : Sorted rs) (hc : clAt rs 0 ≠ clAt rs 1)
    (h : ∀ ds h' tk', Fr h₀ L h' m → News h₀ L h' (dled ds ++ rest) → ds.map (fun c => (c.x, c.dx)) = cs.map (fun c => (c.x, c.dx)) → Cells w.params ds (mergedRows rs) → Q .none { s with heap := h', toks := tk' }) :
    wpAny (model PySem.Challenge.rw_nu0223_01.row.prog w) A (call (.ref 126) [.ref buf, .int b t1, .int e t2]) Q E s := by
  subst hb0 he2
  obtain ⟨g, a1, a2, a3, a4, a5, a6⟩ := site (fp := dled cs) F N m1 m2 m3
  refine wp_le (merge2_spec ((gd X T).keeps a1) a2 a3 a4 ap hi (fun c hc => a1 _ _ (hin c hc)) (a1 _ _ h3) (a1 _ _ h4) hB (a1 _ _ h5) h2 hl hs hc ?_) hA hd hu rfl rfl
  intro ds h' tk' k1 _ k3 k4 k5
  obtain ⟨F', N'⟩ := a6 h' _ k1 k3
  exact h ds h' tk' F' N' k4 k5
theorem merge3_at {buf dbuf R x0 dx0 : Addr} {ob o0 : Obj} {sp b e : Int} {r0 : Row} {nR : Nat} {t1 t2 : Tok} (X : (Mine.hd.heap_1 w.params).In h₀) (T : Top Mine.vw (looseW Mine.vw []) mean mg mb h₀) (F : Fr h₀ L s.heap m) (N : News h₀ L s.heap news)
    (hA : A.handled = none) (hd : A.depth ≤ 900) (hu : A.units ≤ 9000) (hb0 : b = 0) (he2 : e = 2) (m1 : (dx0, o0) ∈ news) (m2 : ∀ p ∈ rest, p ∈ news) (m3 : ∀ p ∈ rest, p.1 ≠ dx0) (i0 : InfoD w.params r0 o0) (g0 : h₀.get? x0 = some (instObj 52 dx0))
    (h3 : h₀.get? buf = some (instObj 103 dbuf)) (h4 : h₀.get? dbuf = some ob) (hB : BufD w.params R sp ob) (h5 : h₀.get? R = some (listOf #[.ref x0] nR))
    (h : ∀ o' h' tk', Fr h₀ L h' m → News h₀ L h' ((dx0, o') :: rest) → InfoD w.params r0 o' → Q .none { s with heap := h', toks := tk' }) :
    wpAny (model PySem.Challenge.rw_nu0223_01.row.prog w) A (call (.ref 126) [.ref buf, .int b t1, .int e t2]) Q E s := by
  subst hb0 he2
  obtain ⟨g, a1, a2, a3, a4, a5, a6⟩ := site (fp := [(dx0, o0)]) F N (by intro p hp; rw [List.mem_singleton.mp hp]; exact m1) m2 (by intro p hp q hq; rw [List.mem_singleton.mp hq]; exact m3 p hp)
  refine wp_le (merge3_spec ((gd X T).keeps a1) a2 a3 a4 i0 (a1 _ _ g0) (a1 _ _ h3) (a1 _ _ h4) hB (a1 _ _ h5) ?_) hA hd hu rfl rfl
  intro o' h' tk' k1 _ k3 k4
  obtain ⟨F', N'⟩ := a6 h' _ k1 k3
  exact h o' h' tk' F' N' k4
end
theorem st92 : True := by w_top off; k_with_none; trivial
theorem st93 : True := by
  k_with "my all" => (assumption)
  k_with "my range" => (first | (with_unfolding_all refine range1_rows ‹Fr _ _ _ _› ‹News _ _ _ _› ?_) | (with_unfolding_all refine range2_rows ‹Fr _ _ _ _› ‹News _ _ _ _› ?_))
  k_with "my inst" => (first
    | (refine' inst_base ?F ?h1 ?h2; (case F => k_asm); (case h1 => assumption); (case h2 => assumption))
    | (refine' inst_half ?F ?N ?h1 ?h2; (case F => k_asm); (case N => k_asm); (case h1 => assumption); (case h2 => k_mem)))
  k_with "my ne" => ((try dsimp only); first | with_reducible assumption | (refine Ne.symm ?_; with_reducible assumption) | (have h9 := ‹(_ ≠ _ ∧ _ ≠ _ ∧ _ ≠ _) ∧ _›; first | exact h9.1.1 | exact h9.1.2.1 | exact h9.1.2.2 | exact h9.2.1.1 | exact h9.2.1.2.1 | exact h9.2.1.2.2 | exact h9.2.2.1 | exact h9.2.2.2.1 | exact h9.2.2.2.2 | exact h9.2.1 | exact h9.2.2.1 | exact h9.2.2.2))
  k_with "my pick" => (first | exact Pick.nil | (refine' Pick.take (by k_mem) (by walk_at "my pick")) | (refine' Pick.skip (by k_all) (by walk_at "my pick")) | (refine Pick.all (by assumption)))
  k_with "call ref" => (k_here; (with_reducible show wpAny _ _ (call (Value.ref 283) [Value.ref _, Value.int _ _]) _ _ _); k_dflt (refine' draw_at (by k_asm) (by k_asm) (by k_asm) (by k_asm) (by rfl) (by exact Nat.le_of_ble_eq_true rfl) (by exact Nat.le_of_ble_eq_true rfl) (by k_asm) (by k_asm) (by k_mem) (by k_mem) (by walk_at "my pick") (by omega) (by decide) (by decide) ?_); intro _ _ _ _ _ _ _ _ _ _ _; (try k_sweep))
  trivial
theorem st94 : True := by
  k_with "call ref" => (k_here; (with_reducible show wpAny _ _ (call (Value.ref 52) [Value.int _ _, Value.int _ _, Value.int _ _]) _ _ _); k_dflt (refine' info_at (by k_asm) (by k_asm) (by k_asm) (by k_asm) (by rfl) (by exact Nat.le_of_ble_eq_true rfl) (by exact Nat.le_of_ble_eq_true rfl) ?_); walk_at "my new"; (try k_sweep))
  trivial
theorem st95 : True := by
  k_with "compareOp NotIn int ref" => (k_here; k_dflt (first | (refine' m_nin0 (by k_asm) (by assumption) (by assumption) (by assumption) ?_; k_whole) | (refine' m_nin (by k_asm) (by assumption) (by assumption) (by assumption) ?_; k_whole)))
  k_with "compareOp In int ref" => (k_here; k_dflt (first | (refine' m_in0 (by k_asm) (by assumption) (by assumption) (by assumption) ?_; k_whole) | (refine' m_in (by k_asm) (by assumption) (by assumption) (by assumption) ?_; k_whole)))
  k_with "subscriptTail" => (k_here; (with_reducible show wpAny _ _ (subscriptTail _ _ (Value.ref _) (Value.int _ _)) _ _ _); k_dflt (first | (refine' m_item (by k_asm) (by assumption) (by assumption) ?_; k_whole) | (refine' b_item (by k_asm) (by assumption) (by omega) (by omega) (by assumption) ?_; k_whole) | (refine' l_item (by k_asm) (by k_mem) (by omega) (by omega) (by assumption) ?_; k_whole)))
  trivial
theorem st96 : True := by
  k_with "my slice" => (k_here; k_dflt (refine' kmk_slice_lit (by k_asm) (by k_asm) (by kmk_list) (by kmk_part) (by kmk_part) (by first | exact pick_one (by assumption) | exact pick_zero (by omega) | exact pick_from (by omega) | exact pick_upto (by omega)) ?_ (by with_unfolding_all rfl) (by kmk_pure) (by ((rw [PySem.sizeLine_eq]); (simp only [List.size_toArray]); omega))); intro _ _ _ _; walk_at "my lt"; (try k_sweep))
  k_with "subscriptTail Name Slice ref ref" => (walk_at "my slice")
  k_with "subscriptTail Attribute Slice ref ref" => (walk_at "my slice")
  k_with "setItem ref ref" => (k_here; k_dflt (refine' l_setSlice1 (by k_asm) (by k_asm) (by k_updF) (by k_mem) (by omega) (by assumption) (by omega) ?_; intro _ _ _; walk_at "my dn"))
  trivial
theorem st97 : True := by
  k_with "call builtin:len" => (k_here; (with_reducible show wpAny _ _ (call (Value.builtin "len") [Value.ref _]) _ _ _); k_dflt (first | (refine' b_len (by k_asm) (by assumption) (by assumption) (by omega) ?_; k_whole) | (refine' l_len (by k_asm) (by k_mem) (by assumption) (by omega) ?_; k_whole)))
  trivial
local macro_rules | `(tactic| walk_at "exec For Name Name cons nil") => `(tactic| (k_here; (rename Fr _ _ _ _ => lF'); (with_unfolding_all refine' For_invVF lF' ?k1 ?k2 ?_; (case k1 => exact rfl); (case k2 => exact rfl); k_whole)))
theorem st98 : True := by
  k_with "exec Assign cons ListComp" => (k_here; k_dflt (refine assignT (F0 := by k_asm) (by rfl) (by with_unfolding_all rfl) (by with_unfolding_all rfl) (by decide) (by rfl) (by decide) (by rfl) (by rfl) (by rfl) ?_))
  k_with "pyIter ref" => (k_here; k_dflt (refine tup_srcT (by rfl) (by k_asm) (by k_asm) (by k_mem) (by exact Nat.le_of_ble_eq_true rfl) ?_; intro _; lct_lit))
  k_with "CompEnd" => (refine LCg.CompEnd.intro (by k_asm) (by k_asm) _ (fun _ h => h) (by first | assumption | (simp only [LCg.Off3, and_true]; done) | (simp only [LCg.Off3, and_true]; assumption)) (by first | lcg_src | k_mem) ?_)
  k_with "call ref" => (k_here; (with_reducible show wpAny _ _ (call (Value.ref 126) [Value.ref _, Value.int _ _, Value.int _ _]) _ _ _); refine Hold.mk ?_)
  trivial
set_option maxHeartbeats 8000000 in
theorem dropM_spec {w : World} {g : Heap} {s : Shared} {buf dbuf R : Addr} {ob : Obj} {sp : Int} {cs : List Cell} {rs : List Row} {nR : Nat} {u1 : Tok} {Q E : Value → Shared → Prop}
    (G : Gd w g) (stay : g.StaysIn s.heap) (hsz : g.objs.size ≤ s.heap.objs.size) (N : LedIn g s.heap (dled cs)) (ap : Apart (dled cs)) (hi : Cells w.params cs rs) (hin : ∀ c ∈ cs, g.get? c.x = some (instObj 52 c.dx))
    (h3 : g.get? buf = some (instObj 103 dbuf)) (h4 : g.get? dbuf = some ob) (hB : BufD w.params R sp ob) (h5 : g.get? R = some (listOf (crefs cs).toArray nR)) (h2 : 2 ≤ rs.length) (hl : rs.length ≤ 1000) (hs : Sorted rs) (hc : clAt rs 0 ≠ clAt rs 1)
    (ret : ∀ ds h' tk', g.StaysIn h' → g.objs.size ≤ h'.objs.size → LedIn g h' (dled ds) → ds.map (fun c => (c.x, c.dx)) = cs.map (fun c => (c.x, c.dx)) → Cells w.params ds (mergedRows rs) → Q .none { s with heap := h', toks := tk' }) :
    wpAny (model PySem.Challenge.rw_nu0223_01.row.prog w) (AA 870 8700) (call (.ref 138) [.ref buf, .int 0 u1]) Q E s := by
  have hB0 := hB
  obtain ⟨b1, b2, b3, b4, d3, d4, rfl⟩ := hB
  have hlc : cs.length = rs.length := hi.length
  refine enterC (binds := [(Str.ofString "buffer", .ref buf), (Str.ofString "at", .int 0 u1)]) G stay hsz N (by k_is) (by k_is) (by decide) (BindsTo.of_eq rfl) rfl (by decide +kernel) ?_
  · intro mean mg mb L' h₁ tk0 cells X T F0 N' Y lt eL
    refine fr_cut [(Str.ofString "buffer", .ref buf), (Str.ofString "at", .int 0 u1)] F0 ⟨rfl, rfl, trivial⟩ fun u F => ?_
    clear F0
    k_cells Y
    simp only [List.cons_append, List.nil_append] at N'
    (try dsimp only)
    rename_i oc hoc
    have hi' := hi
    rcases hi with _ | ⟨i0, _ | ⟨i1, ir⟩⟩
    · simp at h2
    · simp at h2
    rename_i c0 r0 c1 r1 cr rr
    obtain ⟨x0, dx0, o0⟩ := c0
    obtain ⟨x1, dx1, o1⟩ := c1
    have g0 := hin _ (.head _)
    have g1 := hin _ (.tail _ (.head _))
    dsimp only at g0 g1 i0 i1
    have hcl : r0.cl < r1.cl := by
      have := hs; simp [Sorted] at this
      have h9 := this.1.1
      simp [clAt] at hc; omega
    obtain ⟨kt, e0⟩ := i0
    obtain ⟨kt', e1⟩ := i1
    obtain ⟨vr, hvr⟩ : ∃ vr, vr = crefs cr := ⟨_, rfl⟩
    have h5' : g.get? R = some (listOf (.ref x0 :: .ref x1 :: vr).toArray nR) := by rw [hvr]; exact h5
    have hlr : (Value.ref x0 :: Value.ref x1 :: vr).length = rr.length + 2 := by rw [hvr]; simp [crefs] at hlc ⊢; omega
    have hl2 : rr.length + 2 ≤ 1000 := by simpa using hl
    have hx0 : (Value.ref x0 :: Value.ref x1 :: vr)[(0 : Int).toNat]? = some (.ref x0) := rfl
    have hx1 : (Value.ref x0 :: Value.ref x1 :: vr)[(1 : Int).toNat]? = some (.ref x1) := rfl
    have hx1' : (Value.ref x0 :: Value.ref x1 :: vr)[(0 + 1 : Int).toNat]? = some (.ref x1) := rfl
    obtain ⟨tl, htl⟩ : ∃ tl, tl = dled cr := ⟨_, rfl⟩
    have ht1 : ∀ p ∈ tl, p.1 ≠ L' + 1 := by
      intro p hp
      rw [htl] at hp
      have h9 := allLt_mem lt p (by simp only [dled, List.map_cons, List.mem_cons]; exact .inr (.inr hp))
      exact Nat.ne_of_lt (Nat.lt_succ_of_lt h9)
    have hd0 : @LT.lt Nat _ dx0 L' := allLt_mem lt (dx0, o0) (.head _)
    have hd1 : @LT.lt Nat _ dx1 L' := allLt_mem lt (dx1, o1) (.tail _ (.head _))
    have N2 : News g L' h₁ ((L' + 1, oc) :: (dx0, o0) :: (dx1, o1) :: tl) := by rw [htl]; exact N'
    rw [e0, e1] at N2
    clear N' lt
    show wpAny _ _ _ _ _ _
    k_fold
    k_steps
    all_goals (try dsimp only)
    · rename List.any _ _ = true => hf
      simp at hf
      omega
    · rename Fr _ _ _ _ => F3
      rename News _ _ _ _ => N3
      rename (_ ≠ _ ∧ _ ≠ _ ∧ dx0 ≠ _ ∧ dx1 ≠ _ ∧ LCg.Off1 _ tl) => q1
      refine Hold.of ?_
      rw [← e0, ← e1, htl] at N3
      rename_i D1 _ _ _ _ _ _ _ _ _ _ _ _ _ _ _ _ _ _ _ _ _ _ _ _ _ _ _ _
      have q2 := off1_mem q1.2.2.2.2
      rw [htl] at q2
      refine merge2_at (cs := ⟨x0, dx0, o0⟩ :: ⟨x1, dx1, o1⟩ :: cr) (rest := [(D1, LCg.lst [.ref x1])]) X T F3 N3 rfl (Nat.le_of_ble_eq_true rfl) (Nat.le_of_ble_eq_true rfl) rfl rfl ?m1 ?m2 ?m3 ap hi' hin h3 h4 hB0 h5 (by simp) hl hs hc ?_
      case m2 =>
        intro p hp
        rw [List.mem_singleton.mp hp]
        exact .tail _ (.head _)
      case m1 =>
        intro p hp
        exact .tail _ (.tail _ (.tail _ (.tail _ hp)))
      case m3 =>
        intro p hp q hq
        rw [List.mem_singleton.mp hp]
        rcases List.mem_cons.mp hq with rfl | hq
        · exact Ne.symm q1.2.2.1
        rcases List.mem_cons.mp hq with rfl | hq
        · exact Ne.symm q1.2.2.2.1
        · exact Ne.symm (q2 q hq)
      intro ds hM tkM F5 N5 hxd hC
      dsimp only
      refine fr_cut [(Str.ofString "beside", .ref _), (Str.ofString "is_unsafe", .bool false)] F5 ⟨rfl, rfl, trivial⟩ fun u F6 => ?_
      have hne : ∀ p ∈ dled ds, p.1 ≠ D1 := by
        intro p hp
        have h9 : p.1 ∈ (dled ds).map (·.1) := List.mem_map_of_mem hp
        rw [dled_fst, hxd, ← dled_fst] at h9
        obtain ⟨q, hq, e⟩ := List.mem_map.mp h9
        rw [← e]
        rcases List.mem_cons.mp hq with rfl | hq
        · exact q1.2.2.1
        rcases List.mem_cons.mp hq with rfl | hq
        · exact q1.2.2.2.1
        · exact q2 q hq
      obtain ⟨tl2, htl2⟩ : ∃ tl2, tl2 = dled ds := ⟨_, rfl⟩
      rw [← htl2] at N5 hne
      have N6 : News g L' hM ((D1, LCg.lst [.ref x1]) :: tl2) := fun p hp => N5 p (by
        rcases List.mem_cons.mp hp with rfl | hp
        · exact List.mem_append.mpr (.inr (.head _))
        · exact List.mem_append.mpr (.inl hp))
      clear F3 N3 F5 N5
      k_with "pyIter ref" => (refine Hold.mk ?_)
      show wpAny _ _ _ _ _ _
      (try k_fold)
      k_steps
      all_goals (try dsimp only)
      refine Hold.of ?_
      rename Fr _ _ _ _ => F7
      rename News _ _ _ _ => N7
      refine lst_iter (vs := [.ref x1]) (nn := 1) (fun j m nx => Has m [(Str.ofString "is_unsafe", .bool false)] ∧ nx = (D1, listOf #[.ref x1] 1) :: tl2) rfl (.head _) F7 N7 ⟨⟨rfl, trivial⟩, rfl⟩ ?turn ?done
      case turn =>
        rintro j v m₁ nx h tk own hv hoff hmem ⟨hm, rfl⟩ F N
        have hF : Fr g L' h _ := F
        have hN : News g L' h ((D1, listOf #[.ref x1] 1) :: (tl2 ++ own)) := N
        refine fr_cut _ hF (has_upd hm rfl) fun u F8 => ?_
        clear F hF N F7 N7
        show wpAny _ _ _ _ _ _
        k_fold
        k_steps
        all_goals (try dsimp only)
        rename Fr _ _ _ _ => F11
        rename News _ _ _ _ => N11
        refine Turn.next ((D1, listOf #[.ref x1] 1) :: tl2) F11 N11 ⟨.head _, ⟨rfl, trivial⟩, rfl⟩ hoff (fun p hp => ?_) fun p hp => ?_
        · rcases List.mem_cons.mp hp with rfl | hp
          · exact .head _
          · exact .tail _ (List.mem_append.mpr (.inl hp))
        · exact .tail _ (List.mem_append.mpr (.inr hp))
      case done =>
        rintro m₁ nx h tk ⟨hm, rfl⟩ F N
        have hF : Fr g L' h _ := F
        have hN : News g L' h _ := N
        refine fr_cut _ hF hm fun u F8 => ?_
        clear F hF N F7 N7
        dsimp only
        show wpAny _ _ _ _ _ _
        (try k_fold)
        k_steps
        all_goals (try dsimp only)
        exact Out.intro F8 (news' := dled ds) (fun p hp => hN p (.tail _ (by rw [htl2]; exact hp))) (fun hZ tkZ kZ1 kZ2 kZ3 => ret ds hZ tkZ kZ1 kZ2 kZ3 hxd hC)
set_option maxHeartbeats 8000000 in
theorem st99 : True := by k_with_none; trivial
theorem st100 : True := by
  k_with "my all" => (assumption)
  k_with "my range" => (first | (with_unfolding_all refine range1_rows ‹Fr _ _ _ _› ‹News _ _ _ _› ?_) | (with_unfolding_all refine range2_rows ‹Fr _ _ _ _› ‹News _ _ _ _› ?_))
  k_with "my inst" => (first
    | (refine' inst_base ?F ?h1 ?h2; (case F => k_asm); (case h1 => assumption); (case h2 => assumption))
    | (refine' inst_half ?F ?N ?h1 ?h2; (case F => k_asm); (case N => k_asm); (case h1 => assumption); (case h2 => k_mem)))
  k_with "my ne" => ((try dsimp only); first | with_reducible assumption | (refine Ne.symm ?_; with_reducible assumption) | (have h9 := ‹(_ ≠ _ ∧ _ ≠ _ ∧ _ ≠ _) ∧ _›; first | exact h9.1.1 | exact h9.1.2.1 | exact h9.1.2.2 | exact h9.2.1.1 | exact h9.2.1.2.1 | exact h9.2.1.2.2 | exact h9.2.2.1 | exact h9.2.2.2.1 | exact h9.2.2.2.2 | exact h9.2.1 | exact h9.2.2.1 | exact h9.2.2.2))
  k_with "my pick" => (first | exact Pick.nil | (refine' Pick.take (by k_mem) (by walk_at "my pick")) | (refine' Pick.skip (by k_all) (by walk_at "my pick")) | (refine Pick.all (by assumption)))
  k_with "call ref" => (k_here; (with_reducible show wpAny _ _ (call (Value.ref 283) [Value.ref _, Value.int _ _]) _ _ _); k_dflt (refine' draw_at (by k_asm) (by k_asm) (by k_asm) (by k_asm) (by rfl) (by exact Nat.le_of_ble_eq_true rfl) (by exact Nat.le_of_ble_eq_true rfl) (by k_asm) (by k_asm) (by k_mem) (by k_mem) (by walk_at "my pick") (by omega) (by decide) (by decide) ?_); intro _ _ _ _ _ _ _ _ _ _ _; (try k_sweep))
  trivial
theorem st101 : True := by
  k_with "call ref" => (k_here; (with_reducible show wpAny _ _ (call (Value.ref 52) [Value.int _ _, Value.int _ _, Value.int _ _]) _ _ _); k_dflt (refine' info_at (by k_asm) (by k_asm) (by k_asm) (by k_asm) (by rfl) (by exact Nat.le_of_ble_eq_true rfl) (by exact Nat.le_of_ble_eq_true rfl) ?_); walk_at "my new"; (try k_sweep))
  trivial
theorem st102 : True := by
  k_with "compareOp NotIn int ref" => (k_here; k_dflt (first | (refine' m_nin0 (by k_asm) (by assumption) (by assumption) (by assumption) ?_; k_whole) | (refine' m_nin (by k_asm) (by assumption) (by assumption) (by assumption) ?_; k_whole)))
  k_with "compareOp In int ref" => (k_here; k_dflt (first | (refine' m_in0 (by k_asm) (by assumption) (by assumption) (by assumption) ?_; k_whole) | (refine' m_in (by k_asm) (by assumption) (by assumption) (by assumption) ?_; k_whole)))
  k_with "subscriptTail" => (k_here; (with_reducible show wpAny _ _ (subscriptTail _ _ (Value.ref _) (Value.int _ _)) _ _ _); k_dflt (first | (refine' m_item (by k_asm) (by assumption) (by assumption) ?_; k_whole) | (refine' b_item (by k_asm) (by assumption) (by omega) (by omega) (by assumption) ?_; k_whole) | (refine' l_item (by k_asm) (by k_mem) (by omega) (by omega) (by assumption) ?_; k_whole)))
  trivial
theorem st103 : True := by
  k_with "my slice" => (k_here; k_dflt (refine' kmk_slice_lit (by k_asm) (by k_asm) (by kmk_list) (by kmk_part) (by kmk_part) (by first | exact pick_one (by assumption) | exact pick_zero (by omega) | exact pick_from (by omega) | exact pick_upto (by omega)) ?_ (by with_unfolding_all rfl) (by kmk_pure) (by ((rw [PySem.sizeLine_eq]); (simp only [List.size_toArray]); omega))); intro _ _ _ _; walk_at "my lt"; (try k_sweep))
  k_with "subscriptTail Name Slice ref ref" => (walk_at "my slice")
  k_with "subscriptTail Attribute Slice ref ref" => (walk_at "my slice")
  k_with "setItem ref ref" => (k_here; k_dflt (refine' l_setSlice1 (by k_asm) (by k_asm) (by k_updF) (by k_mem) (by omega) (by assumption) (by omega) ?_; intro _ _ _; walk_at "my dn"))
  trivial
theorem st104 : True := by
  k_with "call builtin:len" => (k_here; (with_reducible show wpAny _ _ (call (Value.builtin "len") [Value.ref _]) _ _ _); k_dflt (first | (refine' b_len (by k_asm) (by assumption) (by assumption) (by omega) ?_; k_whole) | (refine' l_len (by k_asm) (by k_mem) (by assumption) (by omega) ?_; k_whole)))
  trivial
theorem st105 : True := by
  k_with "exec Assign cons ListComp" => (k_here; k_dflt (refine assignT (F0 := by k_asm) (by rfl) (by with_unfolding_all rfl) (by with_unfolding_all rfl) (by decide) (by rfl) (by decide) (by rfl) (by rfl) (by rfl) ?_))
  k_with "pyIter ref" => (k_here; k_dflt (refine tup_srcT (by rfl) (by k_asm) (by k_asm) (by k_mem) (by exact Nat.le_of_ble_eq_true rfl) ?_; intro _; lct_lit))
  k_with "CompEnd" => (refine LCg.CompEnd.intro (by k_asm) (by k_asm) _ (fun _ h => h) (by first | assumption | (simp only [LCg.Off3, and_true]; done) | (simp only [LCg.Off3, and_true]; assumption)) (by first | lcg_src | k_mem) ?_)
  k_with "call ref" => (k_here; (with_reducible show wpAny _ _ (call (Value.ref 126) [Value.ref _, Value.int _ _, Value.int _ _]) _ _ _); refine Hold.mk ?_)
  trivial
theorem dropS_spec {w : World} {g : Heap} {s : Shared} {buf dbuf R x0 dx0 : Addr} {ob o0 : Obj} {sp : Int} {r0 : Row} {nR : Nat} {u1 : Tok} {Q E : Value → Shared → Prop}
    (G : Gd w g) (stay : g.StaysIn s.heap) (hsz : g.objs.size ≤ s.heap.objs.size) (N : LedIn g s.heap [(dx0, o0)]) (i0 : InfoD w.params r0 o0) (g0 : g.get? x0 = some (instObj 52 dx0))
    (h3 : g.get? buf = some (instObj 103 dbuf)) (h4 : g.get? dbuf = some ob) (hB : BufD w.params R sp ob) (h5 : g.get? R = some (listOf (List.toArray [.ref x0]) nR))
    (ret : ∀ o' h' tk', g.StaysIn h' → g.objs.size ≤ h'.objs.size → LedIn g h' [(dx0, o')] → InfoD w.params r0 o' → Q .none { s with heap := h', toks := tk' }) :
    wpAny (model PySem.Challenge.rw_nu0223_01.row.prog w) (AA 870 8700) (call (.ref 138) [.ref buf, .int 0 u1]) Q E s := by
  have hB0 := hB
  have i00 := i0
  obtain ⟨b1, b2, b3, b4, d3, d4, rfl⟩ := hB
  obtain ⟨kt, e0⟩ := i0
  refine enterC (binds := [(Str.ofString "buffer", .ref buf), (Str.ofString "at", .int 0 u1)]) G stay hsz N (by k_is) (by k_is) (by decide) (BindsTo.of_eq rfl) rfl (by decide +kernel) ?_
  · intro mean mg mb L' h₁ tk0 cells X T F0 N' Y lt eL
    refine fr_cut [(Str.ofString "buffer", .ref buf), (Str.ofString "at", .int 0 u1)] F0 ⟨rfl, rfl, trivial⟩ fun u F => ?_
    clear F0
    k_cells Y
    simp only [List.cons_append, List.nil_append] at N'
    (try dsimp only)
    rename_i oc hoc
    have hx0 : [Value.ref x0][(0 : Int).toNat]? = some (.ref x0) := rfl
    have hlr : [Value.ref x0].length = 1 := rfl
    have hd0 : @LT.lt Nat _ dx0 L' := allLt_mem lt (dx0, o0) (.head _)
    have N2 : News g L' h₁ [(L' + 1, oc), (dx0, o0)] := N'
    rw [e0] at N2
    clear N' lt
    show wpAny _ _ _ _ _ _
    k_fold
    k_steps
    all_goals (try dsimp only)
    rename Fr _ _ _ _ => F3
    rename News _ _ _ _ => N3
    rw [← e0] at N3
    refine Hold.of ?_
    rename (_ ≠ _ ∧ _ ≠ _ ∧ dx0 ≠ _) => q1
    rename_i D1 _ _ _ _ _ _ _ _ _
    refine merge3_at (rest := [(D1, LCg.lst [])]) X T F3 N3 rfl (Nat.le_of_ble_eq_true rfl) (Nat.le_of_ble_eq_true rfl) rfl rfl (.tail _ (.tail _ (.tail _ (.tail _ (.head _))))) ?m2 ?m3 i00 g0 h3 h4 hB0 h5 ?_
    case m2 =>
      intro p hp
      rw [List.mem_singleton.mp hp]
      exact .tail _ (.head _)
    case m3 =>
      intro p hp
      rw [List.mem_singleton.mp hp]
      exact Ne.symm q1.2.2
    intro o' hM tkM F5 N5 hI
    dsimp only
    refine fr_cut [(Str.ofString "beside", .ref _), (Str.ofString "is_unsafe", .bool false)] F5 ⟨rfl, rfl, trivial⟩ fun u F6 => ?_
    have N6 : News g L' hM [(D1, LCg.lst []), (dx0, o')] := fun p hp => N5 p (by
      rcases hp with _ | ⟨_, _ | ⟨_, hp⟩⟩
      · exact .tail _ (.head _)
      · exact .head _
      · exact nomatch hp)
    clear F3 N3 F5 N5
    k_with "pyIter ref" => (refine Hold.mk ?_)
    show wpAny _ _ _ _ _ _
    (try k_fold)
    k_steps
    all_goals (try dsimp only)
    refine Hold.of ?_
    rename Fr _ _ _ _ => F7
    rename News _ _ _ _ => N7
    refine lst_iter (vs := []) (nn := 0) (fun j m nx => Has m [(Str.ofString "is_unsafe", .bool false)] ∧ nx = [(D1, listOf #[] 0), (dx0, o')]) rfl (.head _) F7 N7 ⟨⟨rfl, trivial⟩, rfl⟩ ?turn ?done
    case turn =>
      rintro j v m₁ nx h tk own hv hoff hmem ⟨hm, rfl⟩ F N
      simp at hv
    case done =>
      rintro m₁ nx h tk ⟨hm, rfl⟩ F N
      have hF : Fr g L' h _ := F
      have hN : News g L' h _ := N
      refine fr_cut _ hF hm fun u F8 => ?_
      clear F hF N F7 N7
      dsimp only
      show wpAny _ _ _ _ _ _
      (try k_fold)
      k_steps
      all_goals (try dsimp only)
      exact Out.intro F8 (news' := [(dx0, o')]) (fun p hp => hN p (.tail _ hp)) (fun hZ tkZ kZ1 kZ2 kZ3 => ret o' hZ tkZ kZ1 kZ2 kZ3 hI)
end
section
noncomputable def dropRows (rs : List Row) (i : Nat) : List Row := if i = 0 ∧ 1 < rs.length ∧ clAt rs 0 ≠ clAt rs 1 then mergedRows rs else rs
theorem infos_of {P : Params} {g : Heap} : ∀ {cs : List Cell} {rs : List Row}, Cells P cs rs → (∀ c ∈ cs, g.get? c.x = some (instObj 52 c.dx)) → (∀ p ∈ dled cs, g.get? p.1 = some p.2) → InfosIn P g (crefs cs) rs
  | _, _, .nil, _, _ => .nil
  | _, _, .cons i r, h1, h2 => .cons ⟨_, _, _, rfl, h1 _ (.head _), h2 _ (.head _), i⟩ (infos_of r (fun c hc => h1 c (.tail _ hc)) fun p hp => h2 p (.tail _ hp))
section
variable {w : World} {A : Around} {E : Value → Shared → Prop} {s : Shared} {h₀ : Heap} {L : Addr} {m : Str → Option Value} {news rest : List (Addr × Obj)} {mean : ExcName → Option Value} {mg mb : Str → Option Value} {Q : Value → Shared → Prop}
theorem drop_at {buf dbuf R : Addr} {ob : Obj} {sp z : Int} {cs : List Cell} {rs : List Row} {nR i : Nat} {u1 : Tok} (X : (Mine.hd.heap_1 w.params).In h₀) (T : Top Mine.vw (looseW Mine.vw []) mean mg mb h₀) (F : Fr h₀ L s.heap m) (N : News h₀ L s.heap news)
    (hA : A.handled = none) (hd : A.depth ≤ 870) (hu : A.units ≤ 8700) (hz : z = (i : Nat)) (m0 : (R, listOf (crefs cs).toArray nR) ∈ news) (m1 : ∀ p ∈ dled cs, p ∈ news) (ap : Apart (dled cs)) (hR : ∀ p ∈ dled cs, p.1 ≠ R) (hi : Cells w.params cs rs) (hin : ∀ c ∈ cs, h₀.get? c.x = some (instObj 52 c.dx))
    (h3 : h₀.get? buf = some (instObj 103 dbuf)) (h4 : h₀.get? dbuf = some ob) (hB : BufD w.params R sp ob) (hl : rs.length ≤ 900) (hs : Sorted rs) (h1 : i < rs.length)
    (h : ∀ ds h' tk', Fr h₀ L h' m → News h₀ L h' ((R, listOf (crefs cs).toArray nR) :: dled ds) → ds.map (fun c => (c.x, c.dx)) = cs.map (fun c => (c.x, c.dx)) → Cells w.params ds (dropRows rs i) → Q .none { s with heap := h', toks := tk' }) :
    wpAny (model PySem.Challenge.rw_nu0223_01.row.prog w) A (call (.ref 138) [.ref buf, .int z u1]) Q E s := by
  subst hz
  by_cases c : i = 0 ∧ 1 < rs.length ∧ clAt rs 0 ≠ clAt rs 1
  · obtain ⟨rfl, c2, c3⟩ := c
    obtain ⟨g, a1, a2, a3, a4, a5, a6⟩ := site (fp := dled cs) (rest := [(R, listOf (crefs cs).toArray nR)]) F N m1 (by intro p hp; rw [List.mem_singleton.mp hp]; exact m0) (by intro p hp q hq; rw [List.mem_singleton.mp hp]; exact (hR q hq).symm)
    refine wp_le (dropM_spec ((gd X T).keeps a1) a2 a3 a4 ap hi (fun c hc => a1 _ _ (hin c hc)) (a1 _ _ h3) (a1 _ _ h4) hB (a5 _ (.head _)) c2 (by omega) hs c3 ?_) hA hd hu rfl rfl
    intro ds h' tk' k1 _ k3 k4 k5
    obtain ⟨F', N'⟩ := a6 h' _ k1 k3
    refine h ds h' tk' F' (fun p hp => N' p ?_) k4 (by rw [dropRows, if_pos ⟨rfl, c2, c3⟩]; exact k5)
    rcases List.mem_cons.mp hp with rfl | hp
    · exact List.mem_append.mpr (.inr (.head _))
    · exact List.mem_append.mpr (.inl hp)
  · by_cases c2 : 0 < i ∨ (i + 1 < rs.length ∧ clAt rs 0 = clAt rs 1)
    · obtain ⟨g, a1, a2, a3, a4, a5, a6⟩ := site (fp := []) (rest := (R, listOf (crefs cs).toArray nR) :: dled cs) F N (fun _ h => nomatch h) (by intro p hp; rcases List.mem_cons.mp hp with rfl | hp; exact m0; exact m1 p hp) (by intro p hp q hq; cases hq)
      refine wp_le (dropR_spec ((gd X T).keeps a1) a2 a3 (a1 _ _ h3) (a1 _ _ h4) hB (a5 _ (.head _)) (infos_of hi (fun c hc => a1 _ _ (hin c hc)) fun p hp => a5 p (.tail _ hp)) hl hs h1 c2 ?_) hA hd hu rfl rfl
      intro h' tk' k1 _
      obtain ⟨F', N'⟩ := a6 h' [] k1 (fun _ h => nomatch h)
      exact h cs h' tk' F' N' rfl (by rw [dropRows, if_neg c]; exact hi)
    · have hi0 : i = 0 := by omega
      subst hi0
      have hlen : ¬ 1 < rs.length := by
        intro h9
        by_cases c9 : clAt rs 0 = clAt rs 1
        · exact c2 (.inr ⟨h9, c9⟩)
        · exact c ⟨rfl, h9, c9⟩
      rcases hi with _ | ⟨i0, _ | ⟨i1, ir⟩⟩
      · simp at h1
      · rename_i c0 r0
        obtain ⟨x0, dx0, o0⟩ := c0
        obtain ⟨g, a1, a2, a3, a4, a5, a6⟩ := site (fp := [(dx0, o0)]) (rest := [(R, listOf (crefs [⟨x0, dx0, o0⟩]).toArray nR)]) F N m1 (by intro p hp; rw [List.mem_singleton.mp hp]; exact m0) (by intro p hp q hq; rw [List.mem_singleton.mp hp]; exact (hR q hq).symm)
        refine wp_le (dropS_spec ((gd X T).keeps a1) a2 a3 a4 i0 (a1 _ _ (hin _ (.head _))) (a1 _ _ h3) (a1 _ _ h4) hB (a5 _ (.head _)) ?_) hA hd hu rfl rfl
        intro o' h' tk' k1 _ k3 k4
        obtain ⟨F', N'⟩ := a6 h' _ k1 k3
        refine h [⟨x0, dx0, o'⟩] h' tk' F' (fun p hp => N' p ?_) rfl (by rw [dropRows, if_neg c]; exact .cons k4 .nil)
        rcases hp with _ | ⟨_, _ | ⟨_, hp⟩⟩
        · exact .tail _ (.head _)
        · exact .head _
        · exact nomatch hp
      · exfalso; simp at hlen
end
theorem st106 : True := by w_top off; k_with_none; trivial
theorem st107 : True := by
  k_with "my all" => (assumption)
  k_with "my range" => (first | (with_unfolding_all refine range1_rows ‹Fr _ _ _ _› ‹News _ _ _ _› ?_) | (with_unfolding_all refine range2_rows ‹Fr _ _ _ _› ‹News _ _ _ _› ?_))
  k_with "my inst" => (first
    | (refine' inst_base ?F ?h1 ?h2; (case F => k_asm); (case h1 => assumption); (case h2 => assumption))
    | (refine' inst_half ?F ?N ?h1 ?h2; (case F => k_asm); (case N => k_asm); (case h1 => assumption); (case h2 => k_mem)))
  k_with "my ne" => ((try dsimp only); first | with_reducible assumption | (refine Ne.symm ?_; with_reducible assumption) | (have h9 := ‹(_ ≠ _ ∧ _ ≠ _ ∧ _ ≠ _) ∧ _›; first | exact h9.1.1 | exact h9.1.2.1 | exact h9.1.2.2 | exact h9.2.1.1 | exact h9.2.1.2.1 | exact h9.2.1.2.2 | exact h9.2.2.1 | exact h9.2.2.2.1 | exact h9.2.2.2.2 | exact h9.2.1 | exact h9.2.2.1 | exact h9.2.2.2))
  k_with "my pick" => (first | exact Pick.nil | (refine' Pick.take (by k_mem) (by walk_at "my pick")) | (refine' Pick.skip (by k_all) (by walk_at "my pick")) | (refine Pick.all (by assumption)))
  k_with "call ref" => (k_here; (with_reducible show wpAny _ _ (call (Value.ref 283) [Value.ref _, Value.int _ _]) _ _ _); k_dflt (refine' draw_at (by k_asm) (by k_asm) (by k_asm) (by k_asm) (by rfl) (by exact Nat.le_of_ble_eq_true rfl) (by exact Nat.le_of_ble_eq_true rfl) (by k_asm) (by k_asm) (by k_mem) (by k_mem) (by walk_at "my pick") (by omega) (by decide) (by decide) ?_); intro _ _ _ _ _ _ _ _ _ _ _; (try k_sweep))
  trivial
theorem st108 : True := by
  k_with "call ref" => (k_here; (with_reducible show wpAny _ _ (call (Value.ref 52) [Value.int _ _, Value.int _ _, Value.int _ _]) _ _ _); k_dflt (refine' info_at (by k_asm) (by k_asm) (by k_asm) (by k_asm) (by rfl) (by exact Nat.le_of_ble_eq_true rfl) (by exact Nat.le_of_ble_eq_true rfl) ?_); walk_at "my new"; (try k_sweep))
  trivial
theorem st109 : True := by
  k_with "compareOp NotIn int ref" => (k_here; k_dflt (first | (refine' m_nin0 (by k_asm) (by assumption) (by assumption) (by assumption) ?_; k_whole) | (refine' m_nin (by k_asm) (by assumption) (by assumption) (by assumption) ?_; k_whole)))
  k_with "compareOp In int ref" => (k_here; k_dflt (first | (refine' m_in0 (by k_asm) (by assumption) (by assumption) (by assumption) ?_; k_whole) | (refine' m_in (by k_asm) (by assumption) (by assumption) (by assumption) ?_; k_whole)))
  k_with "subscriptTail" => (k_here; (with_reducible show wpAny _ _ (subscriptTail _ _ (Value.ref _) (Value.int _ _)) _ _ _); k_dflt (first | (refine' m_item (by k_asm) (by assumption) (by assumption) ?_; k_whole) | (refine' b_item (by k_asm) (by assumption) (by omega) (by omega) (by assumption) ?_; k_whole) | (refine' l_item (by k_asm) (by k_mem) (by omega) (by omega) (by assumption) ?_; k_whole)))
  trivial
theorem st110 : True := by
  k_with "call ref" => (k_here; (with_reducible show wpAny _ _ (call (Value.ref 126) [Value.ref _, Value.int _ _, Value.int _ _]) _ _ _); k_dflt (refine' merge1_at (by k_asm) (by k_asm) (by k_asm) (by k_asm) (by rfl) (by exact Nat.le_of_ble_eq_true rfl) (by exact Nat.le_of_ble_eq_true rfl) (by omega) ?_; intro _ _ _ _))
  k_with "call ref" => (k_here; (first | (with_reducible show wpAny _ _ (call (Value.ref 42) [Value.ref _]) _ _ _) | (with_reducible show wpAny _ _ (call (Value.ref 42) ([Value.ref _] ++ [])) _ _ _)); k_dflt (refine' copied_at (by k_asm) (by k_asm) (by k_asm) (by k_asm) (by rfl) (by exact Nat.le_of_ble_eq_true rfl) (by exact Nat.le_of_ble_eq_true rfl) (by assumption) (by k_mem) (by first | assumption | exact ⟨tkOf [_, _, _, _, _, _, _, _, _, _, _, _, _, _, _, _, _, _, _, _, _, _, _, _, _, _, _, _, _, _, _], rfl⟩) ?_); walk_at "my new"; (try k_sweep))
  trivial
theorem st111 : True := by
  k_with "my slice" => (k_here; k_dflt (refine' kmk_slice_lit (by k_asm) (by k_asm) (by kmk_list) (by kmk_part) (by kmk_part) (by first | exact pick_one (by assumption) | exact pick_zero (by omega) | exact pick_from (by omega) | exact pick_upto (by omega)) ?_ (by with_unfolding_all rfl) (by kmk_pure) (by ((rw [PySem.sizeLine_eq]); (simp only [List.size_toArray]); omega))); intro _ _ _ _; walk_at "my lt"; (try k_sweep))
  k_with "subscriptTail Name Slice ref ref" => (walk_at "my slice")
  k_with "subscriptTail Attribute Slice ref ref" => (walk_at "my slice")
  k_with "setItem ref ref" => (k_here; k_dflt (refine' l_setSlice1 (by k_asm) (by k_asm) (by k_updF) (by k_mem) (by omega) (by assumption) (by omega) ?_; intro _ _ _; walk_at "my dn"))
  trivial
theorem st112 : True := by
  k_with "call ref" => (k_here; (with_reducible show wpAny _ _ (call (Value.ref 138) [Value.ref _, Value.int _ _]) _ _ _); refine Hold.mk ?_)
  k_with "CompEnd" => (refine LCg.CompEnd.intro (by k_asm) (by k_asm) _ (fun _ h => h) (by first | assumption | (simp only [LCg.Off3, and_true]; done) | (simp only [LCg.Off3, and_true]; assumption)) (by first | lcg_src | k_mem) ?_)
  k_with "setItem ref ref" => (k_here; k_dflt (refine' l_setSlice1 (by k_asm) (by k_asm) (by k_updF) (by k_mem) (by omega) (by omega) (by ((try simp only [List.length_cons, List.length_nil]); omega)) ?_; intro _ _ _; walk_at "my dn"))
  trivial
set_option maxHeartbeats 8000000 in
theorem putN_spec {w : World} {g : Heap} {s : Shared} {buf dbuf R tp : Addr} {ob : Obj} {sp : Int} {cs : List Cell} {rs : List Row} {nR nt : Nat} {i : Nat} {u1 u2 : Tok} {Q E : Value → Shared → Prop}
    (G : Gd w g) (stay : g.StaysIn s.heap) (hsz : g.objs.size ≤ s.heap.objs.size) (N : LedIn g s.heap ((R, listOf (crefs cs).toArray nR) :: dled cs)) (ap : Apart (dled cs)) (hR : ∀ p ∈ dled cs, p.1 ≠ R) (hi : Cells w.params cs rs) (hin : ∀ c ∈ cs, g.get? c.x = some (instObj 52 c.dx))
    (h3 : g.get? buf = some (instObj 103 dbuf)) (h4 : g.get? dbuf = some ob) (hB : BufD w.params R sp ob) (hl : rs.length ≤ 900) (hs : Sorted rs) (h1 : i < rs.length) (ht : g.get? tp = some (tupOf #[] nt))
    (ret : ∀ ds n' h' tk', g.StaysIn h' → g.objs.size ≤ h'.objs.size → LedIn g h' ((R, listOf (sliceSet (crefs cs) [] i (i + 1)).toArray n') :: dled ds) → ds.map (fun c => (c.x, c.dx)) = cs.map (fun c => (c.x, c.dx)) → Cells w.params ds (dropRows rs i) → Q .none { s with heap := h', toks := tk' }) :
    wpAny (model PySem.Challenge.rw_nu0223_01.row.prog w) (AA 850 8500) (call (.ref 143) [.ref buf, .int (i : Nat) u1, .int 1 u2, .ref tp]) Q E s := by
  have hlc : cs.length = rs.length := hi.length
  obtain ⟨c, hcj⟩ : ∃ c, cs[i]? = some c := ⟨_, List.getElem?_eq_getElem (by omega)⟩
  obtain ⟨r, hrj⟩ : ∃ r, rs[i]? = some r := ⟨_, List.getElem?_eq_getElem h1⟩
  obtain ⟨x, dx, o⟩ := c
  have hI := hi.get hcj hrj
  have h6 := hin _ (List.mem_of_getElem? hcj)
  dsimp only at h6 hI
  have hI0 := hI
  have hB0 := hB
  have hsp := split_at hcj
  have apd : Apart (dled (cs.take i) ++ ([(dx, o)] ++ dled (cs.drop (i + 1)))) := by
    have e := ap
    rw [hsp, dled_append] at e
    exact e
  obtain ⟨am1, _⟩ := apd.mid
  obtain ⟨tl, htl⟩ : ∃ tl, tl = dled (cs.take i) ++ dled (cs.drop (i + 1)) := ⟨_, rfl⟩
  have hmem : ∀ p, p ∈ dled cs ↔ p = (dx, o) ∨ p ∈ tl := by
    intro p
    rw [hsp, dled_append, htl]
    simp only [List.mem_append, dled, List.map_cons, List.mem_cons]
    constructor
    · rintro (h | h | h)
      · exact .inr (.inl h)
      · exact .inl h
      · exact .inr (.inr h)
    · rintro (h | h | h)
      · exact .inr (.inl h)
      · exact .inl h
      · exact .inr (.inr h)
  have w1 : ∀ p ∈ tl, p.1 ≠ R := fun p hp => hR p ((hmem p).mpr (.inr hp))
  have w2 : ∀ p ∈ tl, p.1 ≠ dx := fun p hp => am1 p (htl ▸ hp) (dx, o) (.head _)
  have hRd : @Ne Nat R dx := fun e => hR (dx, o) ((hmem _).mpr (.inl rfl)) e.symm
  obtain ⟨vs, hvs⟩ : ∃ vs, vs = crefs cs := ⟨_, rfl⟩
  have hlv : vs.length = rs.length := by rw [hvs]; simp [crefs, hlc]
  have hz : vs.length ≤ 900 := by omega
  have hx : vs[((i : Nat) : Int).toNat]? = some (.ref x) := by rw [hvs]; simp [crefs, hcj]
  have hx0 : vs[i]? = some (.ref x) := by simpa using hx
  have hi1 : i < vs.length := by omega
  have N1 : LedIn g s.heap ((R, listOf vs.toArray nR) :: (dx, o) :: tl) := fun p hp => N p (by
    rw [← hvs]
    rcases List.mem_cons.mp hp with rfl | hp
    · exact .head _
    · exact .tail _ ((hmem p).mpr (List.mem_cons.mp hp)))
  clear N
  obtain ⟨kt, e0⟩ := hI
  obtain ⟨b1, b2, b3, b4, d3, d4, rfl⟩ := hB
  refine enter (binds := [(Str.ofString "buffer", .ref buf), (Str.ofString "at", .int (i : Nat) u1), (Str.ofString "count", .int 1 u2), (Str.ofString "glyphs", .ref tp)]) G stay hsz N1 (by k_is) (by k_is) (by decide) (BindsTo.of_eq rfl) (locs rfl) ?_
  · intro mean mg mb L' h₁ X T F N' lt eL
    dsimp only [List.reverse, List.reverseAux] at F
    have N2 : News g L' h₁ ((R, listOf vs.toArray nR) :: (dx, o) :: tl) := N'
    rw [e0] at N2
    clear N' N1
    k_with "pyIter ref" => (refine Hold.mk ?_)
    show wpAny _ _ _ _ _ _
    k_fold
    k_steps
    all_goals (try dsimp only)
    rename Fr _ _ _ _ => F3
    rename News _ _ _ _ => N3
    rename_i fl _ _ _
    refine Hold.of ?_
    obtain ⟨od, rest, hod, N4, hm1, hm2, hm3⟩ : ∃ od rest, InfoD w.params r od ∧ News g L' _ ((fl, listOf #[] 0) :: rest) ∧ (R, listOf vs.toArray nR) ∈ rest ∧ (dx, od) ∈ rest ∧ ∀ p ∈ tl, p ∈ rest :=
      ⟨_, _, ⟨tkOf [_, _, _, _, _, _, _, _, _, _, _, _, _, _, _, _, _, _, _, _, _, _, _, _, _, _, _, _, _, _, _], rfl⟩, N3, .tail _ (.tail _ (.tail _ (.head _))), .tail _ (.tail _ (.tail _ (.tail _ (.head _)))), fun p hp => .tail _ (.tail _ (.tail _ (.tail _ (.tail _ hp))))⟩
    have N5 : News g L' _ ((fl, listOf #[] 0) :: (R, listOf vs.toArray nR) :: (dx, od) :: tl) := fun p hp => N4 p (by
      simp only [List.mem_cons, List.not_mem_nil, or_false] at hp ⊢
      rcases hp with rfl | rfl | rfl | hp
      · exact .inl rfl
      · exact .inr hm1
      · exact .inr hm2
      · exact .inr (hm3 p hp))
    refine fr_cut [(Str.ofString "buffer", .ref buf), (Str.ofString "at", .int (i : Nat) u1), (Str.ofString "count", .int 1 u2), (Str.ofString "first", .ref x), (Str.ofString "found", .ref fl)] F3 ⟨rfl, rfl, rfl, rfl, rfl, trivial⟩ fun u F4 => ?_
    clear F3 N3 N4 hm1 hm2 hm3
    refine tup_iter (vs := []) (fun j m nx => Has m [(Str.ofString "buffer", .ref buf), (Str.ofString "at", .int (i : Nat) u1), (Str.ofString "count", .int 1 u2), (Str.ofString "first", .ref x), (Str.ofString "found", .ref fl)] ∧
      nx = (fl, listOf #[] 0) :: (R, listOf vs.toArray nR) :: (dx, od) :: tl) rfl (tupX ht) F4 N5 ⟨⟨rfl, rfl, rfl, rfl, rfl, trivial⟩, rfl⟩ ?turn ?done
    case turn =>
      rintro j v m₁ nx h tk own hv hoff ⟨hm, rfl⟩ F N
      simp at hv
    case done =>
      rintro m₁ nx h tk ⟨hm, rfl⟩ F N
      have F' : Fr g L' h _ := F
      have N' : News g L' h _ := N
      refine fr_cut _ F' hm fun u F6 => ?_
      clear F F' N F4 N5
      dsimp only
      show wpAny _ _ _ _ _ _
      (try k_fold)
      k_steps
      all_goals (try dsimp only)
      rename Fr _ _ _ _ => F7
      rename News _ _ _ _ => N7
      rename_i n7
      refine Hold.of ?_
      have hsl : sliceSet vs [.ref x] i (i + 1) = vs := by
        have := split_at hx0
        unfold sliceSet
        rw [Nat.max_eq_right (Nat.le_succ i)]
        exact (by simpa using this.symm)
      rw [hsl] at N7
      obtain ⟨cs2, hcs2⟩ : ∃ cs2, cs2 = cs.set i ⟨x, dx, od⟩ := ⟨_, rfl⟩
      have hcr : crefs cs2 = vs := by rw [hcs2, hvs]; exact crefs_set hcj
      have hxd2 : cs2.map (fun c => (c.x, c.dx)) = cs.map (fun c => (c.x, c.dx)) := by rw [hcs2]; exact set_xdx hcj
      have hi2 : Cells w.params cs2 rs := by
        refine All2.of_index (by rw [hcs2]; simp [hlc]) fun k c' r' q1 q2 => ?_
        rw [hcs2, List.getElem?_set] at q1
        by_cases e : i = k
        · subst e
          rw [if_pos rfl, if_pos (by omega)] at q1
          rw [hrj] at q2
          cases q1; cases q2
          exact hod
        · rw [if_neg e] at q1
          exact hi.get q1 q2
      have hset := set_split (j := i) (c' := ⟨x, dx, od⟩) hsp (by rw [List.length_take]; omega)
      have hmem2 : ∀ p, p ∈ dled cs2 → p = (dx, od) ∨ p ∈ tl := by
        intro p hp
        rw [hcs2, hset, dled_append] at hp
        rw [htl]
        simp only [List.mem_append, dled, List.map_cons, List.mem_cons] at hp ⊢
        rcases hp with h | h | h
        · exact .inr (.inl h)
        · exact .inl h
        · exact .inr (.inr h)
      have hin2 : ∀ c ∈ cs2, g.get? c.x = some (instObj 52 c.dx) := by
        intro c hc
        have h9 : (c.x, c.dx) ∈ cs2.map (fun c => (c.x, c.dx)) := List.mem_map_of_mem (f := fun c : Cell => (c.x, c.dx)) hc
        rw [hxd2] at h9
        obtain ⟨c', hc', e⟩ := List.mem_map.mp h9
        have e1 : c'.x = c.x := (Prod.mk.inj e).1
        have e2 : c'.dx = c.dx := (Prod.mk.inj e).2
        rw [← e1, ← e2]; exact hin c' hc'
      have hR2 : ∀ ds : List Cell, ds.map (fun c => (c.x, c.dx)) = cs.map (fun c => (c.x, c.dx)) → ∀ p ∈ dled ds, p.1 ≠ R := by
        intro ds hd p hp
        have h9 : p.1 ∈ (dled ds).map (·.1) := List.mem_map_of_mem hp
        rw [dled_fst, hd, ← dled_fst] at h9
        obtain ⟨q, hq, e⟩ := List.mem_map.mp h9
        rw [← e]; exact hR q hq
      refine drop_at (cs := cs2) (i := i) (nR := n7) X T F7 N7 rfl (Nat.le_of_ble_eq_true rfl) (Nat.le_of_ble_eq_true rfl) rfl ?m0 ?m1 ?ap (hR2 _ hxd2) hi2 hin2 h3 h4 hB0 hl hs h1 ?_
      case m0 => rw [hcr]; exact .tail _ (.tail _ (.tail _ (.head _)))
      case m1 =>
        intro p hp
        rcases hmem2 p hp with rfl | hp
        · exact .tail _ (.tail _ (.tail _ (.tail _ (.head _))))
        · exact .tail _ (.tail _ (.tail _ (.tail _ (.tail _ hp))))
      case ap => unfold Apart at ap ⊢; rw [dled_fst, hxd2, ← dled_fst]; exact ap
      intro ds hq tkq F8 N8 hxd hC
      rw [hcr] at N8
      have w3 := hR2 ds (hxd.trans hxd2)
      obtain ⟨tl2, htl2⟩ : ∃ tl2, tl2 = dled ds := ⟨_, rfl⟩
      rw [← htl2] at N8 w3
      refine fr_cut [(Str.ofString "buffer", .ref buf), (Str.ofString "at", .int (i : Nat) u1), (Str.ofString "count", .int 1 u2)] F8 ⟨rfl, rfl, rfl, trivial⟩ fun u F9 => ?_
      clear F7 N7 F8
      dsimp only
      show wpAny _ _ _ _ _ _
      (try k_fold)
      k_steps
      all_goals (try dsimp only)
      rename Fr _ _ _ _ => Fz
      rename News _ _ _ _ => Nz
      refine Out.intro Fz (news' := (R, _) :: dled ds) (fun p hp => Nz p (.tail _ (by rw [htl2]; exact hp))) (fun hZ tkZ kZ1 kZ2 kZ3 => ret ds _ hZ tkZ kZ1 kZ2 (Led_eq (by rw [hvs]) kZ3) (hxd.trans hxd2) hC)
end
section
section
variable {w : World} {A : Around} {E : Value → Shared → Prop} {s : Shared} {h₀ : Heap} {L : Addr} {m : Str → Option Value} {news rest : List (Addr × Obj)} {mean : ExcName → Option Value} {mg mb : Str → Option Value} {Q : Value → Shared → Prop}
theorem putN_at {buf dbuf R tp : Addr} {ob : Obj} {sp z : Int} {cs : List Cell} {rs : List Row} {nR nt i : Nat} {u1 u2 : Tok} (X : (Mine.hd.heap_1 w.params).In h₀) (T : Top Mine.vw (looseW Mine.vw []) mean mg mb h₀) (F : Fr h₀ L s.heap m) (N : News h₀ L s.heap news)
    (hA : A.handled = none) (hd : A.depth ≤ 850) (hu : A.units ≤ 8500) (hz : z = (i : Nat)) (m0 : (R, listOf (crefs cs).toArray nR) ∈ news) (m1 : ∀ p ∈ dled cs, p ∈ news) (ap : Apart (dled cs)) (hR : ∀ p ∈ dled cs, p.1 ≠ R) (hi : Cells w.params cs rs) (hin : ∀ c ∈ cs, h₀.get? c.x = some (instObj 52 c.dx))
    (h3 : h₀.get? buf = some (instObj 103 dbuf)) (h4 : h₀.get? dbuf = some ob) (hB : BufD w.params R sp ob) (hl : rs.length ≤ 900) (hs : Sorted rs) (h1 : i < rs.length) (ht : h₀.get? tp = some (tupOf #[] nt))
    (h : ∀ ds n' h' tk', Fr h₀ L h' m → News h₀ L h' ((R, listOf (sliceSet (crefs cs) [] i (i + 1)).toArray n') :: dled ds) → ds.map (fun c => (c.x, c.dx)) = cs.map (fun c => (c.x, c.dx)) → Cells w.params ds (dropRows rs i) → Q .none { s with heap := h', toks := tk' }) :
    wpAny (model PySem.Challenge.rw_nu0223_01.row.prog w) A (call (.ref 143) [.ref buf, .int z u1, .int 1 u2, .ref tp]) Q E s := by
  subst hz
  obtain ⟨g, a1, a2, a3, a4, a5, a6⟩ := site (fp := (R, listOf (crefs cs).toArray nR) :: dled cs) (rest := []) F N (by intro p hp; rcases List.mem_cons.mp hp with rfl | hp; exact m0; exact m1 p hp) (fun _ h => nomatch h) (fun _ h => nomatch h)
  refine wp_le (putN_spec ((gd X T).keeps a1) a2 a3 a4 ap hR hi (fun c hc => a1 _ _ (hin c hc)) (a1 _ _ h3) (a1 _ _ h4) hB hl hs h1 (a1 _ _ ht) ?_) hA hd hu rfl rfl
  intro ds n' h' tk' k1 _ k3 k4 k5
  obtain ⟨F', N'⟩ := a6 h' _ k1 k3
  exact h ds n' h' tk' F' (fun p hp => N' p (List.mem_append.mpr (.inl hp))) k4 k5
end
theorem st113 : True := by w_top off; k_with_none; trivial
theorem st114 : True := by
  k_with "my all" => (assumption)
  k_with "my range" => (first | (with_unfolding_all refine range1_rows ‹Fr _ _ _ _› ‹News _ _ _ _› ?_) | (with_unfolding_all refine range2_rows ‹Fr _ _ _ _› ‹News _ _ _ _› ?_))
  k_with "my inst" => (first
    | (refine' inst_base ?F ?h1 ?h2; (case F => k_asm); (case h1 => assumption); (case h2 => assumption))
    | (refine' inst_half ?F ?N ?h1 ?h2; (case F => k_asm); (case N => k_asm); (case h1 => assumption); (case h2 => k_mem)))
  k_with "my ne" => ((try dsimp only); first | with_reducible assumption | (refine Ne.symm ?_; with_reducible assumption) | (have h9 := ‹(_ ≠ _ ∧ _ ≠ _ ∧ _ ≠ _) ∧ _›; first | exact h9.1.1 | exact h9.1.2.1 | exact h9.1.2.2 | exact h9.2.1.1 | exact h9.2.1.2.1 | exact h9.2.1.2.2 | exact h9.2.2.1 | exact h9.2.2.2.1 | exact h9.2.2.2.2 | exact h9.2.1 | exact h9.2.2.1 | exact h9.2.2.2))
  k_with "my pick" => (first | exact Pick.nil | (refine' Pick.take (by k_mem) (by walk_at "my pick")) | (refine' Pick.skip (by k_all) (by walk_at "my pick")) | (refine Pick.all (by assumption)))
  k_with "call ref" => (k_here; (with_reducible show wpAny _ _ (call (Value.ref 283) [Value.ref _, Value.int _ _]) _ _ _); k_dflt (refine' draw_at (by k_asm) (by k_asm) (by k_asm) (by k_asm) (by rfl) (by exact Nat.le_of_ble_eq_true rfl) (by exact Nat.le_of_ble_eq_true rfl) (by k_asm) (by k_asm) (by k_mem) (by k_mem) (by walk_at "my pick") (by omega) (by decide) (by decide) ?_); intro _ _ _ _ _ _ _ _ _ _ _; (try k_sweep))
  trivial
theorem st115 : True := by
  k_with "call ref" => (k_here; (with_reducible show wpAny _ _ (call (Value.ref 52) [Value.int _ _, Value.int _ _, Value.int _ _]) _ _ _); k_dflt (refine' info_at (by k_asm) (by k_asm) (by k_asm) (by k_asm) (by rfl) (by exact Nat.le_of_ble_eq_true rfl) (by exact Nat.le_of_ble_eq_true rfl) ?_); walk_at "my new"; (try k_sweep))
  trivial
theorem st116 : True := by
  k_with "compareOp NotIn int ref" => (k_here; k_dflt (first | (refine' m_nin0 (by k_asm) (by assumption) (by assumption) (by assumption) ?_; k_whole) | (refine' m_nin (by k_asm) (by assumption) (by assumption) (by assumption) ?_; k_whole)))
  k_with "compareOp In int ref" => (k_here; k_dflt (first | (refine' m_in0 (by k_asm) (by assumption) (by assumption) (by assumption) ?_; k_whole) | (refine' m_in (by k_asm) (by assumption) (by assumption) (by assumption) ?_; k_whole)))
  k_with "subscriptTail" => (k_here; (with_reducible show wpAny _ _ (subscriptTail _ _ (Value.ref _) (Value.int _ _)) _ _ _); k_dflt (first | (refine' m_item (by k_asm) (by assumption) (by assumption) ?_; k_whole) | (refine' b_item (by k_asm) (by assumption) (by omega) (by omega) (by assumption) ?_; k_whole) | (refine' l_item (by k_asm) (by k_mem) (by omega) (by omega) (by assumption) ?_; k_whole)))
  trivial
theorem st117 : True := by
  k_with "getMethod ref" => (k_here; (with_reducible show wpAny _ _ (getMethod (Value.ref _) (Str.ofString "get") _) _ _ _); k_dflt (refine' m_meth (by k_asm) (by assumption) ?_; k_whole))
  k_with "call builtin:dict.get" => (k_here; (with_reducible show wpAny _ _ (call (Value.builtin "dict.get") [Value.ref _, Value.int _ _, _]) _ _ _); k_dflt (first | (refine' m_get0 (by k_asm) (by assumption) (by assumption) (by assumption) ?_; k_whole) | (refine' m_get (by k_asm) (by assumption) (by assumption) (by assumption) ?_; k_whole)))
  k_with "call builtin:len" => (k_here; (with_reducible show wpAny _ _ (call (Value.builtin "len") [Value.ref _]) _ _ _); k_dflt (refine' t_len (by k_asm) (by assumption) (by assumption) (by omega) ?_; k_whole))
  k_with "subscriptTail" => (k_here; (with_reducible show wpAny _ _ (subscriptTail _ _ (Value.ref _) (Value.int _ _)) _ _ _); k_dflt (refine' t_item (by k_asm) (by assumption) (by assumption) (by omega) (by omega) (by omega) ?_; k_whole; intro _))
  k_with "call ref" => (k_here; (with_reducible show wpAny _ _ (call (Value.ref 242) [Value.int _ _, Value.int _ _]) _ _ _); k_dflt (refine' choice_at (by k_asm) (by k_asm) (by k_asm) (by k_asm) (by rfl) (by exact Nat.le_of_ble_eq_true rfl) (by exact Nat.le_of_ble_eq_true rfl) (by assumption) (by assumption) (by assumption) (by assumption) (by assumption) ?_; intro _ _ _ _ _))
  trivial
theorem st118 : True := by
  k_with "my put" => (k_dflt (refine' put_at ?k1 ?k2 ?k3 ?k4 ?kA ?kB ?kC ?k5 ?k7 ?k8 ?k9 ?ka ?kd ?kf ?kg ?kh ?ki ?kj ?kk ?kl ?km ?kn ?_; (case k1 => k_asm); (case k2 => k_asm); (case k3 => k_asm); (case k4 => k_asm); (case kA => rfl); (case kB => exact Nat.le_of_ble_eq_true rfl); (case kC => exact Nat.le_of_ble_eq_true rfl); (case k5 => assumption); (case k8 => k_mem); (case kg => assumption); (case ki => assumption); (case k9 => k_mem); (case ka => first | assumption | exact ⟨tkOf [_, _, _, _, _, _, _, _, _, _, _, _, _, _, _, _, _, _, _, _, _, _, _, _, _, _, _, _, _, _, _], rfl⟩); (case kd => assumption); (case kf => walk_at "my pick"); (case kn => k_mem); (case k7 => first | assumption | exact ⟨_, _, _, _, _, _, rfl⟩); (case kh => omega); (case kj => exact tupX (by assumption)); (case kk => assumption); (case kl => omega); (case km => omega)))
  k_with "truthy ref" => (k_here; (with_reducible show wpAny _ _ (truthy (Value.ref _)) _ _ _); k_dflt (first | (refine' t_true (by k_asm) (by assumption) (by assumption) (by omega) (by omega) ?_; k_whole) | (refine' t_false (by k_asm) (by assumption) (by assumption) (by omega) ?_; k_whole)))
  k_with "call ref" => (k_here; (first | (with_reducible show wpAny _ _ (call (Value.ref 100) [Value.ref _]) _ _ _) | (with_reducible show wpAny _ _ (call (Value.ref 100) ([Value.ref _] ++ [])) _ _ _)); k_dflt (refine' next_at (by k_asm) (by k_asm) (by k_asm) (by k_asm) (by rfl) (by exact Nat.le_of_ble_eq_true rfl) (by exact Nat.le_of_ble_eq_true rfl) (by assumption) (by k_mem) (by first | assumption | exact ⟨_, _, _, _, _, _, rfl⟩) (by walk_at "my pick") ?_); intro _ _ _ _ _ _ _; (try k_sweep))
  k_with "call ref" => (k_here; (with_reducible show wpAny _ _ (call (Value.ref 143) [Value.ref _, Value.int _ _, Value.int _ _, Value.ref _]) _ _ _); refine Hold.mk ?_)
  trivial
set_option maxHeartbeats 8000000 in
theorem multiN_spec {w : World} {g : Heap} {s : Shared} {sc dsc buf dbuf R tb dtb M tp : Addr} {osc ob ot : Obj} {bits sp : Int} {cs : List Cell} {rs : List Row} {nR nt : Nat} {i : Nat} {t : Tok} {r : Row} {f : Int → Option Value} {Q E : Value → Shared → Prop}
    (G : Gd w g) (stay : g.StaysIn s.heap) (hsz : g.objs.size ≤ s.heap.objs.size) (N : LedIn g s.heap ((R, listOf (crefs cs).toArray nR) :: dled cs)) (ap : Apart (dled cs)) (hR : ∀ p ∈ dled cs, p.1 ≠ R) (hi : Cells w.params cs rs) (hin : ∀ c ∈ cs, g.get? c.x = some (instObj 52 c.dx))
    (h1 : g.get? sc = some (instObj 267 dsc)) (h2 : g.get? dsc = some osc) (hS : SceneD w.params buf bits osc) (h3 : g.get? buf = some (instObj 103 dbuf)) (h4 : g.get? dbuf = some ob) (hB : BufD w.params R sp ob)
    (hl : rs.length ≤ 900) (hs : Sorted rs) (hrj : rs[i]? = some r) (h7 : g.get? tb = some (instObj 191 dtb)) (h8 : g.get? dtb = some ot) (hT : TabD w.params M ot)
    (hm : MapI w g M f) (lo : (M == sysModules) = false) (hf : f r.gl = some (.ref tp)) (ht : g.get? tp = some (tupOf #[] nt))
    (ret : ∀ ds n' h' tk' t', g.StaysIn h' → g.objs.size ≤ h'.objs.size → LedIn g h' ((R, listOf (sliceSet (crefs cs) [] i (i + 1)).toArray n') :: dled ds) → ds.map (fun c => (c.x, c.dx)) = cs.map (fun c => (c.x, c.dx)) → Cells w.params ds (dropRows rs i) → Q (.int (i : Nat) t') { s with heap := h', toks := tk' }) :
    wpAny (model PySem.Challenge.rw_nu0223_01.row.prog w) (AA 800 8000) (call (.ref 235) [.ref sc, .ref tb, .int (i : Nat) t]) Q E s := by
  have hlt : i < rs.length := (List.getElem?_eq_some_iff.mp hrj).1
  have hlc : cs.length = rs.length := hi.length
  obtain ⟨c, hcj⟩ : ∃ c, cs[i]? = some c := ⟨_, List.getElem?_eq_getElem (by omega)⟩
  obtain ⟨x, dx, o⟩ := c
  have hI := hi.get hcj hrj
  have h6 := hin _ (List.mem_of_getElem? hcj)
  dsimp only at h6 hI
  have hB0 := hB
  obtain ⟨tl, htl⟩ : ∃ tl, tl = dled cs := ⟨_, rfl⟩
  have hdm : (dx, o) ∈ tl := htl ▸ mem_dled (List.mem_of_getElem? hcj)
  obtain ⟨vs, hvs⟩ : ∃ vs, vs = crefs cs := ⟨_, rfl⟩
  have hx : vs[((i : Nat) : Int).toNat]? = some (.ref x) := by rw [hvs]; simp [crefs, hcj]
  have hlv : vs.length = rs.length := by rw [hvs]; simp [crefs, hlc]
  have hus : IntsAre [] [] := .nil
  have hn0 : ([] : List Int).length = 0 := rfl
  have htT : IsTup g tp (List.toArray []) := tupX ht
  have ht' : g.get? tp = some (tupOf (List.toArray []) nt) := ht
  obtain ⟨kt, e0⟩ := hI
  obtain ⟨a1, a2, a3, a4, a5, a6, a7, c5, c6, l, l2, rfl⟩ := hS
  obtain ⟨b1, b2, b3, b4, d3, d4, rfl⟩ := hB
  obtain ⟨e1, rfl⟩ := hT
  have N1 : LedIn g s.heap ((R, listOf vs.toArray nR) :: (dx, o) :: tl) := fun p hp => N p (by
    rw [← hvs]
    rcases List.mem_cons.mp hp with rfl | hp
    · exact .head _
    rcases List.mem_cons.mp hp with rfl | hp
    · exact .tail _ (htl ▸ hdm)
    · exact .tail _ (htl ▸ hp))
  clear N
  refine enter (binds := [(Str.ofString "scene", .ref sc), (Str.ofString "table", .ref tb), (Str.ofString "at", .int (i : Nat) t)]) G stay hsz N1 (by k_is) (by k_is) (by decide) (BindsTo.of_eq rfl) (locs rfl) ?_
  · intro mean mg mb L' h₁ X T F N' lt eL
    dsimp only [List.reverse, List.reverseAux] at F
    have N2 : News g L' h₁ ((R, listOf vs.toArray nR) :: (dx, o) :: tl) := N'
    rw [e0] at N2
    clear N' N1
    show wpAny _ _ _ _ _ _
    k_fold
    k_steps
    all_goals (try dsimp only)
    rename Fr _ _ _ _ => F3
    rename News _ _ _ _ => N3
    refine Hold.of ?_
    refine putN_at (cs := cs) (i := i) (nR := nR) X T F3 N3 rfl (Nat.le_of_ble_eq_true rfl) (Nat.le_of_ble_eq_true rfl) rfl (by rw [← hvs]; exact .head _) (fun p hp => .tail _ (.tail _ (htl ▸ hp))) ap hR hi hin h3 h4 hB0 hl hs hlt ht ?_
    intro ds n' hq tkq F8 N8 hxd hC
    obtain ⟨tl2, htl2⟩ : ∃ tl2, tl2 = dled ds := ⟨_, rfl⟩
    rw [← htl2] at N8
    refine fr_cut [(Str.ofString "scene", .ref sc), (Str.ofString "table", .ref tb), (Str.ofString "at", .int (i : Nat) t), (Str.ofString "pieces", .ref tp)] F8 ⟨rfl, rfl, rfl, rfl, trivial⟩ fun u F9 => ?_
    clear F3 N3 F8
    dsimp only
    show wpAny _ _ _ _ _ _
    (try k_fold)
    k_steps
    all_goals (try dsimp only)
    rename Fr _ _ _ _ => Fz
    rename News _ _ _ _ => Nz
    exact Out.ret ((R, _) :: dled ds) Fz (fun p hp => Nz p (by rw [htl2]; exact hp)) (fun hZ tkZ kZ1 kZ2 kZ3 => Q_eq (ret ds n' hZ tkZ _ kZ1 kZ2 kZ3 hxd hC) (congr (congrArg Value.int (by simp)) rfl))
end
section
theorem lc_n1 {ps : List Int} {ma : Int} {sh wd : Nat} (h : ¬ 0 < (ma.fdiv (2 ^ ((sh : Nat) : Int).toNat)).fmod (2 ^ ((wd : Nat) : Int).toNat)) : choose ps ((ma.fdiv (2 ^ sh)).fmod (2 ^ wd)) = none := by
  simp only [Int.toNat_natCast] at h; exact choose_none (.inl (by omega))
theorem lc_n2 {ps : List Int} {ma : Int} {sh wd : Nat} (h : ¬ (ma.fdiv (2 ^ ((sh : Nat) : Int).toNat)).fmod (2 ^ ((wd : Nat) : Int).toNat) ≤ (ps.length : Int)) : choose ps ((ma.fdiv (2 ^ sh)).fmod (2 ^ wd)) = none := by
  simp only [Int.toNat_natCast] at h; exact choose_none (.inr h)
theorem lc_s {ps : List Int} {ma : Int} {sh wd : Nat} (h1 : 0 < (ma.fdiv (2 ^ ((sh : Nat) : Int).toNat)).fmod (2 ^ ((wd : Nat) : Int).toNat)) (h2 : (ma.fdiv (2 ^ ((sh : Nat) : Int).toNat)).fmod (2 ^ ((wd : Nat) : Int).toNat) ≤ (ps.length : Int)) :
    choose ps ((ma.fdiv (2 ^ sh)).fmod (2 ^ wd)) = some (ps.getD ((ma.fdiv (2 ^ ((sh : Nat) : Int).toNat)).fmod (2 ^ ((wd : Nat) : Int).toNat) - 1).toNat 0) := by
  simp only [Int.toNat_natCast] at h1 h2 ⊢; exact choose_some (by omega) h2
theorem st119 : True := by w_top off; k_with_none; trivial
theorem st120 : True := by
  k_with "my all" => (assumption)
  k_with "my range" => (first | (with_unfolding_all refine range1_rows ‹Fr _ _ _ _› ‹News _ _ _ _› ?_) | (with_unfolding_all refine range2_rows ‹Fr _ _ _ _› ‹News _ _ _ _› ?_))
  k_with "my inst" => (first
    | (refine' inst_base ?F ?h1 ?h2; (case F => k_asm); (case h1 => assumption); (case h2 => assumption))
    | (refine' inst_half ?F ?N ?h1 ?h2; (case F => k_asm); (case N => k_asm); (case h1 => assumption); (case h2 => k_mem)))
  k_with "my ne" => ((try dsimp only); first | with_reducible assumption | (refine Ne.symm ?_; with_reducible assumption) | (have h9 := ‹(_ ≠ _ ∧ _ ≠ _ ∧ _ ≠ _) ∧ _›; first | exact h9.1.1 | exact h9.1.2.1 | exact h9.1.2.2 | exact h9.2.1.1 | exact h9.2.1.2.1 | exact h9.2.1.2.2 | exact h9.2.2.1 | exact h9.2.2.2.1 | exact h9.2.2.2.2 | exact h9.2.1 | exact h9.2.2.1 | exact h9.2.2.2))
  k_with "my pick" => (first | exact Pick.nil | (refine' Pick.take (by k_mem) (by walk_at "my pick")) | (refine' Pick.skip (by k_all) (by walk_at "my pick")) | (refine Pick.all (by assumption)))
  k_with "call ref" => (k_here; (with_reducible show wpAny _ _ (call (Value.ref 283) [Value.ref _, Value.int _ _]) _ _ _); k_dflt (refine' draw_at (by k_asm) (by k_asm) (by k_asm) (by k_asm) (by rfl) (by exact Nat.le_of_ble_eq_true rfl) (by exact Nat.le_of_ble_eq_true rfl) (by k_asm) (by k_asm) (by k_mem) (by k_mem) (by walk_at "my pick") (by omega) (by decide) (by decide) ?_); intro _ _ _ _ _ _ _ _ _ _ _; (try k_sweep))
  trivial
theorem st121 : True := by
  k_with "call ref" => (k_here; (with_reducible show wpAny _ _ (call (Value.ref 52) [Value.int _ _, Value.int _ _, Value.int _ _]) _ _ _); k_dflt (refine' info_at (by k_asm) (by k_asm) (by k_asm) (by k_asm) (by rfl) (by exact Nat.le_of_ble_eq_true rfl) (by exact Nat.le_of_ble_eq_true rfl) ?_); walk_at "my new"; (try k_sweep))
  trivial
theorem st122 : True := by
  k_with "compareOp NotIn int ref" => (k_here; k_dflt (first | (refine' m_nin0 (by k_asm) (by assumption) (by assumption) (by assumption) ?_; k_whole) | (refine' m_nin (by k_asm) (by assumption) (by assumption) (by assumption) ?_; k_whole)))
  k_with "compareOp In int ref" => (k_here; k_dflt (first | (refine' m_in0 (by k_asm) (by assumption) (by assumption) (by assumption) ?_; k_whole) | (refine' m_in (by k_asm) (by assumption) (by assumption) (by assumption) ?_; k_whole)))
  k_with "subscriptTail" => (k_here; (with_reducible show wpAny _ _ (subscriptTail _ _ (Value.ref _) (Value.int _ _)) _ _ _); k_dflt (first | (refine' m_item (by k_asm) (by assumption) (by assumption) ?_; k_whole) | (refine' b_item (by k_asm) (by assumption) (by omega) (by omega) (by assumption) ?_; k_whole) | (refine' l_item (by k_asm) (by k_mem) (by omega) (by omega) (by assumption) ?_; k_whole)))
  trivial
theorem st123 : True := by
  k_with "getMethod ref" => (k_here; (with_reducible show wpAny _ _ (getMethod (Value.ref _) (Str.ofString "get") _) _ _ _); k_dflt (refine' m_meth (by k_asm) (by assumption) ?_; k_whole))
  k_with "call builtin:dict.get" => (k_here; (with_reducible show wpAny _ _ (call (Value.builtin "dict.get") [Value.ref _, Value.int _ _, _]) _ _ _); k_dflt (first | (refine' m_get0 (by k_asm) (by assumption) (by assumption) (by assumption) ?_; k_whole) | (refine' m_get (by k_asm) (by assumption) (by assumption) (by assumption) ?_; k_whole)))
  k_with "call builtin:len" => (k_here; (with_reducible show wpAny _ _ (call (Value.builtin "len") [Value.ref _]) _ _ _); k_dflt (refine' t_len (by k_asm) (by assumption) (by assumption) (by omega) ?_; k_whole))
  k_with "subscriptTail" => (k_here; (with_reducible show wpAny _ _ (subscriptTail _ _ (Value.ref _) (Value.int _ _)) _ _ _); k_dflt (refine' t_item (by k_asm) (by assumption) (by assumption) (by omega) (by omega) (by omega) ?_; k_whole; intro _))
  k_with "call ref" => (k_here; (with_reducible show wpAny _ _ (call (Value.ref 242) [Value.int _ _, Value.int _ _]) _ _ _); k_dflt (refine' choice_at (by k_asm) (by k_asm) (by k_asm) (by k_asm) (by rfl) (by exact Nat.le_of_ble_eq_true rfl) (by exact Nat.le_of_ble_eq_true rfl) (by assumption) (by assumption) (by assumption) (by assumption) (by assumption) ?_; intro _ _ _ _ _))
  trivial
set_option maxHeartbeats 4000000 in
theorem lchoice_spec {w : World} {g : Heap} {s : Shared} {tp : Addr} {us : List Value} {ps : List Int} {ma : Int} {wd sh : Nat} {t1 t2 t3 : Tok} {Q E : Value → Shared → Prop}
    (G : Gd w g) (stay : g.StaysIn s.heap) (hsz : g.objs.size ≤ s.heap.objs.size) (htp : IsTup g tp (List.toArray us)) (hus : IntsAre us ps) (hz : ps.length ≤ 1000)
    (hw : wd < 3) (hs : sh < 4) (h0 : 0 ≤ ma) (h9 : ma < 32)
    (ret0 : choose ps ((ma.fdiv (2 ^ sh)).fmod (2 ^ wd)) = none → ∀ h' tk', g.StaysIn h' → g.objs.size ≤ h'.objs.size → Q .none { s with heap := h', toks := tk' })
    (ret1 : ∀ n, choose ps ((ma.fdiv (2 ^ sh)).fmod (2 ^ wd)) = some n → ∀ h' tk' t', g.StaysIn h' → g.objs.size ≤ h'.objs.size → Q (.int n t') { s with heap := h', toks := tk' }) :
    wpAny (model PySem.Challenge.rw_nu0223_01.row.prog w) (AA 800 8000) (call (.ref 309) [.int ma t1, .int (sh : Nat) t2, .int (wd : Nat) t3, .ref tp]) Q E s := by
  refine enter (news := []) (binds := [(Str.ofString "mask", .int ma t1), (Str.ofString "shift", .int (sh : Nat) t2), (Str.ofString "width", .int (wd : Nat) t3), (Str.ofString "choices", .ref tp)]) G stay hsz (fun _ h => nomatch h) (by k_is) (by k_is) (by decide) (BindsTo.of_eq rfl) (locs rfl) ?_
  · intro mean mg mb L' h₁ X T F N' lt eL
    dsimp only [List.reverse, List.reverseAux] at F
    show wpAny _ _ _ _ _ _
    k_fold
    k_steps
    all_goals (try dsimp only)
    all_goals (rename Fr _ _ _ _ => Fz; rename News _ _ _ _ => Nz)
    · exact Out.ret [] Fz Nz (fun hZ tkZ kZ1 kZ2 kZ3 => ret1 _ (lc_s (by assumption) (by assumption)) hZ tkZ _ kZ1 kZ2)
    · exact Out.ret [] Fz Nz (fun hZ tkZ kZ1 kZ2 kZ3 => ret0 (lc_n2 (by assumption)) hZ tkZ kZ1 kZ2)
    · exact Out.ret [] Fz Nz (fun hZ tkZ kZ1 kZ2 kZ3 => ret0 (lc_n1 (by assumption)) hZ tkZ kZ1 kZ2)
end
section
theorem pick7_1 {a b c d e f g : Value} : (slicePick #[a, b, c, d, e, f, g] (some 1) none none).toList = [b, c, d, e, f, g] := (pick_from (vs := [a, b, c, d, e, f, g]) (by decide)).trans rfl
theorem pick7_15 {a b c d e f g : Value} : (slicePick #[a, b, c, d, e, f, g] (some 1) (some 5) none).toList = [b, c, d, e] := by
  have h := slicePick_run #[a, b, c, d, e, f, g] 1 5 (by simp) (by decide)
  exact (congrArg Array.toList h).trans rfl
theorem mem5 {α : Type} {x a b c d y p : α} {tl : List α} (h : p ∈ x :: y :: tl) : p ∈ x :: a :: b :: c :: d :: y :: tl := by
  rcases List.mem_cons.mp h with rfl | h
  · exact .head _
  · exact .tail _ (.tail _ (.tail _ (.tail _ (.tail _ h))))
noncomputable def madeRows (r : Row) (ps : List Int) (sp : Int) : List Row := if ps.length = 1 then [{ r with gl := ps.getD 0 0 }] else pieceRows r ps sp
theorem st124 : True := by w_top off; k_with_none; trivial
theorem st125 : True := by
  k_with "my all" => (assumption)
  k_with "my range" => (first | (with_unfolding_all refine range1_rows ‹Fr _ _ _ _› ‹News _ _ _ _› ?_) | (with_unfolding_all refine range2_rows ‹Fr _ _ _ _› ‹News _ _ _ _› ?_))
  k_with "my inst" => (first
    | (refine' inst_base ?F ?h1 ?h2; (case F => k_asm); (case h1 => assumption); (case h2 => assumption))
    | (refine' inst_half ?F ?N ?h1 ?h2; (case F => k_asm); (case N => k_asm); (case h1 => assumption); (case h2 => k_mem)))
  k_with "my ne" => ((try dsimp only); first | with_reducible assumption | (refine Ne.symm ?_; with_reducible assumption) | (have h9 := ‹(_ ≠ _ ∧ _ ≠ _ ∧ _ ≠ _) ∧ _›; first | exact h9.1.1 | exact h9.1.2.1 | exact h9.1.2.2 | exact h9.2.1.1 | exact h9.2.1.2.1 | exact h9.2.1.2.2 | exact h9.2.2.1 | exact h9.2.2.2.1 | exact h9.2.2.2.2 | exact h9.2.1 | exact h9.2.2.1 | exact h9.2.2.2))
  k_with "my pick" => (first | exact Pick.nil | (refine' Pick.take (by k_mem) (by walk_at "my pick")) | (refine' Pick.skip (by k_all) (by walk_at "my pick")) | (refine Pick.all (by assumption)))
  k_with "call ref" => (k_here; (with_reducible show wpAny _ _ (call (Value.ref 283) [Value.ref _, Value.int _ _]) _ _ _); k_dflt (refine' draw_at (by k_asm) (by k_asm) (by k_asm) (by k_asm) (by rfl) (by exact Nat.le_of_ble_eq_true rfl) (by exact Nat.le_of_ble_eq_true rfl) (by k_asm) (by k_asm) (by k_mem) (by k_mem) (by walk_at "my pick") (by omega) (by decide) (by decide) ?_); intro _ _ _ _ _ _ _ _ _ _ _; (try k_sweep))
  trivial
theorem st126 : True := by
  k_with "call ref" => (k_here; (with_reducible show wpAny _ _ (call (Value.ref 52) [Value.int _ _, Value.int _ _, Value.int _ _]) _ _ _); k_dflt (refine' info_at (by k_asm) (by k_asm) (by k_asm) (by k_asm) (by rfl) (by exact Nat.le_of_ble_eq_true rfl) (by exact Nat.le_of_ble_eq_true rfl) ?_); walk_at "my new"; (try k_sweep))
  trivial
theorem st127 : True := by
  k_with "compareOp NotIn int ref" => (k_here; k_dflt (first | (refine' m_nin0 (by k_asm) (by assumption) (by assumption) (by assumption) ?_; k_whole) | (refine' m_nin (by k_asm) (by assumption) (by assumption) (by assumption) ?_; k_whole)))
  k_with "compareOp In int ref" => (k_here; k_dflt (first | (refine' m_in0 (by k_asm) (by assumption) (by assumption) (by assumption) ?_; k_whole) | (refine' m_in (by k_asm) (by assumption) (by assumption) (by assumption) ?_; k_whole)))
  k_with "subscriptTail" => (k_here; (with_reducible show wpAny _ _ (subscriptTail _ _ (Value.ref _) (Value.int _ _)) _ _ _); k_dflt (first | (refine' m_item (by k_asm) (by assumption) (by assumption) ?_; k_whole) | (refine' b_item (by k_asm) (by assumption) (by omega) (by omega) (by assumption) ?_; k_whole) | (refine' l_item (by k_asm) (by k_mem) (by omega) (by omega) (by assumption) ?_; k_whole)))
  trivial
theorem st128 : True := by
  k_with "getMethod ref" => (k_here; (with_reducible show wpAny _ _ (getMethod (Value.ref _) (Str.ofString "get") _) _ _ _); k_dflt (refine' m_meth (by k_asm) (by assumption) ?_; k_whole))
  k_with "call builtin:dict.get" => (k_here; (with_reducible show wpAny _ _ (call (Value.builtin "dict.get") [Value.ref _, Value.int _ _, _]) _ _ _); k_dflt (first | (refine' m_get0 (by k_asm) (by assumption) (by assumption) (by assumption) ?_; k_whole) | (refine' m_get (by k_asm) (by assumption) (by assumption) (by assumption) ?_; k_whole)))
  k_with "call builtin:len" => (k_here; (with_reducible show wpAny _ _ (call (Value.builtin "len") [Value.ref _]) _ _ _); k_dflt (refine' t_len (by k_asm) (by assumption) (by assumption) (by omega) ?_; k_whole))
  k_with "subscriptTail" => (k_here; (with_reducible show wpAny _ _ (subscriptTail _ _ (Value.ref _) (Value.int _ _)) _ _ _); k_dflt (refine' t_item (by k_asm) (by assumption) (by assumption) (by omega) (by omega) (by omega) ?_; k_whole; intro _))
  k_with "call ref" => (k_here; (with_reducible show wpAny _ _ (call (Value.ref 242) [Value.int _ _, Value.int _ _]) _ _ _); k_dflt (refine' choice_at (by k_asm) (by k_asm) (by k_asm) (by k_asm) (by rfl) (by exact Nat.le_of_ble_eq_true rfl) (by exact Nat.le_of_ble_eq_true rfl) (by assumption) (by assumption) (by assumption) (by assumption) (by assumption) ?_; intro _ _ _ _ _))
  trivial
theorem st129 : True := by
  k_with "my slice" => (k_here; k_dflt (refine' kmk_slice_lit (by k_asm) (by k_asm) (by exact PySem.IsL.isList (Fr.keep (by k_asm) _ _ (by assumption))) (by kmk_part) (by kmk_part) (by first | exact pick7_1 | exact pick7_15) ?_ (by with_unfolding_all rfl) (by kmk_pure) (by simp [PySem.sizeLine_eq])); intro _ _ _ _; walk_at "my lt"; (try k_sweep))
  k_with "subscriptTail Name Slice ref ref" => (walk_at "my slice")
  trivial
inductive PieJ (tp a fl : Addr) (sp : Int) (t3 : Tok) (rs : List Row) (j : Nat) (m : Str → Option Value) : List (Addr × Obj) → Prop
  | mk (refs : List Addr) (n : Nat) (led : List (Addr × Obj)) (hm : Has m [(Str.ofString "split_id", .int sp t3), (Str.ofString "pieces", .ref tp), (Str.ofString "row", .ref a), (Str.ofString "found", .ref fl)]) (hof : ∀ p ∈ led, p.1 ≠ fl) (hrows : RowsIn led refs (rs.take j)) : PieJ tp a fl sp t3 rs j m ((fl, listOf (List.toArray (List.map Value.ref refs)) n) :: led)
set_option maxHeartbeats 4000000 in
theorem pieces_spec {w : World} {g : Heap} {s : Shared} {a tp : Addr} {o : Obj} {r : Row} {us : List Value} {ps : List Int} {sp : Int} {t3 : Tok} {Q E : Value → Shared → Prop}
    (G : Gd w g) (stay : g.StaysIn s.heap) (hsz : g.objs.size ≤ s.heap.objs.size) (hr : g.get? a = some o) (ho : RowL r o) (htp : IsTup g tp (List.toArray us)) (hus : IntsAre us ps) (hz : ps.length ≤ 1000) (h0 : 0 < ps.length)
    (ret : ∀ D refs n led h' tk', g.StaysIn h' → g.objs.size ≤ h'.objs.size → LedIn g h' ((D, listOf (List.toArray (List.map Value.ref refs)) n) :: led) → RowsIn led refs (madeRows r ps sp) → Q (.ref D) { s with heap := h', toks := tk' }) :
    wpAny (model PySem.Challenge.rw_nu0223_01.row.prog w) (AA 800 8000) (call (.ref 321) [.ref a, .ref tp, .int sp t3]) Q E s := by
  obtain ⟨c1, c2, c3, c4, c5, c6, c7, nr, rfl⟩ := ho
  refine enter (news := []) (binds := [(Str.ofString "row", .ref a), (Str.ofString "pieces", .ref tp), (Str.ofString "split_id", .int sp t3)]) G stay hsz (fun _ h => nomatch h) (by k_is) (by k_is) (by decide) (BindsTo.of_eq rfl) (locs rfl) ?_
  · intro mean mg mb L' h₁ X T F N' lt eL
    dsimp only [List.reverse, List.reverseAux] at F
    k_with "pyIter ref" => (refine Hold.mk ?_)
    show wpAny _ _ _ _ _ _
    k_fold
    k_steps
    all_goals (try dsimp only)
    · rename Fr _ _ _ _ => F3
      rename News _ _ _ _ => N3
      rename_i up l1a h3 q3 D1 h2 q2 D2 h1 q1 lr h0 q0
      refine Out.ret _ F3 N3 (fun hZ tkZ kZ1 kZ2 kZ3 => ret lr ([D2]) (0) _ hZ tkZ kZ1 kZ2 kZ3 ?_)
      · rw [madeRows, if_pos (by omega)]
        exact .cons ⟨_, .head _, _, _, _, _, _, _, _, _, rfl⟩ .nil
    · rename Fr _ _ _ _ => F3
      rename News _ _ _ _ => N3
      rename_i fl _ _ _ _ _ _ _ _ _ _ IR kp
      refine Hold.of ?_
      refine fr_cut [(Str.ofString "split_id", .int sp t3), (Str.ofString "pieces", .ref tp), (Str.ofString "row", .ref a), (Str.ofString "found", .ref fl)] F3 ⟨rfl, rfl, rfl, rfl, trivial⟩ fun u F4 => ?_
      have hlp : (pieceRows r ps sp).length = ps.length := by simp [pieceRows]
      refine rng_iter (n := ps.length) (PieJ tp a fl sp t3 (pieceRows r ps sp)) rfl IR ?small (by rw [rangeSize_nat]; simp) F4 N3 ⟨[], 0, [], ⟨rfl, rfl, rfl, rfl, trivial⟩, (fun _ h => nomatch h), .nil⟩ ?turn ?done
      case small => exact small_one (by decide) (by decide) (by omega) (by omega)
      case turn =>
        rintro j tj m₁ nx h tk own hj hoff ⟨refs, n, led, hm, hof, hrows⟩ F N
        obtain ⟨tl, htl⟩ : ∃ tl, tl = led ++ own := ⟨_, rfl⟩
        have hN : News g L' h ((fl, listOf (List.toArray (List.map Value.ref refs)) n) :: tl) := by rw [htl]; exact N
        have w1 : ∀ p ∈ tl, p.1 ≠ fl := by
          intro p hp
          rw [htl] at hp
          rcases List.mem_append.mp hp with hp | hp
          · exact hof p hp
          · exact hoff p hp fl (by simp)
        have hF : Fr g L' h _ := F
        refine fr_cut _ hF (has_upd hm rfl) fun u F6 => ?_
        clear N F hF F4 F3 N3
        have hlr := hrows.length
        have hz2 : (List.toArray (List.map Value.ref refs)).size ≤ sizeLine := by
          rw [List.length_take, hlp] at hlr
          simp [sizeLine_eq]; omega
        have hgp : ps[j]? = some (ps.getD j 0) := by rw [List.getD_eq_getElem?_getD, List.getElem?_eq_getElem hj]; rfl
        have hpr : (pieceRows r ps sp)[j]? = some (pieceRow r (ps.getD j 0) j sp) := by
          unfold pieceRows
          rw [List.getElem?_map, List.getElem?_zipIdx, hgp]; simp
        have hjt : (0 + ((j : Nat) : Int)).toNat = j := by omega
        have hq4 : [Value.int r.gl c1, Value.int r.cl c2, Value.int r.co c3, Value.int r.ma c4, Value.int r.li c5, Value.int r.lp c6, Value.int r.sp c7][(4 : Int).toNat]? = some (.int r.li c5) := rfl
        have hq5 : [Value.int r.gl c1, Value.int r.cl c2, Value.int r.co c3, Value.int r.ma c4, Value.int r.li c5, Value.int r.lp c6, Value.int r.sp c7][(5 : Int).toNat]? = some (.int r.lp c6) := rfl
        have fin : ∀ {D : Addr} {od : Obj} {hq : Heap} {tkq : Nat} {mq : Str → Option Value} {Qf : Flow → Shared → Prop} {s9 : Shared}, Fr g L' hq (kstB mq [(Str.ofString "part", .int (0 + (j : Nat)) tj), (Str.ofString "split_id", .int sp t3), (Str.ofString "pieces", .ref tp), (Str.ofString "row", .ref a), (Str.ofString "found", .ref fl)]) →
            News g L' hq ((D, od) :: (fl, listOf ((List.map Value.ref refs).toArray.push (.ref D)) (n + 1)) :: tl) → RowL (pieceRow r (ps.getD j 0) j sp) od → (∀ p ∈ tl, @LT.lt Nat _ p.1 D) → @LT.lt Nat _ fl D →
            Turn g L' (PieJ tp a fl sp t3 (pieceRows r ps sp) (j + 1)) own s9 Qf .next { s9 with heap := hq, toks := tkq } := by
          intro D od hq tkq mq Qf s9 Fq Nq hod hlt hfD
          have e : (List.map Value.ref refs).toArray.push (Value.ref D) = (List.map Value.ref (refs ++ [D])).toArray := by simp
          rw [e] at Nq
          refine Turn.next ((fl, listOf (List.toArray (List.map Value.ref (refs ++ [D]))) (n + 1)) :: (D, od) :: led) Fq Nq ⟨refs ++ [D], _, _, ⟨rfl, rfl, rfl, rfl, trivial⟩, ?_, ?_⟩ ?_ ?_ ?_
          · intro p hp
            rcases List.mem_cons.mp hp with rfl | hp
            · exact Nat.ne_of_gt hfD
            · exact hof p hp
          · rw [List.take_add_one, hpr]
            exact (hrows.mono fun a r ⟨o, ho, hr⟩ => ⟨o, .tail _ ho, hr⟩).append (.cons ⟨od, .head _, hod⟩ .nil)
          · intro p hp b hb
            have h1 := hlt p (by rw [htl]; simp [hp])
            have h2 := hoff p hp
            simp only [List.map_cons, List.mem_cons] at hb h2
            rcases hb with rfl | rfl | hb
            · exact h2 _ (.inl rfl)
            · exact Nat.ne_of_lt h1
            · exact h2 _ (.inr hb)
          · intro p hp
            rw [htl]
            simp only [List.mem_cons, List.mem_append] at hp ⊢
            rcases hp with hp | hp | hp <;> simp only [hp, true_or, or_true]
          · intro p hp
            rw [htl]
            simp only [List.mem_cons, List.mem_append, hp, or_true]
        show wpAny _ _ _ _ _ _
        k_fold
        k_steps
        all_goals (try dsimp only)
        all_goals (rename Fr _ _ _ _ => F9; rename News _ _ _ _ => N9)
        all_goals (rename_i e9 l0 y1 y2 D y3 f0 hq; simp only [Int.zero_add, Int.toNat_natCast] at N9)
        · obtain ⟨od, hod, N6⟩ : ∃ od, RowL (pieceRow r (ps.getD j 0) j sp) od ∧ News g L' hq ((D, od) :: (fl, listOf ((List.map Value.ref refs).toArray.push (.ref D)) (n + 1)) :: tl) := by
            refine ⟨_, ?rl, fun p hp => N9 p (mem5 hp)⟩
            unfold pieceRow; rw [if_pos e9]; exact ⟨_, _, _, _, _, _, _, _, rfl⟩
          exact fin (D := D) F9 N6 hod (tb_ltOf f0.2.2.2.2.2) (by omega)
        · obtain ⟨od, hod, N6⟩ : ∃ od, RowL (pieceRow r (ps.getD j 0) j sp) od ∧ News g L' hq ((D, od) :: (fl, listOf ((List.map Value.ref refs).toArray.push (.ref D)) (n + 1)) :: tl) := by
            refine ⟨_, ?rl2, fun p hp => N9 p (mem5 hp)⟩
            unfold pieceRow; rw [if_neg (by simpa using e9)]; exact ⟨_, _, _, _, _, _, _, _, rfl⟩
          exact fin (D := D) F9 N6 hod (tb_ltOf f0.2.2.2.2.2) (by omega)
      case done =>
        rintro m₁ nx h tk ⟨refs, n, led, hm, hof, hrows⟩ F N
        have hF : Fr g L' h _ := F
        have hN : News g L' h _ := N
        refine fr_cut _ hF hm fun u F6 => ?_
        clear N F hF F4 F3 N3
        dsimp only
        show wpAny _ _ _ _ _ _
        (try k_fold)
        k_steps
        all_goals (try dsimp only)
        rename Fr _ _ _ _ => F9
        rename News _ _ _ _ => N9
        rw [← hlp, List.take_length] at hrows
        have h1 : ps.length ≠ 1 := by omega
        exact Out.ret _ F9 N9 (fun hZ tkZ kZ1 kZ2 kZ3 => ret fl refs n led hZ tkZ kZ1 kZ2 kZ3 (by rw [madeRows, if_neg h1]; exact hrows))
end
section
noncomputable def takenRows (rs : List Row) (i : Nat) : List Row := (dropRows rs i).take i ++ (dropRows rs i).drop (i + 1)
noncomputable abbrev prefs (ms : List (Addr × Obj)) : List Value := ms.map fun p => Value.ref p.1
noncomputable def RowsAt (ms : List (Addr × Obj)) (rs : List Row) : Prop := All2 (fun p r => RowL r p.2) ms rs
section
variable {prog : Program} {w : World} {A : Around} {E : Value → Shared → Prop} {s : Shared} {h₀ : Heap} {L : Addr} {m : Str → Option Value} {news : List (Addr × Obj)}
theorem l_true {l : Addr} {v : Value} {vs : List Value} {n : Nat} {Q : Bool → Shared → Prop} (N : News h₀ L s.heap news) (hl : (l, listOf (v :: vs).toArray n) ∈ news) (hz : vs.length ≤ 1000) (h : Q true { s with toks := s.toks + 1 + 1 }) : wpAny (model prog w) A (truthy (.ref l)) Q E s :=
  wpAny_truthy_list (PySem.IsL.isList (N _ hl).1) (by simp; omega) (by simpa using h)
theorem lc_base {b : Addr} {vs : List Value} {n : Nat} {Q : Value → Shared → Prop} (F : Fr h₀ L s.heap m) (N : News h₀ L s.heap news) (hb : h₀.get? b = some (listOf (List.toArray vs) n)) (hz : vs.length ≤ 1000)
    (h : ∀ D c h', Fr h₀ L h' m → News h₀ L h' ((D, listOf vs.toArray c) :: news) → (∀ q ∈ news, q.1 < D) → Q (.ref D) { s with heap := h' }) : wpAny (model prog w) A (call (.type "list") [.ref b]) Q E s :=
  list_copyK F N (PySem.IsL.isList (F.keep _ _ hb)) h (by simp [sizeLine_eq]; omega)
end
theorem off3_iff {I C D : Addr} {l : List (Addr × Obj)} : LCg.Off3 I C D l ↔ ∀ p ∈ l, (@Ne Nat p.1 I) ∧ (@Ne Nat p.1 C) ∧ (@Ne Nat p.1 D) := by
  induction l with
  | nil => exact ⟨fun _ _ h => (nomatch h), fun _ => trivial⟩
  | cons q r ih =>
    constructor
    · rintro ⟨h1, h2⟩ p hp
      rcases List.mem_cons.mp hp with rfl | hp
      · exact h1
      · exact ih.mp h2 p hp
    · intro h
      exact ⟨h q (.head _), ih.mpr fun p hp => h p (.tail _ hp)⟩
theorem Apart.snoc1 {a : List (Addr × Obj)} {p : Addr × Obj} (h : Apart a) (h1 : ∀ x ∈ a, @Ne Nat x.1 p.1) : Apart (a ++ [p]) := by
  unfold Apart at *
  rw [List.map_append, List.nodup_append]
  refine ⟨h, by simp, fun x hx y hy => ?_⟩
  obtain ⟨z, hz, rfl⟩ := List.mem_map.mp hx
  simp only [List.map_cons, List.map_nil, List.mem_cons, List.not_mem_nil, or_false] at hy
  rw [hy]; exact h1 z hz
theorem taken_ne {rs : List Row} {i : Nat} (h : ¬ (i = 0 ∧ 1 < rs.length ∧ clAt rs 0 ≠ clAt rs 1)) : takenRows rs i = rs.take i ++ rs.drop (i + 1) := by unfold takenRows dropRows; rw [if_neg h]
theorem taken_eq {rs : List Row} {i : Nat} (h : i = 0 ∧ 1 < rs.length ∧ clAt rs 0 ≠ clAt rs 1) : takenRows rs i = rs.take i ++ (rs.drop (i + 1)).map fun r => if r.cl = clAt rs 1 then { r with cl := clAt rs 0 } else r := by
  obtain ⟨rfl, h2, h3⟩ := h
  unfold takenRows dropRows
  rw [if_pos ⟨rfl, h2, h3⟩]
  simp [mergedRows]
theorem set_splitG {α : Type} {l a b : List α} {j : Nat} {c c' : α} (h : l = a ++ c :: b) (hl : a.length = j) : l.set j c' = a ++ c' :: b := by
  subst h; subst hl; simp
inductive TkA (refs : List Addr) (rs : List Row) (i : Nat) (sl Lf : Addr) (j : Nat) (ys : List Value) : List (Addr × Obj) → Prop
  | mk (ms : List (Addr × Obj)) (hy : ys = prefs ms) (hms : RowsAt ms ((rs.drop (i + 1)).take j)) (hap : Apart ((sl, listOf (List.drop (i + 1) (List.map Value.ref refs)).toArray 0) :: (Lf, listOf (List.take i (List.map Value.ref refs)).toArray 0) :: ms)) : TkA refs rs i sl Lf j ys ((sl, listOf (List.drop (i + 1) (List.map Value.ref refs)).toArray 0) :: (Lf, listOf (List.take i (List.map Value.ref refs)).toArray 0) :: ms)
inductive TkB (rs : List Row) (i : Nat) (Lf Dr : Addr) (lf : Addr × Obj) (ms : List (Addr × Obj)) (a b : Int) (c2 d2 : Tok) (j : Nat) (m : Str → Option Value) : List (Addr × Obj) → Prop
  | mk (ms' : List (Addr × Obj)) (hm : Has m [(Str.ofString "left", .ref Lf), (Str.ofString "cluster", .int a c2), (Str.ofString "right", .ref Dr), (Str.ofString "other", .int b d2)]) (hfst : ms'.map (·.1) = ms.map (·.1))
    (hin2 : ∀ (k : Nat) (p : Addr × Obj) r', ms'[k]? = some p → (rs.drop (i + 1))[k]? = some r' → RowL (if k < j ∧ r'.cl = b then { r' with cl := a } else r') p.2) : TkB rs i Lf Dr lf ms a b c2 d2 j m ((Dr, listOf (prefs ms).toArray (prefs ms).length) :: lf :: ms')
theorem st130 : True := by w_top off; k_with_none; trivial
theorem st131 : True := by
  k_with "my all" => (assumption)
  k_with "my range" => (first | (with_unfolding_all refine range1_rows ‹Fr _ _ _ _› ‹News _ _ _ _› ?_) | (with_unfolding_all refine range2_rows ‹Fr _ _ _ _› ‹News _ _ _ _› ?_))
  k_with "my inst" => (first
    | (refine' inst_base ?F ?h1 ?h2; (case F => k_asm); (case h1 => assumption); (case h2 => assumption))
    | (refine' inst_half ?F ?N ?h1 ?h2; (case F => k_asm); (case N => k_asm); (case h1 => assumption); (case h2 => k_mem)))
  k_with "my ne" => ((try dsimp only); first | with_reducible assumption | (refine Ne.symm ?_; with_reducible assumption) | (have h9 := ‹(_ ≠ _ ∧ _ ≠ _ ∧ _ ≠ _) ∧ _›; first | exact h9.1.1 | exact h9.1.2.1 | exact h9.1.2.2 | exact h9.2.1.1 | exact h9.2.1.2.1 | exact h9.2.1.2.2 | exact h9.2.2.1 | exact h9.2.2.2.1 | exact h9.2.2.2.2 | exact h9.2.1 | exact h9.2.2.1 | exact h9.2.2.2))
  k_with "my pick" => (first | exact Pick.nil | (refine' Pick.take (by k_mem) (by walk_at "my pick")) | (refine' Pick.skip (by k_all) (by walk_at "my pick")) | (refine Pick.all (by assumption)))
  k_with "call ref" => (k_here; (with_reducible show wpAny _ _ (call (Value.ref 283) [Value.ref _, Value.int _ _]) _ _ _); k_dflt (refine' draw_at (by k_asm) (by k_asm) (by k_asm) (by k_asm) (by rfl) (by exact Nat.le_of_ble_eq_true rfl) (by exact Nat.le_of_ble_eq_true rfl) (by k_asm) (by k_asm) (by k_mem) (by k_mem) (by walk_at "my pick") (by omega) (by decide) (by decide) ?_); intro _ _ _ _ _ _ _ _ _ _ _; (try k_sweep))
  trivial
theorem st132 : True := by
  k_with "call ref" => (k_here; (with_reducible show wpAny _ _ (call (Value.ref 52) [Value.int _ _, Value.int _ _, Value.int _ _]) _ _ _); k_dflt (refine' info_at (by k_asm) (by k_asm) (by k_asm) (by k_asm) (by rfl) (by exact Nat.le_of_ble_eq_true rfl) (by exact Nat.le_of_ble_eq_true rfl) ?_); walk_at "my new"; (try k_sweep))
  trivial
theorem st133 : True := by
  k_with "compareOp NotIn int ref" => (k_here; k_dflt (first | (refine' m_nin0 (by k_asm) (by assumption) (by assumption) (by assumption) ?_; k_whole) | (refine' m_nin (by k_asm) (by assumption) (by assumption) (by assumption) ?_; k_whole)))
  k_with "compareOp In int ref" => (k_here; k_dflt (first | (refine' m_in0 (by k_asm) (by assumption) (by assumption) (by assumption) ?_; k_whole) | (refine' m_in (by k_asm) (by assumption) (by assumption) (by assumption) ?_; k_whole)))
  k_with "subscriptTail" => (k_here; (with_reducible show wpAny _ _ (subscriptTail _ _ (Value.ref _) (Value.int _ _)) _ _ _); k_dflt (first | (refine' m_item (by k_asm) (by assumption) (by assumption) ?_; k_whole) | (refine' b_item (by k_asm) (by assumption) (by omega) (by omega) (by assumption) ?_; k_whole) | (refine' l_item (by k_asm) (by k_mem) (by omega) (by omega) (by assumption) ?_; k_whole)))
  trivial
theorem st134 : True := by
  k_with "my slice" => (k_here; k_dflt (refine' kmk_slice_lit (by k_asm) (by k_asm) (by exact PySem.IsL.isList (Fr.keep (by k_asm) _ _ (by assumption))) (by kmk_part) (by kmk_part) (by first | exact pick_from (by omega) | exact pick_upto (by omega)) ?_ (by with_unfolding_all rfl) (by kmk_pure) (by ((rw [PySem.sizeLine_eq]); (simp only [List.size_toArray, List.length_map]); omega))); intro _ _ _ _; walk_at "my lt"; (try k_sweep))
  k_with "subscriptTail Name Slice ref ref" => (walk_at "my slice")
  k_with "call type:list" => (k_here; (with_reducible show wpAny _ _ (call (Value.type _) [Value.ref _]) _ _ _); k_dflt (refine' lc_base (by k_asm) (by k_asm) (by assumption) (by exact Nat.le_of_ble_eq_true rfl) ?_); intro _ _ _ _ _; walk_at "my lt"; (try k_sweep))
  k_with "truthy ref" => (k_here; (with_reducible show wpAny _ _ (truthy (Value.ref _)) _ _ _); k_dflt (refine' l_true (by k_asm) (by k_mem) (by omega) ?_; k_whole))
  trivial
set_option maxHeartbeats 8000000 in
theorem taken_spec {w : World} {g : Heap} {s : Shared} {Rw : Addr} {nw : Nat} {base : List (Addr × Obj)} {refs : List Addr} {rs : List Row} {i : Nat} {t1 : Tok} {Q E : Value → Shared → Prop}
    (G : Gd w g) (stay : g.StaysIn s.heap) (hsz : g.objs.size ≤ s.heap.objs.size) (hRw : g.get? Rw = some (listOf (List.toArray (List.map Value.ref refs)) nw)) (hb : ∀ p ∈ base, g.get? p.1 = some p.2) (hr : RowsIn base refs rs) (hl : rs.length ≤ 1000) (hi : i < rs.length)
    (ret : ∀ D refs' n led h' tk', g.StaysIn h' → g.objs.size ≤ h'.objs.size → LedIn g h' ((D, listOf (List.toArray (List.map Value.ref refs')) n) :: led) → RowsIn (led ++ base) refs' (takenRows rs i) → Q (.ref D) { s with heap := h', toks := tk' }) :
    wpAny (model PySem.Challenge.rw_nu0223_01.row.prog w) (AA 800 8000) (call (.ref 314) [.ref Rw, .int (i : Nat) t1]) Q E s := by
  have hlr : refs.length = rs.length := hr.length
  obtain ⟨r, hri⟩ : ∃ r, rs[i]? = some r := ⟨_, List.getElem?_eq_getElem hi⟩
  obtain ⟨a, hai, o, hao, hro⟩ := hr.get1 hri
  have hga := hb _ hao
  dsimp only at hga
  refine opq fun G9 k9 => ?_
  obtain ⟨c1, c2, c3, c4, c5, c6, c7, nr, e9⟩ := hro
  refine k9 ?_
  clear k9 G9
  subst e9
  have hx : (List.map Value.ref refs)[((i : Nat) : Int).toNat]? = some (.ref a) := by simp [hai]
  have hq1 : [Value.int r.gl c1, Value.int r.cl c2, Value.int r.co c3, Value.int r.ma c4, Value.int r.li c5, Value.int r.lp c6, Value.int r.sp c7][(1 : Int).toNat]? = some (.int r.cl c2) := rfl
  refine enter (news := []) (binds := [(Str.ofString "rows", .ref Rw), (Str.ofString "at", .int (i : Nat) t1)]) G stay hsz (fun _ h => nomatch h) (by k_is) (by k_is) (by decide) (BindsTo.of_eq rfl) (locs rfl) ?_
  · intro mean mg mb L' h₁ X T F N' lt eL
    dsimp only [List.reverse, List.reverseAux] at F
    k_with "CompSrc" => (refine Hold.mk ?_)
    show wpAny _ _ _ _ _ _
    k_fold
    k_steps
    all_goals (try dsimp only)
    rename Fr _ _ _ _ => F3
    rename News _ _ _ _ => N3
    refine Hold.of ?_
    have hin1 : ((i : Nat) : Int).toNat = i := Int.toNat_natCast i
    have hin2 : (((i : Nat) : Int) + 1).toNat = i + 1 := by omega
    rw [hin1, hin2] at N3
    rename_i Lf _ _ _ sl _ _
    have hlS : @Ne Nat Lf sl := by omega
    refine LCg.CompSrc.ledger rfl F3 N3 (.head _) (by simp [sizeLine_eq]; omega) ?_
    intro g'
    refine comp_inv (TkA refs rs i sl Lf) ⟨[], rfl, .nil, by simp [Apart]; exact hlS.symm⟩ ?turn ?fin
    case turn =>
      rintro j ys nx v I oI C oC D m₂ h tk E' hj ⟨ms, rfl, hms, hap⟩ hv hC hx F2 N2 off ne
      simp only [List.size_toArray, List.length_drop, List.length_map] at hj
      obtain ⟨r', hr'⟩ : ∃ r', rs[i + 1 + j]? = some r' := ⟨_, List.getElem?_eq_getElem (by omega)⟩
      obtain ⟨a', ha', o', ho', hI⟩ := hr.get1 hr'
      have hga' := hb _ ho'
      dsimp only at hga'
      have hvx : v = .ref a' := by
        have hv' : (List.drop (i + 1) (List.map Value.ref refs))[j]? = some v := by simpa using hv
        rw [List.getElem?_drop, List.getElem?_map, ha'] at hv'
        simpa using hv'.symm
      subst hvx
      refine opq fun G9 k9 => ?_
      obtain ⟨d1, d2, d3, d4, d5, d6, d7, nr', e9⟩ := hI
      refine k9 ?_
      clear k9 G9
      subst e9
      obtain ⟨nx, hnx⟩ : ∃ nx, nx = (sl, listOf (List.drop (i + 1) (List.map Value.ref refs)).toArray 0) :: (Lf, listOf (List.take i (List.map Value.ref refs)).toArray 0) :: ms := ⟨_, rfl⟩
      have N2' : News g L' h ((I, oI) :: (C, oC) :: (D, LCg.lst (prefs ms)) :: nx) := by rw [hnx]; exact N2
      have off' : LCg.Off3 I C D nx := by rw [hnx]; exact off
      clear N2 off F3 N3
      show wpAny _ _ _ _ _ _
      k_fold
      k_steps
      all_goals (try dsimp only)
      rename Fr _ _ _ _ => F9
      rename News _ _ _ _ => N9
      rename_i Dn cn hn l9
      obtain ⟨od, N8, hod⟩ : ∃ od, News g L' hn ((Dn, od) :: (I, oI) :: (C, oC) :: (D, LCg.lst (prefs ms)) :: nx) ∧ RowL r' od := ⟨_, N9, _, _, _, _, _, _, _, _, rfl⟩
      have hlt : ∀ p ∈ nx, @LT.lt Nat _ p.1 Dn := allLt_mem l9.2.2.2
      have ho3 := off3_iff.mp off'
      refine LCg.CompEnd.intro F9 N8 ((sl, listOf (List.drop (i + 1) (List.map Value.ref refs)).toArray 0) :: (Lf, listOf (List.take i (List.map Value.ref refs)).toArray 0) :: (ms ++ [(Dn, od)])) ?_ (off3_iff.mpr ?_) (.inr ⟨_, .head _, rfl, _, rfl⟩) ⟨ms ++ [(Dn, od)], by simp [prefs], ?_, ?_⟩
      · intro p hp
        rcases List.mem_cons.mp hp with rfl | hp
        · exact .tail _ (.head _)
        rcases List.mem_cons.mp hp with rfl | hp
        · exact .tail _ (.tail _ (.head _))
        rcases List.mem_cons.mp hp with rfl | hp
        · exact .tail _ (.tail _ (.tail _ (.head _)))
        have h9 : p ∈ nx ∨ p = (Dn, od) := by
          rw [hnx]
          simp only [List.mem_cons, List.mem_append, List.not_mem_nil, or_false] at hp ⊢
          rcases hp with hp | hp | hp | hp
          · exact .inl (.inl hp)
          · exact .inl (.inr (.inl hp))
          · exact .inl (.inr (.inr hp))
          · exact .inr hp
        rcases h9 with h9 | rfl
        · exact .tail _ (.tail _ (.tail _ (.tail _ h9)))
        · exact .head _
      · intro p hp
        have h9 : p ∈ nx ∨ p = (Dn, od) := by
          rw [hnx]
          simp only [List.mem_cons, List.mem_append, List.not_mem_nil, or_false] at hp ⊢
          rcases hp with hp | hp | hp | hp
          · exact .inl (.inl hp)
          · exact .inl (.inr (.inl hp))
          · exact .inl (.inr (.inr hp))
          · exact .inr hp
        rcases h9 with h9 | rfl
        · exact ho3 p h9
        · exact ⟨Nat.ne_of_gt l9.1, Nat.ne_of_gt l9.2.1, Nat.ne_of_gt l9.2.2.1⟩
      · rw [List.take_add_one, List.getElem?_drop, hr']
        exact hms.append (.cons hod .nil)
      · refine Apart.snoc1 (a := _ :: _ :: ms) (hnx ▸ hap) fun x hx => ?_
        rw [← hnx] at hx
        exact Nat.ne_of_lt (hlt x hx)
    case fin =>
      rintro ys nx ⟨ms, rfl, hms, hap⟩
      rw [List.size_toArray, List.length_drop, List.length_map, hlr] at hms
      rw [← List.length_drop, List.take_length] at hms
      intro Dr h tk F2 N2 o1
      refine fr_cut [(Str.ofString "left", .ref Lf), (Str.ofString "cluster", .int r.cl c2), (Str.ofString "at", .int (i : Nat) t1), (Str.ofString "right", .ref Dr)] F2 ⟨rfl, rfl, rfl, rfl, trivial⟩ fun u F5 => ?_
      have hmL : ms.length = rs.length - (i + 1) := by have := hms.length; simpa using this
      have hDr := off1_mem o1
      have apr : Apart ((Dr, LCg.lst (prefs ms)) :: (Lf, listOf (List.take i (List.map Value.ref refs)).toArray 0) :: ms) := by
        unfold Apart at hap ⊢
        simp only [List.map_cons, List.nodup_cons, List.mem_cons, not_or] at hap ⊢
        refine ⟨⟨fun e => hDr _ (.tail _ (.head _)) e.symm, fun e => ?_⟩, hap.2⟩
        obtain ⟨q, hq, e2⟩ := List.mem_map.mp e
        exact hDr q (.tail _ (.tail _ hq)) e2
      have N5 : News g L' h ((Dr, LCg.lst (prefs ms)) :: (Lf, listOf (List.take i (List.map Value.ref refs)).toArray 0) :: ms) := fun p hp => N2 p (by
        simp only [List.mem_cons] at hp ⊢
        rcases hp with hp | hp | hp <;> simp only [hp, true_or, or_true])
      clear F2 N2 hDr o1 hap
      have hlt1 : (List.take i (List.map Value.ref refs)).length ≤ 1000 := by simp; omega
      have hlt2 : (prefs ms).length ≤ 1000 := by simp [prefs]; omega
      have hin : RowsIn base (refs.take i) (rs.take i) := hr.take i
      have fin2 : ∀ {ms' : List (Addr × Obj)} {S' : List Row} {led : List (Addr × Obj)}, RowsAt ms' S' → ms'.map (·.1) = ms.map (·.1) → (∀ p ∈ ms', p ∈ led) → RowsIn (led ++ base) (refs.take i ++ ms.map (·.1)) (rs.take i ++ S') := by
        intro ms' S' led h1 h2 h3
        refine (hin.mono fun a r ⟨o, ho, hr⟩ => ⟨o, List.mem_append.mpr (.inr ho), hr⟩).append ?_
        rw [← h2]
        clear h2
        induction h1 with
        | nil => exact .nil
        | cons hx _ ih => exact .cons ⟨_, List.mem_append.mpr (.inl (h3 _ (.head _))), hx⟩ (ih fun p hp => h3 p (.tail _ hp))
      have he : List.take i (List.map Value.ref refs) ++ prefs ms = List.map Value.ref (refs.take i ++ ms.map (·.1)) := by simp [prefs, List.map_take]
      by_cases c0 : 0 < i
      · dsimp only
        show wpAny _ _ _ _ _ _
        (try k_fold)
        k_steps
        all_goals (try dsimp only)
        rename Fr _ _ _ _ => F9
        rename News _ _ _ _ => N9
        rw [he] at N9
        exact Out.ret _ F9 N9 (fun hZ tkZ kZ1 kZ2 kZ3 => ret _ (refs.take i ++ ms.map (·.1)) (0) _ hZ tkZ kZ1 kZ2 kZ3 (by rw [taken_ne (by omega)]; exact fin2 hms rfl (fun p hp => .tail _ (.tail _ hp))))
      have hi0 : i = 0 := by omega
      have hr0 : clAt rs 0 = r.cl := by rw [hi0] at hri; exact (clAt_of hri)
      refine fr_cut [(Str.ofString "left", .ref Lf), (Str.ofString "cluster", .int r.cl c2), (Str.ofString "at", .int 0 t1), (Str.ofString "right", .ref Dr)] F5 ⟨rfl, rfl, by subst hi0; rfl, rfl, trivial⟩ fun u F6 => ?_
      clear F5
      rcases ms with _ | ⟨⟨a1, o1⟩, mr⟩
      · have hN6 : News g L' h [(Dr, LCg.lst []), (Lf, listOf (List.take i (List.map Value.ref refs)).toArray 0)] := N5
        clear N5
        dsimp only
        show wpAny _ _ _ _ _ _
        (try k_fold)
        k_steps
        all_goals (try dsimp only)
        rename Fr _ _ _ _ => F9
        rename News _ _ _ _ => N9
        have he' : List.take i (List.map Value.ref refs) ++ [] = List.map Value.ref (refs.take i ++ ([] : List (Addr × Obj)).map (·.1)) := he
        rw [he'] at N9
        exact Out.ret _ F9 N9 (fun hZ tkZ kZ1 kZ2 kZ3 => ret _ (refs.take i ++ ([] : List (Addr × Obj)).map (·.1)) (0) _ hZ tkZ kZ1 kZ2 kZ3 (by rw [taken_ne (by simp at hmL; omega)]; exact fin2 hms rfl (fun p hp => nomatch hp)))
      · obtain ⟨r1, hr1⟩ : ∃ r1, rs[i + 1]? = some r1 := ⟨_, List.getElem?_eq_getElem (by simp at hmL; omega)⟩
        have hro1 : RowL r1 o1 := hms.get (i := 0) rfl (by rw [List.getElem?_drop]; exact hr1)
        have hr1' : clAt rs 1 = r1.cl := by rw [hi0] at hr1; exact (clAt_of hr1)
        have hlen1 : 1 < rs.length := by simp at hmL; omega
        have ho1 := hro1
        refine opq fun G9 k9 => ?_
        obtain ⟨d1, d2, d3, d4, d5, d6, d7, nr1, e1⟩ := hro1
        refine k9 ?_
        clear k9 G9
        have hx0 : (Value.ref a1 :: prefs mr)[(0 : Int).toNat]? = some (.ref a1) := rfl
        have hq2 : [Value.int r1.gl d1, Value.int r1.cl d2, Value.int r1.co d3, Value.int r1.ma d4, Value.int r1.li d5, Value.int r1.lp d6, Value.int r1.sp d7][(1 : Int).toNat]? = some (.int r1.cl d2) := rfl
        have hmz : (prefs mr).length ≤ 1000 := by simp [prefs] at hlt2 ⊢; omega
        have hN6 : News g L' h ((Dr, listOf (Value.ref a1 :: prefs mr).toArray (prefs ((a1, o1) :: mr)).length) :: (Lf, listOf (List.take i (List.map Value.ref refs)).toArray 0) :: (a1, o1) :: mr) := N5
        rw [e1] at hN6
        clear N5
        k_with "pyIter ref" => (refine Hold.mk ?_)
        dsimp only
        show wpAny _ _ _ _ _ _
        (try k_fold)
        k_steps
        all_goals (try dsimp only)
        · rename Fr _ _ _ _ => F9
          rename News _ _ _ _ => N9
          rename (r1.cl ≠ r.cl) => c9
          rename_i h10
          refine Hold.of ?_
          rw [← e1] at N9
          have hc : i = 0 ∧ 1 < rs.length ∧ clAt rs 0 ≠ clAt rs 1 := ⟨hi0, hlen1, by rw [hr0, hr1']; exact fun e => c9 e.symm⟩
          obtain ⟨ms, hmse⟩ : ∃ ms, ms = (a1, o1) :: mr := ⟨_, rfl⟩
          obtain ⟨lf, hlf⟩ : ∃ lf, lf = (Lf, listOf (List.take i (List.map Value.ref refs)).toArray 0) := ⟨_, rfl⟩
          have N10 : News g L' h10 ((Dr, listOf (prefs ms).toArray (prefs ms).length) :: lf :: ms) := by rw [hmse, hlf]; exact N9
          rw [← hmse] at hms he fin2
          rw [← hmse, ← hlf] at apr
          refine fr_cut [(Str.ofString "left", .ref Lf), (Str.ofString "cluster", .int r.cl c2), (Str.ofString "right", .ref Dr), (Str.ofString "other", .int r1.cl d2)] F9 ⟨rfl, rfl, rfl, rfl, trivial⟩ fun u F10 => ?_
          clear F9 N9
          have hlm : (prefs ms).length = rs.length - (i + 1) := by have := hms.length; simpa [prefs] using this
          refine lst_iter (vs := prefs ms) (nn := (prefs ms).length) (TkB rs i Lf Dr lf ms r.cl r1.cl c2 d2) rfl (.head _) F10 N10 ⟨ms, ⟨rfl, rfl, rfl, rfl, trivial⟩, rfl, fun k p r' q1 q2 => by rw [if_neg (by omega)]; exact hms.get q1 q2⟩ ?turn ?done
          case turn =>
            rintro j v m₁ nx h tk own hv hoff hmem ⟨ms', hm, hfst, hin2⟩ F N
            have hjl : j < rs.length - (i + 1) := by have := (List.getElem?_eq_some_iff.mp hv).1; omega
            have hml2 : ms'.length = ms.length := by have := congrArg List.length hfst; simpa using this
            have hml3 : ms.length = rs.length - (i + 1) := by simpa [prefs] using hlm
            obtain ⟨p, hpj⟩ : ∃ p, ms'[j]? = some p := ⟨_, List.getElem?_eq_getElem (by omega)⟩
            obtain ⟨rj, hrj⟩ : ∃ rj, (rs.drop (i + 1))[j]? = some rj := ⟨_, List.getElem?_eq_getElem (by simp; omega)⟩
            obtain ⟨aj, oj⟩ := p
            have hvx : v = .ref aj := by
              have h1 : (ms'.map (·.1))[j]? = (ms.map (·.1))[j]? := by rw [hfst]
              rw [List.getElem?_map, hpj, List.getElem?_map] at h1
              simp only [prefs, List.getElem?_map] at hv
              cases hq : ms[j]? with
              | none => rw [hq] at h1; simp at h1
              | some q => rw [hq] at h1 hv; simp at h1 hv; rw [← hv, h1]
            subst hvx
            have hI := hin2 j _ rj hpj hrj
            rw [if_neg (fun h => Nat.lt_irrefl j h.1)] at hI
            dsimp only at hI
            have hsp := split_at hpj
            have apm : Apart (((Dr, LCg.lst (prefs ms)) :: lf :: ms'.take j) ++ ([(aj, oj)] ++ ms'.drop (j + 1))) := by
              have e : Apart ((Dr, LCg.lst (prefs ms)) :: lf :: ms') := by unfold Apart at apr ⊢; simp only [List.map_cons, hfst] at apr ⊢; exact apr
              rw [hsp] at e; exact e
            obtain ⟨am1, _⟩ := apm.mid
            obtain ⟨tl, htl⟩ : ∃ tl, tl = (Dr, listOf (prefs ms).toArray (prefs ms).length) :: lf :: (ms'.take j ++ ms'.drop (j + 1)) ++ own := ⟨_, rfl⟩
            have w1 : ∀ p ∈ tl, p.1 ≠ aj := by
              intro p hp
              rw [htl] at hp
              simp only [List.mem_cons, List.mem_append, List.cons_append] at hp
              rcases hp with rfl | rfl | (hp | hp) | hp
              · exact am1 (Dr, LCg.lst (prefs ms)) (.head _) _ (.head _)
              · exact am1 p (.tail _ (.head _)) _ (.head _)
              · exact am1 p (.tail _ (.tail _ (List.mem_append.mpr (.inl hp)))) _ (.head _)
              · exact am1 p (.tail _ (.tail _ (List.mem_append.mpr (.inr hp)))) _ (.head _)
              · exact hoff p hp aj (by rw [hsp]; simp)
            have hN : News g L' h ((aj, oj) :: tl) := fun p hp => N p (by
              rw [hsp]
              rw [htl] at hp
              simp only [List.mem_cons, List.mem_append, List.cons_append] at hp ⊢
              rcases hp with hp | hp | hp | (hp | hp) | hp
              · exact .inr (.inr (.inl (.inr (.inl hp))))
              · exact .inl hp
              · exact .inr (.inl hp)
              · exact .inr (.inr (.inl (.inl hp)))
              · exact .inr (.inr (.inl (.inr (.inr hp))))
              · exact .inr (.inr (.inr hp)))
            have hF : Fr g L' h _ := F
            refine fr_cut _ hF (has_upd hm rfl) fun u F11 => ?_
            clear F hF N F10 N10 apm
            have fin3 : ∀ {o2 : Obj} {hq : Heap} {tkq : Nat} {mq : Str → Option Value} {Qf : Flow → Shared → Prop} {s9 : Shared}, Fr g L' hq (kstB mq [(Str.ofString "row", .ref aj), (Str.ofString "left", .ref Lf), (Str.ofString "cluster", .int r.cl c2), (Str.ofString "right", .ref Dr), (Str.ofString "other", .int r1.cl d2)]) → News g L' hq ((aj, o2) :: tl) → RowL (if rj.cl = r1.cl then { rj with cl := r.cl } else rj) o2 →
                Turn g L' (fun m nx => (Dr, listOf (prefs ms).toArray (prefs ms).length) ∈ nx ∧ TkB rs i Lf Dr lf ms r.cl r1.cl c2 d2 (j + 1) m nx) own s9 Qf .next { s9 with heap := hq, toks := tkq } := by
              intro o2 hq tkq mq Qf s9 Fq Nq hI2
              have hset : ms'.set j (aj, o2) = ms'.take j ++ (aj, o2) :: ms'.drop (j + 1) := set_splitG hsp (by rw [List.length_take]; omega)
              have hf2 : (ms'.set j (aj, o2)).map (·.1) = ms'.map (·.1) := by
                rw [hset]; conv => rhs; rw [hsp]
                simp
              refine Turn.next ((Dr, listOf (prefs ms).toArray (prefs ms).length) :: lf :: ms'.set j (aj, o2)) Fq Nq ⟨.head _, ms'.set j (aj, o2), ⟨rfl, rfl, rfl, rfl, trivial⟩, hf2.trans hfst, ?_⟩ ?_ ?_ ?_
              · intro k p r' q1 q2
                rw [List.getElem?_set] at q1
                by_cases e : j = k
                · subst e
                  rw [if_pos rfl, if_pos (by omega)] at q1
                  rw [hrj] at q2
                  cases q1; cases q2
                  by_cases c : rj.cl = r1.cl
                  · rw [if_pos c] at hI2; rw [if_pos ⟨Nat.lt_succ_self j, c⟩]; exact hI2
                  · rw [if_neg c] at hI2; rw [if_neg (fun h => c h.2)]; exact hI2
                · rw [if_neg e] at q1
                  have h9 := hin2 k p r' q1 q2
                  by_cases c : k < j ∧ r'.cl = r1.cl
                  · rw [if_pos c] at h9; rw [if_pos ⟨by omega, c.2⟩]; exact h9
                  · rw [if_neg c] at h9; rw [if_neg (fun h => c ⟨by omega, h.2⟩)]; exact h9
              · intro p hp b hb
                simp only [List.map_cons, hf2] at hb
                exact hoff p hp b (by simpa using hb)
              · intro p hp
                rw [hset] at hp
                rw [htl]
                simp only [List.mem_cons, List.mem_append, List.cons_append] at hp ⊢
                rcases hp with hp | hp | hp | hp | hp
                · exact .inr (.inl hp)
                · exact .inr (.inr (.inl hp))
                · exact .inr (.inr (.inr (.inl (.inl hp))))
                · exact .inl hp
                · exact .inr (.inr (.inr (.inl (.inr hp))))
              · intro p hp
                rw [htl]
                exact .tail _ (List.mem_append.mpr (.inr hp))
            refine opq fun G9 k9 => ?_
            obtain ⟨f1, f2, f3, f4, f5, f6, f7, nrj, ej⟩ := hI
            refine k9 ?_
            clear k9 G9
            have hq7 : [Value.int rj.gl f1, Value.int rj.cl f2, Value.int rj.co f3, Value.int rj.ma f4, Value.int rj.li f5, Value.int rj.lp f6, Value.int rj.sp f7][(1 : Int).toNat]? = some (.int rj.cl f2) := rfl
            rw [ej] at hN
            show wpAny _ _ _ _ _ _
            k_fold
            k_steps
            all_goals (try dsimp only)
            all_goals (rename Fr _ _ _ _ => F9; rename News _ _ _ _ => N9)
            · rename (List.getD _ _ _ = r1.cl) => c
              refine fin3 F9 N9 ?_
              rw [if_pos (show rj.cl = r1.cl from c)]
              exact ⟨_, _, _, _, _, _, _, _, rfl⟩
            · rename (List.getD _ _ _ ≠ r1.cl) => c
              refine fin3 F9 N9 ?_
              rw [if_neg (show ¬ rj.cl = r1.cl from c)]
              exact ⟨_, _, _, _, _, _, _, _, rfl⟩
          case done =>
            rintro m₁ nx h tk ⟨ms', hm, hfst, hin2⟩ F N
            have hF : Fr g L' h _ := F
            have hN : News g L' h ((Dr, listOf (prefs ms).toArray (prefs ms).length) :: lf :: ms') := N
            refine fr_cut _ hF hm fun u F11 => ?_
            clear F hF N F10 N10
            have hml2 : ms'.length = ms.length := by have := congrArg List.length hfst; simpa using this
            have hms' : RowsAt ms' ((rs.drop (i + 1)).map fun r => if r.cl = clAt rs 1 then { r with cl := clAt rs 0 } else r) := by
              refine All2.of_index (by have := hms.length; simp at this ⊢; omega) fun k p r' q1 q2 => ?_
              rw [List.getElem?_map] at q2
              obtain ⟨r0, hr0', rfl⟩ := Option.map_eq_some_iff.mp q2
              have h9 := hin2 k p r0 q1 hr0'
              have hk : k < (prefs ms).length := by have := (List.getElem?_eq_some_iff.mp q1).1; simp [prefs]; omega
              rw [hr0, hr1']
              by_cases c : r0.cl = r1.cl
              · rw [if_pos ⟨hk, c⟩] at h9; rw [if_pos c]; exact h9
              · rw [if_neg (fun h => c h.2)] at h9; rw [if_neg c]; exact h9
            rw [hlf] at hN
            dsimp only
            show wpAny _ _ _ _ _ _
            (try k_fold)
            k_steps
            all_goals (try dsimp only)
            rename Fr _ _ _ _ => F9
            rename News _ _ _ _ => N9
            rw [he] at N9
            exact Out.ret _ F9 N9 (fun hZ tkZ kZ1 kZ2 kZ3 => ret _ (refs.take i ++ ms.map (·.1)) (0) _ hZ tkZ kZ1 kZ2 kZ3 (by rw [taken_eq hc]; exact fin2 hms' hfst (fun p hp => .tail _ (.tail _ hp))))
        · rename Fr _ _ _ _ => F9
          rename News _ _ _ _ => N9
          rename (r1.cl = r.cl) => c9
          rw [← e1] at N9
          have he' : List.take i (List.map Value.ref refs) ++ Value.ref a1 :: prefs mr = List.map Value.ref (refs.take i ++ ((a1, o1) :: mr).map (·.1)) := he
          rw [he'] at N9
          exact Out.ret _ F9 N9 (fun hZ tkZ kZ1 kZ2 kZ3 => ret _ (refs.take i ++ ((a1, o1) :: mr).map (·.1)) (0) _ hZ tkZ kZ1 kZ2 kZ3 (by rw [taken_ne (fun h => h.2.2 (by rw [hr0, hr1', c9]))]; exact fin2 hms rfl (fun p hp => .tail _ (.tail _ hp))))
end
section
theorem st135 : True := by w_top off; k_with_none; trivial
theorem st136 : True := by
  k_with "my all" => (assumption)
  k_with "my range" => (first | (with_unfolding_all refine range1_rows ‹Fr _ _ _ _› ‹News _ _ _ _› ?_) | (with_unfolding_all refine range2_rows ‹Fr _ _ _ _› ‹News _ _ _ _› ?_))
  k_with "my inst" => (first
    | (refine' inst_base ?F ?h1 ?h2; (case F => k_asm); (case h1 => assumption); (case h2 => assumption))
    | (refine' inst_half ?F ?N ?h1 ?h2; (case F => k_asm); (case N => k_asm); (case h1 => assumption); (case h2 => k_mem)))
  k_with "my ne" => ((try dsimp only); first | with_reducible assumption | (refine Ne.symm ?_; with_reducible assumption) | (have h9 := ‹(_ ≠ _ ∧ _ ≠ _ ∧ _ ≠ _) ∧ _›; first | exact h9.1.1 | exact h9.1.2.1 | exact h9.1.2.2 | exact h9.2.1.1 | exact h9.2.1.2.1 | exact h9.2.1.2.2 | exact h9.2.2.1 | exact h9.2.2.2.1 | exact h9.2.2.2.2 | exact h9.2.1 | exact h9.2.2.1 | exact h9.2.2.2))
  k_with "my pick" => (first | exact Pick.nil | (refine' Pick.take (by k_mem) (by walk_at "my pick")) | (refine' Pick.skip (by k_all) (by walk_at "my pick")) | (refine Pick.all (by assumption)))
  k_with "call ref" => (k_here; (with_reducible show wpAny _ _ (call (Value.ref 283) [Value.ref _, Value.int _ _]) _ _ _); k_dflt (refine' draw_at (by k_asm) (by k_asm) (by k_asm) (by k_asm) (by rfl) (by exact Nat.le_of_ble_eq_true rfl) (by exact Nat.le_of_ble_eq_true rfl) (by k_asm) (by k_asm) (by k_mem) (by k_mem) (by walk_at "my pick") (by omega) (by decide) (by decide) ?_); intro _ _ _ _ _ _ _ _ _ _ _; (try k_sweep))
  trivial
set_option maxHeartbeats 4000000 in
theorem buf_init {w : World} {g : Heap} {s : Shared} {x dx : Addr} {R : Addr} {R₀ : Result → Shared → Prop}
    (G : Gd w g) (stay : g.StaysIn s.heap) (hsz : g.objs.size ≤ s.heap.objs.size) (N : LedIn g s.heap [(x, instObj 103 dx), (dx, dictOf [] 0)]) (hx : @LT.lt Nat _ dx x)
    (ret : ∀ o h' tk', g.StaysIn h' → g.objs.size ≤ h'.objs.size → LedIn g h' [(x, instObj 103 dx), (dx, o)] → BufD w.params R 0 o → R₀ (.ok (.ret .none)) { s with heap := h', toks := tk' }) :
    codeAny (model PySem.Challenge.rw_nu0223_01.row.prog w) (AA 890 8900) (.call (.ref 71) ⟨[.ref x, .ref R], []⟩) R₀ s := by
  refine enterR (binds := [(Str.ofString "self", .ref x), (Str.ofString "infos", .ref R), (Str.ofString "is_backward", .bool false)]) G stay hsz N (by k_is) (by k_is) (by decide) (binds_K (G.1.keeps stay) rfl (by k_is) rfl rfl rfl) (locs rfl) ?_
  · intro mean mg mb L' h₁ X T F N' lt eL
    dsimp only [List.reverse, List.reverseAux] at F
    k_fold
    k_steps
    all_goals (try dsimp only)
    rename Fr _ _ _ _ => F9
    rename News _ _ _ _ => N9
    exact Out.intro (news' := [(x, instObj 103 dx), (dx, _)]) F9 N9 (fun hZ tkZ kZ1 kZ2 kZ3 => ret _ hZ tkZ kZ1 kZ2 kZ3 (⟨_, _, _, _, _, _, rfl⟩))
theorem buf_new {w : World} {g : Heap} {s : Shared} {R : Addr} {Q E : Value → Shared → Prop}
    (G : Gd w g) (stay : g.StaysIn s.heap) (hsz : g.objs.size ≤ s.heap.objs.size)
    (ret : ∀ x dx o h' tk', g.StaysIn h' → g.objs.size ≤ h'.objs.size → LedIn g h' [(x, instObj 103 dx), (dx, o)] → BufD w.params R 0 o → @LE.le Nat _ s.heap.objs.size dx → @LT.lt Nat _ dx x → Q (.ref x) { s with heap := h', toks := tk' }) :
    wpAny (model PySem.Challenge.rw_nu0223_01.row.prog w) (AA 880 8800) (call (.ref 103) [.ref R]) Q E s := by
  refine wpAny_call (make_new (news := []) G stay hsz (fun _ h => nomatch h) (by k_is) (by k_is) (by k_is) fun x dx h' a1 a2 a3 a4 a5 => ?_)
  refine code_le (buf_init G a1 a2 a3 a5 ?_) rfl (Nat.le_of_ble_eq_true rfl) (Nat.le_of_ble_eq_true rfl) rfl rfl
  intro o h2 tk2 b1 b2 b3 b4
  exact ⟨rfl, ret x dx o h2 tk2 b1 b2 b3 b4 a4 a5⟩
theorem buf_at {w : World} {A : Around} {h₀ : Heap} {L : Addr} {m : Str → Option Value} {news : List (Addr × Obj)} {s : Shared} {mean : ExcName → Option Value} {mg mb : Str → Option Value} {E : Value → Shared → Prop} {R : Addr} {Q : Value → Shared → Prop}
    (X : (Mine.hd.heap_1 w.params).In h₀) (T : Top Mine.vw (looseW Mine.vw []) mean mg mb h₀) (F : Fr h₀ L s.heap m) (N : News h₀ L s.heap news)
    (hA : A.handled = none) (hd : A.depth ≤ 880) (hu : A.units ≤ 8800)
    (k : ∀ x dx o h' tk', Fr h₀ L h' m → News h₀ L h' ((x, instObj 103 dx) :: (dx, o) :: news) → BufD w.params R 0 o → (∀ p ∈ news, @LT.lt Nat _ p.1 dx) → @LT.lt Nat _ dx x → @LT.lt Nat _ L dx → Q (.ref x) { s with heap := h', toks := tk' }) :
    wpAny (model PySem.Challenge.rw_nu0223_01.row.prog w) A (call (.ref 103) [.ref R]) Q E s := by
  obtain ⟨g, a1, a2, a3, a4, _, a6⟩ := siteP [] F N (fun _ h => nomatch h) (.all fun _ _ _ h => nomatch h)
  refine wp_le (buf_new ((gd X T).keeps a1) a2 a3 ?_) hA hd hu rfl rfl
  intro x dx o h' tk' k1 _ k3 k4 k5 k6
  obtain ⟨F', N'⟩ := a6 h' _ k1 k3
  exact k x dx o h' tk' F' N' k4 (fun p hp => Nat.lt_of_lt_of_le (Heap.lt_size (N p hp).1) k5) k6 (Nat.lt_of_lt_of_le F.ns.lt k5)
set_option maxHeartbeats 4000000 in
theorem scn_init {w : World} {g : Heap} {s : Shared} {x dx : Addr} {buf l : Addr} {mask : Int} {t : Tok} {R₀ : Result → Shared → Prop}
    (G : Gd w g) (stay : g.StaysIn s.heap) (hsz : g.objs.size ≤ s.heap.objs.size) (N : LedIn g s.heap [(x, instObj 267 dx), (dx, dictOf [] 0)]) (hx : @LT.lt Nat _ dx x)
    (ret : ∀ o h' tk', g.StaysIn h' → g.objs.size ≤ h'.objs.size → LedIn g h' [(x, instObj 267 dx), (dx, o)] → SceneD w.params buf mask o → R₀ (.ok (.ret .none)) { s with heap := h', toks := tk' }) :
    codeAny (model PySem.Challenge.rw_nu0223_01.row.prog w) (AA 890 8900) (.call (.ref 264) ⟨[.ref x, .ref buf, .none, .ref l, .none, .int mask t], []⟩) R₀ s := by
  refine enterR (binds := [(Str.ofString "self", .ref x), (Str.ofString "buffer", .ref buf), (Str.ofString "gdef", .none), (Str.ofString "lookups", .ref l), (Str.ofString "lookup", .none), (Str.ofString "mask", .int mask t), (Str.ofString "depth", .int 0 _)]) G stay hsz N (by k_is) (by k_is) (by decide) (binds_K (G.1.keeps stay) rfl (by k_is) rfl rfl rfl) (locs rfl) ?_
  · intro mean mg mb L' h₁ X T F N' lt eL
    dsimp only [List.reverse, List.reverseAux] at F
    k_fold
    k_steps
    all_goals (try dsimp only)
    rename Fr _ _ _ _ => F9
    rename News _ _ _ _ => N9
    exact Out.intro (news' := [(x, instObj 267 dx), (dx, _)]) F9 (fun p hp => N9 p (.tail _ hp)) (fun hZ tkZ kZ1 kZ2 kZ3 => ret _ hZ tkZ kZ1 kZ2 kZ3 (⟨_, _, _, _, _, _, _, _, _, _, _, rfl⟩))
theorem scn_new {w : World} {g : Heap} {s : Shared} {buf l : Addr} {mask : Int} {t : Tok} {Q E : Value → Shared → Prop}
    (G : Gd w g) (stay : g.StaysIn s.heap) (hsz : g.objs.size ≤ s.heap.objs.size)
    (ret : ∀ x dx o h' tk', g.StaysIn h' → g.objs.size ≤ h'.objs.size → LedIn g h' [(x, instObj 267 dx), (dx, o)] → SceneD w.params buf mask o → @LE.le Nat _ s.heap.objs.size dx → @LT.lt Nat _ dx x → Q (.ref x) { s with heap := h', toks := tk' }) :
    wpAny (model PySem.Challenge.rw_nu0223_01.row.prog w) (AA 880 8800) (call (.ref 267) [.ref buf, .none, .ref l, .none, .int mask t]) Q E s := by
  refine wpAny_call (make_new (news := []) G stay hsz (fun _ h => nomatch h) (by k_is) (by k_is) (by k_is) fun x dx h' a1 a2 a3 a4 a5 => ?_)
  refine code_le (scn_init G a1 a2 a3 a5 ?_) rfl (Nat.le_of_ble_eq_true rfl) (Nat.le_of_ble_eq_true rfl) rfl rfl
  intro o h2 tk2 b1 b2 b3 b4
  exact ⟨rfl, ret x dx o h2 tk2 b1 b2 b3 b4 a4 a5⟩
theorem scn_at {w : World} {A : Around} {h₀ : Heap} {L : Addr} {m : Str → Option Value} {news : List (Addr × Obj)} {s : Shared} {mean : ExcName → Option Value} {mg mb : Str → Option Value} {E : Value → Shared → Prop} {buf l : Addr} {mask : Int} {t : Tok} {Q : Value → Shared → Prop}
    (X : (Mine.hd.heap_1 w.params).In h₀) (T : Top Mine.vw (looseW Mine.vw []) mean mg mb h₀) (F : Fr h₀ L s.heap m) (N : News h₀ L s.heap news)
    (hA : A.handled = none) (hd : A.depth ≤ 880) (hu : A.units ≤ 8800)
    (k : ∀ x dx o h' tk', Fr h₀ L h' m → News h₀ L h' ((x, instObj 267 dx) :: (dx, o) :: news) → SceneD w.params buf mask o → (∀ p ∈ news, @LT.lt Nat _ p.1 dx) → @LT.lt Nat _ dx x → @LT.lt Nat _ L dx → Q (.ref x) { s with heap := h', toks := tk' }) :
    wpAny (model PySem.Challenge.rw_nu0223_01.row.prog w) A (call (.ref 267) [.ref buf, .none, .ref l, .none, .int mask t]) Q E s := by
  obtain ⟨g, a1, a2, a3, a4, _, a6⟩ := siteP [] F N (fun _ h => nomatch h) (.all fun _ _ _ h => nomatch h)
  refine wp_le (scn_new ((gd X T).keeps a1) a2 a3 ?_) hA hd hu rfl rfl
  intro x dx o h' tk' k1 _ k3 k4 k5 k6
  obtain ⟨F', N'⟩ := a6 h' _ k1 k3
  exact k x dx o h' tk' F' N' k4 (fun p hp => Nat.lt_of_lt_of_le (Heap.lt_size (N p hp).1) k5) k6 (Nat.lt_of_lt_of_le F.ns.lt k5)
set_option maxHeartbeats 4000000 in
theorem sgl_init {w : World} {g : Heap} {s : Shared} {x dx : Addr} {M : Addr} {R₀ : Result → Shared → Prop}
    (G : Gd w g) (stay : g.StaysIn s.heap) (hsz : g.objs.size ≤ s.heap.objs.size) (N : LedIn g s.heap [(x, instObj 165 dx), (dx, dictOf [] 0)]) (hx : @LT.lt Nat _ dx x)
    (ret : ∀ o h' tk', g.StaysIn h' → g.objs.size ≤ h'.objs.size → LedIn g h' [(x, instObj 165 dx), (dx, o)] → TabD w.params M o → R₀ (.ok (.ret .none)) { s with heap := h', toks := tk' }) :
    codeAny (model PySem.Challenge.rw_nu0223_01.row.prog w) (AA 890 8900) (.call (.ref 157) ⟨[.ref x, .ref M], []⟩) R₀ s := by
  refine enterR (binds := [(Str.ofString "self", .ref x), (Str.ofString "mapping", .ref M)]) G stay hsz N (by k_is) (by k_is) (by decide) (BindsTo.of_eq rfl) (locs rfl) ?_
  · intro mean mg mb L' h₁ X T F N' lt eL
    dsimp only [List.reverse, List.reverseAux] at F
    k_fold
    k_steps
    all_goals (try dsimp only)
    rename Fr _ _ _ _ => F9
    rename News _ _ _ _ => N9
    exact Out.intro (news' := [(x, instObj 165 dx), (dx, _)]) F9 N9 (fun hZ tkZ kZ1 kZ2 kZ3 => ret _ hZ tkZ kZ1 kZ2 kZ3 (⟨_, rfl⟩))
theorem sgl_new {w : World} {g : Heap} {s : Shared} {M : Addr} {Q E : Value → Shared → Prop}
    (G : Gd w g) (stay : g.StaysIn s.heap) (hsz : g.objs.size ≤ s.heap.objs.size)
    (ret : ∀ x dx o h' tk', g.StaysIn h' → g.objs.size ≤ h'.objs.size → LedIn g h' [(x, instObj 165 dx), (dx, o)] → TabD w.params M o → @LE.le Nat _ s.heap.objs.size dx → @LT.lt Nat _ dx x → Q (.ref x) { s with heap := h', toks := tk' }) :
    wpAny (model PySem.Challenge.rw_nu0223_01.row.prog w) (AA 880 8800) (call (.ref 165) [.ref M]) Q E s := by
  refine wpAny_call (make_new (news := []) G stay hsz (fun _ h => nomatch h) (by k_is) (by k_is) (by k_is) fun x dx h' a1 a2 a3 a4 a5 => ?_)
  refine code_le (sgl_init G a1 a2 a3 a5 ?_) rfl (Nat.le_of_ble_eq_true rfl) (Nat.le_of_ble_eq_true rfl) rfl rfl
  intro o h2 tk2 b1 b2 b3 b4
  exact ⟨rfl, ret x dx o h2 tk2 b1 b2 b3 b4 a4 a5⟩
theorem sgl_at {w : World} {A : Around} {h₀ : Heap} {L : Addr} {m : Str → Option Value} {news : List (Addr × Obj)} {s : Shared} {mean : ExcName → Option Value} {mg mb : Str → Option Value} {E : Value → Shared → Prop} {M : Addr} {Q : Value → Shared → Prop}
    (X : (Mine.hd.heap_1 w.params).In h₀) (T : Top Mine.vw (looseW Mine.vw []) mean mg mb h₀) (F : Fr h₀ L s.heap m) (N : News h₀ L s.heap news)
    (hA : A.handled = none) (hd : A.depth ≤ 880) (hu : A.units ≤ 8800)
    (k : ∀ x dx o h' tk', Fr h₀ L h' m → News h₀ L h' ((x, instObj 165 dx) :: (dx, o) :: news) → TabD w.params M o → (∀ p ∈ news, @LT.lt Nat _ p.1 dx) → @LT.lt Nat _ dx x → @LT.lt Nat _ L dx → Q (.ref x) { s with heap := h', toks := tk' }) :
    wpAny (model PySem.Challenge.rw_nu0223_01.row.prog w) A (call (.ref 165) [.ref M]) Q E s := by
  obtain ⟨g, a1, a2, a3, a4, _, a6⟩ := siteP [] F N (fun _ h => nomatch h) (.all fun _ _ _ h => nomatch h)
  refine wp_le (sgl_new ((gd X T).keeps a1) a2 a3 ?_) hA hd hu rfl rfl
  intro x dx o h' tk' k1 _ k3 k4 k5 k6
  obtain ⟨F', N'⟩ := a6 h' _ k1 k3
  exact k x dx o h' tk' F' N' k4 (fun p hp => Nat.lt_of_lt_of_le (Heap.lt_size (N p hp).1) k5) k6 (Nat.lt_of_lt_of_le F.ns.lt k5)
set_option maxHeartbeats 4000000 in
theorem mlt_init {w : World} {g : Heap} {s : Shared} {x dx : Addr} {M : Addr} {R₀ : Result → Shared → Prop}
    (G : Gd w g) (stay : g.StaysIn s.heap) (hsz : g.objs.size ≤ s.heap.objs.size) (N : LedIn g s.heap [(x, instObj 191 dx), (dx, dictOf [] 0)]) (hx : @LT.lt Nat _ dx x)
    (ret : ∀ o h' tk', g.StaysIn h' → g.objs.size ≤ h'.objs.size → LedIn g h' [(x, instObj 191 dx), (dx, o)] → TabD w.params M o → R₀ (.ok (.ret .none)) { s with heap := h', toks := tk' }) :
    codeAny (model PySem.Challenge.rw_nu0223_01.row.prog w) (AA 890 8900) (.call (.ref 183) ⟨[.ref x, .ref M], []⟩) R₀ s := by
  refine enterR (binds := [(Str.ofString "self", .ref x), (Str.ofString "mapping", .ref M)]) G stay hsz N (by k_is) (by k_is) (by decide) (BindsTo.of_eq rfl) (locs rfl) ?_
  · intro mean mg mb L' h₁ X T F N' lt eL
    dsimp only [List.reverse, List.reverseAux] at F
    k_fold
    k_steps
    all_goals (try dsimp only)
    rename Fr _ _ _ _ => F9
    rename News _ _ _ _ => N9
    exact Out.intro (news' := [(x, instObj 191 dx), (dx, _)]) F9 N9 (fun hZ tkZ kZ1 kZ2 kZ3 => ret _ hZ tkZ kZ1 kZ2 kZ3 (⟨_, rfl⟩))
theorem mlt_new {w : World} {g : Heap} {s : Shared} {M : Addr} {Q E : Value → Shared → Prop}
    (G : Gd w g) (stay : g.StaysIn s.heap) (hsz : g.objs.size ≤ s.heap.objs.size)
    (ret : ∀ x dx o h' tk', g.StaysIn h' → g.objs.size ≤ h'.objs.size → LedIn g h' [(x, instObj 191 dx), (dx, o)] → TabD w.params M o → @LE.le Nat _ s.heap.objs.size dx → @LT.lt Nat _ dx x → Q (.ref x) { s with heap := h', toks := tk' }) :
    wpAny (model PySem.Challenge.rw_nu0223_01.row.prog w) (AA 880 8800) (call (.ref 191) [.ref M]) Q E s := by
  refine wpAny_call (make_new (news := []) G stay hsz (fun _ h => nomatch h) (by k_is) (by k_is) (by k_is) fun x dx h' a1 a2 a3 a4 a5 => ?_)
  refine code_le (mlt_init G a1 a2 a3 a5 ?_) rfl (Nat.le_of_ble_eq_true rfl) (Nat.le_of_ble_eq_true rfl) rfl rfl
  intro o h2 tk2 b1 b2 b3 b4
  exact ⟨rfl, ret x dx o h2 tk2 b1 b2 b3 b4 a4 a5⟩
theorem mlt_at {w : World} {A : Around} {h₀ : Heap} {L : Addr} {m : Str → Option Value} {news : List (Addr × Obj)} {s : Shared} {mean : ExcName → Option Value} {mg mb : Str → Option Value} {E : Value → Shared → Prop} {M : Addr} {Q : Value → Shared → Prop}
    (X : (Mine.hd.heap_1 w.params).In h₀) (T : Top Mine.vw (looseW Mine.vw []) mean mg mb h₀) (F : Fr h₀ L s.heap m) (N : News h₀ L s.heap news)
    (hA : A.handled = none) (hd : A.depth ≤ 880) (hu : A.units ≤ 8800)
    (k : ∀ x dx o h' tk', Fr h₀ L h' m → News h₀ L h' ((x, instObj 191 dx) :: (dx, o) :: news) → TabD w.params M o → (∀ p ∈ news, @LT.lt Nat _ p.1 dx) → @LT.lt Nat _ dx x → @LT.lt Nat _ L dx → Q (.ref x) { s with heap := h', toks := tk' }) :
    wpAny (model PySem.Challenge.rw_nu0223_01.row.prog w) A (call (.ref 191) [.ref M]) Q E s := by
  obtain ⟨g, a1, a2, a3, a4, _, a6⟩ := siteP [] F N (fun _ h => nomatch h) (.all fun _ _ _ h => nomatch h)
  refine wp_le (mlt_new ((gd X T).keeps a1) a2 a3 ?_) hA hd hu rfl rfl
  intro x dx o h' tk' k1 _ k3 k4 k5 k6
  obtain ⟨F', N'⟩ := a6 h' _ k1 k3
  exact k x dx o h' tk' F' N' k4 (fun p hp => Nat.lt_of_lt_of_le (Heap.lt_size (N p hp).1) k5) k6 (Nat.lt_of_lt_of_le F.ns.lt k5)
set_option maxHeartbeats 4000000 in
theorem alt_init {w : World} {g : Heap} {s : Shared} {x dx : Addr} {M : Addr} {R₀ : Result → Shared → Prop}
    (G : Gd w g) (stay : g.StaysIn s.heap) (hsz : g.objs.size ≤ s.heap.objs.size) (N : LedIn g s.heap [(x, instObj 217 dx), (dx, dictOf [] 0)]) (hx : @LT.lt Nat _ dx x)
    (ret : ∀ o h' tk', g.StaysIn h' → g.objs.size ≤ h'.objs.size → LedIn g h' [(x, instObj 217 dx), (dx, o)] → TabD w.params M o → R₀ (.ok (.ret .none)) { s with heap := h', toks := tk' }) :
    codeAny (model PySem.Challenge.rw_nu0223_01.row.prog w) (AA 890 8900) (.call (.ref 209) ⟨[.ref x, .ref M], []⟩) R₀ s := by
  refine enterR (binds := [(Str.ofString "self", .ref x), (Str.ofString "mapping", .ref M)]) G stay hsz N (by k_is) (by k_is) (by decide) (BindsTo.of_eq rfl) (locs rfl) ?_
  · intro mean mg mb L' h₁ X T F N' lt eL
    dsimp only [List.reverse, List.reverseAux] at F
    k_fold
    k_steps
    all_goals (try dsimp only)
    rename Fr _ _ _ _ => F9
    rename News _ _ _ _ => N9
    exact Out.intro (news' := [(x, instObj 217 dx), (dx, _)]) F9 N9 (fun hZ tkZ kZ1 kZ2 kZ3 => ret _ hZ tkZ kZ1 kZ2 kZ3 (⟨_, rfl⟩))
theorem alt_new {w : World} {g : Heap} {s : Shared} {M : Addr} {Q E : Value → Shared → Prop}
    (G : Gd w g) (stay : g.StaysIn s.heap) (hsz : g.objs.size ≤ s.heap.objs.size)
    (ret : ∀ x dx o h' tk', g.StaysIn h' → g.objs.size ≤ h'.objs.size → LedIn g h' [(x, instObj 217 dx), (dx, o)] → TabD w.params M o → @LE.le Nat _ s.heap.objs.size dx → @LT.lt Nat _ dx x → Q (.ref x) { s with heap := h', toks := tk' }) :
    wpAny (model PySem.Challenge.rw_nu0223_01.row.prog w) (AA 880 8800) (call (.ref 217) [.ref M]) Q E s := by
  refine wpAny_call (make_new (news := []) G stay hsz (fun _ h => nomatch h) (by k_is) (by k_is) (by k_is) fun x dx h' a1 a2 a3 a4 a5 => ?_)
  refine code_le (alt_init G a1 a2 a3 a5 ?_) rfl (Nat.le_of_ble_eq_true rfl) (Nat.le_of_ble_eq_true rfl) rfl rfl
  intro o h2 tk2 b1 b2 b3 b4
  exact ⟨rfl, ret x dx o h2 tk2 b1 b2 b3 b4 a4 a5⟩
theorem alt_at {w : World} {A : Around} {h₀ : Heap} {L : Addr} {m : Str → Option Value} {news : List (Addr × Obj)} {s : Shared} {mean : ExcName → Option Value} {mg mb : Str → Option Value} {E : Value → Shared → Prop} {M : Addr} {Q : Value → Shared → Prop}
    (X : (Mine.hd.heap_1 w.params).In h₀) (T : Top Mine.vw (looseW Mine.vw []) mean mg mb h₀) (F : Fr h₀ L s.heap m) (N : News h₀ L s.heap news)
    (hA : A.handled = none) (hd : A.depth ≤ 880) (hu : A.units ≤ 8800)
    (k : ∀ x dx o h' tk', Fr h₀ L h' m → News h₀ L h' ((x, instObj 217 dx) :: (dx, o) :: news) → TabD w.params M o → (∀ p ∈ news, @LT.lt Nat _ p.1 dx) → @LT.lt Nat _ dx x → @LT.lt Nat _ L dx → Q (.ref x) { s with heap := h', toks := tk' }) :
    wpAny (model PySem.Challenge.rw_nu0223_01.row.prog w) A (call (.ref 217) [.ref M]) Q E s := by
  obtain ⟨g, a1, a2, a3, a4, _, a6⟩ := siteP [] F N (fun _ h => nomatch h) (.all fun _ _ _ h => nomatch h)
  refine wp_le (alt_new ((gd X T).keeps a1) a2 a3 ?_) hA hd hu rfl rfl
  intro x dx o h' tk' k1 _ k3 k4 k5 k6
  obtain ⟨F', N'⟩ := a6 h' _ k1 k3
  exact k x dx o h' tk' F' N' k4 (fun p hp => Nat.lt_of_lt_of_le (Heap.lt_size (N p hp).1) k5) k6 (Nat.lt_of_lt_of_le F.ns.lt k5)
end
section
section
variable {prog : Program} {w : World} {A : Around} {E : Value → Shared → Prop} {s : Shared} {env : Env} {h₀ : Heap} {target : PySem.Expr} {body : List Stmt} {Q : Flow → Shared → Prop}
/-- a for with any target over a list of the base -/
theorem trn_iter {l : Addr} {vs : List Value} {nn : Nat} {m₀ : Str → Option Value} {news : List (Addr × Obj)} (J : Nat → (Str → Option Value) → List (Addr × Obj) → Prop)
    (hh : A.handled = none) (hol : h₀.get? l = some (listOf vs.toArray nn)) (F : Fr h₀ env.locals s.heap m₀) (N : News h₀ env.locals s.heap news) (hj : J 0 m₀ news)
    (turn : ∀ i v m₁ nx h tk own, vs[i]? = some v → OwnOff own (nx.map (·.1)) → J i m₁ nx → Fr h₀ env.locals h m₁ → News h₀ env.locals h (nx ++ own) →
      wpAny (model prog w) A (assign target env v) (fun _ s₃ => wpAny (model prog w) A (execs body env) (Turn h₀ env.locals (J (i + 1)) own { s with heap := h, toks := tk } Q) E s₃) E { s with heap := h, toks := tk })
    (done : ∀ m₁ nx h tk, J vs.length m₁ nx → Fr h₀ env.locals h m₁ → News h₀ env.locals h nx → Q .next { s with heap := h, toks := tk }) :
    wpAny (model prog w) A (pyIter (.ref l)) (fun it s₂ => TurnsAt prog w A h₀ env target body Q E it s₂) E s := by
  have hT : s.heap.IsList l vs.toArray := PySem.IsL.isList (F.keep _ _ hol)
  have hlt : l < h₀.objs.size := Heap.lt_size hol
  have hlL : l < env.locals := Nat.lt_of_lt_of_le hlt F.above
  have hne : l ≠ s.heap.objs.size := Nat.ne_of_lt (Nat.lt_trans hlL F.ns.lt)
  have hI0 : h₀.get? s.heap.objs.size = none := next_is_new F
  refine wpAny_pyIter_list hT ?_
  have W := Walks.list (prog := prog) (w := w) hh s.heap.objs.size l hne vs.toArray
  rw [List.size_toArray] at W
  refine ⟨_, _, _, vs.length, _, _, _, m₀, news, J, rfl, KTurns.ofWalks W (fun i v s Q E st q => letGo_listiter st.1 q), ?_, ?_, ?_, ⟨⟨_, Heap.get?_push_size _ rfl, rfl, rfl⟩, hT.at fun o e => Heap.get?_push_of_some _ e⟩, F.push _, (fun p hp => ⟨Heap.get?_push_of_some _ (N p hp).1, (N p hp).2⟩), hj, ?_, ?_⟩
  · intro hm
    rcases List.mem_cons.mp hm with e | hm
    · exact absurd F.ns.lt (by rw [e]; exact Nat.lt_irrefl _)
    · exact absurd hlL (by rw [← List.mem_singleton.mp hm]; exact Nat.lt_irrefl _)
  · intro b hb
    rw [List.mem_singleton.mp hb]; exact hI0
  · intro p hp hI
    exact absurd (Heap.lt_size (N p hp).1) (by rw [List.mem_singleton.mp hI]; exact Nat.lt_irrefl _)
  · intro i v m₁ nx hh' tk' own hin hP hJ hoff hown hget hfp hst F₁ N₁
    have hP' : vs[i]? = some v := by simpa using hP
    have hsep : OwnOff own (nx.map (·.1)) := by
      intro p hp b hb e
      obtain ⟨q, hq, rfl⟩ := List.mem_map.mp hb
      rcases List.mem_cons.mp (hown p hp) with h1 | h1
      · exact hoff q hq (List.mem_singleton.mpr (e ▸ h1))
      · have h2 := (N₁ q (List.mem_append.mpr (.inr hq))).2.2
        rw [← e, List.mem_singleton.mp h1, hol] at h2
        cases h2
    have N₂ : News h₀ env.locals hh' (nx ++ own) := fun p hp => N₁ p ((List.mem_append.mp hp).elim (fun h => List.mem_append.mpr (.inr h)) fun h => List.mem_append.mpr (.inl h))
    obtain ⟨⟨oI, hoI, _⟩, _⟩ := id hst
    have hIown : (s.heap.objs.size, oI) ∈ own := hfp _ (List.mem_cons.mpr (.inl rfl)) hI0 _ hoI
    refine wpAny_mono (turn i v m₁ nx hh' tk' own hP' hsep hJ F₁ N₂) (fun _ s₃ q => wpAny_mono q (fun f s₂ p => ?_) fun _ _ e => e) fun _ _ e => e
    have fin : InvEndG h₀ env.locals (J (i + 1)) own { s with heap := hh', toks := tk' } s₂ → LoopStepU h₀ env.locals [s.heap.objs.size] own (J (i + 1)) { s with heap := hh', toks := tk' } .next s₂ := by
      rintro ⟨h', tk, m', news', nx', e, F', N', hn, ho, ha, hm⟩
      refine ⟨rfl, h', tk, m', nx', e, F', fun p hp => N' p ((List.mem_append.mp hp).elim (ho p) (hn p)), fun p hp hq => ?_, hm⟩
      exact ha _ hIown p.1 (List.mem_map.mpr ⟨p, hp, rfl⟩) (List.mem_singleton.mp hq).symm
    cases f with
    | ret v => exact .ret p
    | brk => exact .brk p
    | next => exact .next (fin p)
    | cont => exact .cont (fin p)
  · rintro h' tk m' news' F' N' _ hJ
    exact done m' news' h' tk hJ F' N'
end
theorem st137 : True := by w_top off; k_with_none; trivial
theorem st138 : True := by
  k_with "my all" => (assumption)
  k_with "my range" => (first | (with_unfolding_all refine range1_rows ‹Fr _ _ _ _› ‹News _ _ _ _› ?_) | (with_unfolding_all refine range2_rows ‹Fr _ _ _ _› ‹News _ _ _ _› ?_))
  k_with "my inst" => (first
    | (refine' inst_base ?F ?h1 ?h2; (case F => k_asm); (case h1 => assumption); (case h2 => assumption))
    | (refine' inst_half ?F ?N ?h1 ?h2; (case F => k_asm); (case N => k_asm); (case h1 => assumption); (case h2 => k_mem)))
  k_with "my ne" => ((try dsimp only); first | with_reducible assumption | (refine Ne.symm ?_; with_reducible assumption) | (have h9 := ‹(_ ≠ _ ∧ _ ≠ _ ∧ _ ≠ _) ∧ _›; first | exact h9.1.1 | exact h9.1.2.1 | exact h9.1.2.2 | exact h9.2.1.1 | exact h9.2.1.2.1 | exact h9.2.1.2.2 | exact h9.2.2.1 | exact h9.2.2.2.1 | exact h9.2.2.2.2 | exact h9.2.1 | exact h9.2.2.1 | exact h9.2.2.2))
  k_with "my pick" => (first | exact Pick.nil | (refine' Pick.take (by k_mem) (by walk_at "my pick")) | (refine' Pick.skip (by k_all) (by walk_at "my pick")) | (refine Pick.all (by assumption)))
  k_with "call ref" => (k_here; (with_reducible show wpAny _ _ (call (Value.ref 283) [Value.ref _, Value.int _ _]) _ _ _); k_dflt (refine' draw_at (by k_asm) (by k_asm) (by k_asm) (by k_asm) (by rfl) (by exact Nat.le_of_ble_eq_true rfl) (by exact Nat.le_of_ble_eq_true rfl) (by k_asm) (by k_asm) (by k_mem) (by k_mem) (by walk_at "my pick") (by omega) (by decide) (by decide) ?_); intro _ _ _ _ _ _ _ _ _ _ _; (try k_sweep))
  trivial
theorem st139 : True := by
  k_with "call ref" => (k_here; (with_reducible show wpAny _ _ (call (Value.ref 52) [Value.int _ _, Value.int _ _, Value.int _ _]) _ _ _); k_dflt (refine' info_at (by k_asm) (by k_asm) (by k_asm) (by k_asm) (by rfl) (by exact Nat.le_of_ble_eq_true rfl) (by exact Nat.le_of_ble_eq_true rfl) ?_); walk_at "my new"; (try k_sweep))
  trivial
local macro_rules | `(tactic| walk_at "exec For Tuple Name cons nil") => `(tactic| (k_here; (rename Fr _ _ _ _ => lF'); (with_unfolding_all refine' For_turns lF' ?_; k_whole)))
local macro_rules | `(tactic| walk_at "call ref") => `(tactic| (k_extra "my buf"; intro x' dx' o' h' tk' F' N' hi' l1' l2' l3'; (obtain ⟨k1, k2, k3, k4, t3, t4, oe'⟩ := hi'); (subst oe'); (try dsimp only at N'); (k_lt l1'); (k_lt2 l2'); (k_lt2 l3'); (try k_sweep)))
theorem st140 : True := by
  k_with "my buf" => (k_here; (with_reducible show wpAny _ _ (call (Value.ref 103) [Value.ref _]) _ _ _); k_dflt (refine' buf_at ?k1 ?k2 ?k3 ?k4 ?kA ?kB ?kC ?_; (case k1 => k_asm); (case k2 => k_asm); (case k3 => k_asm); (case k4 => k_asm); (case kA => rfl); (case kB => exact Nat.le_of_ble_eq_true rfl); (case kC => exact Nat.le_of_ble_eq_true rfl)))
  trivial
theorem st141 : True := by
  k_with "assign Tuple" => (k_here; (with_reducible show wpAny _ _ (assign (Expr.Tuple _ _ _) _ (Value.ref _)) _ _ _); k_dflt (refine' kun_list (by k_asm) (by k_asm) (by exact PySem.IsL.isList (Fr.keep (by k_asm) _ _ (by assumption))) (by exact rfl) (by exact rfl) (by exact rfl) ?_; k_whole); intro _ _ _; (try k_sweep))
  trivial
inductive BufJ (P : Params) (fl : Addr) (rs : List Row) (j : Nat) (m : Str → Option Value) : List (Addr × Obj) → Prop
  | mk (cs : List Cell) (n : Nat) (hm : Has m [(Str.ofString "infos", .ref fl)]) (hap : Apart ((fl, listOf (List.toArray (crefs cs)) n) :: cled cs)) (hc : Cells P cs (rs.take j)) : BufJ P fl rs j m ((fl, listOf (List.toArray (crefs cs)) n) :: cled cs)
set_option maxHeartbeats 8000000 in
theorem buffer_spec {w : World} {g : Heap} {s : Shared} {Rw : Addr} {nw : Nat} {base : List (Addr × Obj)} {refs : List Addr} {rs : List Row} {Q E : Value → Shared → Prop}
    (G : Gd w g) (stay : g.StaysIn s.heap) (hsz : g.objs.size ≤ s.heap.objs.size) (hRw : g.get? Rw = some (listOf (List.toArray (List.map Value.ref refs)) nw)) (hb : ∀ p ∈ base, g.get? p.1 = some p.2) (hr : RowsIn base refs rs) (hl : rs.length ≤ 1000)
    (ret : ∀ buf dbuf ob R n cs h' tk', g.StaysIn h' → g.objs.size ≤ h'.objs.size → LedIn g h' ((buf, instObj 103 dbuf) :: (dbuf, ob) :: (R, listOf (List.toArray (crefs cs)) n) :: cled cs) → Apart ((buf, instObj 103 dbuf) :: (dbuf, ob) :: (R, listOf (List.toArray (crefs cs)) n) :: cled cs) →
      BufD w.params R 70 ob → Cells w.params cs rs → Q (.ref buf) { s with heap := h', toks := tk' }) :
    wpAny (model PySem.Challenge.rw_nu0223_01.row.prog w) (AA 800 8000) (call (.ref 297) [.ref Rw]) Q E s := by
  have hlr : refs.length = rs.length := hr.length
  refine enter (news := []) (binds := [(Str.ofString "rows", .ref Rw)]) G stay hsz (fun _ h => nomatch h) (by k_is) (by k_is) (by decide) (BindsTo.of_eq rfl) (locs rfl) ?_
  · intro mean mg mb L' h₁ X T F N' lt eL
    dsimp only [List.reverse, List.reverseAux] at F
    k_with "pyIter ref" => (refine Hold.mk ?_)
    show wpAny _ _ _ _ _ _
    k_fold
    k_steps
    all_goals (try dsimp only)
    rename Fr _ _ _ _ => F3
    rename News _ _ _ _ => N3
    refine Hold.of ?_
    rename_i fl h3 l3 z3
    refine trn_iter (BufJ w.params fl rs) rfl hRw F3 N3 ⟨[], 0, ⟨rfl, trivial⟩, by simp [Apart, cled], .nil⟩ ?turn ?done
    case turn =>
      rintro j v m₁ nx h tk own hv hoff ⟨cs, n, hm, hap, hc⟩ F N
      have hjl : j < rs.length := by have := (List.getElem?_eq_some_iff.mp hv).1; simp at this; omega
      obtain ⟨r, hrj⟩ : ∃ r, rs[j]? = some r := ⟨_, List.getElem?_eq_getElem hjl⟩
      obtain ⟨a, hai, o, hao, hro⟩ := hr.get1 hrj
      have hga := hb _ hao
      dsimp only at hga
      have hvx : v = .ref a := by
        rw [List.getElem?_map, hai] at hv
        simpa using hv.symm
      subst hvx
      refine opq fun G9 k9 => ?_
      obtain ⟨c1, c2, c3, c4, c5, c6, c7, nr, e9⟩ := hro
      refine k9 ?_
      clear k9 G9
      subst e9
      obtain ⟨tl, htl⟩ : ∃ tl, tl = cled cs ++ own := ⟨_, rfl⟩
      have hN : News g L' h (_ :: (cled cs ++ own)) := N
      rw [← htl] at hN
      clear N N3 F3
      have w1 : ∀ p ∈ tl, p.1 ≠ fl := by
        intro p hp; rw [htl] at hp
        rcases List.mem_append.mp hp with hp | hp
        · exact hap.off p hp
        · exact hoff p hp fl (by simp)
      have F' : Fr g L' h _ := F
      refine fr_cut _ F' hm fun u F4 => ?_
      clear F' F
      have hz2 : (List.toArray (crefs cs)).size ≤ sizeLine := by
        have := hc.length
        simp [sizeLine_eq, crefs] at this ⊢; omega
      show wpAny _ _ _ _ _ _
      k_fold
      k_steps
      all_goals (try dsimp only)
      rename Fr _ _ _ _ => F9
      rename News _ _ _ _ => N9
      rename (_ ∧ AllLt _ _) => l1
      rename_i x' dx' _ _ _ l2 _ _ _ _ _ _ _ h9
      obtain ⟨oc, hoc, N6⟩ : ∃ oc, InfoD w.params r oc ∧ News g L' h9 ((x', instObj 52 dx') :: (dx', oc) :: (fl, listOf ((crefs cs).toArray.push (.ref x')) (n + 1)) :: tl) := ⟨_, ⟨tkOf [_, _, _, _, _, _, _, _, _, _, _, _, _, _, _, _, _, _, _, _, _, _, _, _, _, _, _, _, _, _, _], rfl⟩, N9⟩
      have e1 : (crefs cs).toArray.push (.ref x') = (crefs (cs ++ [⟨x', dx', oc⟩])).toArray := by simp [crefs]
      rw [e1] at N6
      have hlt : ∀ q ∈ tl, @LT.lt Nat _ q.1 dx' := tb_ltOf l1.2
      refine Turn.next ((fl, listOf (crefs (cs ++ [⟨x', dx', oc⟩])).toArray (n + 1)) :: cled (cs ++ [⟨x', dx', oc⟩])) F9 N6 ⟨cs ++ [⟨x', dx', oc⟩], _, ⟨rfl, trivial⟩, ?_, ?_⟩ ?_ ?_ ?_
      · rw [cled_append]
        exact Apart.snoc2 (Apart.congr rfl hap) (fun q hq => by
          rcases hq with _ | ⟨_, hq⟩
          · exact l1.1
          · exact hlt q (by rw [htl]; exact List.mem_append.mpr (.inl hq))) l2
      · rw [List.take_add_one, hrj]
        exact hc.append (.cons hoc .nil)
      · intro q hq b hb
        have h1 := hlt q (by rw [htl]; simp [hq])
        have h2 := hoff q hq
        simp only [cled_append, List.map_cons, List.map_append, List.mem_cons, List.mem_append, cled, List.map_nil, List.not_mem_nil, or_false] at hb h2
        rcases hb with rfl | hb | rfl | rfl
        · exact h2 _ (.inl rfl)
        · exact h2 _ (.inr hb)
        · exact Nat.ne_of_lt (Nat.lt_trans h1 l2)
        · exact Nat.ne_of_lt h1
      · intro q hq
        simp only [cled_append, List.mem_cons, List.mem_append, cled, List.not_mem_nil, or_false, htl] at hq ⊢
        rcases hq with rfl | hq | rfl | rfl <;> simp_all
      · intro q hq
        simp [htl, hq]
    case done =>
      rintro m₁ nx h tk ⟨cs, n, hm, hap, hc⟩ F N
      have F' : Fr g L' h _ := F
      have N' : News g L' h _ := N
      refine fr_cut _ F' hm fun u F4 => ?_
      clear F F' N F3 N3
      show wpAny _ _ _ _ _ _
      (try k_fold)
      k_steps
      all_goals (try dsimp only)
      rename Fr _ _ _ _ => F9
      rename News _ _ _ _ => N9
      rename (_ ∧ AllLt _ _) => l1
      rename_i x' dx' _ _ _ _ _ _ _ _ l2 _ _ h9
      obtain ⟨oc, hoc, N6⟩ : ∃ oc, BufD w.params fl 70 oc ∧ News g L' h9 ((x', instObj 103 dx') :: (dx', oc) :: (fl, listOf (crefs cs).toArray n) :: cled cs) := ⟨_, ⟨_, _, _, _, _, _, rfl⟩, N9⟩
      have hc' : Cells w.params cs rs := by
        rw [List.length_map, hlr, List.take_length] at hc; exact hc
      refine Out.ret _ F9 N6 (fun hZ tkZ kZ1 kZ2 kZ3 => ret _ _ _ _ _ cs hZ tkZ kZ1 kZ2 kZ3 ?_ hoc hc')
      have l4 := allLt_mem l1.2
      unfold Apart at hap ⊢
      simp only [List.map_cons, List.nodup_cons, List.mem_cons, not_or] at hap ⊢
      refine ⟨⟨Nat.ne_of_gt l2, Nat.ne_of_gt (Nat.lt_trans l1.1 l2), ?_⟩, ⟨Nat.ne_of_gt l1.1, ?_⟩, hap⟩
      · intro e
        obtain ⟨q, hq, e2⟩ := List.mem_map.mp e
        exact absurd (Nat.lt_trans (l4 q hq) l2) (by rw [e2]; exact Nat.lt_irrefl _)
      · intro e
        obtain ⟨q, hq, e2⟩ := List.mem_map.mp e
        exact absurd (l4 q hq) (by rw [e2]; exact Nat.lt_irrefl _)
end
end
section
section
/-- what the buffer's walk may change -/
noncomputable def Mut (dbuf : Addr) (ob : Obj) (R : Addr) (nR : Nat) (cs : List Cell) : List (Addr × Obj) := (dbuf, ob) :: (R, listOf (crefs cs).toArray nR) :: dled cs
structure Inv (w : World) (Fx : List (Addr × Obj)) (buf dbuf sc dsc : Addr) (ob osc : Obj) (R : Addr) (nR : Nat) (cs : List Cell) (rs : List Row) (sp bits : Int) : Prop where
  ap : Apart (Mut dbuf ob R nR cs)
  off : ∀ p ∈ Fx, ∀ q ∈ Mut dbuf ob R nR cs, p.1 ≠ q.1
  hin : ∀ c ∈ cs, (c.x, instObj 52 c.dx) ∈ Fx
  hbuf : (buf, instObj 103 dbuf) ∈ Fx
  hsc : (sc, instObj 267 dsc) ∈ Fx
  hdsc : (dsc, osc) ∈ Fx
  hS : SceneD w.params buf bits osc
  hB : BufD w.params R sp ob
  hC : Cells w.params cs rs
  hl : rs.length ≤ 900
  hs : Sorted rs
  hok : ∀ r ∈ rs, OkRow r
theorem mem_dledI {cs : List Cell} {p : Addr × Obj} : p ∈ dled cs ↔ ∃ c ∈ cs, p = (c.dx, c.o) := by
  unfold dled; rw [List.mem_map]; exact ⟨fun ⟨c, h, e⟩ => ⟨c, h, e.symm⟩, fun ⟨c, h, e⟩ => ⟨c, h, e.symm⟩⟩
theorem mut_ob {dbuf : Addr} {ob : Obj} {R : Addr} {nR : Nat} {cs : List Cell} : (dbuf, ob) ∈ Mut dbuf ob R nR cs := .head _
theorem mut_R {dbuf : Addr} {ob : Obj} {R : Addr} {nR : Nat} {cs : List Cell} : (R, listOf (crefs cs).toArray nR) ∈ Mut dbuf ob R nR cs := .tail _ (.head _)
theorem mut_d {dbuf : Addr} {ob : Obj} {R : Addr} {nR : Nat} {cs : List Cell} {p : Addr × Obj} (h : p ∈ dled cs) : p ∈ Mut dbuf ob R nR cs := .tail _ (.tail _ h)
theorem mut_iff {dbuf : Addr} {ob : Obj} {R : Addr} {nR : Nat} {cs : List Cell} {p : Addr × Obj} : p ∈ Mut dbuf ob R nR cs ↔ p = (dbuf, ob) ∨ p = (R, listOf (crefs cs).toArray nR) ∨ p ∈ dled cs := by
  unfold Mut; simp only [List.mem_cons]
theorem InfosN {P : Params} {news : List (Addr × Obj)} {g : Heap} : ∀ {cs : List Cell} {rs : List Row}, Cells P cs rs → (∀ c ∈ cs, g.get? c.x = some (instObj 52 c.dx)) → (∀ c ∈ cs, g.get? c.dx = some c.o) → InfosIn P g (crefs cs) rs
  | _, _, .nil, _, _ => .nil
  | _, _, .cons h r, h1, h2 => .cons ⟨_, _, _, rfl, h1 _ (.head _), h2 _ (.head _), h⟩ (InfosN (news := news) r (fun c hc => h1 c (.tail _ hc)) fun c hc => h2 c (.tail _ hc))
theorem Sorted.set_cl {rs : List Row} (hs : Sorted rs) {i : Nat} {r r' : Row} (h : rs[i]? = some r) (hc : r'.cl = r.cl) : Sorted (rs.set i r') := by
  have e : (rs.set i r').map Row.cl = rs.map Row.cl := by
    rw [List.map_set]
    obtain ⟨hi, rfl⟩ := List.getElem?_eq_some_iff.mp h
    refine List.ext_getElem (by simp) fun j h1 h2 => ?_
    rw [List.getElem_set]
    split
    · rename_i e; subst e; simp [hc]
    · rfl
  have s1 : ∀ l : List Row, Sorted l ↔ (l.map Row.cl).Pairwise (· ≤ ·) := fun l => (List.pairwise_map).symm
  rw [s1] at *
  rw [e]; exact hs
theorem Inv.site1 {w : World} {h₀ h : Heap} {L : Addr} {m : Str → Option Value} {ex Fx : List (Addr × Obj)} {buf dbuf sc dsc : Addr} {ob osc : Obj} {R : Addr} {nR : Nat} {cs : List Cell} {rs : List Row} {sp bits : Int} {i : Nat} {r : Row}
    (I : Inv w Fx buf dbuf sc dsc ob osc R nR cs rs sp bits) (F : Fr h₀ L h m) (N : News h₀ L h (ex ++ (Mut dbuf ob R nR cs ++ Fx))) (hex : ∀ p ∈ ex, ∀ q ∈ Mut dbuf ob R nR cs, p.1 ≠ q.1) (hi : rs[i]? = some r) :
    ∃ c g, cs[i]? = some c ∧ InfoD w.params r c.o ∧ h₀.StaysIn g ∧ g.StaysIn h ∧ g.objs.size ≤ h.objs.size ∧ LedIn g h [(c.dx, c.o)] ∧ (∀ p ∈ ex ++ Fx, g.get? p.1 = some p.2) ∧ g.get? dbuf = some ob ∧ g.get? R = some (listOf (crefs cs).toArray nR) ∧
      ∀ h' o' r', g.StaysIn h' → LedIn g h' [(c.dx, o')] → InfoD w.params r' o' → r'.cl = r.cl → OkRow r' →
        ∃ cs', Fr h₀ L h' m ∧ News h₀ L h' (Mut dbuf ob R nR cs' ++ Fx) ∧ Inv w Fx buf dbuf sc dsc ob osc R nR cs' (rs.set i r') sp bits := by
  obtain ⟨c, hc, hI⟩ := I.hC.get1 hi
  have hsp := split_at hc
  have hlt : i < cs.length := (List.getElem?_eq_some_iff.mp hc).1
  have hap := I.ap
  have edl : dled cs = dled (cs.take i) ++ (c.dx, c.o) :: dled (cs.drop (i + 1)) := by
    conv => lhs; rw [hsp]
    rw [dled_append]; rfl
  have hcm : (c.dx, c.o) ∈ dled cs := mem_dledI.mpr ⟨c, List.mem_of_getElem? hc, rfl⟩
  have hne : ∀ p ∈ (dbuf, ob) :: (R, listOf (crefs cs).toArray nR) :: (dled (cs.take i) ++ dled (cs.drop (i + 1))), p.1 ≠ c.dx := by
    unfold Mut at hap
    rw [edl] at hap
    have := (Apart.mid (a := (dbuf, ob) :: (R, listOf (crefs cs).toArray nR) :: dled (cs.take i)) (b := [(c.dx, c.o)]) hap).1
    intro p hp
    exact this p hp (c.dx, c.o) (.head _)
  obtain ⟨g, a1, a2, a3, a4, a5, a6⟩ := site (fp := [(c.dx, c.o)]) (rest := (dbuf, ob) :: (R, listOf (crefs cs).toArray nR) :: (dled (cs.take i) ++ dled (cs.drop (i + 1))) ++ (ex ++ Fx)) F N
    (fun p hp => by
      rw [List.mem_singleton.mp hp]
      exact List.mem_append_right _ (List.mem_append_left _ (mut_d hcm)))
    (fun p hp => by
      rcases List.mem_append.mp hp with hp | hp
      · refine List.mem_append_right _ (List.mem_append_left _ (mut_iff.mpr ?_))
        rw [edl]
        simp only [List.mem_cons, List.mem_append] at hp ⊢
        (repeat' (refine Or.elim hp ?_ ?_ <;> clear hp <;> intro hp)) <;> (first | solve_by_elim (maxDepth := 12) only [hp, Or.inl, Or.inr] | simp only [hp, true_or, or_true, eq_self])
      · rcases List.mem_append.mp hp with hp | hp
        · exact List.mem_append_left _ hp
        · exact List.mem_append_right _ (List.mem_append_right _ hp))
    (fun p hp q hq => by
      rw [List.mem_singleton.mp hq]
      rcases List.mem_append.mp hp with hp | hp
      · exact hne p hp
      · rcases List.mem_append.mp hp with hp | hp
        · exact hex p hp _ (mut_d hcm)
        · exact I.off p hp _ (mut_d hcm))
  refine ⟨c, g, hc, hI, a1, a2, a3, a4, fun p hp => a5 p (List.mem_append_right _ hp), a5 (dbuf, ob) (.head _), a5 (R, _) (.tail _ (.head _)), fun h' o' r' k1 k2 k3 k4 k5 => ?_⟩
  obtain ⟨F', N'⟩ := a6 h' _ k1 k2
  have hset : cs.set i ⟨c.x, c.dx, o'⟩ = cs.take i ++ ⟨c.x, c.dx, o'⟩ :: cs.drop (i + 1) := set_splitG hsp (by rw [List.length_take]; omega)
  have ecr : crefs (cs.set i ⟨c.x, c.dx, o'⟩) = crefs cs := crefs_set hc
  have edl' : dled (cs.set i ⟨c.x, c.dx, o'⟩) = dled (cs.take i) ++ (c.dx, o') :: dled (cs.drop (i + 1)) := by rw [hset, dled_append]; rfl
  have efst : (Mut dbuf ob R nR (cs.set i ⟨c.x, c.dx, o'⟩)).map (·.1) = (Mut dbuf ob R nR cs).map (·.1) := by
    unfold Mut; rw [edl, edl']; simp
  refine ⟨cs.set i ⟨c.x, c.dx, o'⟩, F', fun p hp => N' p ?_, ⟨Apart.congr efst.symm I.ap, ?_, ?_, I.hbuf, I.hsc, I.hdsc, I.hS, I.hB, ?_, ?_, I.hs.set_cl hi k4, ?_⟩⟩
  · rcases List.mem_append.mp hp with hp | hp
    · have hp := mut_iff.mp hp
      rw [edl', ecr] at hp
      simp only [List.mem_cons, List.mem_append, List.cons_append, List.nil_append] at hp ⊢
      (repeat' (refine Or.elim hp ?_ ?_ <;> clear hp <;> intro hp)) <;> (first | solve_by_elim (maxDepth := 12) only [hp, Or.inl, Or.inr] | simp only [hp, true_or, or_true, eq_self])
    · exact List.mem_append_right _ (List.mem_append_right _ (List.mem_append_right _ hp))
  · intro p hp q hq
    have : q.1 ∈ (Mut dbuf ob R nR cs).map (·.1) := efst ▸ List.mem_map_of_mem hq
    obtain ⟨q', hq', e⟩ := List.mem_map.mp this
    rw [← e]; exact I.off p hp q' hq'
  · intro c' hc'
    rcases List.mem_or_eq_of_mem_set hc' with h1 | rfl
    · exact I.hin c' h1
    · exact I.hin c (List.mem_of_getElem? hc)
  · refine All2.of_index (by have := I.hC.length; simp only [List.length_set]; exact this) fun k a b q1 q2 => ?_
    by_cases e : i = k
    · subst e
      rw [List.getElem?_set_self hlt] at q1
      rw [List.getElem?_set_self (List.getElem?_eq_some_iff.mp hi).1] at q2
      cases q1; cases q2
      exact k3
    · rw [List.getElem?_set_ne e] at q1 q2
      exact I.hC.get q1 q2
  · rw [List.length_set]; exact I.hl
  · intro r2 hr2
    rcases List.mem_or_eq_of_mem_set hr2 with h1 | rfl
    · exact I.hok r2 h1
    · exact k5
end
section
noncomputable abbrev IK (w : World) : PySem.KeyKind PySem.Challenge.rw_nu0223_01.row.prog w Int := PySem.intKind PySem.Challenge.rw_nu0223_01.row.prog w
noncomputable def afterRows (rs : List Row) (i : Nat) (r : Row) (sp : Int) (ps : List Int) : List Row := if ps = [] then takenRows rs i else rs.take i ++ madeRows r ps sp ++ rs.drop (i + 1)
noncomputable def spn (sp : Int) (ps : List Int) : Int := sp + (if 1 < ps.length then 1 else 0)
theorem set_self {rs : List Row} {i : Nat} {r : Row} (h : rs[i]? = some r) : rs.set i r = rs := by
  obtain ⟨hi, rfl⟩ := List.getElem?_eq_some_iff.mp h
  exact List.set_getElem_self hi
theorem after_one {rs : List Row} {i : Nat} {r : Row} {sp : Int} {ps : List Int} {n : Int} (h : rs[i]? = some r) (h1 : ps.length = 1) (hn : ps.getD 0 0 = n) : rs.set i { r with gl := n } = afterRows rs i r sp ps := by
  unfold afterRows madeRows
  rw [if_neg (by intro e; rw [e] at h1; simp at h1), if_pos h1, hn]
  have hlt : i < rs.length := (List.getElem?_eq_some_iff.mp h).1
  rw [set_splitG (split_at h) (by rw [List.length_take]; omega)]
  simp
theorem crefs_at {cs : List Cell} {c : Cell} {i : Nat} (h : cs[i]? = some c) : (crefs cs)[((i : Nat) : Int).toNat]? = some (.ref c.x) := by simp [crefs, h]
theorem mapI_of {w : World} {g : Heap} {M : Addr} {o : Obj} {kvs : List (Int × Value)} (h : g.get? M = some o) (d : o.IsDictOf (IK w) kvs) : MapI w g M (PySem.valueAt kvs) := (PySem.Heap.dictOf_iff.mpr ⟨o, h, d⟩).mapOf
section
variable {w : World} {A : Around} {h₀ : Heap} {L : Addr} {m : Str → Option Value} {s : Shared} {mean : ExcName → Option Value} {mg mb : Str → Option Value} {E : Value → Shared → Prop} {Q : Value → Shared → Prop}
  {Fx : List (Addr × Obj)} {buf dbuf sc dsc : Addr} {ob osc : Obj} {R : Addr} {nR : Nat} {cs : List Cell} {rs : List Row} {sp bits : Int} {i : Nat} {r : Row} {tb dtb M : Addr} {ot oM : Obj} {kM : List (Int × Value)} {t : Tok}
theorem apS_at (X : (Mine.hd.heap_1 w.params).In h₀) (T : Top Mine.vw (looseW Mine.vw []) mean mg mb h₀) (F : Fr h₀ L s.heap m) (N : News h₀ L s.heap ((tb, instObj 165 dtb) :: (dtb, ot) :: (Mut dbuf ob R nR cs ++ Fx)))
    (hA : A.handled = none) (hd : A.depth ≤ 800) (hu : A.units ≤ 8000) (I : Inv w Fx buf dbuf sc dsc ob osc R nR cs rs sp bits) (hT : TabD w.params M ot) (hex : ∀ p ∈ [(tb, instObj 165 dtb), (dtb, ot)], ∀ q ∈ Mut dbuf ob R nR cs, p.1 ≠ q.1)
    (hm : (M, oM) ∈ Fx) (dM : oM.IsDictOf (IK w) kM) (lo : (M == sysModules) = false) (hi : rs[i]? = some r) (hf : ∀ v, PySem.valueAt kM r.gl = some v → ∃ n tn, v = .int n tn)
    (k0 : PySem.valueAt kM r.gl = none → ∀ cs' h' tk' t', Fr h₀ L h' m → News h₀ L h' (Mut dbuf ob R nR cs' ++ Fx) → Inv w Fx buf dbuf sc dsc ob osc R nR cs' rs sp bits → Q (.int (-1) t') { s with heap := h', toks := tk' })
    (k1 : ∀ n tn, PySem.valueAt kM r.gl = some (.int n tn) → ∀ cs' h' tk' t', Fr h₀ L h' m → News h₀ L h' (Mut dbuf ob R nR cs' ++ Fx) → Inv w Fx buf dbuf sc dsc ob osc R nR cs' (afterRows rs i r sp [n]) sp bits → Q (.int (i + 1) t') { s with heap := h', toks := tk' }) :
    wpAny (model PySem.Challenge.rw_nu0223_01.row.prog w) A (call (.ref 228) [.ref sc, .ref tb, .int (i : Nat) t]) Q E s := by
  obtain ⟨c, g, hc, hI, a1, a2, a3, a4, a5, a6, a7, a8⟩ := I.site1 (ex := [(tb, instObj 165 dtb), (dtb, ot)]) F N hex hi
  have hfx : ∀ p ∈ Fx, g.get? p.1 = some p.2 := fun p hp => a5 p (List.mem_append_right _ hp)
  have hok := I.hok r (List.mem_of_getElem? hi)
  have hlt : i < rs.length := (List.getElem?_eq_some_iff.mp hi).1
  refine wp_le (single_spec ((gd X T).keeps a1) a2 a3 a4 hI (hfx _ I.hsc) (hfx _ I.hdsc) I.hS (hfx _ I.hbuf) a6 I.hB a7 (crefs_at hc) (by have := I.hl; omega) (hfx _ (I.hin c (List.mem_of_getElem? hc))) (a5 (tb, _) (.head _)) (a5 (dtb, _) (.tail _ (.head _))) hT (mapI_of (hfx _ hm) dM) lo hf ?_ ?_) hA hd hu rfl rfl
  · intro hv o' h' tk' t' b1 b2 b3 b4
    obtain ⟨cs', F', N', I'⟩ := a8 h' o' r b1 b3 b4 rfl hok
    rw [set_self hi] at I'
    exact k0 hv cs' h' tk' t' F' N' I'
  · intro n tn hv o' h' tk' t' b1 b2 b3 b4
    obtain ⟨cs', F', N', I'⟩ := a8 h' o' _ b1 b3 b4 rfl hok
    rw [after_one (n := n) (sp := sp) (ps := [n]) hi rfl rfl] at I'
    exact k1 n tn hv cs' h' tk' t' F' N' I'
theorem apA_at {ps : List Int} {wd sh : Nat} (X : (Mine.hd.heap_1 w.params).In h₀) (T : Top Mine.vw (looseW Mine.vw []) mean mg mb h₀) (F : Fr h₀ L s.heap m) (N : News h₀ L s.heap ((tb, instObj 217 dtb) :: (dtb, ot) :: (Mut dbuf ob R nR cs ++ Fx)))
    (hA : A.handled = none) (hd : A.depth ≤ 800) (hu : A.units ≤ 8000) (I : Inv w Fx buf dbuf sc dsc ob osc R nR cs rs sp bits) (hT : TabD w.params M ot) (hex : ∀ p ∈ [(tb, instObj 217 dtb), (dtb, ot)], ∀ q ∈ Mut dbuf ob R nR cs, p.1 ≠ q.1)
    (hm : (M, oM) ∈ Fx) (dM : oM.IsDictOf (IK w) kM) (lo : (M == sysModules) = false) (hi : rs[i]? = some r)
    (hf : (PySem.valueAt kM r.gl = none ∧ ps = []) ∨ ∃ tp us n, PySem.valueAt kM r.gl = some (.ref tp) ∧ (tp, tupOf (List.toArray us) n) ∈ Fx ∧ IntsAre us ps) (hz : ps.length ≤ 1000)
    (hw : wd < 3) (hs : sh < 4) (hb : bits = (2 ^ wd - 1) * 2 ^ sh)
    (k0 : choose ps ((r.ma.fdiv (2 ^ sh)).fmod (2 ^ wd)) = none → ∀ cs' h' tk' t', Fr h₀ L h' m → News h₀ L h' (Mut dbuf ob R nR cs' ++ Fx) → Inv w Fx buf dbuf sc dsc ob osc R nR cs' rs sp bits → Q (.int (-1) t') { s with heap := h', toks := tk' })
    (k1 : ∀ n, choose ps ((r.ma.fdiv (2 ^ sh)).fmod (2 ^ wd)) = some n → ∀ cs' h' tk' t', Fr h₀ L h' m → News h₀ L h' (Mut dbuf ob R nR cs' ++ Fx) → Inv w Fx buf dbuf sc dsc ob osc R nR cs' (afterRows rs i r sp [n]) sp bits → Q (.int (i + 1) t') { s with heap := h', toks := tk' }) :
    wpAny (model PySem.Challenge.rw_nu0223_01.row.prog w) A (call (.ref 249) [.ref sc, .ref tb, .int (i : Nat) t]) Q E s := by
  obtain ⟨c, g, hc, hI, a1, a2, a3, a4, a5, a6, a7, a8⟩ := I.site1 (ex := [(tb, instObj 217 dtb), (dtb, ot)]) F N hex hi
  have hfx : ∀ p ∈ Fx, g.get? p.1 = some p.2 := fun p hp => a5 p (List.mem_append_right _ hp)
  have hok := I.hok r (List.mem_of_getElem? hi)
  have hlt : i < rs.length := (List.getElem?_eq_some_iff.mp hi).1
  refine wp_le (alternate_spec ((gd X T).keeps a1) a2 a3 a4 hI (hfx _ I.hsc) (hfx _ I.hdsc) I.hS (hfx _ I.hbuf) a6 I.hB a7 (crefs_at hc) (by have := I.hl; omega) (hfx _ (I.hin c (List.mem_of_getElem? hc))) (a5 (tb, _) (.head _)) (a5 (dtb, _) (.tail _ (.head _))) hT (mapI_of (hfx _ hm) dM) lo ?_ hz hw hs hb hok.1 hok.2 ?_ ?_) hA hd hu rfl rfl
  · rcases hf with h | ⟨tp, us, n, h1, h2, h3⟩
    · exact .inl h
    · exact .inr ⟨tp, us, h1, tupX (hfx _ h2), h3⟩
  · intro hv o' h' tk' t' b1 b2 b3 b4
    obtain ⟨cs', F', N', I'⟩ := a8 h' o' r b1 b3 b4 rfl hok
    rw [set_self hi] at I'
    exact k0 hv cs' h' tk' t' F' N' I'
  · intro n hv o' h' tk' t' b1 b2 b3 b4
    obtain ⟨cs', F', N', I'⟩ := a8 h' o' _ b1 b3 b4 rfl hok
    rw [after_one (n := n) (sp := sp) (ps := [n]) hi rfl rfl] at I'
    exact k1 n hv cs' h' tk' t' F' N' I'
theorem apO_at (X : (Mine.hd.heap_1 w.params).In h₀) (T : Top Mine.vw (looseW Mine.vw []) mean mg mb h₀) (F : Fr h₀ L s.heap m) (N : News h₀ L s.heap ((tb, instObj 191 dtb) :: (dtb, ot) :: (Mut dbuf ob R nR cs ++ Fx)))
    (hA : A.handled = none) (hd : A.depth ≤ 800) (hu : A.units ≤ 8000) (I : Inv w Fx buf dbuf sc dsc ob osc R nR cs rs sp bits) (hT : TabD w.params M ot) (hex : ∀ p ∈ [(tb, instObj 191 dtb), (dtb, ot)], ∀ q ∈ Mut dbuf ob R nR cs, p.1 ≠ q.1)
    (hm : (M, oM) ∈ Fx) (dM : oM.IsDictOf (IK w) kM) (lo : (M == sysModules) = false) (hi : rs[i]? = some r)
    (hf : PySem.valueAt kM r.gl = none ∨ ∃ tp us n ps, PySem.valueAt kM r.gl = some (.ref tp) ∧ (tp, tupOf (List.toArray us) n) ∈ Fx ∧ IntsAre us ps ∧ ps.length = 1)
    (k0 : PySem.valueAt kM r.gl = none → ∀ cs' h' tk' t', Fr h₀ L h' m → News h₀ L h' (Mut dbuf ob R nR cs' ++ Fx) → Inv w Fx buf dbuf sc dsc ob osc R nR cs' rs sp bits → Q (.int (-1) t') { s with heap := h', toks := tk' })
    (k1 : ∀ tp us n ps, PySem.valueAt kM r.gl = some (.ref tp) → (tp, tupOf (List.toArray us) n) ∈ Fx → IntsAre us ps → ps.length = 1 → ∀ cs' h' tk' t', Fr h₀ L h' m → News h₀ L h' (Mut dbuf ob R nR cs' ++ Fx) → Inv w Fx buf dbuf sc dsc ob osc R nR cs' (afterRows rs i r sp ps) sp bits → Q (.int (i + 1) t') { s with heap := h', toks := tk' }) :
    wpAny (model PySem.Challenge.rw_nu0223_01.row.prog w) A (call (.ref 235) [.ref sc, .ref tb, .int (i : Nat) t]) Q E s := by
  obtain ⟨c, g, hc, hI, a1, a2, a3, a4, a5, a6, a7, a8⟩ := I.site1 (ex := [(tb, instObj 191 dtb), (dtb, ot)]) F N hex hi
  have hfx : ∀ p ∈ Fx, g.get? p.1 = some p.2 := fun p hp => a5 p (List.mem_append_right _ hp)
  have hok := I.hok r (List.mem_of_getElem? hi)
  have hlt : i < rs.length := (List.getElem?_eq_some_iff.mp hi).1
  refine wp_le (one_spec ((gd X T).keeps a1) a2 a3 a4 hI (hfx _ I.hsc) (hfx _ I.hdsc) I.hS (hfx _ I.hbuf) a6 I.hB a7 (crefs_at hc) (by have := I.hl; omega) (hfx _ (I.hin c (List.mem_of_getElem? hc))) (a5 (tb, _) (.head _)) (a5 (dtb, _) (.tail _ (.head _))) hT (mapI_of (hfx _ hm) dM) lo ?_ ?_ ?_) hA hd hu rfl rfl
  · rcases hf with h | ⟨tp, us, n, ps, h1, h2, h3, h4⟩
    · exact .inl h
    · exact .inr ⟨tp, us, ps, h1, tupX (hfx _ h2), h3, h4⟩
  · intro hv o' h' tk' t' b1 b2 b3 b4
    obtain ⟨cs', F', N', I'⟩ := a8 h' o' r b1 b3 b4 rfl hok
    rw [set_self hi] at I'
    exact k0 hv cs' h' tk' t' F' N' I'
  · intro tp us ps hv b0 b5 b6 o' h' tk' t' b1 b2 b3 b4
    obtain ⟨cs', F', N', I'⟩ := a8 h' o' _ b1 b3 b4 rfl hok
    rw [after_one (sp := sp) (ps := ps) hi b6 rfl] at I'
    rcases hf with h | ⟨tp2, us2, n2, ps2, h1, h2, h3, h4⟩
    · rw [h] at hv; cases hv
    · rw [h1] at hv; cases hv
      obtain ⟨o1, e1, e2, k, e3⟩ := b0
      have e4 := hfx _ h2
      dsimp only at e4
      rw [e4] at e1; cases e1
      cases e3
      exact k1 _ _ _ _ h1 h2 b5 b6 cs' h' tk' t' F' N' I'
end
end
section
theorem mem_cledI {cs : List Cell} {p : Addr × Obj} : p ∈ cled cs ↔ ∃ c ∈ cs, p = (c.x, instObj 52 c.dx) ∨ p = (c.dx, c.o) := by
  induction cs with
  | nil => simp [cled]
  | cons c r ih => simp only [cled, List.mem_cons, ih]; grind
noncomputable def iled (cs : List Cell) : List (Addr × Obj) := cs.map fun c => (c.x, instObj 52 c.dx)
theorem mem_iled {cs : List Cell} {p : Addr × Obj} : p ∈ iled cs ↔ ∃ c ∈ cs, p = (c.x, instObj 52 c.dx) := by
  unfold iled; rw [List.mem_map]; exact ⟨fun ⟨c, h, e⟩ => ⟨c, h, e.symm⟩, fun ⟨c, h, e⟩ => ⟨c, h, e.symm⟩⟩
theorem cled_apart {ms : List Cell} (h : Apart (cled ms)) : (∀ c ∈ ms, ∀ c' ∈ ms, @Ne Nat c.x c'.dx) ∧ Apart (dled ms) := by
  induction ms with
  | nil => exact ⟨fun _ h => (nomatch h), by simp [Apart, dled]⟩
  | cons c r ih =>
    unfold Apart at h
    simp only [cled, List.map_cons, List.nodup_cons, List.mem_cons, List.mem_map, not_or, not_exists, not_and] at h
    obtain ⟨⟨h1, h2⟩, h3, h4⟩ := h
    obtain ⟨i1, i2⟩ := ih h4
    refine ⟨?_, ?_⟩
    · intro a ha b hb
      rcases List.mem_cons.mp ha with e1 | ha <;> rcases List.mem_cons.mp hb with e2 | hb
      · rw [e1, e2]; exact h1
      · rw [e1]; exact fun e => h2 (b.dx, b.o) (mem_cledI.mpr ⟨b, hb, .inr rfl⟩) e.symm
      · rw [e2]; exact fun e => h3 (a.x, instObj 52 a.dx) (mem_cledI.mpr ⟨a, ha, .inl rfl⟩) e
      · exact i1 a ha b hb
    · show ((dled (c :: r)).map (·.1)).Nodup
      simp only [dled, List.map_cons, List.nodup_cons, List.mem_map, not_exists, not_and]
      refine ⟨?_, i2⟩
      rintro p ⟨q, hq, rfl⟩ e
      exact h3 (q.dx, q.o) (mem_cledI.mpr ⟨q, hq, .inr rfl⟩) e
theorem Apart.sub {a b : List (Addr × Obj)} (h : Apart b) (s : a.Sublist b) : Apart a := List.Nodup.sublist (s.map _) h
theorem Apart.perm {a b : List (Addr × Obj)} (h : Apart b) (s : a.Perm b) : Apart a := (s.map _).nodup_iff.mpr h
theorem crefs_append (a b : List Cell) : crefs (a ++ b) = crefs a ++ crefs b := by simp [crefs]
theorem slice_crefs {cs made : List Cell} {i : Nat} : sliceSet (crefs cs) (crefs made) i (i + 1) = crefs (cs.take i ++ made ++ cs.drop (i + 1)) := by
  unfold sliceSet
  rw [Nat.max_eq_right (Nat.le_succ i), crefs_append, crefs_append]
  simp [crefs, List.map_take, List.map_drop]
theorem pieceRows_mem {r q : Row} {ps : List Int} {sp : Int} (h : q ∈ pieceRows r ps sp) : q.cl = r.cl ∧ q.ma = r.ma := by
  unfold pieceRows at h
  obtain ⟨z, _, rfl⟩ := List.mem_map.mp h
  exact ⟨rfl, rfl⟩
theorem sorted_mid {rs mid : List Row} {i : Nat} {r : Row} (hs : Sorted rs) (hi : rs[i]? = some r) (hm : ∀ q ∈ mid, q.cl = r.cl) : Sorted (rs.take i ++ mid ++ rs.drop (i + 1)) := by
  have hsp := split_at hi
  unfold Sorted at *
  rw [hsp] at hs
  obtain ⟨h1, h2, h3⟩ := List.pairwise_append.mp hs
  obtain ⟨h4, h5⟩ := List.pairwise_cons.mp h2
  rw [List.append_assoc]
  refine List.pairwise_append.mpr ⟨h1, List.pairwise_append.mpr ⟨?_, h5, ?_⟩, ?_⟩
  · refine List.pairwise_iff_getElem.mpr fun a b ha hb _ => ?_
    rw [hm _ (List.getElem_mem ha), hm _ (List.getElem_mem hb)]; exact Int.le_refl _
  · intro a ha b hb; rw [hm a ha]; exact h4 b hb
  · intro a ha b hb
    rcases List.mem_append.mp hb with hb | hb
    · rw [hm b hb]; exact h3 a ha r (.head _)
    · exact h3 a ha b (.tail _ hb)
theorem sorted_merged {rs : List Row} (hs : Sorted rs) : Sorted (mergedRows rs) := by
  unfold mergedRows Sorted
  rw [List.pairwise_map]
  refine List.pairwise_iff_getElem.mpr fun i j hi hj hij => ?_
  have h0 : 0 < rs.length := by omega
  have h1 : 1 < rs.length := by omega
  have e0 : clAt rs 0 = rs[0].cl := clAt_of (List.getElem?_eq_getElem h0)
  have e1 : clAt rs 1 = rs[1].cl := clAt_of (List.getElem?_eq_getElem h1)
  have s01 := sorted_cl hs (a := 0) (b := 1) (by omega) h1
  have ei : clAt rs i = rs[i].cl := clAt_of (List.getElem?_eq_getElem hi)
  have ej : clAt rs j = rs[j].cl := clAt_of (List.getElem?_eq_getElem hj)
  have sij := sorted_cl hs hij hj
  have hk : i = 0 ∨ clAt rs 1 ≤ clAt rs i := by
    rcases Nat.lt_trichotomy i 1 with h | h | h
    · left; omega
    · right; subst h; exact Int.le_refl _
    · right; exact sorted_cl hs h hi
  rw [← ei, ← ej]
  split <;> split <;> (try dsimp only)
  · exact Int.le_refl _
  · rename_i a b; rw [← ej]; omega
  · rename_i a b; rw [← ei]
    rcases hk with rfl | hk
    · exact Int.le_refl _
    · omega
  · rw [← ei, ← ej]; exact sij
theorem sorted_taken {rs : List Row} {i : Nat} (hs : Sorted rs) : Sorted (takenRows rs i) := by
  have h1 : Sorted (dropRows rs i) := by
    unfold dropRows
    split
    · exact sorted_merged hs
    · exact hs
  unfold takenRows Sorted
  refine List.Pairwise.sublist ?_ h1
  conv => rhs; rw [← List.take_append_drop i (dropRows rs i)]
  refine List.Sublist.append (List.Sublist.refl _) ?_
  rw [show List.drop (i + 1) (dropRows rs i) = List.drop 1 (List.drop i (dropRows rs i)) by rw [List.drop_drop]]
  exact List.drop_sublist _ _
theorem ok_taken {rs : List Row} {i : Nat} (h : ∀ r ∈ rs, OkRow r) : ∀ r ∈ takenRows rs i, OkRow r := by
  have h1 : ∀ r ∈ dropRows rs i, OkRow r := by
    unfold dropRows
    split
    · intro r hr
      obtain ⟨q, hq, rfl⟩ := List.mem_map.mp hr
      have := h q hq
      split <;> exact this
    · exact h
  intro r hr
  unfold takenRows at hr
  rcases List.mem_append.mp hr with hr | hr
  · exact h1 r (List.mem_of_mem_take hr)
  · exact h1 r (List.mem_of_mem_drop hr)
theorem dropRows_length {rs : List Row} {i : Nat} : (dropRows rs i).length = rs.length := by
  unfold dropRows mergedRows; split <;> simp
theorem taken_length {rs : List Row} {i : Nat} (hi : i < rs.length) : (takenRows rs i).length + 1 = rs.length := by
  unfold takenRows
  rw [List.length_append, List.length_take, List.length_drop, dropRows_length]
  omega
section
variable {w : World} {A : Around} {h₀ : Heap} {L : Addr} {m : Str → Option Value} {s : Shared} {mean : ExcName → Option Value} {mg mb : Str → Option Value} {E : Value → Shared → Prop} {Q : Value → Shared → Prop}
  {Fx : List (Addr × Obj)} {buf dbuf sc dsc : Addr} {ob osc : Obj} {R : Addr} {nR : Nat} {cs : List Cell} {rs : List Row} {sp bits : Int} {i : Nat} {r : Row} {tb dtb M : Addr} {ot oM : Obj} {kM : List (Int × Value)} {t : Tok}
  {tp : Addr} {us : List Value} {nt : Nat} {ps : List Int}
theorem apP_at (X : (Mine.hd.heap_1 w.params).In h₀) (T : Top Mine.vw (looseW Mine.vw []) mean mg mb h₀) (F : Fr h₀ L s.heap m) (N : News h₀ L s.heap ((tb, instObj 191 dtb) :: (dtb, ot) :: (Mut dbuf ob R nR cs ++ Fx)))
    (hA : A.handled = none) (hd : A.depth ≤ 800) (hu : A.units ≤ 8000) (I : Inv w Fx buf dbuf sc dsc ob osc R nR cs rs sp bits) (hT : TabD w.params M ot) (hex : ∀ p ∈ [(tb, instObj 191 dtb), (dtb, ot)], ∀ q ∈ Mut dbuf ob R nR cs, p.1 ≠ q.1)
    (hm : (M, oM) ∈ Fx) (dM : oM.IsDictOf (IK w) kM) (lo : (M == sysModules) = false) (hi : rs[i]? = some r)
    (hv : PySem.valueAt kM r.gl = some (.ref tp)) (htp : (tp, tupOf (List.toArray us) nt) ∈ Fx) (hus : IntsAre us ps) (hps : 2 ≤ ps.length) (hps3 : ps.length ≤ 1000) (hl9 : rs.length + ps.length ≤ 900)
    (k1 : ∀ more ob' nR' cs' h' tk' t', Fr h₀ L h' m → News h₀ L h' (Mut dbuf ob' R nR' cs' ++ (Fx ++ more)) → Inv w (Fx ++ more) buf dbuf sc dsc ob' osc R nR' cs' (afterRows rs i r (sp + 1) ps) (sp + 1) bits → Q (.int (i + ps.length) t') { s with heap := h', toks := tk' }) :
    wpAny (model PySem.Challenge.rw_nu0223_01.row.prog w) A (call (.ref 235) [.ref sc, .ref tb, .int (i : Nat) t]) Q E s := by
  obtain ⟨c, hc, hI⟩ := I.hC.get1 hi
  have hlt : i < rs.length := (List.getElem?_eq_some_iff.mp hi).1
  have hlc : cs.length = rs.length := I.hC.length
  have hsp := split_at hc
  have hok := I.hok r (List.mem_of_getElem? hi)
  have hap := I.ap
  have edl : dled cs = dled (cs.take i) ++ (c.dx, c.o) :: dled (cs.drop (i + 1)) := by
    conv => lhs; rw [hsp]
    rw [dled_append]; rfl
  have hcm : (c.dx, c.o) ∈ dled cs := mem_dledI.mpr ⟨c, List.mem_of_getElem? hc, rfl⟩
  unfold Mut at hap
  rw [edl] at hap
  obtain ⟨Y, hY⟩ : ∃ Y, Y = dled (cs.take i) ++ dled (cs.drop (i + 1)) := ⟨_, rfl⟩
  have hYm : ∀ p ∈ Y, p ∈ dled cs := by
    intro p hp; rw [hY] at hp; rw [edl]
    simp only [List.mem_append, List.mem_cons] at hp ⊢
    (repeat' (refine Or.elim hp ?_ ?_ <;> clear hp <;> intro hp)) <;> (first | solve_by_elim (maxDepth := 12) only [hp, Or.inl, Or.inr] | simp only [hp, true_or, or_true, eq_self])
  have hap2 : Apart ((dbuf, ob) :: (R, listOf (crefs cs).toArray nR) :: (c.dx, c.o) :: Y) := by
    refine hap.perm ?_
    rw [hY]
    exact ((List.perm_middle (a := (c.dx, c.o)) (l₁ := dled (cs.take i)) (l₂ := dled (cs.drop (i + 1)))).symm.cons _).cons _
  have hap3 := Apart.two (a := [(dbuf, ob), (R, listOf (crefs cs).toArray nR), (c.dx, c.o)]) (b := Y) hap2
  obtain ⟨n1, n2, n3⟩ := hap3
  have n1' : @Ne Nat dbuf R ∧ @Ne Nat dbuf c.dx ∧ @Ne Nat R c.dx := by
    unfold Apart at n1; simp at n1; exact ⟨n1.1.1, n1.1.2, n1.2⟩
  obtain ⟨g, a1, a2, a3, a4, a5, a6⟩ := site (fp := [(dbuf, ob), (R, listOf (crefs cs).toArray nR), (c.dx, c.o)]) (rest := Y ++ ([(tb, instObj 191 dtb), (dtb, ot)] ++ Fx)) F N
    (fun p hp => by
      refine .tail _ (.tail _ (List.mem_append_left _ (mut_iff.mpr ?_)))
      simp only [List.mem_cons, List.not_mem_nil, or_false] at hp
      rcases hp with rfl | rfl | rfl
      · exact .inl rfl
      · exact .inr (.inl rfl)
      · exact .inr (.inr hcm))
    (fun p hp => by
      rcases List.mem_append.mp hp with hp | hp
      · exact .tail _ (.tail _ (List.mem_append_left _ (mut_d (hYm p hp))))
      · rcases List.mem_append.mp hp with hp | hp
        · simp only [List.mem_cons, List.not_mem_nil, or_false] at hp
          rcases hp with rfl | rfl
          · exact .head _
          · exact .tail _ (.head _)
        · exact .tail _ (.tail _ (List.mem_append_right _ hp)))
    (fun p hp q hq => by
      have hqm : q ∈ Mut dbuf ob R nR cs := by
        simp only [List.mem_cons, List.not_mem_nil, or_false] at hq
        rcases hq with rfl | rfl | rfl
        · exact mut_ob
        · exact mut_R
        · exact mut_d hcm
      rcases List.mem_append.mp hp with hp | hp
      · exact (n3 q hq p hp).symm
      · rcases List.mem_append.mp hp with hp | hp
        · exact hex p hp q hqm
        · exact I.off p hp q hqm)
  have hfx : ∀ p ∈ Fx, g.get? p.1 = some p.2 := fun p hp => a5 p (List.mem_append_right _ (List.mem_append_right _ hp))
  have hxx : ∀ p ∈ [(tb, instObj 191 dtb), (dtb, ot)], g.get? p.1 = some p.2 := fun p hp => a5 p (List.mem_append_right _ (List.mem_append_left _ hp))
  refine wp_le (multi_spec ((gd X T).keeps a1) a2 a3 a4 n1'.2.2 n1'.1 n1'.2.1 hI (hfx _ I.hsc) (hfx _ I.hdsc) I.hS (hfx _ I.hbuf) I.hB (crefs_at hc) (by simp [crefs]; omega) (hfx _ (I.hin c (List.mem_of_getElem? hc))) (hxx (tb, _) (.head _)) (hxx (dtb, _) (.tail _ (.head _))) hT (mapI_of (hfx _ hm) dM) lo hv (hfx _ htp) hus hps hps3 ?_) hA hd hu rfl rfl
  intro made n' o' ob' h' tk' t' b1 b2 b3 b4 b5 b6
  obtain ⟨F', N'⟩ := a6 h' _ b1 b3
  rw [slice_crefs] at b3 b4 N'
  obtain ⟨X', hX'⟩ : ∃ X', X' = (dbuf, ob') :: (R, listOf (crefs (cs.take i ++ made ++ cs.drop (i + 1))).toArray n') :: dled made := ⟨_, rfl⟩
  have d1 : (dled made).Sublist (cled made) := by
    clear b3 b4 N' b6 hX'
    induction made with
    | nil => exact List.Sublist.refl _
    | cons a r ih => exact (ih.cons_cons _).cons _
  have apX : Apart X' := by
    rw [hX']
    exact b4.sub (((d1.cons _).cons_cons _).cons_cons _)
  have hXn : ∀ p ∈ X', g.get? p.1 = none := by
    intro p hp
    rw [hX'] at hp
    refine (b3 p ?_).2
    simp only [List.mem_cons] at hp ⊢
    rcases hp with hp | hp | hp
    · exact .inl hp
    · exact .inr (.inl hp)
    · exact .inr (.inr (.inr (d1.subset hp)))
  have hYs : ∀ p ∈ Y, g.get? p.1 = some p.2 := fun p hp => a5 p (List.mem_append_left _ hp)
  have hXY : ∀ p ∈ X', ∀ q ∈ Y, p.1 ≠ q.1 := by
    intro p hp q hq e
    have h1 := hXn p hp
    have h2 := hYs q hq
    rw [← e, h1] at h2; cases h2
  have emut : (Mut dbuf ob' R n' (cs.take i ++ made ++ cs.drop (i + 1))).Perm (X' ++ Y) := by
    unfold Mut
    rw [hX', hY, dled_append, dled_append]
    refine (List.Perm.cons _ (List.Perm.cons _ ?_))
    rw [List.append_assoc]
    exact List.perm_append_comm_assoc _ _ _
  have d2 : Apart (cled made) := b4.sub (((List.sublist_cons_self _ _).trans (List.sublist_cons_self _ _)).trans (List.sublist_cons_self _ _))
  obtain ⟨d3, _⟩ := cled_apart d2
  have hMn : ∀ p ∈ iled made, g.get? p.1 = none := by
    intro p hp
    obtain ⟨c2, hc2, rfl⟩ := mem_iled.mp hp
    exact (b3 _ (.tail _ (.tail _ (.tail _ (mem_cledI.mpr ⟨c2, hc2, .inl rfl⟩))))).2
  have hMX : ∀ p ∈ iled made, ∀ q ∈ X', p.1 ≠ q.1 := by
    intro p hp q hq
    obtain ⟨c2, hc2, rfl⟩ := mem_iled.mp hp
    rw [hX'] at hq
    have b5' := b4
    unfold Apart at b5'
    simp only [List.map_cons, List.nodup_cons, List.mem_cons, List.mem_map, not_or, not_exists, not_and] at b5'
    rcases List.mem_cons.mp hq with rfl | hq
    · exact fun e => b5'.1.2.2 (c2.x, instObj 52 c2.dx) (mem_cledI.mpr ⟨c2, hc2, .inl rfl⟩) e
    · rcases List.mem_cons.mp hq with rfl | hq
      · exact fun e => b5'.2.1.2 (c2.x, instObj 52 c2.dx) (mem_cledI.mpr ⟨c2, hc2, .inl rfl⟩) e
      · obtain ⟨c3, hc3, rfl⟩ := mem_dledI.mp hq
        exact d3 c2 hc2 c3 hc3
  have hrw : afterRows rs i r (sp + 1) ps = rs.take i ++ pieceRows r ps (sp + 1) ++ rs.drop (i + 1) := by
    unfold afterRows madeRows
    rw [if_neg (by intro e; rw [e] at hps; simp at hps), if_neg (by omega)]
  refine k1 (iled made) ob' n' (cs.take i ++ made ++ cs.drop (i + 1)) h' tk' t' F' (fun p hp => N' p ?_) ⟨?_, ?_, ?_, List.mem_append_left _ I.hbuf, List.mem_append_left _ I.hsc, List.mem_append_left _ I.hdsc, I.hS, b5, ?_, ?_, ?_, ?_⟩
  · rcases List.mem_append.mp hp with hp | hp
    · have hp := emut.mem_iff.mp hp
      rcases List.mem_append.mp hp with hp | hp
      · refine List.mem_append_left _ ?_
        rw [hX'] at hp
        simp only [List.mem_cons] at hp ⊢
        rcases hp with hp | hp | hp
        · exact .inl hp
        · exact .inr (.inl hp)
        · exact .inr (.inr (.inr (d1.subset hp)))
      · exact List.mem_append_right _ (List.mem_append_left _ hp)
    · rcases List.mem_append.mp hp with hp | hp
      · exact List.mem_append_right _ (List.mem_append_right _ (List.mem_append_right _ hp))
      · obtain ⟨c2, hc2, rfl⟩ := mem_iled.mp hp
        exact List.mem_append_left _ (.tail _ (.tail _ (.tail _ (mem_cledI.mpr ⟨c2, hc2, .inl rfl⟩))))
  · exact (Apart.of_two apX n2 hXY).perm emut
  · intro p hp q hq
    have hq := emut.mem_iff.mp hq
    rcases List.mem_append.mp hp with hp | hp <;> rcases List.mem_append.mp hq with hq | hq
    · intro e
      have h1 := hXn q hq
      have h2 := hfx p hp
      rw [e, h1] at h2; cases h2
    · exact I.off p hp q (mut_d (hYm q hq))
    · exact hMX p hp q hq
    · intro e
      have h1 := hMn p hp
      have h2 := hYs q hq
      rw [← e, h1] at h2; cases h2
  · intro c2 hc2
    rcases List.mem_append.mp hc2 with hc2 | hc2
    · rcases List.mem_append.mp hc2 with hc2 | hc2
      · exact List.mem_append_left _ (I.hin c2 (List.mem_of_mem_take hc2))
      · exact List.mem_append_right _ (mem_iled.mpr ⟨c2, hc2, rfl⟩)
    · exact List.mem_append_left _ (I.hin c2 (List.mem_of_mem_drop hc2))
  · rw [hrw]
    exact ((I.hC.take i).append b6).append (I.hC.drop (i + 1))
  · rw [hrw]
    simp only [List.length_append, List.length_take, List.length_drop, pieceRows, List.length_map, List.length_zipIdx]
    omega
  · rw [hrw]
    exact sorted_mid I.hs hi fun q hq => (pieceRows_mem hq).1
  · rw [hrw]
    intro q hq
    rcases List.mem_append.mp hq with hq | hq
    · rcases List.mem_append.mp hq with hq | hq
      · exact I.hok q (List.mem_of_mem_take hq)
      · have := (pieceRows_mem hq).2
        unfold OkRow at hok ⊢
        rw [this]; exact hok
    · exact I.hok q (List.mem_of_mem_drop hq)
theorem apN_at (X : (Mine.hd.heap_1 w.params).In h₀) (T : Top Mine.vw (looseW Mine.vw []) mean mg mb h₀) (F : Fr h₀ L s.heap m) (N : News h₀ L s.heap ((tb, instObj 191 dtb) :: (dtb, ot) :: (Mut dbuf ob R nR cs ++ Fx)))
    (hA : A.handled = none) (hd : A.depth ≤ 800) (hu : A.units ≤ 8000) (I : Inv w Fx buf dbuf sc dsc ob osc R nR cs rs sp bits) (hT : TabD w.params M ot) (hex : ∀ p ∈ [(tb, instObj 191 dtb), (dtb, ot)], ∀ q ∈ Mut dbuf ob R nR cs, p.1 ≠ q.1)
    (hm : (M, oM) ∈ Fx) (dM : oM.IsDictOf (IK w) kM) (lo : (M == sysModules) = false) (hi : rs[i]? = some r)
    (hv : PySem.valueAt kM r.gl = some (.ref tp)) (htp : (tp, tupOf #[] nt) ∈ Fx)
    (k1 : ∀ nR' cs' h' tk' t', Fr h₀ L h' m → News h₀ L h' (Mut dbuf ob R nR' cs' ++ Fx) → Inv w Fx buf dbuf sc dsc ob osc R nR' cs' (afterRows rs i r sp []) sp bits → Q (.int (i : Nat) t') { s with heap := h', toks := tk' }) :
    wpAny (model PySem.Challenge.rw_nu0223_01.row.prog w) A (call (.ref 235) [.ref sc, .ref tb, .int (i : Nat) t]) Q E s := by
  have hlt : i < rs.length := (List.getElem?_eq_some_iff.mp hi).1
  have hap : Apart ([(dbuf, ob)] ++ ((R, listOf (crefs cs).toArray nR) :: dled cs)) := I.ap
  obtain ⟨_, n2, n3⟩ := hap.two
  have n4 : Apart (dled cs) := n2.sub (List.sublist_cons_self _ _)
  have n5 : ∀ p ∈ dled cs, p.1 ≠ R := by
    unfold Apart at n2
    simp only [List.map_cons, List.nodup_cons, List.mem_map, not_exists, not_and] at n2
    exact fun p hp => n2.1 p hp
  obtain ⟨g, a1, a2, a3, a4, a5, a6⟩ := site (fp := (R, listOf (crefs cs).toArray nR) :: dled cs) (rest := [(dbuf, ob)] ++ ([(tb, instObj 191 dtb), (dtb, ot)] ++ Fx)) F N
    (fun p hp => .tail _ (.tail _ (List.mem_append_left _ (.tail _ hp))))
    (fun p hp => by
      rcases List.mem_append.mp hp with hp | hp
      · rw [List.mem_singleton.mp hp]
        exact .tail _ (.tail _ (List.mem_append_left _ mut_ob))
      · rcases List.mem_append.mp hp with hp | hp
        · simp only [List.mem_cons, List.not_mem_nil, or_false] at hp
          rcases hp with rfl | rfl
          · exact .head _
          · exact .tail _ (.head _)
        · exact .tail _ (.tail _ (List.mem_append_right _ hp)))
    (fun p hp q hq => by
      rcases List.mem_append.mp hp with hp | hp
      · exact n3 p hp q hq
      · rcases List.mem_append.mp hp with hp | hp
        · exact hex p hp q (.tail _ hq)
        · exact I.off p hp q (.tail _ hq))
  have hfx : ∀ p ∈ Fx, g.get? p.1 = some p.2 := fun p hp => a5 p (List.mem_append_right _ (List.mem_append_right _ hp))
  have hxx : ∀ p ∈ [(tb, instObj 191 dtb), (dtb, ot)], g.get? p.1 = some p.2 := fun p hp => a5 p (List.mem_append_right _ (List.mem_append_left _ hp))
  refine wp_le (multiN_spec ((gd X T).keeps a1) a2 a3 a4 n4 n5 I.hC (fun c hc => hfx _ (I.hin c hc)) (hfx _ I.hsc) (hfx _ I.hdsc) I.hS (hfx _ I.hbuf) (a5 (dbuf, ob) (.head _)) I.hB I.hl I.hs hi (hxx (tb, _) (.head _)) (hxx (dtb, _) (.tail _ (.head _))) hT (mapI_of (hfx _ hm) dM) lo hv (hfx _ htp) ?_) hA hd hu rfl rfl
  intro ds n' h' tk' t' b1 b2 b3 b4 b5
  obtain ⟨F', N'⟩ := a6 h' _ b1 b3
  have hcr : crefs ds = crefs cs := by
    have := congrArg (List.map fun p : Addr × Addr => Value.ref p.1) b4
    simpa [crefs, Function.comp_def] using this
  have hcs : sliceSet (crefs cs) [] i (i + 1) = crefs (ds.take i ++ ds.drop (i + 1)) := by
    rw [← hcr]
    have := slice_crefs (cs := ds) (made := []) (i := i)
    simpa [crefs] using this
  rw [hcs] at N'
  have hsub : (ds.take i ++ ds.drop (i + 1)).Sublist ds := by
    conv => rhs; rw [← List.take_append_drop i ds]
    refine List.Sublist.append (List.Sublist.refl _) ?_
    rw [show List.drop (i + 1) ds = List.drop 1 (List.drop i ds) by rw [List.drop_drop]]
    exact List.drop_sublist _ _
  have hdf : (dled ds).map (·.1) = (dled cs).map (·.1) := by rw [dled_fst, dled_fst, b4]
  have hdd : (dled (ds.take i ++ ds.drop (i + 1))).Sublist (dled ds) := hsub.map _
  have hfst : ∀ q ∈ dled (ds.take i ++ ds.drop (i + 1)), ∃ q' ∈ dled cs, q'.1 = q.1 := by
    intro q hq
    have h1 : q.1 ∈ (dled ds).map (·.1) := List.mem_map_of_mem (hdd.subset hq)
    rw [hdf] at h1
    obtain ⟨q', h2, h3⟩ := List.mem_map.mp h1
    exact ⟨q', h2, h3⟩
  have hrw : afterRows rs i r sp [] = takenRows rs i := if_pos rfl
  refine k1 n' (ds.take i ++ ds.drop (i + 1)) h' tk' t' F' (fun p hp => N' p ?_) ⟨?_, ?_, ?_, I.hbuf, I.hsc, I.hdsc, I.hS, I.hB, ?_, ?_, ?_, ?_⟩
  · rcases List.mem_append.mp hp with hp | hp
    · rcases mut_iff.mp hp with hp | hp | hp
      · exact List.mem_append_right _ (List.mem_append_left _ (by rw [hp]; exact .head _))
      · exact List.mem_append_left _ (by rw [hp]; exact .head _)
      · exact List.mem_append_left _ (.tail _ (hdd.subset hp))
    · exact List.mem_append_right _ (List.mem_append_right _ (List.mem_append_right _ hp))
  · have h1 : Apart (Mut dbuf ob R nR ds) := by
      refine Apart.congr (a := Mut dbuf ob R nR cs) ?_ I.ap
      unfold Mut; simp only [List.map_cons, hdf]
    have h2 : Apart (Mut dbuf ob R n' (ds.take i ++ ds.drop (i + 1))) := by
      refine Apart.congr (a := (dbuf, ob) :: (R, listOf (crefs ds).toArray nR) :: dled (ds.take i ++ ds.drop (i + 1))) rfl ?_
      exact h1.sub ((hdd.cons_cons _).cons_cons _)
    exact h2
  · intro p hp q hq
    rcases mut_iff.mp hq with rfl | rfl | hq
    · exact I.off p hp (dbuf, ob) mut_ob
    · exact I.off p hp (R, listOf (crefs cs).toArray nR) mut_R
    · obtain ⟨q', h1, h2⟩ := hfst q hq
      rw [← h2]
      exact I.off p hp q' (mut_d h1)
  · intro c hc
    have h1 : (c.x, c.dx) ∈ ds.map fun c => (c.x, c.dx) := List.mem_map_of_mem (hsub.subset hc)
    rw [b4] at h1
    obtain ⟨c', h2, h3⟩ := List.mem_map.mp h1
    simp only [Prod.mk.injEq] at h3
    rw [← h3.1, ← h3.2]
    exact I.hin c' h2
  · rw [hrw]
    exact (b5.take i).append (b5.drop (i + 1))
  · rw [hrw]
    have := taken_length hlt
    have := I.hl
    omega
  · rw [hrw]; exact sorted_taken I.hs
  · rw [hrw]; exact ok_taken I.hok
end
end
section
section
variable {w : World} {A : Around} {h₀ : Heap} {L : Addr} {m : Str → Option Value} {s : Shared} {mean : ExcName → Option Value} {mg mb : Str → Option Value} {E : Value → Shared → Prop} {Q : Value → Shared → Prop}
  {news : List (Addr × Obj)} {Fx : List (Addr × Obj)} {buf dbuf sc dsc : Addr} {ob osc : Obj} {R : Addr} {nR : Nat} {cs : List Cell} {rs : List Row} {sp bits : Int} {i : Nat} {r : Row} {t t1 t2 t3 : Tok}
  {tp : Addr} {us : List Value} {nt : Nat} {ps : List Int} {Rw : Addr} {nw : Nat} {refs : List Addr}
theorem site0 (F : Fr h₀ L s.heap m) (N : News h₀ L s.heap news) : ∃ g : Heap, h₀.StaysIn g ∧ g.StaysIn s.heap ∧ g.objs.size ≤ s.heap.objs.size ∧ (∀ p ∈ news, g.get? p.1 = some p.2) ∧
      ∀ h' fp', g.StaysIn h' → LedIn g h' fp' → Fr h₀ L h' m ∧ News h₀ L h' (fp' ++ news) ∧ ∀ p ∈ news, ∀ q ∈ fp', p.1 ≠ q.1 := by
  obtain ⟨g, a1, a2, a3, _, a5, a6⟩ := site (fp := []) (rest := news) F N (fun _ h => nomatch h) (fun _ h => h) (fun _ _ _ h => nomatch h)
  refine ⟨g, a1, a2, a3, a5, fun h' fp' k1 k2 => ?_⟩
  obtain ⟨F', N'⟩ := a6 h' fp' k1 k2
  refine ⟨F', N', fun p hp q hq e => ?_⟩
  have h1 := a5 p hp
  have h2 := (k2 q hq).2
  rw [e, h2] at h1; cases h1
theorem told_at (X : (Mine.hd.heap_1 w.params).In h₀) (T : Top Mine.vw (looseW Mine.vw []) mean mg mb h₀) (F : Fr h₀ L s.heap m) (N : News h₀ L s.heap news)
    (hA : A.handled = none) (hd : A.depth ≤ 800) (hu : A.units ≤ 8000) (hsub : ∀ p ∈ Mut dbuf ob R nR cs ++ Fx, p ∈ news) (I : Inv w Fx buf dbuf sc dsc ob osc R nR cs rs sp bits)
    (k : ∀ D refs n led h' tk', Fr h₀ L h' m → News h₀ L h' ((D, listOf (List.toArray (List.map Value.ref refs)) n) :: (led ++ news)) → RowsIn led refs rs → Q (.ref D) { s with heap := h', toks := tk' }) :
    wpAny (model PySem.Challenge.rw_nu0223_01.row.prog w) A (call (.ref 302) [.ref buf]) Q E s := by
  obtain ⟨g, a1, a2, a3, a5, a6⟩ := site0 F N
  have hfx : ∀ p ∈ Fx, g.get? p.1 = some p.2 := fun p hp => a5 p (hsub p (List.mem_append_right _ hp))
  have hmx : ∀ p ∈ Mut dbuf ob R nR cs, g.get? p.1 = some p.2 := fun p hp => a5 p (hsub p (List.mem_append_left _ hp))
  refine wp_le (told_spec ((gd X T).keeps a1) a2 a3 (hfx _ I.hbuf) (hmx _ mut_ob) I.hB (hmx _ mut_R) (InfosN (news := []) I.hC (fun c hc => hfx _ (I.hin c hc)) fun c hc => hmx _ (mut_d (mem_dledI.mpr ⟨c, hc, rfl⟩))) (by have h1 := I.hC.length; have := I.hl; simp [crefs]; omega) ?_) hA hd hu rfl rfl
  intro D refs n h' tk' led k1 _ k3 k4
  obtain ⟨F', N', _⟩ := a6 h' _ k1 k3
  exact k D refs n led h' tk' F' N' k4
theorem taken_at (X : (Mine.hd.heap_1 w.params).In h₀) (T : Top Mine.vw (looseW Mine.vw []) mean mg mb h₀) (F : Fr h₀ L s.heap m) (N : News h₀ L s.heap news)
    (hA : A.handled = none) (hd : A.depth ≤ 800) (hu : A.units ≤ 8000) (hm : (Rw, listOf (List.toArray (List.map Value.ref refs)) nw) ∈ news) (hsub : ∀ p ∈ Fx, p ∈ news) (hr : RowsIn Fx refs rs) (hl : rs.length ≤ 1000) (hi : i < rs.length)
    (k : ∀ D refs' n led h' tk', Fr h₀ L h' m → News h₀ L h' ((D, listOf (List.toArray (List.map Value.ref refs')) n) :: (led ++ news)) → RowsIn (led ++ Fx) refs' (takenRows rs i) → (∀ p ∈ news, ∀ q ∈ (D, listOf (List.toArray (List.map Value.ref refs')) n) :: led, p.1 ≠ q.1) → Q (.ref D) { s with heap := h', toks := tk' }) :
    wpAny (model PySem.Challenge.rw_nu0223_01.row.prog w) A (call (.ref 314) [.ref Rw, .int (i : Nat) t1]) Q E s := by
  obtain ⟨g, a1, a2, a3, a5, a6⟩ := site0 F N
  refine wp_le (taken_spec ((gd X T).keeps a1) a2 a3 (a5 _ hm) (fun p hp => a5 p (hsub p hp)) hr hl hi ?_) hA hd hu rfl rfl
  intro D refs' n led h' tk' k1 _ k3 k4
  obtain ⟨F', N', hne⟩ := a6 h' _ k1 k3
  exact k D refs' n led h' tk' F' N' k4 hne
theorem pieces_at {a : Addr} {o : Obj} (X : (Mine.hd.heap_1 w.params).In h₀) (T : Top Mine.vw (looseW Mine.vw []) mean mg mb h₀) (F : Fr h₀ L s.heap m) (N : News h₀ L s.heap news)
    (hA : A.handled = none) (hd : A.depth ≤ 800) (hu : A.units ≤ 8000) (hm : (a, o) ∈ news) (ho : RowL r o) (ht : (tp, tupOf (List.toArray us) nt) ∈ news) (hus : IntsAre us ps) (hz : ps.length ≤ 1000) (h0 : 0 < ps.length)
    (k : ∀ D refs n led h' tk', Fr h₀ L h' m → News h₀ L h' ((D, listOf (List.toArray (List.map Value.ref refs)) n) :: (led ++ news)) → RowsIn led refs (madeRows r ps sp) → (∀ p ∈ news, ∀ q ∈ (D, listOf (List.toArray (List.map Value.ref refs)) n) :: led, p.1 ≠ q.1) → Q (.ref D) { s with heap := h', toks := tk' }) :
    wpAny (model PySem.Challenge.rw_nu0223_01.row.prog w) A (call (.ref 321) [.ref a, .ref tp, .int sp t3]) Q E s := by
  obtain ⟨g, a1, a2, a3, a5, a6⟩ := site0 F N
  refine wp_le (pieces_spec ((gd X T).keeps a1) a2 a3 (a5 _ hm) ho (tupX (a5 _ ht)) hus hz h0 ?_) hA hd hu rfl rfl
  intro D refs n led h' tk' k1 _ k3 k4
  obtain ⟨F', N', hne⟩ := a6 h' _ k1 k3
  exact k D refs n led h' tk' F' N' k4 hne
theorem lchoice_at {ma : Int} {wd sh : Nat} (X : (Mine.hd.heap_1 w.params).In h₀) (T : Top Mine.vw (looseW Mine.vw []) mean mg mb h₀) (F : Fr h₀ L s.heap m) (N : News h₀ L s.heap news)
    (hA : A.handled = none) (hd : A.depth ≤ 800) (hu : A.units ≤ 8000) (ht : (tp, tupOf (List.toArray us) nt) ∈ news) (hus : IntsAre us ps) (hz : ps.length ≤ 1000) (hw : wd < 3) (hs : sh < 4) (h0 : 0 ≤ ma) (h9 : ma < 32)
    (k0 : choose ps ((ma.fdiv (2 ^ sh)).fmod (2 ^ wd)) = none → ∀ h' tk', Fr h₀ L h' m → News h₀ L h' news → Q .none { s with heap := h', toks := tk' })
    (k1 : ∀ n, choose ps ((ma.fdiv (2 ^ sh)).fmod (2 ^ wd)) = some n → ∀ h' tk' t', Fr h₀ L h' m → News h₀ L h' news → Q (.int n t') { s with heap := h', toks := tk' }) :
    wpAny (model PySem.Challenge.rw_nu0223_01.row.prog w) A (call (.ref 309) [.int ma t1, .int (sh : Nat) t2, .int (wd : Nat) t3, .ref tp]) Q E s := by
  obtain ⟨g, a1, a2, a3, a5, a6⟩ := site0 F N
  refine wp_le (lchoice_spec ((gd X T).keeps a1) a2 a3 (tupX (a5 _ ht)) hus hz hw hs h0 h9 ?_ ?_) hA hd hu rfl rfl
  · intro hc h' tk' b1 b2
    obtain ⟨F', N', _⟩ := a6 h' [] b1 (fun _ h => nomatch h)
    exact k0 hc h' tk' F' N'
  · intro n hc h' tk' t' b1 b2
    obtain ⟨F', N', _⟩ := a6 h' [] b1 (fun _ h => nomatch h)
    exact k1 n hc h' tk' t' F' N'
theorem buffer_at (X : (Mine.hd.heap_1 w.params).In h₀) (T : Top Mine.vw (looseW Mine.vw []) mean mg mb h₀) (F : Fr h₀ L s.heap m) (N : News h₀ L s.heap news)
    (hA : A.handled = none) (hd : A.depth ≤ 800) (hu : A.units ≤ 8000) (hm : (Rw, listOf (List.toArray (List.map Value.ref refs)) nw) ∈ news) (hsub : ∀ p ∈ Fx, p ∈ news) (hr : RowsIn Fx refs rs) (hl : rs.length ≤ 1000)
    (k : ∀ buf dbuf ob R n cs h' tk', Fr h₀ L h' m → News h₀ L h' ((buf, instObj 103 dbuf) :: (dbuf, ob) :: (R, listOf (List.toArray (crefs cs)) n) :: (cled cs ++ news)) → Apart ((buf, instObj 103 dbuf) :: (dbuf, ob) :: (R, listOf (List.toArray (crefs cs)) n) :: cled cs) →
      (∀ p ∈ news, ∀ q ∈ (buf, instObj 103 dbuf) :: (dbuf, ob) :: (R, listOf (List.toArray (crefs cs)) n) :: cled cs, p.1 ≠ q.1) → BufD w.params R 70 ob → Cells w.params cs rs → Q (.ref buf) { s with heap := h', toks := tk' }) :
    wpAny (model PySem.Challenge.rw_nu0223_01.row.prog w) A (call (.ref 297) [.ref Rw]) Q E s := by
  obtain ⟨g, a1, a2, a3, a5, a6⟩ := site0 F N
  refine wp_le (buffer_spec ((gd X T).keeps a1) a2 a3 (a5 _ hm) (fun p hp => a5 p (hsub p hp)) hr hl ?_) hA hd hu rfl rfl
  intro buf dbuf ob R n cs h' tk' k1 _ k3 k4 k5 k6
  obtain ⟨F', N', hne⟩ := a6 h' _ k1 k3
  exact k buf dbuf ob R n cs h' tk' F' N' k4 hne k5 k6
/-- every address but d -/
noncomputable def AllNe (d : Addr) : List (Addr × Obj) → Prop
  | [] => True
  | p :: r => @Ne Nat p.1 d ∧ AllNe d r
theorem allNe_of {d : Addr} : ∀ {l : List (Addr × Obj)}, (∀ p ∈ l, p.1 ≠ d) → AllNe d l
  | [], _ => trivial
  | _ :: _, h => ⟨h _ (.head _), allNe_of fun p hp => h p (.tail _ hp)⟩
theorem allNe_mem {d : Addr} {l : List (Addr × Obj)} (h : AllNe d l) : ∀ p ∈ l, @Ne Nat p.1 d := by
  induction l with
  | nil => exact fun _ h => nomatch h
  | cons q r ih =>
    intro p hp
    rcases List.mem_cons.mp hp with e | hp
    · rw [e]; exact h.1
    · exact ih h.2 p hp
theorem pot_at {l : Addr} {vs : List Value} {ns : List Int} (X : (Mine.hd.heap_1 w.params).In h₀) (T : Top Mine.vw (looseW Mine.vw []) mean mg mb h₀) (F : Fr h₀ L s.heap m) (N : News h₀ L s.heap news)
    (hA : A.handled = none) (hd : A.depth ≤ 900) (hu : A.units ≤ 9000) (hL : h₀.IsList l vs.toArray) (hI : IntsAre vs ns) (hlen : ns.length ≤ 63)
    (k : ∀ P C oP oC h' tk' , Fr h₀ L h' m → News h₀ L h' ((P, oP) :: (C, oC) :: news) → @Ne Nat P C → AllNe P news → AllNe C news → Pot P C 0 oP oC → Q (.ref P) { s with heap := h', toks := tk' }) :
    wpAny (model PySem.Challenge.rw_nu0223_01.row.prog w) A (call (.ref 276) [.ref l]) Q E s := by
  obtain ⟨g, a1, a2, a3, a5, a6⟩ := site0 F N
  refine wp_le (pot_spec ((gd X T).keeps a1) a2 a3 (stays_list a1 hL) hI hlen ?_) hA hd hu rfl rfl
  intro P C oP oC h' tk' led k1 _ k3 k4 k5
  obtain ⟨F', N', hne⟩ := a6 h' _ k1 k3
  have e1 : AllNe P news := allNe_of fun p hp => hne p hp (P, oP) (.head _)
  have e2 : AllNe C news := allNe_of fun p hp => hne p hp (C, oC) (.tail _ (.head _))
  refine k P C oP oC h' tk' F' (fun p hp => N' p ?_) k4 e1 e2 k5
  rcases List.mem_cons.mp hp with rfl | hp
  · exact .head _
  · rcases List.mem_cons.mp hp with rfl | hp
    · exact .tail _ (.head _)
    · exact List.mem_append_right _ hp
theorem row_at {P C : Addr} {b : Int} {oP oC : Obj} {rest : List (Addr × Obj)} (X : (Mine.hd.heap_1 w.params).In h₀) (T : Top Mine.vw (looseW Mine.vw []) mean mg mb h₀) (F : Fr h₀ L s.heap m) (N : News h₀ L s.heap news)
    (hA : A.handled = none) (hd : A.depth ≤ 800) (hu : A.units ≤ 8000) (hp : Pot P C b oP oC) (hPC : @Ne Nat P C) (m1 : (P, oP) ∈ news) (m2 : (C, oC) ∈ news) (pk : Pick [P, C] news rest) (hb : b < 50000)
    (k : ∀ Rw rs refs n oP' oC' h' tk' led, Fr h₀ L h' m → News h₀ L h' ((P, oP') :: (C, oC') :: (Rw, listOf (List.toArray (List.map Value.ref refs)) n) :: (rest ++ led)) → (∀ p ∈ rest, ∀ q ∈ (Rw, listOf (List.toArray (List.map Value.ref refs)) n) :: led, p.1 ≠ q.1) → (∀ q ∈ (Rw, listOf (List.toArray (List.map Value.ref refs)) n) :: led, q.1 ≠ P ∧ q.1 ≠ C) →
      Pot P C (b + 100) oP' oC' → RowsIn led refs rs → Sorted rs → (∀ r ∈ rs, OkRow r) → rs.length ≤ 7 → Q (.ref Rw) { s with heap := h', toks := tk' }) :
    wpAny (model PySem.Challenge.rw_nu0223_01.row.prog w) A (call (.ref 290) [.ref P]) Q E s := by
  obtain ⟨g, a1, a2, a3, a4, a5, a6⟩ := siteP [(P, oP), (C, oC)] F N (by
    intro p hp
    rcases List.mem_cons.mp hp with rfl | hp
    · exact m1
    · rcases List.mem_cons.mp hp with rfl | hp
      · exact m2
      · cases hp) pk
  refine wp_le (row_spec ((gd X T).keeps a1) a2 a3 a4 hPC hp hb ?_) hA hd hu rfl rfl
  intro Rw rs refs n oP' oC' h' tk' led k1 _ k3 k4 k5 k6 k7 k8 k9
  obtain ⟨F', N'⟩ := a6 h' _ k1 k3
  refine k Rw rs refs n oP' oC' h' tk' led F' (fun p hp => N' p ?_) (fun p hp q hq e => ?_) k9 k4 k5 k6 k7 k8
  · simp only [List.mem_cons, List.mem_append, List.cons_append] at hp ⊢
    rcases hp with hp | hp | hp | hp | hp
    · exact .inl hp
    · exact .inr (.inl hp)
    · exact .inr (.inr (.inl hp))
    · exact .inr (.inr (.inr (.inr hp)))
    · exact .inr (.inr (.inr (.inl hp)))
  · have h1 := a5 p hp
    have h2 := (k3 q (.tail _ (.tail _ hq))).2
    rw [e, h2] at h1; cases h1
end
end
section
noncomputable def rowData (r : Row) : PyData := .list [.int r.gl, .int r.cl, .int r.co, .int r.ma, .int r.li, .int r.lp, .int r.sp]
theorem reads_row {h : Heap} {a : Addr} {o : Obj} {r : Row} (ho : RowL r o) (e : h.get? a = some o) : Reads h (.ref a) (rowData r) [a] := by
  obtain ⟨t1, t2, t3, t4, t5, t6, t7, n, rfl⟩ := ho
  exact reads_list_at e rfl rfl (.cons (.int _ _) (.cons (.int _ _) (.cons (.int _ _) (.cons (.int _ _) (.cons (.int _ _) (.cons (.int _ _) (.cons (.int _ _) .nil)))))))
theorem reads_rows {h : Heap} {led : List (Addr × Obj)} (hl : ∀ p ∈ led, h.get? p.1 = some p.2) : ∀ {refs : List Addr} {rs : List Row}, RowsIn led refs rs → ∃ as, ReadsAll h (refs.map Value.ref) (rs.map rowData) as
  | _, _, .nil => ⟨_, .nil⟩
  | _, _, .cons ⟨_, h1, h2⟩ r => let ⟨_, q⟩ := reads_rows hl r; ⟨_, .cons (reads_row h2 (hl _ h1)) q⟩
theorem eqv_rows : ∀ rs : List Row, PyData.eqvAll (rs.map rowData) (rs.map rowData) = true
  | [] => rfl
  | r :: rs => by simp [PyData.eqvAll, rowData, PyData.eqv, eqv_rows rs]
theorem lay_rows : ∀ rs : List Row, PyData.canLayAll0 (rs.map rowData) = true
  | [] => rfl
  | r :: rs => by simp [PyData.canLayAll0, rowData, PyData.canLay0, lay_rows rs]
theorem depth_rows : ∀ rs : List Row, PyData.depthAll (rs.map rowData) ≤ 8
  | [] => by simp [PyData.depthAll]
  | r :: rs => by
    have := depth_rows rs
    simp only [List.map_cons, PyData.depthAll, rowData, PyData.depth]
    omega
theorem shaped_rows (rs : List Row) : SeqAt.shaped (.list (rs.map rowData)) = true := by
  unfold SeqAt.shaped
  refine Bool.and_eq_true_iff.mpr ⟨?_, decide_eq_true ?_⟩
  · simp [PyData.canLay0, lay_rows]
  · have := depth_rows rs
    simp only [PyData.depth]; omega
section
variable {prog : Program} {w : World} {A : Around} {E : Value → Shared → Prop} {s : Shared} {h₀ : Heap} {L : Addr} {news led1 led2 : List (Addr × Obj)} {rs : List Row} {refs1 refs2 : List Addr} {n1 n2 : Nat} {a b : Addr} {Q : Value → Shared → Prop}
theorem rows_ne (N : News h₀ L s.heap news) (h1 : (a, listOf (List.toArray (List.map Value.ref refs1)) n1) ∈ news) (h2 : (b, listOf (List.toArray (List.map Value.ref refs2)) n2) ∈ news) (r1 : RowsIn led1 refs1 rs) (r2 : RowsIn led2 refs2 rs)
    (s1 : ∀ p ∈ led1, p ∈ news) (s2 : ∀ p ∈ led2, p ∈ news) (hu : A.units + 64 < cLine) (h : Q (.bool false) s) : wpAny (model prog w) A (compareOp .NotEq (.ref a) (.ref b)) Q E s := by
  obtain ⟨as1, q1⟩ := reads_rows (fun p hp => (N p (s1 p hp)).1) r1
  obtain ⟨as2, q2⟩ := reads_rows (fun p hp => (N p (s2 p hp)).1) r2
  refine ne_dataH (reads_list_at (N _ h1).1 rfl rfl q1) (reads_list_at (N _ h2).1 rfl rfl q2) (shaped_rows rs) (shaped_rows rs) hu ?_
  have e : PyData.eqv (.list (rs.map rowData)) (.list (rs.map rowData)) = true := by simp [PyData.eqv, eqv_rows]
  rw [e]; exact h
end
/-- a table's values: tuples of ints -/
noncomputable def MVals (Fx : List (Addr × Obj)) (kM : List (Int × Value)) : Prop := ∀ p ∈ kM, ∃ tp us n ps, p.2 = .ref tp ∧ (tp, tupOf (List.toArray us) n) ∈ Fx ∧ IntsAre us ps ∧ ps.length ≤ 3
theorem MVals.sub {Fx Fx' : List (Addr × Obj)} {kM : List (Int × Value)} (h : MVals Fx kM) (s : ∀ p ∈ Fx, p ∈ Fx') : MVals Fx' kM := fun p hp => let ⟨a, b, c, d, h1, h2, h3, h4⟩ := h p hp; ⟨a, b, c, d, h1, s _ h2, h3, h4⟩
theorem value_mem {kvs : List (Int × Value)} {k : Int} {v : Value} (h : PySem.valueAt kvs k = some v) : (k, v) ∈ kvs := by
  unfold PySem.valueAt at h
  obtain ⟨p, h1, h2⟩ := Option.map_eq_some_iff.mp h
  have h3 := List.find?_some h1
  have h4 := List.mem_of_find?_eq_some h1
  simp only [decide_eq_true_eq] at h3
  obtain ⟨k', v'⟩ := p
  dsimp only at h2 h3
  subst h2 h3; exact h4
theorem value_of_mem {kvs : List (Int × Value)} {k : Int} {v : Value} (hn : (kvs.map (·.1)).Nodup) (h : (k, v) ∈ kvs) : PySem.valueAt kvs k = some v := by
  induction kvs with
  | nil => cases h
  | cons p r ih =>
    simp only [List.map_cons, List.nodup_cons] at hn
    unfold PySem.valueAt
    rw [List.find?_cons]
    rcases List.mem_cons.mp h with rfl | h
    · simp
    · have : ¬ p.1 = k := fun e => hn.1 (List.mem_map.mpr ⟨(k, v), h, e.symm⟩)
      rw [decide_eq_false this]
      exact ih hn.2 h
theorem MVals.at {Fx : List (Addr × Obj)} {kM : List (Int × Value)} (h : MVals Fx kM) (k : Int) : PySem.valueAt kM k = none ∨ ∃ tp us n ps, PySem.valueAt kM k = some (.ref tp) ∧ (tp, tupOf (List.toArray us) n) ∈ Fx ∧ IntsAre us ps ∧ ps.length ≤ 3 := by
  cases e : PySem.valueAt kM k with
  | none => exact .inl rfl
  | some v =>
    obtain ⟨a, b, c, d, h1, h2, h3, h4⟩ := h _ (value_mem e)
    dsimp only at h1
    subst h1
    exact .inr ⟨a, b, c, d, rfl, h2, h3, h4⟩
theorem eqv_ints : ∀ ps : List Int, PyData.eqvAll (ps.map PyData.int) (ps.map PyData.int) = true
  | [] => rfl
  | p :: r => by simp [PyData.eqvAll, PyData.eqv, eqv_ints r]
theorem lay_ints : ∀ ps : List Int, PyData.canLayAll0 (ps.map PyData.int) = true
  | [] => rfl
  | p :: r => by simp [PyData.canLayAll0, PyData.canLay0, lay_ints r]
theorem depth_ints : ∀ ps : List Int, PyData.depthAll (ps.map PyData.int) ≤ 8
  | [] => by simp [PyData.depthAll]
  | p :: r => by
    have := depth_ints r
    simp only [List.map_cons, PyData.depthAll, PyData.depth]
    omega
theorem shaped_tup (ps : List Int) : SeqAt.shaped (.tuple (ps.map PyData.int)) = true := by
  unfold SeqAt.shaped
  refine Bool.and_eq_true_iff.mpr ⟨?_, decide_eq_true ?_⟩
  · simp [PyData.canLay0, lay_ints]
  · have := depth_ints ps
    simp only [PyData.depth]; omega
section
variable {w : World} {A : Around} {E : Value → Shared → Prop} {s : Shared} {h₀ : Heap} {L : Addr} {news : List (Addr × Obj)} {M H : Addr} {oM oH : Obj} {kM : List (Int × Value)} {Q : Value → Shared → Prop}
theorem self_hits {kb : List (Int × Value)} (hl : ∀ p ∈ news, s.heap.get? p.1 = some p.2) (hu : A.in1.units + 64 < cLine) : ∀ {ka : List (Int × Value)}, (∀ p ∈ ka, PySem.valueAt kb p.1 = some p.2) → MVals news ka → KeqHits A.in1 s kb ka true
  | [], _, _ => .nil
  | (k, v) :: r, h, hv => by
    have ih := self_hits (kb := kb) hl hu (ka := r) (fun p hp => h p (.tail _ hp)) fun p hp => hv p (.tail _ hp)
    obtain ⟨tp, us, n, ps, h1, h2, h3, _⟩ := hv _ (.head _)
    dsimp only at h1
    subst h1
    have hr := reads_tuple_ints (tupX (hl _ h2)) h3
    have x := keq_at (A := A) hr hr (shaped_tup ps) (shaped_tup ps) hu
    have e : PyData.eqv (.tuple (ps.map PyData.int)) (.tuple (ps.map PyData.int)) = true := by simp [PyData.eqv, eqv_ints]
    rw [e] at x
    exact KeqHits.hit (e := true) (b := true) (h _ (.head _)) x ih
theorem dict_self (N : News h₀ L s.heap news) (h1 : (M, oM) ∈ news) (h2 : (H, oH) ∈ news) (d1 : oM.IsDictOf (IK w) kM) (d2 : oH.IsDictOf (IK w) kM) (l1 : (M == sysModules) = false) (l2 : (H == sysModules) = false) (hv : MVals news kM) (hu : A.in1.units + 64 < cLine) (hu2 : A.units < cLine)
    (h : Q (.bool true) s) : wpAny (model PySem.Challenge.rw_nu0223_01.row.prog w) A (compareOp .Eq (.ref M) (.ref H)) Q E s := by
  have hn : (kM.map (·.1)).Nodup := by obtain ⟨_, _, _, _, _, _, hn⟩ := d1; exact hn
  exact keq_pairs N h1 h2 d1 d2 l1 l2 rfl hu2 (self_hits (fun p hp => (N p hp).1) hu (fun p hp => value_of_mem hn hp) hv) h
end
end
section
section
variable {prog : Program} {w : World} {A : Around} {E : Value → Shared → Prop} {s : Shared} {env : Env} {h₀ : Heap} {x : Str} {body : List Stmt} {Q : Flow → Shared → Prop}
/-- a for over a tuple of the ledger, which is hidden from the turns -/
theorem tpl_iter {l : Addr} {vs : List Value} {k : Nat} {m₀ : Str → Option Value} {news : List (Addr × Obj)} (J : Nat → (Str → Option Value) → List (Addr × Obj) → Prop)
    (hh : A.handled = none) (F : Fr h₀ env.locals s.heap m₀) (N : News h₀ env.locals s.heap ((l, tupOf vs.toArray k) :: news)) (hn : ∀ p ∈ news, p.1 ≠ l) (hj : J 0 m₀ news)
    (turn : ∀ i v m₁ nx h tk own, vs[i]? = some v → OwnOff own (nx.map (·.1)) → J i m₁ nx → Fr h₀ env.locals h (fun y => if y = x then some v else m₁ y) → News h₀ env.locals h (nx ++ own) →
      wpAny (model prog w) A (execs body env) (Turn h₀ env.locals (J (i + 1)) own { s with heap := h, toks := tk } Q) E { s with heap := h, toks := tk })
    (done : ∀ m₁ nx h tk, J vs.length m₁ nx → Fr h₀ env.locals h m₁ → News h₀ env.locals h nx → Q .next { s with heap := h, toks := tk }) :
    wpAny (model prog w) A (pyIter (.ref l)) (fun it s₂ => LoopAtV prog w A h₀ env x body Q E it s₂) E s := by
  obtain ⟨hol, hLl, h0l⟩ := N _ (.head _)
  dsimp only at hol hLl h0l
  have hT : s.heap.IsTuple l vs.toArray := ⟨_, hol, rfl, k, rfl⟩
  have hlt := Heap.lt_size hol
  have hne : l ≠ s.heap.objs.size := Nat.ne_of_lt hlt
  refine wpAny_pyIter_tuple hT ?_
  have W := Walks.tuple (prog := prog) (w := w) hh s.heap.objs.size l hne vs.toArray
  rw [List.size_toArray] at W
  have nb : ∀ b, b ∉ [s.heap.objs.size, l] → b ∉ [s.heap.objs.size] := fun b hb h => hb (by rw [List.mem_singleton.mp h]; exact .head _)
  refine kdr_loop (fp := [s.heap.objs.size, l]) (wr := [s.heap.objs.size, l]) J { sub := fun _ h => h, frame := W.frame, item := fun i s Q E hi st hQ => W.item i s Q E hi st fun v h' tk a b c => hQ v h' tk a b fun b o hb e => c b o (nb b hb) e, done := fun s Q E st hQ => W.done s Q E st fun h' tk c => hQ h' tk fun b o hb e => c b o (nb b hb) e, self := W.self } (fun _ h => h) (fun _ h => h) ?_ ?_ ?_ ?_ ⟨⟨_, Heap.get?_push_size _ rfl, rfl, rfl⟩, hT.at fun o e => Heap.get?_push_of_some _ e⟩ (F.push _) (fun p hp => ⟨Heap.get?_push_of_some _ (N p (.tail _ hp)).1, (N p (.tail _ hp)).2⟩) hj ?_ ?_
  · rintro i h ⟨⟨o1, e1, _⟩, ⟨o2, e2, _⟩⟩ b hb
    rcases List.mem_cons.mp hb with rfl | hb
    · exact ⟨_, e1⟩
    · rw [List.mem_singleton.mp hb]; exact ⟨_, e2⟩
  · intro hm
    rcases List.mem_cons.mp hm with e | hm
    · exact absurd F.ns.lt (by rw [e]; exact Nat.lt_irrefl _)
    · exact hLl (List.mem_singleton.mp hm).symm
  · intro b hb
    rcases List.mem_cons.mp hb with rfl | hb
    · exact next_is_new F
    · rw [List.mem_singleton.mp hb]; exact h0l
  · intro p hp hI
    rcases List.mem_cons.mp hI with e | hI
    · exact absurd (Heap.lt_size (N p (.tail _ hp)).1) (by rw [e]; exact Nat.lt_irrefl _)
    · exact hn p hp (List.mem_singleton.mp hI)
  · intro i v m₁ nx h tk own hi hP hoff hJ F₁ N₁
    exact turn i v m₁ nx h tk own (by simpa using hP) hoff hJ F₁ N₁
  · exact done
end
end
section
/-- the law's own def, read off the heap -/
noncomputable def lawFn : { o : Obj // ∀ P, (Mine.hd.heap_1 P).lookup 326 = some o } := ⟨_, fun P => by k_is⟩
noncomputable def fnStmt (o : Obj) (i : Nat) : Option Stmt := match o.data with
  | .func fd => (match fd.body with | .stmts b => b[i]? | _ => none)
  | _ => none
noncomputable def fnScope (o : Obj) : Option Scope := match o.data with
  | .func fd => (match fd.scope with | ⟨a, b, c, d, e⟩ => some ⟨a, b, c, d, e⟩)
  | _ => none
noncomputable def lawScope : { b : Scope // fnScope lawFn.1 = some b } := ⟨_, rfl⟩
noncomputable def lawFor : { b : Stmt // fnStmt lawFn.1 6 = some b } := ⟨_, rfl⟩
noncomputable def lawSng : { b : Stmt // fnStmt lawFn.1 7 = some b } := ⟨_, rfl⟩
noncomputable def lawHld : { b : Stmt // fnStmt lawFn.1 8 = some b } := ⟨_, rfl⟩
noncomputable def lawWhl : { b : Stmt // fnStmt lawFn.1 13 = some b } := ⟨_, rfl⟩
theorem mem_in {α : Type} {a : α} {l : List α} (h : a ∈ l) : List.Mem a l := h
noncomputable abbrev lawEnv (L : Addr) : Env := envOfC (Str.ofString "law") lawScope.1 L 326 (.ref 325)
noncomputable abbrev lawA (L : Addr) : Around := (AA 700 7000).deeper (lawEnv L)
noncomputable def forStmt (s : Stmt) (i : Nat) : Option Stmt := match s with
  | .For _ _ b _ _ => b[i]?
  | .While _ b _ _ => b[i]?
  | _ => none
noncomputable def asgExpr (s : Stmt) : Option PySem.Expr := match s with
  | .Assign _ e _ => some e
  | _ => none
noncomputable def lawPcs : { b : Stmt // forStmt lawFor.1 0 = some b } := ⟨_, rfl⟩
noncomputable def lawTup : { b : PySem.Expr // asgExpr lawPcs.1 = some b } := ⟨_, rfl⟩
noncomputable def lawSngX : { b : PySem.Expr // asgExpr lawSng.1 = some b } := ⟨_, rfl⟩
noncomputable def lawHldX : { b : PySem.Expr // asgExpr lawHld.1 = some b } := ⟨_, rfl⟩
noncomputable def lawRow : { b : Stmt // forStmt lawWhl.1 0 = some b } := ⟨_, rfl⟩
noncomputable def lawIf1 : { b : Stmt // forStmt lawWhl.1 1 = some b } := ⟨_, rfl⟩
noncomputable def lawIf2 : { b : Stmt // forStmt lawWhl.1 2 = some b } := ⟨_, rfl⟩
noncomputable def lawIf3 : { b : Stmt // forStmt lawWhl.1 3 = some b } := ⟨_, rfl⟩
noncomputable def whlBody (s : Stmt) : Option (List Stmt) := match s with
  | .While _ b _ _ => some b
  | _ => none
noncomputable def whlTest (s : Stmt) : Option PySem.Expr := match s with
  | .While t _ _ _ => some t
  | _ => none
noncomputable def lawWb : { b : List Stmt // whlBody lawWhl.1 = some b } := ⟨_, rfl⟩
noncomputable def lawWt : { b : PySem.Expr // whlTest lawWhl.1 = some b } := ⟨_, rfl⟩
theorem kst_id {m : Str → Option Value} {ps : List (Str × Value)} (hm : Has m ps) : kstB m ps = m := by
  funext y
  exact kstB_eq hm.mem fun _ => rfl
/-- the same but at these names -/
noncomputable def SameBut (ns : List Str) (m m' : Str → Option Value) : Prop := ∀ y, ns.contains y = false → m' y = m y
theorem Has.same {m m' : Str → Option Value} {ns : List Str} (hs : SameBut ns m m') : ∀ {ps : List (Str × Value)}, Has m ps → (ps.all fun p => !ns.contains p.1) = true → Has m' ps
  | [], _, _ => trivial
  | _ :: _, ⟨h1, h2⟩, h => by
    obtain ⟨h3, h4⟩ := Bool.and_eq_true_iff.mp h
    exact ⟨(hs _ (by simpa using h3)).trans h1, h2.same hs h4⟩
end
end
section
section
theorem st142 : True := by w_top off; k_with_none; trivial
theorem st143 : True := by
  k_with "my mem" => (first | with_reducible assumption | (refine mem_in ?_; with_reducible assumption) | (refine' List.mem_append_right _ ?_; k_mem) | (refine' List.mem_append_left _ ?_; k_mem))
  k_with "my all" => (with_reducible assumption)
  k_with "my ne" => ((dsimp only; first | with_reducible assumption | (refine Ne.symm ?_; with_reducible assumption)))
  k_with "my ne" => (first | with_reducible assumption | (refine Ne.symm ?_; with_reducible assumption))
  k_with "my range" => (first | (with_unfolding_all refine range1_rows ‹Fr _ _ _ _› ‹News _ _ _ _› ?_) | (with_unfolding_all refine range2_rows ‹Fr _ _ _ _› ‹News _ _ _ _› ?_))
  k_with "my pick" => (first | exact Pick.nil | (refine' Pick.take (by first | exact List.Mem.head _ | exact List.Mem.tail _ (List.Mem.head _)) (by walk_at "my pick")) | (refine' Pick.skip (by k_all) (by walk_at "my pick")) | (refine Pick.all (by assumption)))
  k_with "call ref" => (k_here; (with_reducible show wpAny _ _ (call (Value.ref 283) [Value.ref _, Value.int _ _]) _ _ _); k_dflt (refine' draw_at (by k_asm) (by k_asm) (by k_asm) (by k_asm) (by rfl) (by exact Nat.le_of_ble_eq_true rfl) (by exact Nat.le_of_ble_eq_true rfl) (by k_asm) (by k_asm) (by k_mem) (by k_mem) (by walk_at "my pick") (by first | with_reducible assumption | omega) (by decide) (by decide) ?_); intro _ _ _ _ _ _ _ _ _ _ _; (try k_sweep))
  k_with "CompSrc" => (refine Hold.mk ?_)
  k_with "pyIter ref" => (refine Hold.mk ?_)
  trivial
theorem st144 : True := by
  k_with "call type:tuple" => (refine Hold.mk ?_)
  trivial
theorem ints_snoc {vs : List Value} {ns : List Int} {n : Int} {t : Tok} (h : IntsAre vs ns) : IntsAre (vs ++ [.int n t]) (ns ++ [n]) := by
  induction h with
  | nil => exact .cons n t .nil
  | cons a b _ ih => exact .cons a b ih
theorem ints_len {vs : List Value} {ns : List Int} (h : IntsAre vs ns) : vs.length = ns.length := by
  induction h with
  | nil => rfl
  | cons a b _ ih => simp [ih]
set_option maxHeartbeats 2000000 in
theorem law_tup {w : World} {g : Heap} {L' : Addr} {s : Shared} {m : Str → Option Value} {mean : ExcName → Option Value} {mg mb : Str → Option Value} {P C : Addr} {oP oC oc2 : Obj} {b : Int} {tl : List (Addr × Obj)} {Q E : Value → Shared → Prop}
    (X : (Mine.hd.heap_1 w.params).In g) (T : Top Mine.vw (looseW Mine.vw []) mean mg mb g) (F : Fr g L' s.heap m) (N : News g L' s.heap ((P, oP) :: (C, oC) :: (L' + 1, oc2) :: tl)) (dc : oc2.data = Data.cell (some (.ref P))) (hPC : @Ne Nat P C)
    (n1 : @Ne Nat (L' + 1) P) (n2 : @Ne Nat (L' + 1) C) (w1 : ∀ p ∈ tl, p.1 ≠ P) (w2 : ∀ p ∈ tl, p.1 ≠ C) (hp : Pot P C b oP oC) (hb : b < 50000)
    (k : ∀ oP' oC' tp us n ps h' tk', Fr g L' h' m → News g L' h' ((tp, tupOf (List.toArray us) n) :: (P, oP') :: (C, oC') :: (L' + 1, oc2) :: tl) → (∀ p ∈ (P, oP') :: (C, oC') :: (L' + 1, oc2) :: tl, @Ne Nat p.1 tp) → Pot P C (b + 5) oP' oC' → IntsAre us ps → ps.length ≤ 3 → Q (.ref tp) { s with heap := h', toks := tk' }) :
    wpAny (model PySem.Challenge.rw_nu0223_01.row.prog w) (lawA L') (eval lawTup.1 (lawEnv L')) Q E s := by
  have w4 : ∀ p ∈ tl, ∀ q ∈ [P, C], q ≠ p.1 := fun p hm q hq => by
    rcases List.mem_cons.mp hq with e | hq
    · rw [e]; exact (w1 p hm).symm
    · rw [List.mem_singleton.mp hq]; exact (w2 p hm).symm
  unfold lawTup
  dsimp only
  k_with "eval ListComp" => (k_here; k_dflt (refine LCg.ListComp_U (F₀ := by k_asm) (by with_unfolding_all rfl) (by decide) (by rfl) (by decide) (by rfl) ?_))
  show wpAny _ _ _ _ _ _
  (try k_fold)
  k_steps
  all_goals (try dsimp only)
  rename_i dv td oP5 oC5 _ _ rF rN hp5 hv0 hv4 h5 _ _ _ _ IR F7 N7 kp
  refine Hold.of ?_
  clear rF rN
  refine LCg.CompSrc.range (n := dv.toNat) rfl F7 N7 IR ?small (by rw [rangeSize_nat]; simp) (by simp [sizeLine_eq]; omega) ?_
  case small => exact small_one (by decide) (by decide) (by omega) (by omega)
  intro g'
  refine comp_inv (fun j ys nx => ∃ oP oC zs, IntsAre ys zs ∧ zs.length = j ∧ nx = (P, oP) :: (C, oC) :: (L' + 1, oc2) :: tl ∧ Pot P C (b + 1 + j) oP oC) ⟨oP5, oC5, [], .nil, rfl, rfl, by exact hp5.mono (by omega)⟩ ?turn ?fin
  case turn =>
    rintro j ys nx v I oI C0 oC0 D m₂ h tk E' hj ⟨oPj, oCj, zs, hz, hzl, rfl, hpj⟩ hv hC hx F2 N2 off ne
    have off2 := off
    simp only [LCg.Off3] at off2
    obtain ⟨⟨x1, x2, x3⟩, ⟨x4, x5, x6⟩, ⟨x7, x8, x9⟩, xj⟩ := off2
    obtain ⟨y1, y2, y3⟩ := ne
    have hb9 : b + 1 + ((j : Nat) : Int) < 100000 := by
      clear x1 x2 x3 x4 x5 x6 x7 x8 x9 y1 y2 y3
      omega
    clear F7 N7
    show wpAny _ _ _ _ _ _
    (try k_fold)
    k_steps
    all_goals (try dsimp only)
    rename_i rv _ oP6 oC6 h6 tk6 F6 N6 hp6 hr0 hr20
    refine LCg.CompEnd.intro F6 N6 ((P, oP6) :: (C, oC6) :: (L' + 1, oc2) :: tl) ?_ ⟨⟨x1, x2, x3⟩, ⟨x4, x5, x6⟩, ⟨x7, x8, x9⟩, xj⟩ trivial ⟨oP6, oC6, zs ++ [10 + rv], ints_snoc hz, by simp [hzl], rfl, hp6.mono (by omega)⟩
    intro p hp
    simp only [List.mem_cons] at hp ⊢
    (repeat' (refine Or.elim hp ?_ ?_ <;> clear hp <;> intro hp)) <;> (first | solve_by_elim (maxDepth := 12) only [hp, Or.inl, Or.inr] | simp only [hp, true_or, or_true, eq_self])
  case fin =>
    rintro ys nx ⟨oPj, oCj, zs, hz, hzl, rfl, hpj⟩
    intro D h tk F2 N2 o1
    dsimp only
    show wpAny _ _ _ _ _ _
    (try k_fold)
    k_steps
    all_goals (try dsimp only)
    refine Hold.of ?_
    have hyl : ys.length = zs.length := ints_len hz
    refine kde_tupleOf F2 N2 (News.isList N2 (.head _)) (by simp; omega) rfl ?_
    intro tp h6 F6 N6 kp6
    refine k oPj oCj tp ys 0 zs h6 _ F6 (fun p hp => N6 p ?_) (fun p hp => Nat.ne_of_lt (kp6 p (.tail _ hp))) (hpj.mono (by omega)) hz (by omega)
    rcases List.mem_cons.mp hp with rfl | hp
    · exact .head _
    · exact .tail _ (.tail _ hp)
end
section
theorem st145 : True := by w_top off; k_with_none; trivial
theorem st146 : True := by
  k_with "my mem" => (first | with_reducible assumption | (refine mem_in ?_; with_reducible assumption) | (refine' List.mem_append_right _ ?_; k_mem) | (refine' List.mem_append_left _ ?_; k_mem))
  k_with "my all" => (with_reducible assumption)
  k_with "my ne" => ((dsimp only; first | with_reducible assumption | (refine Ne.symm ?_; with_reducible assumption)))
  k_with "my ne" => (first | with_reducible assumption | (refine Ne.symm ?_; with_reducible assumption))
  k_with "my range" => (first | (with_unfolding_all refine range1_rows ‹Fr _ _ _ _› ‹News _ _ _ _› ?_) | (with_unfolding_all refine range2_rows ‹Fr _ _ _ _› ‹News _ _ _ _› ?_))
  k_with "my pick" => (first | exact Pick.nil | (refine' Pick.take (by first | exact List.Mem.head _ | exact List.Mem.tail _ (List.Mem.head _)) (by walk_at "my pick")) | (refine' Pick.skip (by k_all) (by walk_at "my pick")) | (refine Pick.all (by assumption)))
  k_with "call ref" => (k_here; (with_reducible show wpAny _ _ (call (Value.ref 283) [Value.ref _, Value.int _ _]) _ _ _); k_dflt (refine' draw_at (by k_asm) (by k_asm) (by k_asm) (by k_asm) (by rfl) (by exact Nat.le_of_ble_eq_true rfl) (by exact Nat.le_of_ble_eq_true rfl) (by k_asm) (by k_asm) (by k_mem) (by k_mem) (by walk_at "my pick") (by first | with_reducible assumption | omega) (by decide) (by decide) ?_); intro _ _ _ _ _ _ _ _ _ _ _; (try k_sweep))
  k_with "CompSrc" => (refine Hold.mk ?_)
  k_with "pyIter ref" => (refine Hold.mk ?_)
  trivial
local macro_rules | `(tactic| walk_at "exec For Name Tuple cons nil") => `(tactic| (k_here; (rename Fr _ _ _ _ => lF'); (with_unfolding_all refine' For_invVF lF' (by rfl) (by rfl) ?_; k_whole)))
theorem st147 : True := by
  k_with "eval Call" => (k_here; (with_reducible show wpAny _ _ (eval (PySem.Expr.Call (PySem.Expr.Name _ _) [PySem.Expr.ListComp _ _ _ _] _ _) _) _ _ _); refine Hold.mk ?_)
  trivial
theorem stored_new {kM : List (Int × Value)} {k : Int} {v : Value} (h : ∀ p ∈ kM, p.1 < k) : PySem.stored kM k v = kM ++ [(k, v)] := by
  unfold PySem.stored
  rw [if_neg]
  intro e
  obtain ⟨p, hp, e2⟩ := List.any_eq_true.mp e
  have := h p hp
  simp at e2
  omega
inductive ForJ (w : World) (P C M L' : Addr) (oc2 o1 : Obj) (tl : List (Addr × Obj)) (v1 v2 v3 v4 : Value) (b : Int) (i : Nat) (m : Str → Option Value) (nx : List (Addr × Obj)) : Prop
  | mk (oP oC oM : Obj) (kM : List (Int × Value)) (tups : List (Addr × Obj)) (h1 : Has m [(Str.ofString "width", v1), (Str.ofString "shift", v2), (Str.ofString "rows", v3), (Str.ofString "way", v4)])
    (h2 : nx = (P, oP) :: (C, oC) :: (L' + 1, oc2) :: (M, oM) :: (L' + 1 + 1, o1) :: (tl ++ tups)) (h3 : Pot P C (b + 10 * i) oP oC) (h4 : oM.IsDictOf (IK w) kM) (h5 : MVals tups kM) (h6 : ∀ p ∈ kM, p.1 ≤ (i : Int)) (h7 : kM.length ≤ i) (h8 : ∀ p ∈ tups, p.1 ≠ P ∧ p.1 ≠ C ∧ p.1 ≠ M) : ForJ w P C M L' oc2 o1 tl v1 v2 v3 v4 b i m nx
set_option maxHeartbeats 2000000 in
theorem law_for {w : World} {g : Heap} {L' : Addr} {s : Shared} {m : Str → Option Value} {mean : ExcName → Option Value} {mg mb : Str → Option Value} {P C M : Addr} {oP oC oc2 oM o1 : Obj} {b : Int} {tl : List (Addr × Obj)} {v1 v2 v3 v4 : Value} {Q : Flow → Shared → Prop}
    (X : (Mine.hd.heap_1 w.params).In g) (T : Top Mine.vw (looseW Mine.vw []) mean mg mb g) (F : Fr g L' s.heap m) (hm : Has m [(Str.ofString "width", v1), (Str.ofString "shift", v2), (Str.ofString "rows", v3), (Str.ofString "way", v4)])
    (N : News g L' s.heap ((P, oP) :: (C, oC) :: (L' + 1, oc2) :: (M, oM) :: (L' + 1 + 1, o1) :: tl)) (dc : oc2.data = Data.cell (some (.ref P))) (dc1 : o1.data = Data.cell (some (.ref M))) (hPC : @Ne Nat P C)
    (n1 : @Ne Nat (L' + 1) P) (n2 : @Ne Nat (L' + 1) C) (n3 : @Ne Nat (L' + 1) M) (n4 : @Ne Nat (L' + 1 + 1) P) (n5 : @Ne Nat (L' + 1 + 1) C) (n6 : @Ne Nat (L' + 1 + 1) M) (n7 : @Ne Nat P M) (n8 : @Ne Nat C M)
    (w1 : ∀ p ∈ tl, p.1 ≠ P) (w2 : ∀ p ∈ tl, p.1 ≠ C) (w3 : ∀ p ∈ tl, p.1 ≠ M) (hp : Pot P C b oP oC) (hb : b < 10000) (dM : oM.IsDictOf (IK w) [])
    (k : ∀ oP' oC' oM' kM tups m' h' tk', Has m' [(Str.ofString "width", v1), (Str.ofString "shift", v2), (Str.ofString "rows", v3), (Str.ofString "way", v4)] → Fr g L' h' m' → News g L' h' ((P, oP') :: (C, oC') :: (L' + 1, oc2) :: (M, oM') :: (L' + 1 + 1, o1) :: (tl ++ tups)) → oM'.IsDictOf (IK w) kM → MVals tups kM → kM.length ≤ 3 → Q .next { s with heap := h', toks := tk' }) :
    wpAny (model PySem.Challenge.rw_nu0223_01.row.prog w) (lawA L') (exec lawFor.1 (lawEnv L')) Q (fun _ _ => False) s := by
  unfold lawFor
  dsimp only
  refine fr_cut _ F hm fun u F1 => ?_
  clear F
  show wpAny _ _ _ _ _ _
  (try k_fold)
  k_steps
  all_goals (try dsimp only)
  rename_i Dt h2 F2 N2 l2
  refine Hold.of ?_
  refine tpl_iter (vs := [.int 1 s.toks, .int 2 (s.toks + 1), .int 3 (s.toks + 1 + 1)]) (ForJ w P C M L' oc2 o1 tl v1 v2 v3 v4 b) rfl F2 N2 ?off ?hj ?turn ?done
  case off => (simp only [List.forall_mem_cons]; exact ⟨Nat.ne_of_lt l2.1, Nat.ne_of_lt l2.2.1, Nat.ne_of_lt l2.2.2.1, Nat.ne_of_lt l2.2.2.2.1, Nat.ne_of_lt l2.2.2.2.2.1, fun p hp => Nat.ne_of_lt (allLt_mem l2.2.2.2.2.2 p hp)⟩)
  case hj => exact ⟨oP, oC, oM, [], [], ⟨rfl, rfl, rfl, rfl, trivial⟩, by simp, hp.mono (by omega), dM, (fun _ h => nomatch h), (fun _ h => nomatch h), Nat.le_refl _, (fun _ h => nomatch h)⟩
  case done =>
    rintro m₁ nx h tk ⟨oP', oC', oM', kM, tups, h1, rfl, h3, h4, h5, h6, h7, h8⟩ F5 N5
    exact k oP' oC' oM' kM tups m₁ h tk h1 F5 N5 h4 h5 h7
  case turn =>
    rintro i v m₁ nx h tk' own hv hoff ⟨oPi, oCi, oMi, kM, tups, hm', rfl, hpot, hdM, hvals, hkeys, hklen, htp⟩ F5 N5
    obtain ⟨t, rfl, hi3⟩ : ∃ t, v = .int (((i : Nat) : Int) + 1) t ∧ i < 3 := by
      rcases i with _ | _ | _ | i
      · exact ⟨_, (Option.some.inj hv).symm, by decide⟩
      · exact ⟨_, (Option.some.inj hv).symm, by decide⟩
      · exact ⟨_, (Option.some.inj hv).symm, by decide⟩
      · simp at hv
    obtain ⟨tx, htx⟩ : ∃ tx, tx = tl ++ tups ++ own := ⟨_, rfl⟩
    have N6 : News g L' h ((P, oPi) :: (C, oCi) :: (L' + 1, oc2) :: (M, oMi) :: (L' + 1 + 1, o1) :: tx) := by rw [htx]; exact N5
    have x1 : ∀ p ∈ tx, p.1 ≠ P := by
      intro p hm; rw [htx] at hm
      rcases List.mem_append.mp hm with hm | hm
      · rcases List.mem_append.mp hm with hm | hm
        · exact w1 p hm
        · exact (htp p hm).1
      · exact hoff p hm P (by simp)
    have x2 : ∀ p ∈ tx, p.1 ≠ C := by
      intro p hm; rw [htx] at hm
      rcases List.mem_append.mp hm with hm | hm
      · rcases List.mem_append.mp hm with hm | hm
        · exact w2 p hm
        · exact (htp p hm).2.1
      · exact hoff p hm C (by simp)
    have x3 : ∀ p ∈ tx, p.1 ≠ M := by
      intro p hm; rw [htx] at hm
      rcases List.mem_append.mp hm with hm | hm
      · rcases List.mem_append.mp hm with hm | hm
        · exact w3 p hm
        · exact (htp p hm).2.2
      · exact hoff p hm M (by simp)
    have x4 : ∀ p ∈ tx, ∀ q ∈ [P, C], q ≠ p.1 := fun p hm q hq => by
      rcases List.mem_cons.mp hq with e | hq
      · rw [e]; exact (x1 p hm).symm
      · rw [List.mem_singleton.mp hq]; exact (x2 p hm).symm
    refine fr_cut _ F5 (has_upd hm' rfl) fun u6 F6 => ?_
    clear F2 N2 l2 N5
    clear F5
    show wpAny _ _ _ _ _ _
    (try k_fold)
    k_steps
    all_goals (try dsimp only)
    refine Hold.of ?_
    refine law_tup X T F6 N6 dc hPC n1 n2 (List.forall_mem_cons.mpr ⟨n7.symm, List.forall_mem_cons.mpr ⟨n4, x1⟩⟩) (List.forall_mem_cons.mpr ⟨n8.symm, List.forall_mem_cons.mpr ⟨n5, x2⟩⟩) hpot (by omega) ?_
    intro oP7 oC7 tp us nt ps h7 tk7 F7 N7 tpn hp7 hus hps
    have t1 : @Ne Nat tp P := (tpn _ (.head _)).symm
    have t2 : @Ne Nat tp C := (tpn _ (.tail _ (.head _))).symm
    have t3 : @Ne Nat tp M := (tpn _ (.tail _ (.tail _ (.tail _ (.head _))))).symm
    clear F6 N6
    have fin : ∀ {b : Int} {i : Nat} {oP8 oC8 oM8 : Obj} {kM8 : List (Int × Value)} {h8 : Heap} {tk8 tk9 : Nat} {m8 : Str → Option Value} {h9 : Heap}, Fr g L' h8 m8 → Has m8 [(Str.ofString "width", v1), (Str.ofString "shift", v2), (Str.ofString "rows", v3), (Str.ofString "way", v4)] →
        News g L' h8 ((P, oP8) :: (C, oC8) :: (tp, tupOf us.toArray nt) :: (L' + 1, oc2) :: (M, oM8) :: (L' + 1 + 1, o1) :: tx) → Pot P C (b + 10 * i + 5 + 1) oP8 oC8 → oM8.IsDictOf (IK w) kM8 → MVals (tups ++ [(tp, tupOf us.toArray nt)]) kM8 → (∀ p ∈ kM8, p.1 ≤ ((i : Nat) : Int) + 1) → kM8.length ≤ i + 1 →
        Turn g L' (ForJ w P C M L' oc2 o1 tl v1 v2 v3 v4 b (i + 1)) own { s with heap := h9, toks := tk9 } Q .next { s with heap := h8, toks := tk8 } := by
      intro b i oP8 oC8 oM8 kM8 h8 tk8 tk9 m8 h9 F8 hm8 N8 hp8 d8 v8 k8 l8
      have tn : ∀ p ∈ own, p.1 ≠ tp := fun p hm => tpn p (.tail _ (.tail _ (.tail _ (.tail _ (.tail _ (by rw [htx]; exact List.mem_append_right _ hm))))))
      refine Turn.next (s₁ := { s with heap := h9, toks := tk9 }) ((P, oP8) :: (C, oC8) :: (L' + 1, oc2) :: (M, oM8) :: (L' + 1 + 1, o1) :: (tl ++ (tups ++ [(tp, tupOf us.toArray nt)]))) F8 N8 ⟨oP8, oC8, oM8, kM8, _, hm8, rfl, hp8.mono (by omega), d8, v8, ?_, l8, ?_⟩ ?_ ?_ ?_
      · intro p hm; have := k8 p hm; omega
      · intro p hm
        rcases List.mem_append.mp hm with hm | hm
        · exact htp p hm
        · rw [List.mem_singleton.mp hm]; exact ⟨t1, t2, t3⟩
      · intro p hm c hc
        simp only [List.map_cons, List.map_append, List.map_nil, List.mem_cons, List.mem_append, List.not_mem_nil, or_false] at hc
        have h0 := hoff p hm
        simp only [List.map_cons, List.map_append, List.mem_cons, List.mem_append] at h0
        rcases hc with hc | hc | hc | hc | hc | hc | hc | hc
        · exact h0 c (.inl hc)
        · exact h0 c (.inr (.inl hc))
        · exact h0 c (.inr (.inr (.inl hc)))
        · exact h0 c (.inr (.inr (.inr (.inl hc))))
        · exact h0 c (.inr (.inr (.inr (.inr (.inl hc)))))
        · exact h0 c (.inr (.inr (.inr (.inr (.inr (.inl hc))))))
        · exact h0 c (.inr (.inr (.inr (.inr (.inr (.inr hc))))))
        · rw [hc]; exact tn p hm
      · intro p hm
        rw [htx]
        simp only [List.mem_cons, List.mem_append, List.not_mem_nil, or_false] at hm ⊢
        (repeat' (refine Or.elim hm ?_ ?_ <;> clear hm <;> intro hm)) <;> (first | solve_by_elim (maxDepth := 12) only [hm, Or.inl, Or.inr] | simp only [hm, true_or, or_true, eq_self])
      · intro p hm
        rw [htx]
        simp only [List.mem_cons, List.mem_append, List.not_mem_nil, or_false] at hm ⊢
        (repeat' (refine Or.elim hm ?_ ?_ <;> clear hm <;> intro hm)) <;> (first | solve_by_elim (maxDepth := 12) only [hm, Or.inl, Or.inr] | simp only [hm, true_or, or_true, eq_self])
    dsimp only
    show wpAny _ _ _ _ _ _
    (try k_fold)
    k_steps
    all_goals (try dsimp only)
    all_goals (rename Fr _ _ _ _ => F8; rename News _ _ _ _ => N8; rename (0 ≤ _) => hr0; rename (_ < (4 : Int)) => hr4; rename Pot _ _ (b + 10 * _ + 5 + 1) _ _ => hp8)
    all_goals (rename_i oP8 oC8 h8 tk8 cpos)
    · refine kda_set (F := F8) (N := N8) (by k_updF) hdM (PySem.intKind_is _ _ _ _) (by simp [sizeLine_eq]; omega) ?_
      intro h9 oM9 F9 N9 d9
      rw [stored_new (fun p hm => by have := hkeys p hm; omega)] at d9
      dsimp only
      show wpAny _ _ _ _ _ _
      (try k_fold)
      k_steps
      all_goals (try dsimp only)
      refine fin (b := b) (i := i) F9 ⟨rfl, rfl, rfl, rfl, trivial⟩ N9 hp8 d9 ?_ ?_ ?_
      · intro p hm
        rcases List.mem_append.mp hm with hm | hm
        · obtain ⟨a1, a2, a3, a4, b1, b2, b3, b4⟩ := hvals p hm
          exact ⟨a1, a2, a3, a4, b1, List.mem_append_left _ b2, b3, b4⟩
        · rw [List.mem_singleton.mp hm]
          exact ⟨tp, us, nt, ps, rfl, List.mem_append_right _ (.head _), hus, hps⟩
      · intro p hm
        rcases List.mem_append.mp hm with hm | hm
        · have := hkeys p hm; omega
        · rw [List.mem_singleton.mp hm]; dsimp only; omega
      · rw [List.length_append, List.length_singleton]; omega
    · refine fin (b := b) (i := i) F8 ⟨rfl, rfl, rfl, rfl, trivial⟩ N8 hp8 hdM ?_ ?_ ?_
      · intro p hm
        obtain ⟨a1, a2, a3, a4, b1, b2, b3, b4⟩ := hvals p hm
        exact ⟨a1, a2, a3, a4, b1, List.mem_append_left _ b2, b3, b4⟩
      · intro p hm
        have := hkeys p hm; omega
      · omega
end
section
theorem st148 : True := by w_top off; k_with_none; trivial
theorem st149 : True := by
  k_with "my mem" => (first | with_reducible assumption | (refine mem_in ?_; with_reducible assumption) | (refine' List.mem_append_right _ ?_; k_mem) | (refine' List.mem_append_left _ ?_; k_mem))
  k_with "my all" => (with_reducible assumption)
  k_with "my ne" => ((dsimp only; first | with_reducible assumption | (refine Ne.symm ?_; with_reducible assumption)))
  k_with "my ne" => (first | with_reducible assumption | (refine Ne.symm ?_; with_reducible assumption))
  k_with "my range" => (first | (with_unfolding_all refine range1_rows ‹Fr _ _ _ _› ‹News _ _ _ _› ?_) | (with_unfolding_all refine range2_rows ‹Fr _ _ _ _› ‹News _ _ _ _› ?_))
  k_with "my pick" => (first | exact Pick.nil | (refine' Pick.take (by first | exact List.Mem.head _ | exact List.Mem.tail _ (List.Mem.head _)) (by walk_at "my pick")) | (refine' Pick.skip (by k_all) (by walk_at "my pick")) | (refine Pick.all (by assumption)))
  k_with "call ref" => (k_here; (with_reducible show wpAny _ _ (call (Value.ref 283) [Value.ref _, Value.int _ _]) _ _ _); k_dflt (refine' draw_at (by k_asm) (by k_asm) (by k_asm) (by k_asm) (by rfl) (by exact Nat.le_of_ble_eq_true rfl) (by exact Nat.le_of_ble_eq_true rfl) (by k_asm) (by k_asm) (by k_mem) (by k_mem) (by walk_at "my pick") (by first | with_reducible assumption | omega) (by decide) (by decide) ?_); intro _ _ _ _ _ _ _ _ _ _ _; (try k_sweep))
  k_with "CompSrc" => (refine Hold.mk ?_)
  k_with "pyIter ref" => (refine Hold.mk ?_)
  trivial
theorem st150 : True := by
  k_with "call type:dict" => (refine Hold.mk ?_)
  k_with "eval ListComp" => (k_here; k_dflt (refine evalU (F0 := by k_asm) (by with_unfolding_all rfl) (by decide) (by rfl) (by decide) (by rfl) ?_))
  trivial
section
variable {w : World} {A : Around} {E : Value → Shared → Prop} {s : Shared} {h₀ : Heap} {L d : Addr} {news : List (Addr × Obj)} {o : Obj} {kvs : List (Int × Value)} {k : Int} {t : Tok} {v dflt : Value} {Q : Value → Shared → Prop}
theorem d_item {value slice : PySem.Expr} (N : News h₀ L s.heap news) (hp : (d, o) ∈ news) (hd : o.IsDictOf (IK w) kvs) (hl : PySem.valueAt kvs k = some v) (h : Q v { s with toks := s.toks + 1 })
    (hs : subscripted slice false (.ref d) (.int k t) = operate [.ref d, .int k t] (getItem (.ref d) (.int k t)) := by with_unfolding_all rfl) (hg : ∀ r, letTemporaryGo value (.ref d) r = pure () := by intro _; with_unfolding_all rfl) :
    wpAny (model PySem.Challenge.rw_nu0223_01.row.prog w) A (subscriptTail value slice (.ref d) (.int k t)) Q E s := kda_item N hp hd (PySem.intKind_is _ _ _ _) hl h hs hg
theorem d_in (N : News h₀ L s.heap news) (hp : (d, o) ∈ news) (hd : o.IsDictOf (IK w) kvs) (lo : (d == sysModules) = false) (hl : PySem.valueAt kvs k = some v) (h : Q (.bool true) { s with toks := s.toks + 1 }) :
    wpAny (model PySem.Challenge.rw_nu0223_01.row.prog w) A (compareOp .In (.int k t) (.ref d)) Q E s := kda_in N hp hd lo (PySem.intKind_is _ _ _ _) true (by rw [hl]; rfl) h
theorem d_in0 (N : News h₀ L s.heap news) (hp : (d, o) ∈ news) (hd : o.IsDictOf (IK w) kvs) (lo : (d == sysModules) = false) (hl : PySem.valueAt kvs k = none) (h : Q (.bool false) { s with toks := s.toks + 1 }) :
    wpAny (model PySem.Challenge.rw_nu0223_01.row.prog w) A (compareOp .In (.int k t) (.ref d)) Q E s := kda_in N hp hd lo (PySem.intKind_is _ _ _ _) false (by rw [hl]; rfl) h
theorem d_meth {pl : Sem Bool} {Q : Value × List Value → Shared → Prop} (N : News h₀ L s.heap news) (hp : (d, o) ∈ news) (hd : o.IsDictOf (IK w) kvs) (h : Q (.builtin "dict.get", [.ref d]) s) :
    wpAny (model PySem.Challenge.rw_nu0223_01.row.prog w) A (getMethod (.ref d) "get" pl) Q E s := kdg_method N hp hd h
theorem d_get1 (N : News h₀ L s.heap news) (hp : (d, o) ∈ news) (hd : o.IsDictOf (IK w) kvs) (lo : (d == sysModules) = false) (x : Option Value) (hl : PySem.valueAt kvs k = x) (h : Q (x.getD .none) { s with toks := s.toks + 1 }) :
    wpAny (model PySem.Challenge.rw_nu0223_01.row.prog w) A (call (.builtin "dict.get") [.ref d, .int k t]) Q E s := kdg_get1 N hp hd lo (PySem.intKind_is _ _ _ _) x hl h
theorem d_get2 (N : News h₀ L s.heap news) (hp : (d, o) ∈ news) (hd : o.IsDictOf (IK w) kvs) (lo : (d == sysModules) = false) (x : Option Value) (hl : PySem.valueAt kvs k = x) (h : Q (x.getD dflt) { s with toks := s.toks + 1 }) :
    wpAny (model PySem.Challenge.rw_nu0223_01.row.prog w) A (call (.builtin "dict.get") [.ref d, .int k t, dflt]) Q E s := kdg_get2 N hp hd lo (PySem.intKind_is _ _ _ _) x hl h
end
theorem st151 : True := by
  k_with "subscriptTail" => (k_here; (with_reducible show wpAny _ _ (subscriptTail _ _ (Value.ref _) (Value.int _ _)) _ _ _); k_dflt (refine' d_item (by k_asm) (by k_mem) (by with_reducible assumption) (by with_reducible assumption) ?_; k_whole))
  trivial
/-- a list of pairs, item by item -/
noncomputable def PairsOf (pl : List (Addr × Obj)) (kvs : List (Int × Value)) : Prop := All2 (fun p kv => ∃ t n, p.2 = tupOf #[.int kv.1 t, kv.2] n) pl kvs
theorem off3_append {I C D : Addr} {a b : List (Addr × Obj)} (h1 : LCg.Off3 I C D a) (h2 : LCg.Off3 I C D b) : LCg.Off3 I C D (a ++ b) := off3_iff.mpr fun p hp => by
  rcases List.mem_append.mp hp with hp | hp
  · exact off3_iff.mp h1 p hp
  · exact off3_iff.mp h2 p hp
section
variable {w : World} {A : Around} {E : Value → Shared → Prop} {s : Shared} {h₀ : Heap} {L : Addr} {m : Str → Option Value} {news : List (Addr × Obj)} {pl : List (Addr × Obj)} {kvs : List (Int × Value)} {l : Addr} {nn : Nat} {Q : Value → Shared → Prop}
theorem dict_of_pairs (F : Fr h₀ L s.heap m) (N : News h₀ L s.heap news) (hbig : h₀.NoLimit) (hh : A.handled = none) (hl : (l, listOf (List.map (fun p => Value.ref p.1) pl).toArray nn) ∈ news) (hp : PairsOf pl kvs) (hs : ∀ p ∈ pl, p ∈ news) (hz : kvs.length ≤ 1000) (hnd : (kvs.map (·.1)).Nodup)
    (h : ∀ H oH h' tk, Fr h₀ L h' m → News h₀ L h' ((H, oH) :: news) → oH.IsDictOf (IK w) kvs → (H == sysModules) = false → Q (.ref H) { s with heap := h', toks := tk }) :
    wpAny (model PySem.Challenge.rw_nu0223_01.row.prog w) A (call (.type "dict") [.ref l]) Q E s := by
  have hlen := All2.length hp
  refine call_dict_pairs (kvs := kvs) hh (N _ hl).1 (by simpa using hlen) hz hnd ?_ ?_
  · intro j v p h1 h2
    obtain ⟨q, hq, t, n, e⟩ := hp.get1 h2
    have hv : v = .ref q.1 := by
      have h3 : (List.map (fun p : Addr × Obj => Value.ref p.1) pl)[j]? = some v := by simpa using h1
      rw [List.getElem?_map, hq] at h3
      simpa using h3.symm
    have hg := (N q (hs q (List.mem_of_getElem? hq))).1
    exact ⟨q.1, t, n, hv, by rw [hg, e]⟩
  · intro h' tk hk hd
    obtain ⟨oH, e1, e2⟩ := PySem.Heap.dictOf_iff.mp hd
    refine h _ oH h' tk (F.keeps hk) (fun p hp => ?_) e2 (F.notModules (modules_low hbig))
    rcases List.mem_cons.mp hp with rfl | hp
    · exact ⟨e1, Nat.ne_of_gt F.ns.lt, next_is_new F⟩
    · exact ⟨hk _ _ (N p hp).1, (N p hp).2⟩
end
set_option maxHeartbeats 2000000 in
theorem law_hld {w : World} {g : Heap} {L' : Addr} {s : Shared} {m : Str → Option Value} {mean : ExcName → Option Value} {mg mb : Str → Option Value} {M : Addr} {oM o1 : Obj} {kM : List (Int × Value)} {tl : List (Addr × Obj)} {Q : Value → Shared → Prop} {E : Value → Shared → Prop}
    (X : (Mine.hd.heap_1 w.params).In g) (T : Top Mine.vw (looseW Mine.vw []) mean mg mb g) (F : Fr g L' s.heap m)
    (N : News g L' s.heap ((M, oM) :: (L' + 1 + 1, o1) :: tl)) (dc1 : o1.data = Data.cell (some (.ref M))) (loM : (M == sysModules) = false) (dM : oM.IsDictOf (IK w) kM) (hl : kM.length ≤ 3)
    (k : ∀ H oH h' tk', Fr g L' h' m → News g L' h' ((H, oH) :: (M, oM) :: (L' + 1 + 1, o1) :: tl) → oH.IsDictOf (IK w) kM → (H == sysModules) = false → Q (.ref H) { s with heap := h', toks := tk' }) :
    wpAny (model PySem.Challenge.rw_nu0223_01.row.prog w) (lawA L') (eval lawHldX.1 (lawEnv L')) Q E s := by
  unfold lawHldX
  dsimp only
  show wpAny _ _ _ _ _ _
  (try k_fold)
  k_steps
  all_goals (try dsimp only)
  refine Hold.of ?_
  have hnd : (kM.map (·.1)).Nodup := by obtain ⟨_, _, _, _, _, _, hn⟩ := id dM; exact hn
  refine dict_srcU rfl F N loM (.head _) dM (by rw [sizeLine_eq]; omega) ?_
  intro g'
  refine comp_inv (fun j ys nx => ∃ pl : List (Addr × Obj), ys = List.map (fun p => Value.ref p.1) pl ∧ nx = (M, oM) :: (L' + 1 + 1, o1) :: (tl ++ pl) ∧ PairsOf pl (kM.take j)) ⟨[], rfl, by simp, .nil⟩ ?turn ?fin
  case turn =>
    rintro j ys nx v I oI C0 oC0 D m₂ h tk E' hj ⟨pl, rfl, rfl, hpl⟩ ⟨kk, vx, hkj, hvi⟩ hC hx F2 N2 off ne
    obtain ⟨tt, rfl⟩ := PySem.Value.isInt_shape hvi
    have hva : PySem.valueAt kM kk = some vx := value_of_mem hnd (List.mem_of_getElem? hkj)
    obtain ⟨tx, htx⟩ : ∃ tx, tx = tl ++ pl := ⟨_, rfl⟩
    rw [← htx] at N2 off
    clear F N
    show wpAny _ _ _ _ _ _
    (try k_fold)
    k_steps
    all_goals (try dsimp only)
    rename_i Dn hn F9 N9 l9
    refine LCg.CompEnd.intro F9 N9 ((M, oM) :: (L' + 1 + 1, o1) :: (tl ++ (pl ++ [(Dn, tupOf #[.int kk tt, vx] 0)]))) ?_ ?_ (.head _) ⟨pl ++ [(Dn, tupOf #[.int kk tt, vx] 0)], by simp, rfl, ?_⟩
    · intro p hp
      rw [htx]
      simp only [List.mem_cons, List.mem_append, List.not_mem_nil, or_false] at hp ⊢
      (repeat' (refine Or.elim hp ?_ ?_ <;> clear hp <;> intro hp)) <;> (first | solve_by_elim (maxDepth := 12) only [hp, Or.inl, Or.inr] | simp only [hp, true_or, or_true, eq_self])
    · rw [htx] at off
      have ho := off3_iff.mp off
      refine off3_iff.mpr fun p hp => ?_
      simp only [List.mem_cons, List.mem_append, List.not_mem_nil, or_false] at hp ho
      rcases hp with hp | hp | hp | hp | hp
      · exact ho p (.inl hp)
      · exact ho p (.inr (.inl hp))
      · exact ho p (.inr (.inr (.inl hp)))
      · exact ho p (.inr (.inr (.inr hp)))
      · rw [hp]; exact ⟨Nat.ne_of_gt l9.1, Nat.ne_of_gt l9.2.1, Nat.ne_of_gt l9.2.2.1⟩
    · rw [List.take_add_one, hkj]
      exact All2.append hpl (.cons ⟨_, _, rfl⟩ .nil)
  case fin =>
    rintro ys nx ⟨pl, rfl, rfl, hpl⟩
    rw [List.take_length] at hpl
    intro D h tk F2 N2 o1
    dsimp only
    show wpAny _ _ _ _ _ _
    (try k_fold)
    k_steps
    all_goals (try dsimp only)
    refine Hold.of ?_
    refine dict_of_pairs F2 N2 T.nolimit rfl (.head _) hpl (fun p hp => .tail _ (.tail _ (.tail _ (List.mem_append_right _ hp)))) (by omega) hnd ?_
    intro H oH h7 tk7 F7 N7 d7 lo7
    refine k H oH h7 tk7 F7 (fun p hp => N7 p ?_) d7 lo7
    simp only [List.mem_cons, List.mem_append] at hp ⊢
    (repeat' (refine Or.elim hp ?_ ?_ <;> clear hp <;> intro hp)) <;> (first | solve_by_elim (maxDepth := 12) only [hp, Or.inl, Or.inr] | simp only [hp, true_or, or_true, eq_self])
end
section
theorem st152 : True := by w_top off; k_with_none; trivial
theorem st153 : True := by
  k_with "my mem" => (first | with_reducible assumption | (refine mem_in ?_; with_reducible assumption) | (refine' List.mem_append_right _ ?_; k_mem) | (refine' List.mem_append_left _ ?_; k_mem))
  k_with "my all" => (with_reducible assumption)
  k_with "my ne" => ((dsimp only; first | with_reducible assumption | (refine Ne.symm ?_; with_reducible assumption)))
  k_with "my ne" => (first | with_reducible assumption | (refine Ne.symm ?_; with_reducible assumption))
  k_with "my range" => (first | (with_unfolding_all refine range1_rows ‹Fr _ _ _ _› ‹News _ _ _ _› ?_) | (with_unfolding_all refine range2_rows ‹Fr _ _ _ _› ‹News _ _ _ _› ?_))
  k_with "my pick" => (first | exact Pick.nil | (refine' Pick.take (by first | exact List.Mem.head _ | exact List.Mem.tail _ (List.Mem.head _)) (by walk_at "my pick")) | (refine' Pick.skip (by k_all) (by walk_at "my pick")) | (refine Pick.all (by assumption)))
  k_with "call ref" => (k_here; (with_reducible show wpAny _ _ (call (Value.ref 283) [Value.ref _, Value.int _ _]) _ _ _); k_dflt (refine' draw_at (by k_asm) (by k_asm) (by k_asm) (by k_asm) (by rfl) (by exact Nat.le_of_ble_eq_true rfl) (by exact Nat.le_of_ble_eq_true rfl) (by k_asm) (by k_asm) (by k_mem) (by k_mem) (by walk_at "my pick") (by first | with_reducible assumption | omega) (by decide) (by decide) ?_); intro _ _ _ _ _ _ _ _ _ _ _; (try k_sweep))
  k_with "CompSrc" => (refine Hold.mk ?_)
  k_with "pyIter ref" => (refine Hold.mk ?_)
  trivial
section
variable {prog : Program} {w : World} {A : Around} {h₀ : Heap} {L : Addr} {m : Str → Option Value} {env : Env} {elt ct : PySem.Expr} {x : Str} {scope : Scope} {cl : List (Str × Addr)} {s : Shared} {S : List (Addr × Obj) → Prop} {P : Nat → Value → Prop} {Fin : List Value → List (Addr × Obj) → Prop} {news : List (Addr × Obj)}
/-- a comprehension with a test, by an invariant -/
theorem comp_invT (J : Nat → List Value → List (Addr × Obj) → Prop) {n : Nat} (h0 : J 0 [] news)
    (turn : ∀ i ys nx v I oI C oC D m₂ h tk (E' : Value → Shared → Prop), i < n → J i ys nx → P i v → LCg.NsObj oC m₂ → m₂ x = some v → Fr h₀ L h m → News h₀ L h ((I, oI) :: (C, oC) :: (D, LCg.lst ys) :: nx) → LCg.Off3 I C D nx → ((@Ne Nat I C) ∧ (@Ne Nat I D) ∧ (@Ne Nat C D)) →
      wpAny (model prog w) A (isTrue ct (compEnvC scope cl C env) (eval ct (compEnvC scope cl C env))) (fun ok s' => if ok = true then
        wpAny (model prog w) A (eval elt (compEnvC scope cl C env)) (LCg.CompEnd h₀ L m { s with heap := h, toks := tk } I oI C oC D (LCg.lst ys) S (fun y nx' => J (i + 1) (ys ++ [y]) nx')) E' s'
        else LCg.CompEnd h₀ L m { s with heap := h, toks := tk } I oI C oC D (LCg.lst ys) S (fun _ nx' => J (i + 1) ys nx') Value.none s') E' { s with heap := h, toks := tk })
    (fin : ∀ ys nx, J n ys nx → Fin ys nx) : LCt.CompRestT prog w A h₀ L m env ct elt x scope cl s S P Fin n 0 [] news := by
  have key : ∀ (j i : Nat) (ys : List Value) nx, i + j = n → J i ys nx → LCt.CompRestT prog w A h₀ L m env ct elt x scope cl s S P Fin j i ys nx := by
    intro j
    induction j with
    | zero => intro i ys nx hi hj; obtain rfl : i = n := by omega
              exact LCt.CompRestT.zero (fin _ _ hj)
    | succ j ih =>
      intro i ys nx hi hj
      refine LCt.CompRestT.succ fun v I oI C oC D m₂ h tk E' hv hC hx F N off ne => ?_
      refine wpAny_mono (turn i ys nx v I oI C oC D m₂ h tk E' (by omega) hj hv hC hx F N off ne) (fun ok s₂ hq => ?_) fun _ _ e => e
      split at hq
      · rename_i hk
        rw [if_pos hk]
        refine wpAny_mono hq (fun y s₃ hq => ?_) fun _ _ e => e
        obtain ⟨h', tk', nw, e, F', N', off', hS, hj'⟩ := hq
        exact ⟨h', tk', nw, e, F', N', off', hS, ih (i + 1) _ nw (by omega) hj'⟩
      · rename_i hk
        rw [if_neg hk]
        obtain ⟨h', tk', nw, e, F', N', off', hS, hj'⟩ := hq
        exact ⟨h', tk', nw, e, F', N', off', hS, ih (i + 1) _ nw (by omega) hj'⟩
  exact key n 0 [] news (by omega) h0
end
section
variable {prog : Program} {w : World} {A : Around} {E : Value → Shared → Prop} {s : Shared} {h₀ : Heap} {L : Addr} {news : List (Addr × Obj)} {tp : Addr} {us : List Value} {ps : List Int} {n : Nat} {k : Int} {t : Tok}
theorem g_true {Q : Bool → Shared → Prop} (N : News h₀ L s.heap news) (ht : (tp, tupOf us.toArray n) ∈ news) (hu : IntsAre us ps) (h0 : 0 < ps.length) (hz : ps.length ≤ 1000) (h : Q true { s with toks := s.toks + 1 + 1 }) :
    wpAny (model prog w) A (truthy (.ref tp)) Q E s := by
  have hl := hu.length
  refine ktl_truthy (N _ ht).1 (by rw [List.size_toArray]; omega) ?_
  have e : (!us.toArray.isEmpty) = true := by rw [List.isEmpty_toArray]; cases us with | nil => simp at hl; omega | cons _ _ => rfl
  rw [e]; exact h
theorem g_false {Q : Bool → Shared → Prop} (N : News h₀ L s.heap news) (ht : (tp, tupOf us.toArray n) ∈ news) (hu : IntsAre us ps) (h0 : ps.length = 0) (h : Q false { s with toks := s.toks + 1 + 1 }) :
    wpAny (model prog w) A (truthy (.ref tp)) Q E s := by
  have hl := hu.length
  refine ktl_truthy (N _ ht).1 (by rw [List.size_toArray]; omega) ?_
  have e : (!us.toArray.isEmpty) = false := by rw [List.isEmpty_toArray]; cases us with | nil => rfl | cons _ _ => simp at hl; omega
  rw [e]; exact h
theorem g_len {Q : Value → Shared → Prop} (N : News h₀ L s.heap news) (ht : (tp, tupOf us.toArray n) ∈ news) (hu : IntsAre us ps) (hz : ps.length ≤ 1000) (h : Q (.int ps.length (s.toks + 1)) { s with toks := s.toks + 1 + 1 }) :
    wpAny (model prog w) A (call (.builtin "len") [.ref tp]) Q E s := by
  have e : (List.toArray us).size = ps.length := by rw [List.size_toArray]; exact hu.length
  exact len_tuple (tupX (N _ ht).1) (by rw [e]; omega) (by rw [e]; exact h)
theorem g_item {value slice : PySem.Expr} {Q : Value → Shared → Prop} (N : News h₀ L s.heap news) (ht : (tp, tupOf us.toArray n) ∈ news) (hi : IntsAre us ps) (hz : ps.length ≤ 1000) (h0 : 0 ≤ k) (h1 : k < ps.length) (h : ∀ u, Q (.int (ps.getD k.toNat 0) u) s)
    (hs : subscripted slice false (.ref tp) (.int k t) = operate [.ref tp, .int k t] (getItem (.ref tp) (.int k t)) := by with_unfolding_all rfl) :
    wpAny (model prog w) A (subscriptTail value slice (.ref tp) (.int k t)) Q E s := by
  have e : (List.toArray us).size = ps.length := by rw [List.size_toArray]; exact hi.length
  have hk : k.toNat < ps.length := by omega
  obtain ⟨u, hu⟩ := hi.get k.toNat (ps.getD k.toNat 0) (by rw [List.getD_eq_getElem?_getD, List.getElem?_eq_getElem hk]; rfl)
  have hT : s.heap.IsTuple tp us.toArray := tupX (N _ ht).1
  refine tail_any hT.typeIs slot_tuple_getitem.lookup (getItem_tuple hT (by omega) (by omega) (j := k.toNat) ?_ (by simpa using hu) (h u)) hs
  rw [e]; unfold seqIndex?
  have q : ¬ k < 0 := by omega
  simp only [if_neg q]
  exact if_pos (by simp; omega)
end
theorem st154 : True := by
  k_with "truthy ref" => (k_here; (with_reducible show wpAny _ _ (truthy (Value.ref _)) _ _ _); k_dflt (first | (refine' g_true (by k_asm) (by k_mem) (by with_reducible assumption) (by omega) (by omega) ?_; k_whole) | (refine' g_false (by k_asm) (by k_mem) (by with_reducible assumption) (by omega) ?_; k_whole)))
  k_with "subscriptTail" => (k_here; (with_reducible show wpAny _ _ (subscriptTail _ _ (Value.ref _) (Value.int _ _)) _ _ _); k_dflt (refine' g_item (by k_asm) (by k_mem) (by with_reducible assumption) (by omega) (by omega) (by omega) ?_; k_whole; intro _))
  k_with "call builtin:len" => (k_here; (with_reducible show wpAny _ _ (call (Value.builtin "len") [Value.ref _]) _ _ _); k_dflt (refine' g_len (by k_asm) (by k_mem) (by with_reducible assumption) (by omega) ?_; k_whole))
  trivial
theorem st155 : True := by
  k_with "subscriptTail" => (k_here; (with_reducible show wpAny _ _ (subscriptTail _ _ (Value.ref _) (Value.int _ _)) _ _ _); k_dflt (refine' d_item (by k_asm) (by k_mem) (by with_reducible assumption) (by with_reducible assumption) ?_; k_whole))
  trivial
theorem st156 : True := by
  k_with "call type:dict" => (refine Hold.mk ?_)
  k_with "eval ListComp" => (k_here; k_dflt (refine evalT (F0 := by k_asm) (by with_unfolding_all rfl) (by decide) (by rfl) (by decide) (by rfl) ?_))
  trivial
set_option maxHeartbeats 2000000 in
theorem law_sng {w : World} {g : Heap} {L' : Addr} {s : Shared} {m : Str → Option Value} {mean : ExcName → Option Value} {mg mb : Str → Option Value} {M : Addr} {oM o1 : Obj} {kM : List (Int × Value)} {tl : List (Addr × Obj)} {Q : Value → Shared → Prop} {E : Value → Shared → Prop}
    (X : (Mine.hd.heap_1 w.params).In g) (T : Top Mine.vw (looseW Mine.vw []) mean mg mb g) (F : Fr g L' s.heap m)
    (N : News g L' s.heap ((M, oM) :: (L' + 1 + 1, o1) :: tl)) (dc1 : o1.data = Data.cell (some (.ref M))) (loM : (M == sysModules) = false) (dM : oM.IsDictOf (IK w) kM) (hl : kM.length ≤ 3) (hv : MVals tl kM)
    (k : ∀ S oS kS h' tk', Fr g L' h' m → News g L' h' ((S, oS) :: (M, oM) :: (L' + 1 + 1, o1) :: tl) → oS.IsDictOf (IK w) kS → (S == sysModules) = false → (∀ k v, PySem.valueAt kS k = some v → ∃ n t, v = .int n t) → Q (.ref S) { s with heap := h', toks := tk' }) :
    wpAny (model PySem.Challenge.rw_nu0223_01.row.prog w) (lawA L') (eval lawSngX.1 (lawEnv L')) Q E s := by
  unfold lawSngX
  dsimp only
  show wpAny _ _ _ _ _ _
  (try k_fold)
  k_steps
  all_goals (try dsimp only)
  refine Hold.of ?_
  have hnd : (kM.map (·.1)).Nodup := by obtain ⟨_, _, _, _, _, _, hn⟩ := id dM; exact hn
  refine dict_srcT rfl F N loM (.head _) dM (by rw [sizeLine_eq]; omega) ?_
  intro g'
  refine comp_invT (fun j ys nx => ∃ (pl : List (Addr × Obj)) (kS : List (Int × Value)), ys = List.map (fun p => Value.ref p.1) pl ∧ nx = (M, oM) :: (L' + 1 + 1, o1) :: (tl ++ pl) ∧ PairsOf pl kS ∧ (kS.map (·.1)).Sublist ((kM.take j).map (·.1)) ∧ (∀ p ∈ kS, ∃ n t, p.2 = .int n t)) ⟨[], [], rfl, by simp, .nil, List.Sublist.refl _, fun _ h => nomatch h⟩ ?turn ?fin
  case turn =>
    rintro j ys nx v I oI C0 oC0 D m₂ h tk E' hj ⟨pl, kS, rfl, rfl, hpl, hsub, hints⟩ ⟨kk, vx, hkj, hvi⟩ hC hx N2F N2 off ne
    obtain ⟨tt, rfl⟩ := PySem.Value.isInt_shape hvi
    have hva : PySem.valueAt kM kk = some vx := value_of_mem hnd (List.mem_of_getElem? hkj)
    obtain ⟨tp, us, nt, ps, hvx, htp, hus, hps⟩ := hv _ (List.mem_of_getElem? hkj)
    dsimp only at hvx
    subst hvx
    obtain ⟨tx, htx⟩ : ∃ tx, tx = tl ++ pl := ⟨_, rfl⟩
    rw [← htx] at N2 off
    have htp2 : (tp, tupOf us.toArray nt) ∈ tx := by rw [htx]; exact List.mem_append_left _ htp
    clear F N
    by_cases c : ps.length = 0
    · show wpAny _ _ _ _ _ _
      (try k_fold)
      k_steps
      all_goals (try dsimp only)
      refine LCg.CompEnd.intro N2F N2 ((M, oM) :: (L' + 1 + 1, o1) :: (tl ++ pl)) ?_ (by rw [← htx]; exact off) (.head _) ⟨pl, kS, rfl, rfl, hpl, ?_, hints⟩
      · intro p hp; rw [htx]; exact hp
      · rw [List.take_add_one, List.map_append]
        exact hsub.trans (List.sublist_append_left _ _)
    · show wpAny _ _ _ _ _ _
      (try k_fold)
      k_steps
      all_goals (try dsimp only)
      rename_i u' Dn hn F9 N9 l9
      refine LCg.CompEnd.intro F9 N9 ((M, oM) :: (L' + 1 + 1, o1) :: (tl ++ (pl ++ [(Dn, tupOf #[.int kk tt, .int (ps.getD (Int.toNat 0) 0) u'] 0)]))) ?_ ?_ (.head _) ⟨pl ++ [(Dn, tupOf #[.int kk tt, .int (ps.getD (Int.toNat 0) 0) u'] 0)], kS ++ [(kk, .int (ps.getD (Int.toNat 0) 0) u')], by simp, rfl, ?_, ?_, ?_⟩
      · intro p hp
        rw [htx]
        simp only [List.mem_cons, List.mem_append, List.not_mem_nil, or_false] at hp ⊢
        (repeat' (refine Or.elim hp ?_ ?_ <;> clear hp <;> intro hp)) <;> (first | solve_by_elim (maxDepth := 12) only [hp, Or.inl, Or.inr] | simp only [hp, true_or, or_true, eq_self])
      · rw [htx] at off
        have ho := off3_iff.mp off
        refine off3_iff.mpr fun p hp => ?_
        simp only [List.mem_cons, List.mem_append, List.not_mem_nil, or_false] at hp ho
        rcases hp with hp | hp | hp | hp | hp
        · exact ho p (.inl hp)
        · exact ho p (.inr (.inl hp))
        · exact ho p (.inr (.inr (.inl hp)))
        · exact ho p (.inr (.inr (.inr hp)))
        · rw [hp]; exact ⟨Nat.ne_of_gt l9.1, Nat.ne_of_gt l9.2.1, Nat.ne_of_gt l9.2.2.1⟩
      · exact All2.append hpl (.cons ⟨_, _, rfl⟩ .nil)
      · rw [List.take_add_one, hkj, List.map_append, List.map_append]
        exact List.Sublist.append hsub (List.Sublist.refl _)
      · intro p hp
        rcases List.mem_append.mp hp with hp | hp
        · exact hints p hp
        · rw [List.mem_singleton.mp hp]; exact ⟨_, _, rfl⟩
  case fin =>
    rintro ys nx ⟨pl, kS, rfl, rfl, hpl, hsub, hints⟩
    rw [List.take_length] at hsub
    intro D h tk F2 N2 o1
    dsimp only
    show wpAny _ _ _ _ _ _
    (try k_fold)
    k_steps
    all_goals (try dsimp only)
    refine Hold.of ?_
    have hlen := hsub.length_le
    simp only [List.length_map] at hlen
    refine dict_of_pairs F2 N2 T.nolimit rfl (.head _) hpl (fun p hp => .tail _ (.tail _ (.tail _ (List.mem_append_right _ hp)))) (by omega) (List.Nodup.sublist hsub hnd) ?_
    intro S oS h7 tk7 F7 N7 d7 lo7
    refine k S oS kS h7 tk7 F7 (fun p hp => N7 p ?_) d7 lo7 (fun k v hk => hints _ (value_mem hk))
    simp only [List.mem_cons, List.mem_append] at hp ⊢
    (repeat' (refine Or.elim hp ?_ ?_ <;> clear hp <;> intro hp)) <;> (first | solve_by_elim (maxDepth := 12) only [hp, Or.inl, Or.inr] | simp only [hp, true_or, or_true, eq_self])
end
section
theorem st157 : True := by w_top off; k_with_none; trivial
theorem st158 : True := by
  k_with "my mem" => (first | with_reducible assumption | (refine mem_in ?_; with_reducible assumption) | (refine' List.mem_append_right _ ?_; k_mem) | (refine' List.mem_append_left _ ?_; k_mem))
  k_with "my all" => (with_reducible assumption)
  k_with "my ne" => ((dsimp only; first | with_reducible assumption | (refine Ne.symm ?_; with_reducible assumption)))
  k_with "my ne" => (first | with_reducible assumption | (refine Ne.symm ?_; with_reducible assumption))
  k_with "my range" => (first | (with_unfolding_all refine range1_rows ‹Fr _ _ _ _› ‹News _ _ _ _› ?_) | (with_unfolding_all refine range2_rows ‹Fr _ _ _ _› ‹News _ _ _ _› ?_))
  k_with "my pick" => (first | exact Pick.nil | (refine' Pick.take (by first | exact List.Mem.head _ | exact List.Mem.tail _ (List.Mem.head _)) (by walk_at "my pick")) | (refine' Pick.skip (by k_all) (by walk_at "my pick")) | (refine Pick.all (by assumption)))
  k_with "call ref" => (k_here; (with_reducible show wpAny _ _ (call (Value.ref 283) [Value.ref _, Value.int _ _]) _ _ _); k_dflt (refine' draw_at (by k_asm) (by k_asm) (by k_asm) (by k_asm) (by rfl) (by exact Nat.le_of_ble_eq_true rfl) (by exact Nat.le_of_ble_eq_true rfl) (by k_asm) (by k_asm) (by k_mem) (by k_mem) (by walk_at "my pick") (by first | with_reducible assumption | omega) (by decide) (by decide) ?_); intro _ _ _ _ _ _ _ _ _ _ _; (try k_sweep))
  k_with "CompSrc" => (refine Hold.mk ?_)
  k_with "pyIter ref" => (refine Hold.mk ?_)
  trivial
theorem st159 : True := by
  k_with "truthy ref" => (k_here; (with_reducible show wpAny _ _ (truthy (Value.ref _)) _ _ _); k_dflt (first | (refine' g_true (by k_asm) (by k_mem) (by with_reducible assumption) (by omega) (by omega) ?_; k_whole) | (refine' g_false (by k_asm) (by k_mem) (by with_reducible assumption) (by omega) ?_; k_whole)))
  k_with "subscriptTail" => (k_here; (with_reducible show wpAny _ _ (subscriptTail _ _ (Value.ref _) (Value.int _ _)) _ _ _); k_dflt (refine' g_item (by k_asm) (by k_mem) (by with_reducible assumption) (by omega) (by omega) (by omega) ?_; k_whole; intro _))
  k_with "call builtin:len" => (k_here; (with_reducible show wpAny _ _ (call (Value.builtin "len") [Value.ref _]) _ _ _); k_dflt (refine' g_len (by k_asm) (by k_mem) (by with_reducible assumption) (by omega) ?_; k_whole))
  trivial
theorem st160 : True := by
  k_with "call ref" => (k_here; (with_reducible show wpAny _ _ (call (Value.ref 302) [Value.ref _]) _ _ _); refine Hold.mk ?_)
  k_with "compareOp NotEq ref ref" => (refine Hold.mk ?_)
  trivial
section
variable {w : World} {g : Heap} {L' : Addr} {s : Shared} {m : Str → Option Value} {mean : ExcName → Option Value} {mg mb : Str → Option Value} {Q : Flow → Shared → Prop} {news led : List (Addr × Obj)}
  {Fx : List (Addr × Obj)} {buf dbuf sc dsc : Addr} {ob osc : Obj} {R : Addr} {nR : Nat} {cs : List Cell} {rs : List Row} {sp bits : Int} {i : Nat} {r : Row} {Rw : Addr} {refs : List Addr} {nw : Nat} {tp : Addr} {us : List Value} {nt : Nat} {ps : List Int} {t0 ti tq : Tok} {sq : Int} {a : Addr} {o : Obj}
set_option maxHeartbeats 2000000 in
theorem law_lst (X : (Mine.hd.heap_1 w.params).In g) (T : Top Mine.vw (looseW Mine.vw []) mean mg mb g) (F : Fr g L' s.heap m) (hm : Has m [(Str.ofString "buffer", .ref buf), (Str.ofString "rows", .ref Rw)]) (N : News g L' s.heap news)
    (hsub : ∀ p ∈ Mut dbuf ob R nR cs ++ Fx, p ∈ news) (I : Inv w Fx buf dbuf sc dsc ob osc R nR cs rs sp bits) (hRw : (Rw, listOf (List.toArray (List.map Value.ref refs)) nw) ∈ news) (hr : RowsIn led refs rs) (hled : ∀ p ∈ led, p ∈ news)
    (k : ∀ h' tk' news', Fr g L' h' m → News g L' h' news' → (∀ p ∈ news, p ∈ news') → Q .next { s with heap := h', toks := tk' }) :
    wpAny (model PySem.Challenge.rw_nu0223_01.row.prog w) (lawA L') (exec lawIf3.1 (lawEnv L')) Q (fun _ _ => False) s := by
  have F1 : Fr g L' s.heap (kstB m [(Str.ofString "buffer", .ref buf), (Str.ofString "rows", .ref Rw)]) := fr_map _ F hm
  clear F
  unfold lawIf3
  dsimp only
  show wpAny _ _ _ _ _ _
  (try k_fold)
  k_steps
  all_goals (try dsimp only)
  refine Hold.of ?_
  refine told_at X T F1 N rfl (Nat.le_of_ble_eq_true rfl) (Nat.le_of_ble_eq_true rfl) hsub I ?_
  intro D refs2 n2 led2 h2 tk2 F2 N2 r2
  clear F1
  (try dsimp only)
  show wpAny _ _ _ _ _ _
  (try k_fold)
  k_steps
  all_goals (try dsimp only)
  refine Hold.of ?_
  refine rows_ne N2 (.head _) (.tail _ (List.mem_append_right _ hRw)) r2 hr (fun p hp => .tail _ (List.mem_append_left _ hp)) (fun p hp => .tail _ (List.mem_append_right _ (hled p hp))) (by exact Nat.le_of_ble_eq_true rfl) ?_
  (try dsimp only)
  show wpAny _ _ _ _ _ _
  (try k_fold)
  k_steps
  all_goals (try dsimp only)
  rw [kst_id hm] at F2
  exact k _ _ _ F2 N2 fun p hp => .tail _ (List.mem_append_right _ hp)
end
end
section
theorem madeRows_length {r : Row} {ps : List Int} {sp : Int} : (madeRows r ps sp).length = ps.length := by
  unfold madeRows pieceRows
  split
  · rename_i h; simp [h]
  · simp
theorem sb3 {m : Str → Option Value} {v1 v2 v3 : Option Value} : SameBut [Str.ofString "rows", Str.ofString "split_id", Str.ofString "at"] m (fun y => if y = Str.ofString "at" then v1 else if y = Str.ofString "rows" then v2 else if y = Str.ofString "split_id" then v3 else m y) := by
  intro y hy
  simp only [List.contains_cons, List.contains_nil, Bool.or_false, Bool.or_eq_false_iff, beq_eq_false_iff_ne] at hy
  dsimp only
  rw [if_neg hy.2.2, if_neg hy.1, if_neg hy.2.1]
section
variable {prog : Program} {w : World} {A : Around} {E : Value → Shared → Prop} {s : Shared} {h₀ : Heap} {L : Addr} {m : Str → Option Value} {news : List (Addr × Obj)}
theorem l_add {a b : Addr} {vs ws : List Value} {n1 n2 : Nat} {Q : Value → Shared → Prop} (F : Fr h₀ L s.heap m) (N : News h₀ L s.heap news) (h1 : (a, listOf vs.toArray n1) ∈ news) (h2 : (b, listOf ws.toArray n2) ∈ news) (hz : vs.length + ws.length ≤ 2000)
    (h : ∀ D h', Fr h₀ L h' m → News h₀ L h' ((D, listOf (vs ++ ws).toArray 0) :: news) → (∀ p ∈ news, p.1 < D) → Q (.ref D) { s with heap := h' }) : wpAny (model prog w) A (binaryOp .Add (.ref a) (.ref b)) Q E s :=
  kmk_add_lit F N (News.isList N h1) (News.isList N h2) (by simp) h (by rw [sizeLine_eq]; simp; omega)
end
theorem st161 : True := by w_top off; k_with_none; trivial
theorem st162 : True := by
  k_with "my mem" => (first | with_reducible assumption | (refine mem_in ?_; with_reducible assumption) | (refine' List.mem_append_right _ ?_; k_mem) | (refine' List.mem_append_left _ ?_; k_mem))
  k_with "my all" => (with_reducible assumption)
  k_with "my ne" => ((dsimp only; first | with_reducible assumption | (refine Ne.symm ?_; with_reducible assumption)))
  k_with "my ne" => (first | with_reducible assumption | (refine Ne.symm ?_; with_reducible assumption))
  k_with "my range" => (first | (with_unfolding_all refine range1_rows ‹Fr _ _ _ _› ‹News _ _ _ _› ?_) | (with_unfolding_all refine range2_rows ‹Fr _ _ _ _› ‹News _ _ _ _› ?_))
  k_with "my pick" => (first | exact Pick.nil | (refine' Pick.take (by first | exact List.Mem.head _ | exact List.Mem.tail _ (List.Mem.head _)) (by walk_at "my pick")) | (refine' Pick.skip (by k_all) (by walk_at "my pick")) | (refine Pick.all (by assumption)))
  k_with "call ref" => (k_here; (with_reducible show wpAny _ _ (call (Value.ref 283) [Value.ref _, Value.int _ _]) _ _ _); k_dflt (refine' draw_at (by k_asm) (by k_asm) (by k_asm) (by k_asm) (by rfl) (by exact Nat.le_of_ble_eq_true rfl) (by exact Nat.le_of_ble_eq_true rfl) (by k_asm) (by k_asm) (by k_mem) (by k_mem) (by walk_at "my pick") (by first | with_reducible assumption | omega) (by decide) (by decide) ?_); intro _ _ _ _ _ _ _ _ _ _ _; (try k_sweep))
  k_with "CompSrc" => (refine Hold.mk ?_)
  k_with "pyIter ref" => (refine Hold.mk ?_)
  trivial
theorem st163 : True := by
  k_with "truthy ref" => (k_here; (with_reducible show wpAny _ _ (truthy (Value.ref _)) _ _ _); k_dflt (first | (refine' g_true (by k_asm) (by k_mem) (by with_reducible assumption) (by omega) (by omega) ?_; k_whole) | (refine' g_false (by k_asm) (by k_mem) (by with_reducible assumption) (by omega) ?_; k_whole)))
  k_with "subscriptTail" => (k_here; (with_reducible show wpAny _ _ (subscriptTail _ _ (Value.ref _) (Value.int _ _)) _ _ _); k_dflt (refine' g_item (by k_asm) (by k_mem) (by with_reducible assumption) (by omega) (by omega) (by omega) ?_; k_whole; intro _))
  k_with "call builtin:len" => (k_here; (with_reducible show wpAny _ _ (call (Value.builtin "len") [Value.ref _]) _ _ _); k_dflt (refine' g_len (by k_asm) (by k_mem) (by with_reducible assumption) (by omega) ?_; k_whole))
  trivial
theorem st164 : True := by
  k_with "my slice" => (k_here; k_dflt (refine' kmk_slice_lit (by k_asm) (by k_asm) (by exact News.isList (by k_asm) (by k_mem)) (by kmk_part) (by kmk_part) (by first | exact pick_from (by omega) | exact pick_upto (by omega)) ?_ (by with_unfolding_all rfl) (by kmk_pure) (by ((rw [PySem.sizeLine_eq]); (simp only [List.size_toArray, List.length_map]); omega))); intro _ _ _ _; walk_at "my lt"; (try k_sweep))
  k_with "subscriptTail Name Slice ref ref" => (walk_at "my slice")
  k_with "binaryOp Add ref ref" => (k_here; (with_reducible show wpAny _ _ (binaryOp _ (Value.ref _) (Value.ref _)) _ _ _); k_dflt (refine' l_add (by k_asm) (by k_asm) (by k_mem) (by k_mem) (by ((simp only [List.length_take, List.length_map, List.length_append, List.length_drop]); omega)) ?_); intro _ _ _ _ _; (try k_sweep))
  trivial
theorem st165 : True := by
  k_with "call ref" => (k_here; (with_reducible show wpAny _ _ (call (Value.ref 321) [Value.ref _, Value.ref _, Value.int _ _]) _ _ _); refine Hold.mk ?_)
  k_with "call ref" => (k_here; (with_reducible show wpAny _ _ (call (Value.ref 314) [Value.ref _, Value.int _ _]) _ _ _); refine Hold.mk ?_)
  trivial
section
variable {w : World} {g : Heap} {L' : Addr} {s : Shared} {m : Str → Option Value} {mean : ExcName → Option Value} {mg mb : Str → Option Value} {Q : Flow → Shared → Prop} {news led : List (Addr × Obj)}
  {rs : List Row} {i : Nat} {r : Row} {Rw : Addr} {refs : List Addr} {nw : Nat} {tp : Addr} {us : List Value} {nt : Nat} {ps : List Int} {t0 ti tq : Tok} {sq : Int} {a : Addr} {o : Obj}
set_option maxHeartbeats 2000000 in
theorem law_b0 (X : (Mine.hd.heap_1 w.params).In g) (T : Top Mine.vw (looseW Mine.vw []) mean mg mb g) (F : Fr g L' s.heap m) (hm : Has m [(Str.ofString "pieces", .none), (Str.ofString "step", .int (-1) t0), (Str.ofString "at", .int (i : Nat) ti)]) (N : News g L' s.heap news) (hi : i < 1000)
    (k : ∀ h' tk' m' t', Fr g L' h' m' → SameBut [Str.ofString "at"] m m' → Has m' [(Str.ofString "at", .int ((i + 1 : Nat) : Int) t')] → News g L' h' news → Q .next { s with heap := h', toks := tk' }) :
    wpAny (model PySem.Challenge.rw_nu0223_01.row.prog w) (lawA L') (exec lawIf2.1 (lawEnv L')) Q (fun _ _ => False) s := by
  have F1 : Fr g L' s.heap (kstB m [(Str.ofString "pieces", .none), (Str.ofString "step", .int (-1) t0), (Str.ofString "at", .int (i : Nat) ti)]) := fr_map _ F hm
  clear F
  unfold lawIf2
  dsimp only
  show wpAny _ _ _ _ _ _
  (try k_fold)
  k_steps
  all_goals (try dsimp only)
  rename Fr _ _ _ _ => F9
  rename News _ _ _ _ => N9
  rw [kst_id hm] at F9
  exact k _ _ _ _ F9 (fun y hy => if_neg (by intro e; rw [e] at hy; exact absurd hy (by decide))) ⟨rfl, trivial⟩ N9
set_option maxHeartbeats 2000000 in
theorem law_b1 (X : (Mine.hd.heap_1 w.params).In g) (T : Top Mine.vw (looseW Mine.vw []) mean mg mb g) (F : Fr g L' s.heap m)
    (hm : Has m [(Str.ofString "pieces", .ref tp), (Str.ofString "step", .int (((i : Nat) : Int) + ps.length) t0), (Str.ofString "at", .int (i : Nat) ti), (Str.ofString "split_id", .int sq tq), (Str.ofString "rows", .ref Rw), (Str.ofString "row", .ref a)])
    (N : News g L' s.heap news) (hi : i < refs.length) (hl : refs.length ≤ 900) (hRw : (Rw, listOf (List.toArray (List.map Value.ref refs)) nw) ∈ news) (ha : (a, o) ∈ news) (ho : RowL r o) (ht : (tp, tupOf (List.toArray us) nt) ∈ news) (hus : IntsAre us ps) (h0 : 0 < ps.length) (hz : ps.length ≤ 3)
    (k : ∀ Rw2 refs2 nw2 led2 news2 h' tk' m' t1 t2 sq2, sq2 = spn sq ps → Fr g L' h' m' → SameBut [Str.ofString "rows", Str.ofString "split_id", Str.ofString "at"] m m' → Has m' [(Str.ofString "rows", .ref Rw2), (Str.ofString "at", .int ((i + ps.length : Nat) : Int) t1), (Str.ofString "split_id", .int sq2 t2)] →
      News g L' h' news2 → (∀ p ∈ news, p ∈ news2) → (Rw2, listOf (List.toArray (List.map Value.ref (refs.take i ++ refs2 ++ refs.drop (i + 1)))) nw2) ∈ news2 → (∀ p ∈ led2, p ∈ news2) → (∀ p ∈ news, p.1 ≠ Rw2 ∧ ∀ q ∈ led2, p.1 ≠ q.1) → RowsIn led2 refs2 (madeRows r ps (spn sq ps)) → Q .next { s with heap := h', toks := tk' }) :
    wpAny (model PySem.Challenge.rw_nu0223_01.row.prog w) (lawA L') (exec lawIf2.1 (lawEnv L')) Q (fun _ _ => False) s := by
  have F1 : Fr g L' s.heap (kstB m [(Str.ofString "pieces", .ref tp), (Str.ofString "step", .int (((i : Nat) : Int) + ps.length) t0), (Str.ofString "at", .int (i : Nat) ti), (Str.ofString "split_id", .int sq tq), (Str.ofString "rows", .ref Rw), (Str.ofString "row", .ref a)]) := fr_map _ F hm
  clear F
  unfold lawIf2
  dsimp only
  show wpAny _ _ _ _ _ _
  (try k_fold)
  k_steps
  all_goals (try dsimp only)
  · rename (_ ≠ _) => hne
    exact absurd rfl hne
  all_goals (rename Fr _ _ _ _ => F2; rename News _ _ _ _ => N2; rename (∀ p ∈ _, _ < _) => l2)
  all_goals (refine Hold.of ?_)
  all_goals (rw [Int.toNat_natCast i] at N2)
  all_goals (refine pieces_at X T F2 N2 rfl (Nat.le_of_ble_eq_true rfl) (Nat.le_of_ble_eq_true rfl) (.tail _ ha) ho (.tail _ ht) hus (by omega) h0 ?_)
  all_goals (intro D2 refs2 n2 led2 h2 tk2 F3 N3 r2 ne2)
  all_goals (clear F2 N2)
  all_goals (have hlen2 : refs2.length ≤ 3 := by have h1 := r2.length; rw [madeRows_length] at h1; omega)
  all_goals (try dsimp only)
  all_goals (show wpAny _ _ _ _ _ _)
  all_goals (try k_fold)
  all_goals k_steps
  all_goals (try dsimp only)
  all_goals (rename Fr _ _ _ _ => F9; rename News _ _ _ _ => N9)
  all_goals (rename_i Da _ la Db _ lb Dc _ lc _ _ _)
  all_goals (rw [kst_id hm] at F9)
  all_goals (have hin2 : (((i : Nat) : Int) + 1).toNat = i + 1 := by omega)
  all_goals (have e1 : List.take i (List.map Value.ref refs) ++ List.map Value.ref refs2 ++ List.drop (i + 1) (List.map Value.ref refs) = List.map Value.ref (refs.take i ++ refs2 ++ refs.drop (i + 1)) := by simp [List.map_take, List.map_drop])
  all_goals (rw [hin2, e1] at N9)
  · rename (1 < _) => c1
    have es : sq + 1 = spn sq ps := by unfold spn; rw [if_pos (by omega)]
    refine k Dc refs2 0 led2 _ _ _ _ _ _ (sq + 1) es F9 ?_ ⟨rfl, rfl, rfl, trivial⟩ N9 ?_ (.head _) ?_ ?_ (es ▸ r2)
    · exact sb3
    · intro p hp; exact .tail _ (.tail _ (.tail _ (.tail _ (List.mem_append_right _ (.tail _ hp)))))
    · intro p hp; exact .tail _ (.tail _ (.tail _ (.tail _ (List.mem_append_left _ hp))))
    · exact fun p hp => ⟨Nat.ne_of_lt (lc p (.tail _ (.tail _ (.tail _ (List.mem_append_right _ (.tail _ hp)))))), fun q hq => ne2 p (.tail _ hp) q (.tail _ hq)⟩
  · rename (¬ 1 < _) => c1
    have es : sq + 0 = spn sq ps := by unfold spn; rw [if_neg (by omega)]
    refine k Dc refs2 0 led2 _ _ _ _ _ _ (sq + 0) es F9 ?_ ⟨rfl, rfl, rfl, trivial⟩ N9 ?_ (.head _) ?_ ?_ (es ▸ r2)
    · exact sb3
    · intro p hp; exact .tail _ (.tail _ (.tail _ (.tail _ (List.mem_append_right _ (.tail _ hp)))))
    · intro p hp; exact .tail _ (.tail _ (.tail _ (.tail _ (List.mem_append_left _ hp))))
    · exact fun p hp => ⟨Nat.ne_of_lt (lc p (.tail _ (.tail _ (.tail _ (List.mem_append_right _ (.tail _ hp)))))), fun q hq => ne2 p (.tail _ hp) q (.tail _ hq)⟩
set_option maxHeartbeats 2000000 in
theorem law_b2 {Fx : List (Addr × Obj)} (X : (Mine.hd.heap_1 w.params).In g) (T : Top Mine.vw (looseW Mine.vw []) mean mg mb g) (F : Fr g L' s.heap m)
    (hm : Has m [(Str.ofString "pieces", .ref tp), (Str.ofString "step", .int (i : Nat) t0), (Str.ofString "at", .int (i : Nat) ti), (Str.ofString "split_id", .int sq tq), (Str.ofString "rows", .ref Rw)])
    (N : News g L' s.heap news) (hi : i < rs.length) (hl : rs.length ≤ 900) (hRw : (Rw, listOf (List.toArray (List.map Value.ref refs)) nw) ∈ news) (hsub : ∀ p ∈ Fx, p ∈ news) (hr : RowsIn Fx refs rs) (ht : (tp, tupOf (List.toArray us) nt) ∈ news) (hus : IntsAre us ps) (h0 : ps.length = 0)
    (k : ∀ Rw2 refs2 nw2 led2 news2 h' tk' m' t1 t2 sq2 z2, sq2 = sq → z2 = ((i : Nat) : Int) → Fr g L' h' m' → SameBut [Str.ofString "rows", Str.ofString "split_id", Str.ofString "at"] m m' → Has m' [(Str.ofString "rows", .ref Rw2), (Str.ofString "at", .int z2 t1), (Str.ofString "split_id", .int sq2 t2)] →
      News g L' h' news2 → (∀ p ∈ news, p ∈ news2) → (Rw2, listOf (List.toArray (List.map Value.ref refs2)) nw2) ∈ news2 → (∀ p ∈ led2, p ∈ news2) → (∀ p ∈ news, p.1 ≠ Rw2 ∧ ∀ q ∈ led2, p.1 ≠ q.1) → RowsIn (led2 ++ Fx) refs2 (takenRows rs i) → Q .next { s with heap := h', toks := tk' }) :
    wpAny (model PySem.Challenge.rw_nu0223_01.row.prog w) (lawA L') (exec lawIf2.1 (lawEnv L')) Q (fun _ _ => False) s := by
  have F1 : Fr g L' s.heap (kstB m [(Str.ofString "pieces", .ref tp), (Str.ofString "step", .int (i : Nat) t0), (Str.ofString "at", .int (i : Nat) ti), (Str.ofString "split_id", .int sq tq), (Str.ofString "rows", .ref Rw)]) := fr_map _ F hm
  clear F
  have hr1 := hr.length
  unfold lawIf2
  dsimp only
  show wpAny _ _ _ _ _ _
  (try k_fold)
  k_steps
  all_goals (try dsimp only)
  · rename (_ ≠ _) => hne
    exfalso; omega
  · rename Fr _ _ _ _ => F2
    rename News _ _ _ _ => N2
    refine Hold.of ?_
    refine taken_at X T F2 N2 rfl (Nat.le_of_ble_eq_true rfl) (Nat.le_of_ble_eq_true rfl) hRw hsub hr (by omega) hi ?_
    intro D2 refs2 n2 led2 h2 tk2 F3 N3 r2 ne2
    clear F2 N2
    dsimp only
    show wpAny _ _ _ _ _ _
    (try k_fold)
    k_steps
    all_goals (try dsimp only)
    rename Fr _ _ _ _ => F9
    rename News _ _ _ _ => N9
    rw [kst_id hm] at F9
    refine k D2 refs2 n2 led2 _ _ _ _ _ _ (sq + 0) (((i : Nat) : Int) + ps.length) (Int.add_zero sq) (by omega) F9 sb3 ⟨rfl, rfl, rfl, trivial⟩ N9 ?_ (.head _) ?_ ?_ r2
    · intro p hp; exact .tail _ (List.mem_append_right _ hp)
    · intro p hp; exact .tail _ (List.mem_append_left _ hp)
    · exact fun p hp => ⟨ne2 p hp _ (.head _), fun q hq => ne2 p hp q (.tail _ hq)⟩
end
end
section
theorem st166 : True := by w_top off; k_with_none; trivial
theorem st167 : True := by
  k_with "my mem" => (first | with_reducible assumption | (refine mem_in ?_; with_reducible assumption) | (refine' List.mem_append_right _ ?_; k_mem) | (refine' List.mem_append_left _ ?_; k_mem))
  k_with "my all" => (with_reducible assumption)
  k_with "my ne" => ((dsimp only; first | with_reducible assumption | (refine Ne.symm ?_; with_reducible assumption)))
  k_with "my ne" => (first | with_reducible assumption | (refine Ne.symm ?_; with_reducible assumption))
  k_with "my range" => (first | (with_unfolding_all refine range1_rows ‹Fr _ _ _ _› ‹News _ _ _ _› ?_) | (with_unfolding_all refine range2_rows ‹Fr _ _ _ _› ‹News _ _ _ _› ?_))
  k_with "my pick" => (first | exact Pick.nil | (refine' Pick.take (by first | exact List.Mem.head _ | exact List.Mem.tail _ (List.Mem.head _)) (by walk_at "my pick")) | (refine' Pick.skip (by k_all) (by walk_at "my pick")) | (refine Pick.all (by assumption)))
  k_with "call ref" => (k_here; (with_reducible show wpAny _ _ (call (Value.ref 283) [Value.ref _, Value.int _ _]) _ _ _); k_dflt (refine' draw_at (by k_asm) (by k_asm) (by k_asm) (by k_asm) (by rfl) (by exact Nat.le_of_ble_eq_true rfl) (by exact Nat.le_of_ble_eq_true rfl) (by k_asm) (by k_asm) (by k_mem) (by k_mem) (by walk_at "my pick") (by first | with_reducible assumption | omega) (by decide) (by decide) ?_); intro _ _ _ _ _ _ _ _ _ _ _; (try k_sweep))
  k_with "CompSrc" => (refine Hold.mk ?_)
  k_with "pyIter ref" => (refine Hold.mk ?_)
  trivial
theorem st168 : True := by
  k_with "subscriptTail" => (k_here; (with_reducible show wpAny _ _ (subscriptTail _ _ (Value.ref _) (Value.int _ _)) _ _ _); k_dflt (refine' d_item (by k_asm) (by k_mem) (by with_reducible assumption) (by with_reducible assumption) ?_; k_whole))
  trivial
theorem st169 : True := by
  k_with "subscriptTail" => (k_here; (with_reducible show wpAny _ _ (subscriptTail _ _ (Value.ref _) (Value.int _ _)) _ _ _); k_dflt (refine' l_item (by k_asm) (by k_mem) (by omega) (by omega) (by first | with_reducible assumption | rfl) ?_; k_whole))
  trivial
theorem st170 : True := by
  k_with "call ref" => (k_here; (with_reducible show wpAny _ _ (call (Value.ref 165) [Value.ref _]) _ _ _); k_dflt (refine' sgl_at (by k_asm) (by k_asm) (by k_asm) (by k_asm) (by rfl) (by exact Nat.le_of_ble_eq_true rfl) (by exact Nat.le_of_ble_eq_true rfl) ?_); intro _ _ _ _ _ _ _ _ _ _ _; (try k_sweep))
  k_with "call ref" => (k_here; (with_reducible show wpAny _ _ (call (Value.ref 191) [Value.ref _]) _ _ _); k_dflt (refine' mlt_at (by k_asm) (by k_asm) (by k_asm) (by k_asm) (by rfl) (by exact Nat.le_of_ble_eq_true rfl) (by exact Nat.le_of_ble_eq_true rfl) ?_); intro _ _ _ _ _ _ _ _ _ _ _; (try k_sweep))
  k_with "call ref" => (k_here; (with_reducible show wpAny _ _ (call (Value.ref 217) [Value.ref _]) _ _ _); k_dflt (refine' alt_at (by k_asm) (by k_asm) (by k_asm) (by k_asm) (by rfl) (by exact Nat.le_of_ble_eq_true rfl) (by exact Nat.le_of_ble_eq_true rfl) ?_); intro _ _ _ _ _ _ _ _ _ _ _; (try k_sweep))
  k_with "call ref" => (k_here; (first | (with_reducible show wpAny _ _ (call (Value.ref 228) [Value.ref _, Value.ref _, Value.int _ _]) _ _ _) | (with_reducible show wpAny _ _ (call (Value.ref 235) [Value.ref _, Value.ref _, Value.int _ _]) _ _ _) | (with_reducible show wpAny _ _ (call (Value.ref 249) [Value.ref _, Value.ref _, Value.int _ _]) _ _ _) | (with_reducible show wpAny _ _ (call (Value.ref 309) [Value.int _ _, Value.int _ _, Value.int _ _, Value.ref _]) _ _ _)); refine Hold.mk ?_)
  k_with "compareOp In int ref" => (k_here; k_dflt (first | (refine' d_in0 (by k_asm) (by k_mem) (by with_reducible assumption) (by with_reducible assumption) (by with_reducible assumption) ?_; k_whole) | (refine' d_in (by k_asm) (by k_mem) (by with_reducible assumption) (by with_reducible assumption) (by with_reducible assumption) ?_; k_whole)))
  k_with "getMethod ref" => (k_here; (with_reducible show wpAny _ _ (getMethod (Value.ref _) (Str.ofString "get") _) _ _ _); k_dflt (refine' d_meth (by k_asm) (by k_mem) (by with_reducible assumption) ?_; k_whole))
  trivial
theorem Inv.grow {w : World} {Fx more : List (Addr × Obj)} {buf dbuf sc dsc : Addr} {ob osc : Obj} {R : Addr} {nR : Nat} {cs : List Cell} {rs : List Row} {sp bits : Int} (I : Inv w Fx buf dbuf sc dsc ob osc R nR cs rs sp bits) (h : ∀ p ∈ more, ∀ q ∈ Mut dbuf ob R nR cs, p.1 ≠ q.1) :
    Inv w (Fx ++ more) buf dbuf sc dsc ob osc R nR cs rs sp bits :=
  ⟨I.ap, fun p hp q hq => (List.mem_append.mp hp).elim (fun hp => I.off p hp q hq) fun hp => h p hp q hq, fun c hc => List.mem_append_left _ (I.hin c hc), List.mem_append_left _ I.hbuf, List.mem_append_left _ I.hsc, List.mem_append_left _ I.hdsc, I.hS, I.hB, I.hC, I.hl, I.hs, I.hok⟩
/-- what the law knows of a table's numbers -/
noncomputable def SVals (kS : List (Int × Value)) : Prop := ∀ k v, PySem.valueAt kS k = some v → ∃ n t, v = .int n t
theorem sb2 {m : Str → Option Value} {v1 v2 : Option Value} : SameBut [Str.ofString "step", Str.ofString "pieces"] m (fun y => if y = Str.ofString "pieces" then v1 else if y = Str.ofString "step" then v2 else m y) := by
  intro y hy
  simp only [List.contains_cons, List.contains_nil, Bool.or_false, Bool.or_eq_false_iff, beq_eq_false_iff_ne] at hy
  dsimp only
  rw [if_neg hy.2, if_neg hy.1]
theorem tab_off {x d C : Addr} {o : Obj} {A B : List (Addr × Obj)} (l1 : ∀ p ∈ A ++ B, p.1 < d) (l2 : @LT.lt Nat _ d x) : ∀ p ∈ [(x, instObj C d), (d, o)], ∀ q ∈ A, p.1 ≠ q.1 := by
  intro p hp q hq
  have h := l1 q (List.mem_append_left _ hq)
  rcases List.mem_cons.mp hp with rfl | hp
  · exact Nat.ne_of_gt (Nat.lt_trans h l2)
  · rw [List.mem_singleton.mp hp]; exact Nat.ne_of_gt h
section
variable {w : World} {g : Heap} {L' : Addr} {s : Shared} {m : Str → Option Value} {mean : ExcName → Option Value} {mg mb : Str → Option Value} {Q : Flow → Shared → Prop}
  {Fx : List (Addr × Obj)} {buf dbuf sc dsc : Addr} {ob osc : Obj} {R : Addr} {nR : Nat} {cs : List Cell} {rs : List Row} {sp bits : Int} {i : Nat} {r : Row} {S : Addr} {oS : Obj} {kS : List (Int × Value)} {ti tw : Tok} {a : Addr} {o : Obj}
set_option maxHeartbeats 2000000 in
theorem law_w0 (X : (Mine.hd.heap_1 w.params).In g) (T : Top Mine.vw (looseW Mine.vw []) mean mg mb g) (F : Fr g L' s.heap m)
    (hm : Has m [(Str.ofString "way", .int 0 tw), (Str.ofString "single", .ref S), (Str.ofString "scene", .ref sc), (Str.ofString "at", .int (i : Nat) ti), (Str.ofString "row", .ref a)])
    (N : News g L' s.heap (Mut dbuf ob R nR cs ++ Fx)) (I : Inv w Fx buf dbuf sc dsc ob osc R nR cs rs sp bits) (hS : (S, oS) ∈ Fx) (dS : oS.IsDictOf (IK w) kS) (loS : (S == sysModules) = false) (hf : SVals kS) (hi : rs[i]? = some r) (ha : (a, o) ∈ Fx) (ho : RowL r o)
    (k0 : ∀ ob' nR' cs' h' tk' m' t', Fr g L' h' m' → SameBut [Str.ofString "step", Str.ofString "pieces"] m m' → Has m' [(Str.ofString "pieces", .none), (Str.ofString "step", .int (-1) t')] → News g L' h' (Mut dbuf ob' R nR' cs' ++ Fx) → Inv w Fx buf dbuf sc dsc ob' osc R nR' cs' rs sp bits → Q .next { s with heap := h', toks := tk' })
    (k1 : ∀ ob' nR' cs' sp' Fx' tp us nt ps h' tk' m' t' z', z' = ((i : Nat) : Int) + ps.length → sp' = spn sp ps → ps.length ≤ 3 → IntsAre us ps → (tp, tupOf (List.toArray us) nt) ∈ Fx' → (∀ p ∈ Fx, p ∈ Fx') → Fr g L' h' m' → SameBut [Str.ofString "step", Str.ofString "pieces"] m m' → Has m' [(Str.ofString "pieces", .ref tp), (Str.ofString "step", .int z' t')] →
      News g L' h' (Mut dbuf ob' R nR' cs' ++ Fx') → Inv w Fx' buf dbuf sc dsc ob' osc R nR' cs' (afterRows rs i r sp' ps) sp' bits → Q .next { s with heap := h', toks := tk' }) :
    wpAny (model PySem.Challenge.rw_nu0223_01.row.prog w) (lawA L') (exec lawIf1.1 (lawEnv L')) Q (fun _ _ => False) s := by
  have F1 : Fr g L' s.heap (kstB m [(Str.ofString "way", .int 0 tw), (Str.ofString "single", .ref S), (Str.ofString "scene", .ref sc), (Str.ofString "at", .int (i : Nat) ti), (Str.ofString "row", .ref a)]) := fr_map _ F hm
  clear F
  obtain ⟨c1, c2, c3, c4, c5, c6, c7, nr, rfl⟩ := ho
  unfold lawIf1
  dsimp only
  show wpAny _ _ _ _ _ _
  (try k_fold)
  k_steps
  all_goals (try dsimp only)
  rename_i xt dt ot h2 tk2 F2 N2 hT l1 l2 l3
  refine Hold.of ?_
  have hex : ∀ p ∈ [(xt, instObj 165 dt), (dt, ot)], ∀ q ∈ Mut dbuf ob R nR cs, p.1 ≠ q.1 := tab_off l1 l2
  refine apS_at X T F2 N2 rfl (Nat.le_of_ble_eq_true rfl) (Nat.le_of_ble_eq_true rfl) I hT hex hS dS loS hi (fun v h => hf _ v h) ?_ ?_
  · intro hv cs' h3 tk3 t3 F3 N3 I3
    clear F2 N2
    (try dsimp only)
    show wpAny _ _ _ _ _ _
    (try k_fold)
    k_steps
    all_goals (try dsimp only)
    rename Fr _ _ _ _ => F9
    rename News _ _ _ _ => N9
    rw [kst_id hm] at F9
    exact k0 ob nR cs' _ _ _ _ F9 sb2 ⟨rfl, rfl, trivial⟩ N9 I3
  · intro n tn hv cs' h3 tk3 t3 F3 N3 I3
    clear F2 N2
    (try dsimp only)
    show wpAny _ _ _ _ _ _
    (try k_fold)
    k_steps
    all_goals (try dsimp only)
    rename Fr _ _ _ _ => F9
    rename News _ _ _ _ => N9
    rename (∀ p ∈ _, _ < _) => l9
    rename_i D9 _ _
    rw [kst_id hm] at F9
    refine k1 ob nR cs' sp (Fx ++ [(D9, tupOf #[.int n tn] 0)]) D9 [.int n tn] 0 [n] _ _ _ _ (((i : Nat) : Int) + 1) (by simp) (by simp [spn]) (by simp) (.cons _ _ .nil) (List.mem_append_right _ (.head _)) (fun p hp => List.mem_append_left _ hp) F9 sb2 ⟨rfl, rfl, trivial⟩ (fun p hp => N9 p ?_) (I3.grow ?_)
    · simp only [List.mem_cons, List.mem_append, List.not_mem_nil, or_false] at hp ⊢
      rcases hp with hp | hp | hp
      · exact .inr (.inl hp)
      · exact .inr (.inr hp)
      · exact .inl hp
    · intro p hp q hq
      rw [List.mem_singleton.mp hp]
      exact Nat.ne_of_gt (l9 q (List.mem_append_left _ hq))
end
end
section
section
variable {w : World} {A : Around} {E : Value → Shared → Prop} {s : Shared} {h₀ : Heap} {L d : Addr} {news : List (Addr × Obj)} {o : Obj} {kvs : List (Int × Value)} {k : Int} {t : Tok} {v dflt : Value} {Q : Value → Shared → Prop}
theorem d_get1n (N : News h₀ L s.heap news) (hp : (d, o) ∈ news) (hd : o.IsDictOf (IK w) kvs) (lo : (d == sysModules) = false) (hl : PySem.valueAt kvs k = none) (h : Q .none { s with toks := s.toks + 1 }) :
    wpAny (model PySem.Challenge.rw_nu0223_01.row.prog w) A (call (.builtin "dict.get") [.ref d, .int k t]) Q E s := d_get1 N hp hd lo _ hl h
theorem d_get1s (N : News h₀ L s.heap news) (hp : (d, o) ∈ news) (hd : o.IsDictOf (IK w) kvs) (lo : (d == sysModules) = false) (hl : PySem.valueAt kvs k = some v) (h : Q v { s with toks := s.toks + 1 }) :
    wpAny (model PySem.Challenge.rw_nu0223_01.row.prog w) A (call (.builtin "dict.get") [.ref d, .int k t]) Q E s := d_get1 N hp hd lo _ hl h
theorem d_get2n (N : News h₀ L s.heap news) (hp : (d, o) ∈ news) (hd : o.IsDictOf (IK w) kvs) (lo : (d == sysModules) = false) (hl : PySem.valueAt kvs k = none) (h : Q dflt { s with toks := s.toks + 1 }) :
    wpAny (model PySem.Challenge.rw_nu0223_01.row.prog w) A (call (.builtin "dict.get") [.ref d, .int k t, dflt]) Q E s := d_get2 N hp hd lo _ hl h
theorem d_get2s (N : News h₀ L s.heap news) (hp : (d, o) ∈ news) (hd : o.IsDictOf (IK w) kvs) (lo : (d == sysModules) = false) (hl : PySem.valueAt kvs k = some v) (h : Q v { s with toks := s.toks + 1 }) :
    wpAny (model PySem.Challenge.rw_nu0223_01.row.prog w) A (call (.builtin "dict.get") [.ref d, .int k t, dflt]) Q E s := d_get2 N hp hd lo _ hl h
end
theorem st171 : True := by w_top off; k_with_none; trivial
theorem st172 : True := by
  k_with "my mem" => (first | with_reducible assumption | (refine mem_in ?_; with_reducible assumption) | (refine' List.mem_append_right _ ?_; k_mem) | (refine' List.mem_append_left _ ?_; k_mem))
  k_with "my all" => (with_reducible assumption)
  k_with "my ne" => ((dsimp only; first | with_reducible assumption | (refine Ne.symm ?_; with_reducible assumption)))
  k_with "my ne" => (first | with_reducible assumption | (refine Ne.symm ?_; with_reducible assumption))
  k_with "my range" => (first | (with_unfolding_all refine range1_rows ‹Fr _ _ _ _› ‹News _ _ _ _› ?_) | (with_unfolding_all refine range2_rows ‹Fr _ _ _ _› ‹News _ _ _ _› ?_))
  k_with "my pick" => (first | exact Pick.nil | (refine' Pick.take (by first | exact List.Mem.head _ | exact List.Mem.tail _ (List.Mem.head _)) (by walk_at "my pick")) | (refine' Pick.skip (by k_all) (by walk_at "my pick")) | (refine Pick.all (by assumption)))
  k_with "call ref" => (k_here; (with_reducible show wpAny _ _ (call (Value.ref 283) [Value.ref _, Value.int _ _]) _ _ _); k_dflt (refine' draw_at (by k_asm) (by k_asm) (by k_asm) (by k_asm) (by rfl) (by exact Nat.le_of_ble_eq_true rfl) (by exact Nat.le_of_ble_eq_true rfl) (by k_asm) (by k_asm) (by k_mem) (by k_mem) (by walk_at "my pick") (by first | with_reducible assumption | omega) (by decide) (by decide) ?_); intro _ _ _ _ _ _ _ _ _ _ _; (try k_sweep))
  k_with "CompSrc" => (refine Hold.mk ?_)
  k_with "pyIter ref" => (refine Hold.mk ?_)
  trivial
theorem st173 : True := by
  k_with "subscriptTail" => (k_here; (with_reducible show wpAny _ _ (subscriptTail _ _ (Value.ref _) (Value.int _ _)) _ _ _); k_dflt (refine' d_item (by k_asm) (by k_mem) (by with_reducible assumption) (by with_reducible assumption) ?_; k_whole))
  trivial
theorem st174 : True := by
  k_with "subscriptTail" => (k_here; (with_reducible show wpAny _ _ (subscriptTail _ _ (Value.ref _) (Value.int _ _)) _ _ _); k_dflt (refine' l_item (by k_asm) (by k_mem) (by omega) (by omega) (by first | with_reducible assumption | rfl) ?_; k_whole))
  trivial
theorem st175 : True := by
  k_with "call ref" => (k_here; (with_reducible show wpAny _ _ (call (Value.ref 165) [Value.ref _]) _ _ _); k_dflt (refine' sgl_at (by k_asm) (by k_asm) (by k_asm) (by k_asm) (by rfl) (by exact Nat.le_of_ble_eq_true rfl) (by exact Nat.le_of_ble_eq_true rfl) ?_); intro _ _ _ _ _ _ _ _ _ _ _; (try k_sweep))
  k_with "call ref" => (k_here; (with_reducible show wpAny _ _ (call (Value.ref 191) [Value.ref _]) _ _ _); k_dflt (refine' mlt_at (by k_asm) (by k_asm) (by k_asm) (by k_asm) (by rfl) (by exact Nat.le_of_ble_eq_true rfl) (by exact Nat.le_of_ble_eq_true rfl) ?_); intro _ _ _ _ _ _ _ _ _ _ _; (try k_sweep))
  k_with "call ref" => (k_here; (with_reducible show wpAny _ _ (call (Value.ref 217) [Value.ref _]) _ _ _); k_dflt (refine' alt_at (by k_asm) (by k_asm) (by k_asm) (by k_asm) (by rfl) (by exact Nat.le_of_ble_eq_true rfl) (by exact Nat.le_of_ble_eq_true rfl) ?_); intro _ _ _ _ _ _ _ _ _ _ _; (try k_sweep))
  k_with "call ref" => (k_here; (first | (with_reducible show wpAny _ _ (call (Value.ref 228) [Value.ref _, Value.ref _, Value.int _ _]) _ _ _) | (with_reducible show wpAny _ _ (call (Value.ref 235) [Value.ref _, Value.ref _, Value.int _ _]) _ _ _) | (with_reducible show wpAny _ _ (call (Value.ref 249) [Value.ref _, Value.ref _, Value.int _ _]) _ _ _) | (with_reducible show wpAny _ _ (call (Value.ref 309) [Value.int _ _, Value.int _ _, Value.int _ _, Value.ref _]) _ _ _)); refine Hold.mk ?_)
  k_with "compareOp In int ref" => (k_here; k_dflt (first | (refine' d_in0 (by k_asm) (by k_mem) (by with_reducible assumption) (by with_reducible assumption) (by with_reducible assumption) ?_; k_whole) | (refine' d_in (by k_asm) (by k_mem) (by with_reducible assumption) (by with_reducible assumption) (by with_reducible assumption) ?_; k_whole)))
  k_with "getMethod ref" => (k_here; (with_reducible show wpAny _ _ (getMethod (Value.ref _) (Str.ofString "get") _) _ _ _); k_dflt (refine' d_meth (by k_asm) (by k_mem) (by with_reducible assumption) ?_; k_whole))
  trivial
theorem st176 : True := by
  k_with "call builtin:dict.get" => (k_here; k_dflt (first | ((with_reducible show wpAny _ _ (call (Value.builtin "dict.get") [Value.ref _, Value.int _ _]) _ _ _); refine' d_get1n (by k_asm) (by k_mem) (by with_reducible assumption) (by with_reducible assumption) (by with_reducible assumption) ?_; k_whole) | ((with_reducible show wpAny _ _ (call (Value.builtin "dict.get") [Value.ref _, Value.int _ _]) _ _ _); refine' d_get1s (by k_asm) (by k_mem) (by with_reducible assumption) (by with_reducible assumption) (by with_reducible assumption) ?_; k_whole) | ((with_reducible show wpAny _ _ (call (Value.builtin "dict.get") [Value.ref _, Value.int _ _, _]) _ _ _); refine' d_get2n (by k_asm) (by k_mem) (by with_reducible assumption) (by with_reducible assumption) (by with_reducible assumption) ?_; k_whole) | ((with_reducible show wpAny _ _ (call (Value.builtin "dict.get") [Value.ref _, Value.int _ _, _]) _ _ _); refine' d_get2s (by k_asm) (by k_mem) (by with_reducible assumption) (by with_reducible assumption) (by with_reducible assumption) ?_; k_whole)))
  trivial
section
variable {w : World} {g : Heap} {L' : Addr} {s : Shared} {m : Str → Option Value} {mean : ExcName → Option Value} {mg mb : Str → Option Value} {Q : Flow → Shared → Prop}
  {Fx : List (Addr × Obj)} {buf dbuf sc dsc : Addr} {ob osc : Obj} {R : Addr} {nR : Nat} {cs : List Cell} {rs : List Row} {sp bits : Int} {i : Nat} {r : Row} {M : Addr} {oM o1 : Obj} {kM : List (Int × Value)} {ti tw : Tok} {a : Addr} {o : Obj}
set_option maxHeartbeats 4000000 in
theorem law_w1 (X : (Mine.hd.heap_1 w.params).In g) (T : Top Mine.vw (looseW Mine.vw []) mean mg mb g) (F : Fr g L' s.heap m)
    (hm : Has m [(Str.ofString "way", .int 1 tw), (Str.ofString "scene", .ref sc), (Str.ofString "at", .int (i : Nat) ti), (Str.ofString "row", .ref a)])
    (N : News g L' s.heap (Mut dbuf ob R nR cs ++ Fx)) (I : Inv w Fx buf dbuf sc dsc ob osc R nR cs rs sp bits) (hc1 : (L' + 1 + 1, o1) ∈ Fx) (dc1 : o1.data = Data.cell (some (.ref M))) (hM : (M, oM) ∈ Fx) (dM : oM.IsDictOf (IK w) kM) (loM : (M == sysModules) = false) (hf : MVals Fx kM) (hi : rs[i]? = some r) (hl9 : rs.length ≤ 800) (ha : (a, o) ∈ Fx) (ho : RowL r o)
    (k0 : ∀ ob' nR' cs' h' tk' m' t', Fr g L' h' m' → SameBut [Str.ofString "step", Str.ofString "pieces"] m m' → Has m' [(Str.ofString "pieces", .none), (Str.ofString "step", .int (-1) t')] → News g L' h' (Mut dbuf ob' R nR' cs' ++ Fx) → Inv w Fx buf dbuf sc dsc ob' osc R nR' cs' rs sp bits → Q .next { s with heap := h', toks := tk' })
    (k1 : ∀ ob' nR' cs' sp' Fx' tp us nt ps h' tk' m' t' z', z' = ((i : Nat) : Int) + ps.length → sp' = spn sp ps → ps.length ≤ 3 → IntsAre us ps → (tp, tupOf (List.toArray us) nt) ∈ Fx' → (∀ p ∈ Fx, p ∈ Fx') → Fr g L' h' m' → SameBut [Str.ofString "step", Str.ofString "pieces"] m m' → Has m' [(Str.ofString "pieces", .ref tp), (Str.ofString "step", .int z' t')] →
      News g L' h' (Mut dbuf ob' R nR' cs' ++ Fx') → Inv w Fx' buf dbuf sc dsc ob' osc R nR' cs' (afterRows rs i r sp' ps) sp' bits → Q .next { s with heap := h', toks := tk' }) :
    wpAny (model PySem.Challenge.rw_nu0223_01.row.prog w) (lawA L') (exec lawIf1.1 (lawEnv L')) Q (fun _ _ => False) s := by
  have F1 : Fr g L' s.heap (kstB m [(Str.ofString "way", .int 1 tw), (Str.ofString "scene", .ref sc), (Str.ofString "at", .int (i : Nat) ti), (Str.ofString "row", .ref a)]) := fr_map _ F hm
  clear F
  obtain ⟨c1, c2, c3, c4, c5, c6, c7, nr, rfl⟩ := ho
  unfold lawIf1
  dsimp only
  show wpAny _ _ _ _ _ _
  (try k_fold)
  k_steps
  all_goals (try dsimp only)
  rename_i xt dt ot h2 tk2 F2 N2 hT l1 l2 l3
  refine Hold.of ?_
  have hex : ∀ p ∈ [(xt, instObj 191 dt), (dt, ot)], ∀ q ∈ Mut dbuf ob R nR cs, p.1 ≠ q.1 := tab_off l1 l2
  clear l1 l2 l3
  rcases hf.at r.gl with hv | ⟨tp, us, nt, ps, hv, htp, hus, hps⟩
  · refine apO_at X T F2 N2 rfl (Nat.le_of_ble_eq_true rfl) (Nat.le_of_ble_eq_true rfl) I hT hex hM dM loM hi (.inl hv) ?_ ?_
    · intro _ cs' h3 tk3 t3 F3 N3 I3
      clear F2 N2
      (try dsimp only)
      show wpAny _ _ _ _ _ _
      (try k_fold)
      k_steps
      all_goals (try dsimp only)
      rename Fr _ _ _ _ => F9
      rename News _ _ _ _ => N9
      rw [kst_id hm] at F9
      exact k0 ob nR cs' _ _ _ _ F9 sb2 ⟨rfl, rfl, trivial⟩ N9 I3
    · intro tp us n ps hv2
      rw [hv] at hv2; cases hv2
  by_cases e1 : ps.length = 1
  · refine apO_at X T F2 N2 rfl (Nat.le_of_ble_eq_true rfl) (Nat.le_of_ble_eq_true rfl) I hT hex hM dM loM hi (.inr ⟨tp, us, nt, ps, hv, htp, hus, e1⟩) ?_ ?_
    · intro hv2; rw [hv] at hv2; cases hv2
    · clear hv htp hus hps e1
      clear ps us
      intro tp us nt ps hv htp hus e1 cs' h3 tk3 t3 F3 N3 I3
      clear F2 N2
      (try dsimp only)
      show wpAny _ _ _ _ _ _
      (try k_fold)
      k_steps
      all_goals (try dsimp only)
      rename Fr _ _ _ _ => F9
      rename News _ _ _ _ => N9
      rw [kst_id hm] at F9
      exact k1 ob nR cs' sp Fx tp us nt ps _ _ _ _ (((i : Nat) : Int) + 1) (by rw [e1]; rfl) (by simp [spn, e1]) (by omega) hus htp (fun _ h => h) F9 sb2 ⟨rfl, rfl, trivial⟩ N9 I3
  by_cases e0 : ps.length = 0
  · have hps0 : ps = [] := List.length_eq_zero_iff.mp e0
    subst hps0
    have hus0 : us = [] := by cases hus; rfl
    subst hus0
    refine apN_at X T F2 N2 rfl (Nat.le_of_ble_eq_true rfl) (Nat.le_of_ble_eq_true rfl) I hT hex hM dM loM hi hv htp ?_
    intro nR' cs' h3 tk3 t3 F3 N3 I3
    clear F2 N2
    (try dsimp only)
    show wpAny _ _ _ _ _ _
    (try k_fold)
    k_steps
    all_goals (try dsimp only)
    rename Fr _ _ _ _ => F9
    rename News _ _ _ _ => N9
    rw [kst_id hm] at F9
    exact k1 ob nR' cs' sp Fx tp [] nt [] _ _ _ _ ((i : Nat) : Int) (by simp) (by simp [spn]) (by simp) hus htp (fun _ h => h) F9 sb2 ⟨rfl, rfl, trivial⟩ N9 I3
  · refine apP_at X T F2 N2 rfl (Nat.le_of_ble_eq_true rfl) (Nat.le_of_ble_eq_true rfl) I hT hex hM dM loM hi hv htp hus (by omega) (by omega) (by omega) ?_
    intro more ob' nR' cs' h3 tk3 t3 F3 N3 I3
    clear F2 N2
    (try dsimp only)
    show wpAny _ _ _ _ _ _
    (try k_fold)
    k_steps
    all_goals (try dsimp only)
    rename Fr _ _ _ _ => F9
    rename News _ _ _ _ => N9
    rw [kst_id hm] at F9
    exact k1 ob' nR' cs' (sp + 1) (Fx ++ more) tp us nt ps _ _ _ _ (((i : Nat) : Int) + ps.length) rfl (by unfold spn; rw [if_pos (by omega)]) hps hus (List.mem_append_left _ htp) (fun p hp => List.mem_append_left _ hp) F9 sb2 ⟨rfl, rfl, trivial⟩ N9 I3
end
end
section
theorem st177 : True := by w_top off; k_with_none; trivial
theorem st178 : True := by
  k_with "my mem" => (first | with_reducible assumption | (refine mem_in ?_; with_reducible assumption) | (refine' List.mem_append_right _ ?_; k_mem) | (refine' List.mem_append_left _ ?_; k_mem))
  k_with "my all" => (with_reducible assumption)
  k_with "my ne" => ((dsimp only; first | with_reducible assumption | (refine Ne.symm ?_; with_reducible assumption)))
  k_with "my ne" => (first | with_reducible assumption | (refine Ne.symm ?_; with_reducible assumption))
  k_with "my range" => (first | (with_unfolding_all refine range1_rows ‹Fr _ _ _ _› ‹News _ _ _ _› ?_) | (with_unfolding_all refine range2_rows ‹Fr _ _ _ _› ‹News _ _ _ _› ?_))
  k_with "my pick" => (first | exact Pick.nil | (refine' Pick.take (by first | exact List.Mem.head _ | exact List.Mem.tail _ (List.Mem.head _)) (by walk_at "my pick")) | (refine' Pick.skip (by k_all) (by walk_at "my pick")) | (refine Pick.all (by assumption)))
  k_with "call ref" => (k_here; (with_reducible show wpAny _ _ (call (Value.ref 283) [Value.ref _, Value.int _ _]) _ _ _); k_dflt (refine' draw_at (by k_asm) (by k_asm) (by k_asm) (by k_asm) (by rfl) (by exact Nat.le_of_ble_eq_true rfl) (by exact Nat.le_of_ble_eq_true rfl) (by k_asm) (by k_asm) (by k_mem) (by k_mem) (by walk_at "my pick") (by first | with_reducible assumption | omega) (by decide) (by decide) ?_); intro _ _ _ _ _ _ _ _ _ _ _; (try k_sweep))
  k_with "CompSrc" => (refine Hold.mk ?_)
  k_with "pyIter ref" => (refine Hold.mk ?_)
  trivial
theorem st179 : True := by
  k_with "subscriptTail" => (k_here; (with_reducible show wpAny _ _ (subscriptTail _ _ (Value.ref _) (Value.int _ _)) _ _ _); k_dflt (refine' d_item (by k_asm) (by k_mem) (by with_reducible assumption) (by with_reducible assumption) ?_; k_whole))
  trivial
theorem st180 : True := by
  k_with "subscriptTail" => (k_here; (with_reducible show wpAny _ _ (subscriptTail _ _ (Value.ref _) (Value.int _ _)) _ _ _); k_dflt (refine' l_item (by k_asm) (by k_mem) (by omega) (by omega) (by first | with_reducible assumption | rfl) ?_; k_whole))
  trivial
theorem st181 : True := by
  k_with "call ref" => (k_here; (with_reducible show wpAny _ _ (call (Value.ref 165) [Value.ref _]) _ _ _); k_dflt (refine' sgl_at (by k_asm) (by k_asm) (by k_asm) (by k_asm) (by rfl) (by exact Nat.le_of_ble_eq_true rfl) (by exact Nat.le_of_ble_eq_true rfl) ?_); intro _ _ _ _ _ _ _ _ _ _ _; (try k_sweep))
  k_with "call ref" => (k_here; (with_reducible show wpAny _ _ (call (Value.ref 191) [Value.ref _]) _ _ _); k_dflt (refine' mlt_at (by k_asm) (by k_asm) (by k_asm) (by k_asm) (by rfl) (by exact Nat.le_of_ble_eq_true rfl) (by exact Nat.le_of_ble_eq_true rfl) ?_); intro _ _ _ _ _ _ _ _ _ _ _; (try k_sweep))
  k_with "call ref" => (k_here; (with_reducible show wpAny _ _ (call (Value.ref 217) [Value.ref _]) _ _ _); k_dflt (refine' alt_at (by k_asm) (by k_asm) (by k_asm) (by k_asm) (by rfl) (by exact Nat.le_of_ble_eq_true rfl) (by exact Nat.le_of_ble_eq_true rfl) ?_); intro _ _ _ _ _ _ _ _ _ _ _; (try k_sweep))
  k_with "call ref" => (k_here; (first | (with_reducible show wpAny _ _ (call (Value.ref 228) [Value.ref _, Value.ref _, Value.int _ _]) _ _ _) | (with_reducible show wpAny _ _ (call (Value.ref 235) [Value.ref _, Value.ref _, Value.int _ _]) _ _ _) | (with_reducible show wpAny _ _ (call (Value.ref 249) [Value.ref _, Value.ref _, Value.int _ _]) _ _ _) | (with_reducible show wpAny _ _ (call (Value.ref 309) [Value.int _ _, Value.int _ _, Value.int _ _, Value.ref _]) _ _ _)); refine Hold.mk ?_)
  k_with "compareOp In int ref" => (k_here; k_dflt (first | (refine' d_in0 (by k_asm) (by k_mem) (by with_reducible assumption) (by with_reducible assumption) (by with_reducible assumption) ?_; k_whole) | (refine' d_in (by k_asm) (by k_mem) (by with_reducible assumption) (by with_reducible assumption) (by with_reducible assumption) ?_; k_whole)))
  k_with "getMethod ref" => (k_here; (with_reducible show wpAny _ _ (getMethod (Value.ref _) (Str.ofString "get") _) _ _ _); k_dflt (refine' d_meth (by k_asm) (by k_mem) (by with_reducible assumption) ?_; k_whole))
  trivial
theorem st182 : True := by
  k_with "call builtin:dict.get" => (k_here; k_dflt (first | ((with_reducible show wpAny _ _ (call (Value.builtin "dict.get") [Value.ref _, Value.int _ _]) _ _ _); refine' d_get1n (by k_asm) (by k_mem) (by with_reducible assumption) (by with_reducible assumption) (by with_reducible assumption) ?_; k_whole) | ((with_reducible show wpAny _ _ (call (Value.builtin "dict.get") [Value.ref _, Value.int _ _]) _ _ _); refine' d_get1s (by k_asm) (by k_mem) (by with_reducible assumption) (by with_reducible assumption) (by with_reducible assumption) ?_; k_whole) | ((with_reducible show wpAny _ _ (call (Value.builtin "dict.get") [Value.ref _, Value.int _ _, _]) _ _ _); refine' d_get2n (by k_asm) (by k_mem) (by with_reducible assumption) (by with_reducible assumption) (by with_reducible assumption) ?_; k_whole) | ((with_reducible show wpAny _ _ (call (Value.builtin "dict.get") [Value.ref _, Value.int _ _, _]) _ _ _); refine' d_get2s (by k_asm) (by k_mem) (by with_reducible assumption) (by with_reducible assumption) (by with_reducible assumption) ?_; k_whole)))
  trivial
theorem sb4 {m : Str → Option Value} {v1 v2 v3 : Option Value} : SameBut [Str.ofString "step", Str.ofString "pieces", Str.ofString "choice"] m (fun y => if y = Str.ofString "pieces" then v1 else if y = Str.ofString "choice" then v2 else if y = Str.ofString "step" then v3 else m y) := by
  intro y hy
  simp only [List.contains_cons, List.contains_nil, Bool.or_false, Bool.or_eq_false_iff, beq_eq_false_iff_ne] at hy
  dsimp only
  rw [if_neg hy.2.1, if_neg hy.2.2, if_neg hy.1]
section
variable {w : World} {g : Heap} {L' : Addr} {s : Shared} {m : Str → Option Value} {mean : ExcName → Option Value} {mg mb : Str → Option Value} {Q : Flow → Shared → Prop}
  {Fx : List (Addr × Obj)} {buf dbuf sc dsc : Addr} {ob osc : Obj} {R : Addr} {nR : Nat} {cs : List Cell} {rs : List Row} {sp bits : Int} {i : Nat} {r : Row} {M : Addr} {oM o1 : Obj} {kM : List (Int × Value)} {ti tw ts td : Tok} {sh wd : Nat} {a : Addr} {o : Obj}
set_option maxHeartbeats 4000000 in
theorem law_w2 (X : (Mine.hd.heap_1 w.params).In g) (T : Top Mine.vw (looseW Mine.vw []) mean mg mb g) (F : Fr g L' s.heap m)
    (hm : Has m [(Str.ofString "way", .int 2 tw), (Str.ofString "shift", .int (sh : Nat) ts), (Str.ofString "width", .int (wd : Nat) td), (Str.ofString "scene", .ref sc), (Str.ofString "at", .int (i : Nat) ti), (Str.ofString "row", .ref a)])
    (N : News g L' s.heap (Mut dbuf ob R nR cs ++ Fx)) (I : Inv w Fx buf dbuf sc dsc ob osc R nR cs rs sp bits) (hc1 : (L' + 1 + 1, o1) ∈ Fx) (dc1 : o1.data = Data.cell (some (.ref M))) (hM : (M, oM) ∈ Fx) (dM : oM.IsDictOf (IK w) kM) (loM : (M == sysModules) = false) (hf : MVals Fx kM) (hi : rs[i]? = some r) (hsh : sh < 4) (hwd : wd < 3) (hb : bits = (2 ^ wd - 1) * 2 ^ sh) (ha : (a, o) ∈ Fx) (ho : RowL r o)
    (k0 : ∀ ob' nR' cs' h' tk' m' t', Fr g L' h' m' → SameBut [Str.ofString "step", Str.ofString "pieces", Str.ofString "choice"] m m' → Has m' [(Str.ofString "pieces", .none), (Str.ofString "step", .int (-1) t')] → News g L' h' (Mut dbuf ob' R nR' cs' ++ Fx) → Inv w Fx buf dbuf sc dsc ob' osc R nR' cs' rs sp bits → Q .next { s with heap := h', toks := tk' })
    (k1 : ∀ ob' nR' cs' sp' Fx' tp us nt ps h' tk' m' t' z', z' = ((i : Nat) : Int) + ps.length → sp' = spn sp ps → ps.length ≤ 3 → IntsAre us ps → (tp, tupOf (List.toArray us) nt) ∈ Fx' → (∀ p ∈ Fx, p ∈ Fx') → Fr g L' h' m' → SameBut [Str.ofString "step", Str.ofString "pieces", Str.ofString "choice"] m m' → Has m' [(Str.ofString "pieces", .ref tp), (Str.ofString "step", .int z' t')] →
      News g L' h' (Mut dbuf ob' R nR' cs' ++ Fx') → Inv w Fx' buf dbuf sc dsc ob' osc R nR' cs' (afterRows rs i r sp' ps) sp' bits → Q .next { s with heap := h', toks := tk' }) :
    wpAny (model PySem.Challenge.rw_nu0223_01.row.prog w) (lawA L') (exec lawIf1.1 (lawEnv L')) Q (fun _ _ => False) s := by
  have F1 : Fr g L' s.heap (kstB m [(Str.ofString "way", .int 2 tw), (Str.ofString "shift", .int (sh : Nat) ts), (Str.ofString "width", .int (wd : Nat) td), (Str.ofString "scene", .ref sc), (Str.ofString "at", .int (i : Nat) ti), (Str.ofString "row", .ref a)]) := fr_map _ F hm
  clear F
  obtain ⟨c1, c2, c3, c4, c5, c6, c7, nr, rfl⟩ := ho
  unfold lawIf1
  dsimp only
  show wpAny _ _ _ _ _ _
  (try k_fold)
  k_steps
  all_goals (try dsimp only)
  rename_i xt dt ot h2 tk2 F2 N2 hT l1 l2 l3
  refine Hold.of ?_
  have hex : ∀ p ∈ [(xt, instObj 217 dt), (dt, ot)], ∀ q ∈ Mut dbuf ob R nR cs, p.1 ≠ q.1 := tab_off l1 l2
  clear l1 l2 l3
  have hok := I.hok r (List.mem_of_getElem? hi)
  rcases hf.at r.gl with hv | ⟨tp, us, nt, ps, hv, htp, hus, hps⟩
  · refine apA_at (ps := []) X T F2 N2 rfl (Nat.le_of_ble_eq_true rfl) (Nat.le_of_ble_eq_true rfl) I hT hex hM dM loM hi (.inl ⟨hv, rfl⟩) (by simp) hwd hsh hb ?_ ?_
    · intro hch cs' h3 tk3 t3 F3 N3 I3
      clear F2 N2
      (try dsimp only)
      show wpAny _ _ _ _ _ _
      (try k_fold)
      k_steps
      all_goals (try dsimp only)
      rename Fr _ _ _ _ => F4
      rename News _ _ _ _ => N4
      rename (∀ p ∈ _, _ < _) => l4
      refine Hold.of ?_
      refine lchoice_at (ps := []) X T F4 N4 rfl (Nat.le_of_ble_eq_true rfl) (Nat.le_of_ble_eq_true rfl) (.head _) .nil (by first | omega | simp) hwd hsh hok.1 hok.2 ?_ ?_
      · intro _ h5 tk5 F5 N5
        clear F4 N4
        (try dsimp only)
        show wpAny _ _ _ _ _ _
        (try k_fold)
        k_steps
        all_goals (try dsimp only)
        rename Fr _ _ _ _ => F9
        rename News _ _ _ _ => N9
        rw [kst_id hm] at F9
        exact k0 ob nR cs' _ _ _ _ F9 sb4 ⟨rfl, rfl, trivial⟩ (fun p hp => N9 p (.tail _ hp)) I3
      · intro n hch2
        rw [choose_nil] at hch2; cases hch2
    · intro n hch
      rw [choose_nil] at hch; cases hch
  · refine apA_at X T F2 N2 rfl (Nat.le_of_ble_eq_true rfl) (Nat.le_of_ble_eq_true rfl) I hT hex hM dM loM hi (.inr ⟨tp, us, nt, hv, htp, hus⟩) (by omega) hwd hsh hb ?_ ?_
    · intro hch cs' h3 tk3 t3 F3 N3 I3
      clear F2 N2
      (try dsimp only)
      show wpAny _ _ _ _ _ _
      (try k_fold)
      k_steps
      all_goals (try dsimp only)
      rename Fr _ _ _ _ => F4
      rename News _ _ _ _ => N4
      rename (∀ p ∈ _, _ < _) => l4
      refine Hold.of ?_
      refine lchoice_at (ps := ps) X T F4 N4 rfl (Nat.le_of_ble_eq_true rfl) (Nat.le_of_ble_eq_true rfl) (.tail _ (List.mem_append_right _ htp)) hus (by first | omega | simp) hwd hsh hok.1 hok.2 ?_ ?_
      · intro _ h5 tk5 F5 N5
        clear F4 N4
        (try dsimp only)
        show wpAny _ _ _ _ _ _
        (try k_fold)
        k_steps
        all_goals (try dsimp only)
        rename Fr _ _ _ _ => F9
        rename News _ _ _ _ => N9
        rw [kst_id hm] at F9
        exact k0 ob nR cs' _ _ _ _ F9 sb4 ⟨rfl, rfl, trivial⟩ (fun p hp => N9 p (.tail _ hp)) I3
      · intro n hch2
        rw [hch] at hch2; cases hch2
    · intro n hch cs' h3 tk3 t3 F3 N3 I3
      clear F2 N2
      (try dsimp only)
      show wpAny _ _ _ _ _ _
      (try k_fold)
      k_steps
      all_goals (try dsimp only)
      rename Fr _ _ _ _ => F4
      rename News _ _ _ _ => N4
      rename (∀ p ∈ _, _ < _) => l4
      refine Hold.of ?_
      refine lchoice_at (ps := ps) X T F4 N4 rfl (Nat.le_of_ble_eq_true rfl) (Nat.le_of_ble_eq_true rfl) (.tail _ (List.mem_append_right _ htp)) hus (by first | omega | simp) hwd hsh hok.1 hok.2 ?_ ?_
      · intro hch2
        rw [hch] at hch2; cases hch2
      · intro n2 hch2 h5 tk5 t5 F5 N5
        have en : n2 = n := by rw [hch] at hch2; exact (Option.some.inj hch2).symm
        subst en
        clear F4 N4 l4
        (try dsimp only)
        show wpAny _ _ _ _ _ _
        (try k_fold)
        k_steps
        all_goals (try dsimp only)
        rename Fr _ _ _ _ => F9
        rename News _ _ _ _ => N9
        rename (_ ∧ AllLt _ _) => l9
        rename_i D9 _ _
        rw [kst_id hm] at F9
        refine k1 ob nR cs' sp (Fx ++ [(D9, tupOf #[.int n2 t5] 0)]) D9 [.int n2 t5] 0 [n2] _ _ _ _ (((i : Nat) : Int) + 1) (by simp) (by simp [spn]) (by simp) (.cons _ _ .nil) (List.mem_append_right _ (.head _)) (fun p hp => List.mem_append_left _ hp) F9 sb4 ⟨rfl, rfl, trivial⟩ (fun p hp => N9 p ?_) (I3.grow ?_)
        · simp only [List.mem_cons, List.mem_append, List.not_mem_nil, or_false] at hp ⊢
          rcases hp with hp | hp | hp
          · exact .inr (.inr (.inl hp))
          · exact .inr (.inr (.inr hp))
          · exact .inl hp
        · intro p hp q hq
          rw [List.mem_singleton.mp hp]
          exact Nat.ne_of_gt (allLt_mem l9.2 q (List.mem_append_left _ hq))
end
end
section
theorem st183 : True := by w_top off; k_with_none; trivial
theorem st184 : True := by
  k_with "my mem" => (first | with_reducible assumption | (refine mem_in ?_; with_reducible assumption) | (refine' List.mem_append_right _ ?_; k_mem) | (refine' List.mem_append_left _ ?_; k_mem))
  k_with "my all" => (with_reducible assumption)
  k_with "my ne" => ((dsimp only; first | with_reducible assumption | (refine Ne.symm ?_; with_reducible assumption)))
  k_with "my ne" => (first | with_reducible assumption | (refine Ne.symm ?_; with_reducible assumption))
  k_with "my range" => (first | (with_unfolding_all refine range1_rows ‹Fr _ _ _ _› ‹News _ _ _ _› ?_) | (with_unfolding_all refine range2_rows ‹Fr _ _ _ _› ‹News _ _ _ _› ?_))
  k_with "my pick" => (first | exact Pick.nil | (refine' Pick.take (by first | exact List.Mem.head _ | exact List.Mem.tail _ (List.Mem.head _)) (by walk_at "my pick")) | (refine' Pick.skip (by k_all) (by walk_at "my pick")) | (refine Pick.all (by assumption)))
  k_with "call ref" => (k_here; (with_reducible show wpAny _ _ (call (Value.ref 283) [Value.ref _, Value.int _ _]) _ _ _); k_dflt (refine' draw_at (by k_asm) (by k_asm) (by k_asm) (by k_asm) (by rfl) (by exact Nat.le_of_ble_eq_true rfl) (by exact Nat.le_of_ble_eq_true rfl) (by k_asm) (by k_asm) (by k_mem) (by k_mem) (by walk_at "my pick") (by first | with_reducible assumption | omega) (by decide) (by decide) ?_); intro _ _ _ _ _ _ _ _ _ _ _; (try k_sweep))
  k_with "CompSrc" => (refine Hold.mk ?_)
  k_with "pyIter ref" => (refine Hold.mk ?_)
  trivial
theorem st185 : True := by
  k_with "subscriptTail" => (k_here; (with_reducible show wpAny _ _ (subscriptTail _ _ (Value.ref _) (Value.int _ _)) _ _ _); k_dflt (refine' l_item (by k_asm) (by k_mem) (by omega) (by omega) (by first | with_reducible assumption | rfl) ?_; k_whole))
  trivial
theorem sb1 {m : Str → Option Value} {n : Str} {v : Option Value} : SameBut [n] m (fun y => if y = n then v else m y) := by
  intro y hy
  simp only [List.contains_cons, List.contains_nil, Bool.or_false, beq_eq_false_iff_ne] at hy
  dsimp only
  rw [if_neg hy]
section
variable {w : World} {g : Heap} {L' : Addr} {s : Shared} {m : Str → Option Value} {mean : ExcName → Option Value} {mg mb : Str → Option Value} {Q : Flow → Shared → Prop} {news : List (Addr × Obj)} {i : Nat} {Rw : Addr} {refs : List Addr} {nw : Nat} {ti : Tok} {a : Addr}
set_option maxHeartbeats 2000000 in
theorem law_row (X : (Mine.hd.heap_1 w.params).In g) (T : Top Mine.vw (looseW Mine.vw []) mean mg mb g) (F : Fr g L' s.heap m) (hm : Has m [(Str.ofString "rows", .ref Rw), (Str.ofString "at", .int (i : Nat) ti)]) (N : News g L' s.heap news) (hi : i < 1000)
    (hRw : (Rw, listOf (List.toArray (List.map Value.ref refs)) nw) ∈ news) (hx : refs[i]? = some a)
    (k : ∀ h' tk' m', Fr g L' h' m' → SameBut [Str.ofString "row"] m m' → Has m' [(Str.ofString "row", .ref a)] → News g L' h' news → Q .next { s with heap := h', toks := tk' }) :
    wpAny (model PySem.Challenge.rw_nu0223_01.row.prog w) (lawA L') (exec lawRow.1 (lawEnv L')) Q (fun _ _ => False) s := by
  have F1 : Fr g L' s.heap (kstB m [(Str.ofString "rows", .ref Rw), (Str.ofString "at", .int (i : Nat) ti)]) := fr_map _ F hm
  have hx1 : (List.map Value.ref refs)[((i : Nat) : Int).toNat]? = some (.ref a) := by simp [hx]
  clear F
  unfold lawRow
  dsimp only
  show wpAny _ _ _ _ _ _
  (try k_fold)
  k_steps
  all_goals (try dsimp only)
  rename Fr _ _ _ _ => F9
  rename News _ _ _ _ => N9
  rw [kst_id hm] at F9
  exact k _ _ _ F9 sb1 ⟨rfl, trivial⟩ N9
end
/-- what stands through the law's loop -/
structure Cn where
  wv : Int
  tw : Tok
  sh : Nat
  ts : Tok
  wd : Nat
  td : Tok
  S : Addr
  H : Addr
  M : Addr
  buf : Addr
  sc : Addr
  dbuf : Addr
  dsc : Addr
  R : Addr
  osc : Obj
  oM : Obj
  oS : Obj
  o1 : Obj
  kM : List (Int × Value)
  kS : List (Int × Value)
  bits : Int
  Fx : List (Addr × Obj)
noncomputable def Cn.ps (c : Cn) : List (Str × Value) := [(Str.ofString "way", .int c.wv c.tw), (Str.ofString "shift", .int (c.sh : Nat) c.ts), (Str.ofString "width", .int (c.wd : Nat) c.td), (Str.ofString "single", .ref c.S), (Str.ofString "held", .ref c.H), (Str.ofString "buffer", .ref c.buf), (Str.ofString "scene", .ref c.sc)]
structure COk (w : World) (L' : Addr) (c : Cn) : Prop where
  hc1 : (L' + 1 + 1, c.o1) ∈ c.Fx
  dc1 : c.o1.data = Data.cell (some (.ref c.M))
  hM : (c.M, c.oM) ∈ c.Fx
  dM : c.oM.IsDictOf (IK w) c.kM
  loM : (c.M == sysModules) = false
  hv : MVals c.Fx c.kM
  hS : (c.S, c.oS) ∈ c.Fx
  dS : c.oS.IsDictOf (IK w) c.kS
  loS : (c.S == sysModules) = false
  hf : SVals c.kS
  hsh : c.sh < 4
  hwd : c.wd < 3
  hb : c.bits = (2 ^ c.wd - 1) * 2 ^ c.sh
  hw0 : 0 ≤ c.wv
  hw3 : c.wv < 3
noncomputable abbrev rowsL (Rw : Addr) (refs : List Addr) (nw : Nat) : Addr × Obj := (Rw, listOf (List.toArray (List.map Value.ref refs)) nw)
/-- between the turns: n turns are left -/
inductive CJ (w : World) (c : Cn) (n : Nat) (m : Str → Option Value) (nx : List (Addr × Obj)) : Prop
  | mk (i : Nat) (ti tq : Tok) (ob : Obj) (nR : Nat) (cs : List Cell) (rs : List Row) (sp : Int) (Fx : List (Addr × Obj)) (Rw : Addr) (refs : List Addr) (nw : Nat) (h1 : Has m c.ps) (h2 : Has m [(Str.ofString "rows", .ref Rw), (Str.ofString "at", .int ((i : Nat) : Int) ti), (Str.ofString "split_id", .int sp tq)])
  (h3 : nx = Mut c.dbuf ob c.R nR cs ++ Fx) (h4 : ∀ p ∈ c.Fx, p ∈ Fx) (h5 : Inv w Fx c.buf c.dbuf c.sc c.dsc ob c.osc c.R nR cs rs sp c.bits) (h6 : rowsL Rw refs nw ∈ Fx) (h7 : RowsIn Fx refs rs) (h8 : i + n = rs.length) (h9 : i + 3 * n ≤ 21)
theorem RowsIn.up {led led' : List (Addr × Obj)} {refs : List Addr} {rs : List Row} (h : RowsIn led refs rs) (s : ∀ p ∈ led, p ∈ led') : RowsIn led' refs rs := h.mono fun _ _ ⟨o, h1, h2⟩ => ⟨o, s _ h1, h2⟩
theorem ps_same {c : Cn} {m m' : Str → Option Value} {ns : List Str} (h : Has m c.ps) (hs : SameBut ns m m') (e : ([Str.ofString "way", Str.ofString "shift", Str.ofString "width", Str.ofString "single", Str.ofString "held", Str.ofString "buffer", Str.ofString "scene"].all fun x => !ns.contains x) = true) : Has m' c.ps := h.same hs e
theorem st186 : True := by
  k_with "exec If" => (refine Hold.mk ?_)
  k_with "exec Assign" => (refine Hold.mk ?_)
  trivial
section
variable {w : World} {g : Heap} {L' : Addr} {s : Shared} {m : Str → Option Value} {mean : ExcName → Option Value} {mg mb : Str → Option Value} {Q : Flow → Shared → Prop} {c : Cn} {n i : Nat} {ti tq t0 : Tok} {ob : Obj} {nR nw nt : Nat} {cs : List Cell} {rs : List Row} {r : Row} {sp sp' z : Int} {Fx Fx' : List (Addr × Obj)} {Rw tp a : Addr} {refs : List Addr} {o : Obj} {us : List Value} {ps : List Int}
set_option maxHeartbeats 2000000 in
theorem law_tl0 (X : (Mine.hd.heap_1 w.params).In g) (T : Top Mine.vw (looseW Mine.vw []) mean mg mb g) (F : Fr g L' s.heap m) (h1 : Has m c.ps) (h2 : Has m [(Str.ofString "rows", .ref Rw), (Str.ofString "at", .int ((i : Nat) : Int) ti), (Str.ofString "split_id", .int sp tq)]) (h3 : Has m [(Str.ofString "pieces", .none), (Str.ofString "step", .int (-1) t0)])
    (N : News g L' s.heap (Mut c.dbuf ob c.R nR cs ++ Fx)) (hsub : ∀ p ∈ c.Fx, p ∈ Fx) (I : Inv w Fx c.buf c.dbuf c.sc c.dsc ob c.osc c.R nR cs rs sp c.bits) (hRw : rowsL Rw refs nw ∈ Fx) (hr : RowsIn Fx refs rs) (hin : i + (n + 1) = rs.length) (h21 : i + 3 * (n + 1) ≤ 21)
    (k : ∀ m' nx' h' tk', Fr g L' h' m' → News g L' h' nx' → CJ w c n m' nx' → Q .next { s with heap := h', toks := tk' }) :
    wpAny (model PySem.Challenge.rw_nu0223_01.row.prog w) (lawA L') (execs [lawIf2.1, lawIf3.1] (lawEnv L')) Q (fun _ _ => False) s := by
  show wpAny _ _ _ _ _ _
  (try k_fold)
  k_steps
  all_goals (try dsimp only)
  refine law_b0 X T F ⟨h3.1, h3.2.1, h2.2.1, trivial⟩ N (by omega) ?_
  intro h4 tk4 m4 t4 F4 s4 hm4 N4
  (try dsimp only)
  show wpAny _ _ _ _ _ _
  k_steps
  all_goals (try dsimp only)
  have h14 : Has m4 c.ps := ps_same h1 s4 (by decide)
  have h24 : Has m4 [(Str.ofString "rows", .ref Rw), (Str.ofString "split_id", .int sp tq)] := Has.same (ps := [(Str.ofString "rows", .ref Rw), (Str.ofString "split_id", .int sp tq)]) s4 ⟨h2.1, h2.2.2.1, trivial⟩ rfl
  refine law_lst X T F4 ⟨h14.2.2.2.2.2.1, h24.1, trivial⟩ N4 (fun _ h => h) I (List.mem_append_right _ hRw) hr (fun p hp => List.mem_append_right _ hp) ?_
  intro h5 tk5 news5 F5 N5 s5
  (try dsimp only)
  show wpAny _ _ _ _ _ _
  k_steps
  all_goals (try dsimp only)
  exact k _ _ _ _ F5 (fun p hp => N5 p (s5 p hp)) ⟨i + 1, t4, tq, ob, nR, cs, rs, sp, Fx, Rw, refs, nw, h14, ⟨h24.1, hm4.1, h24.2.1, trivial⟩, rfl, hsub, I, hRw, hr, by omega, by omega⟩
set_option maxHeartbeats 2000000 in
theorem law_tl1 (X : (Mine.hd.heap_1 w.params).In g) (T : Top Mine.vw (looseW Mine.vw []) mean mg mb g) (F : Fr g L' s.heap m) (h1 : Has m c.ps) (h2 : Has m [(Str.ofString "rows", .ref Rw), (Str.ofString "at", .int ((i : Nat) : Int) ti), (Str.ofString "split_id", .int sp tq)]) (h3 : Has m [(Str.ofString "pieces", .ref tp), (Str.ofString "step", .int z t0)]) (h4 : Has m [(Str.ofString "row", .ref a)])
    (N : News g L' s.heap (Mut c.dbuf ob c.R nR cs ++ Fx)) (hsub : ∀ p ∈ c.Fx, p ∈ Fx) (hz : z = ((i : Nat) : Int) + ps.length) (hsp : sp' = spn sp ps) (hps : ps.length ≤ 3) (hus : IntsAre us ps) (htp : (tp, tupOf (List.toArray us) nt) ∈ Fx)
    (I : Inv w Fx c.buf c.dbuf c.sc c.dsc ob c.osc c.R nR cs (afterRows rs i r sp' ps) sp' c.bits) (hRw : rowsL Rw refs nw ∈ Fx) (hr : RowsIn Fx refs rs) (hin : i + (n + 1) = rs.length) (h21 : i + 3 * (n + 1) ≤ 21) (ha : (a, o) ∈ Fx) (ho : RowL r o)
    (k : ∀ m' nx' h' tk', Fr g L' h' m' → News g L' h' nx' → CJ w c n m' nx' → Q .next { s with heap := h', toks := tk' }) :
    wpAny (model PySem.Challenge.rw_nu0223_01.row.prog w) (lawA L') (execs [lawIf2.1, lawIf3.1] (lawEnv L')) Q (fun _ _ => False) s := by
  have hrl := hr.length
  subst hz
  show wpAny _ _ _ _ _ _
  (try k_fold)
  k_steps
  all_goals (try dsimp only)
  have finish : ∀ {i' : Nat} {Rw2 : Addr} {refs2 : List Addr} {nw2 : Nat} {led2 news2 : List (Addr × Obj)} {h' : Heap} {tk' : Nat} {m' : Str → Option Value} {t1 t2 : Tok}, Fr g L' h' m' → SameBut [Str.ofString "rows", Str.ofString "split_id", Str.ofString "at"] m m' → Has m' [(Str.ofString "rows", .ref Rw2), (Str.ofString "at", .int (i' : Nat) t1), (Str.ofString "split_id", .int sp' t2)] →
      News g L' h' news2 → (∀ p ∈ Mut c.dbuf ob c.R nR cs ++ Fx, p ∈ news2) → rowsL Rw2 refs2 nw2 ∈ news2 → (∀ p ∈ led2, p ∈ news2) → (∀ p ∈ Mut c.dbuf ob c.R nR cs ++ Fx, p.1 ≠ Rw2 ∧ ∀ q ∈ led2, p.1 ≠ q.1) → RowsIn (led2 ++ Fx) refs2 (afterRows rs i r sp' ps) → i' + n = (afterRows rs i r sp' ps).length → i' + 3 * n ≤ 21 →
      wpAny (model PySem.Challenge.rw_nu0223_01.row.prog w) (lawA L') (execs [lawIf3.1] (lawEnv L')) Q (fun _ _ => False) { s with heap := h', toks := tk' } := by
    intro i' Rw2 refs2 nw2 led2 news2 h' tk' m' t1 t2 F2 s2 hm2 N2 sub2 hRw2 hled2 fr2 hr2 e1 e2
    have h12 : Has m' c.ps := ps_same h1 s2 (by decide)
    obtain ⟨Fy, hFy⟩ : ∃ Fy, Fy = Fx ++ (rowsL Rw2 refs2 nw2 :: led2) := ⟨_, rfl⟩
    have I2 : Inv w Fy c.buf c.dbuf c.sc c.dsc ob c.osc c.R nR cs (afterRows rs i r sp' ps) sp' c.bits := by
      rw [hFy]
      refine I.grow fun p hp q hq => ?_
      have h9 := fr2 q (List.mem_append_left _ hq)
      rcases List.mem_cons.mp hp with e | hp
      · rw [e]; exact h9.1.symm
      · exact (h9.2 p hp).symm
    have sy : ∀ p ∈ Mut c.dbuf ob c.R nR cs ++ Fy, p ∈ news2 := by
      intro p hp
      rw [hFy] at hp
      rcases List.mem_append.mp hp with hp | hp
      · exact sub2 p (List.mem_append_left _ hp)
      · rcases List.mem_append.mp hp with hp | hp
        · exact sub2 p (List.mem_append_right _ hp)
        · rcases List.mem_cons.mp hp with e | hp
          · rw [e]; exact hRw2
          · exact hled2 p hp
    have hr3 : RowsIn Fy refs2 (afterRows rs i r sp' ps) := hr2.up fun p hp => by
      rw [hFy]
      rcases List.mem_append.mp hp with hp | hp
      · exact List.mem_append_right _ (.tail _ hp)
      · exact List.mem_append_left _ hp
    have hR3 : rowsL Rw2 refs2 nw2 ∈ Fy := by rw [hFy]; exact List.mem_append_right _ (.head _)
    show wpAny _ _ _ _ _ _
    k_steps
    all_goals (try dsimp only)
    refine law_lst X T F2 ⟨h12.2.2.2.2.2.1, hm2.1, trivial⟩ N2 sy I2 hRw2 hr3 (fun p hp => sy p (List.mem_append_right _ hp)) ?_
    intro h5 tk5 news5 F5 N5 s5
    (try dsimp only)
    show wpAny _ _ _ _ _ _
    k_steps
    all_goals (try dsimp only)
    exact k _ _ _ _ F5 (fun p hp => N5 p (s5 p (sy p hp))) ⟨i', t1, t2, ob, nR, cs, _, sp', Fy, Rw2, refs2, nw2, h12, hm2, rfl, (fun p hp => by rw [hFy]; exact List.mem_append_left _ (hsub p hp)), I2, hR3, hr3, e1, e2⟩
  by_cases h0 : ps.length = 0
  · have hps0 : ps = [] := List.length_eq_zero_iff.mp h0
    subst hps0
    have hst : Has m [(Str.ofString "pieces", .ref tp), (Str.ofString "step", .int ((i : Nat) : Int) t0), (Str.ofString "at", .int ((i : Nat) : Int) ti), (Str.ofString "split_id", .int sp tq), (Str.ofString "rows", .ref Rw)] := ⟨h3.1, by have := h3.2.1; simpa using this, h2.2.1, h2.2.2.1, h2.1, trivial⟩
    refine law_b2 X T F hst N (by omega) (by omega) (List.mem_append_right _ hRw) (fun p hp => List.mem_append_right _ hp) hr (List.mem_append_right _ htp) hus rfl ?_
    intro Rw2 refs2 nw2 led2 news2 h5 tk5 m5 t1 t2 sq2 z2 e1 e2 F5 s5 hm5 N5 sub5 hR5 hl5 fr5 r5
    subst e2
    have e3 : sq2 = sp' := by rw [e1, hsp]; simp [spn]
    subst e3
    have ea : afterRows rs i r sq2 [] = takenRows rs i := if_pos rfl
    have ht := taken_length (rs := rs) (i := i) (by omega)
    exact finish F5 s5 hm5 N5 sub5 hR5 hl5 fr5 (by rw [ea]; exact r5) (by rw [ea]; omega) (by omega)
  · refine law_b1 X T F ⟨h3.1, h3.2.1, h2.2.1, h2.2.2.1, h2.1, h4.1, trivial⟩ N (by omega) (by omega) (List.mem_append_right _ hRw) (List.mem_append_right _ ha) ho (List.mem_append_right _ htp) hus (by omega) hps ?_
    intro Rw2 refs2 nw2 led2 news2 h5 tk5 m5 t1 t2 sq2 e1 F5 s5 hm5 N5 sub5 hR5 hl5 fr5 r5
    have e3 : sq2 = sp' := by rw [e1, hsp]
    subst e3
    have ea : afterRows rs i r sq2 ps = rs.take i ++ madeRows r ps sq2 ++ rs.drop (i + 1) := if_neg (fun e => h0 (by rw [e]; rfl))
    rw [← e1] at r5
    refine finish F5 s5 hm5 N5 sub5 hR5 hl5 fr5 ?_ ?_ (by omega)
    · rw [ea]
      have hr' : RowsIn (led2 ++ Fx) refs rs := hr.up fun p hp => List.mem_append_right _ hp
      exact All2.append (All2.append (All2.take hr' i) (RowsIn.up r5 fun p hp => List.mem_append_left _ hp)) (All2.drop hr' (i + 1))
    · rw [ea, List.length_append, List.length_append, madeRows_length, List.length_take, List.length_drop]
      omega
set_option maxHeartbeats 4000000 in
theorem law_trn {nx : List (Addr × Obj)} (X : (Mine.hd.heap_1 w.params).In g) (T : Top Mine.vw (looseW Mine.vw []) mean mg mb g) (F : Fr g L' s.heap m) (N : News g L' s.heap nx) (ok : COk w L' c) (J : CJ w c (n + 1) m nx)
    (k : ∀ m' nx' h' tk', Fr g L' h' m' → News g L' h' nx' → CJ w c n m' nx' → Q .next { s with heap := h', toks := tk' }) :
    wpAny (model PySem.Challenge.rw_nu0223_01.row.prog w) (lawA L') (execs [lawRow.1, lawIf1.1, lawIf2.1, lawIf3.1] (lawEnv L')) Q (fun _ _ => False) s := by
  obtain ⟨i, ti, tq, ob, nR, cs, rs, sp, Fx, Rw, refs, nw, h1, h2, rfl, hsub, I, hRw, hr, hin, h21⟩ := J
  obtain ⟨r, hri⟩ : ∃ r, rs[i]? = some r := ⟨_, List.getElem?_eq_getElem (by omega)⟩
  obtain ⟨a, hai, o, hao, hro⟩ := hr.get1 hri
  show wpAny _ _ _ _ _ _
  (try k_fold)
  k_steps
  all_goals (try dsimp only)
  refine law_row X T F ⟨h2.1, h2.2.1, trivial⟩ N (by omega) (List.mem_append_right _ hRw) hai ?_
  intro h3 tk3 m3 F3 s3 hm3 N3
  have h13 : Has m3 c.ps := ps_same h1 s3 (by decide)
  have h23 : Has m3 [(Str.ofString "rows", .ref Rw), (Str.ofString "at", .int ((i : Nat) : Int) ti), (Str.ofString "split_id", .int sp tq)] := Has.same s3 h2 rfl
  clear F N s3
  (try dsimp only)
  show wpAny _ _ _ _ _ _
  k_steps
  all_goals (try dsimp only)
  have t0 : ∀ ob' nR' cs' h' tk' m' t', Fr g L' h' m' → SameBut [Str.ofString "step", Str.ofString "pieces", Str.ofString "choice"] m3 m' → Has m' [(Str.ofString "pieces", .none), (Str.ofString "step", .int (-1) t')] → News g L' h' (Mut c.dbuf ob' c.R nR' cs' ++ Fx) → Inv w Fx c.buf c.dbuf c.sc c.dsc ob' c.osc c.R nR' cs' rs sp c.bits →
      wpAny (model PySem.Challenge.rw_nu0223_01.row.prog w) (lawA L') (execs [lawIf2.1, lawIf3.1] (lawEnv L')) Q (fun _ _ => False) { s with heap := h', toks := tk' } := by
    intro ob' nR' cs' h' tk' m' t' F4 s4 hm4 N4 I4
    exact law_tl0 X T F4 (ps_same h13 s4 (by decide)) (Has.same s4 h23 rfl) hm4 N4 hsub I4 hRw hr hin h21 (fun m' nx' h' tk' a b d => k m' nx' h' tk' a b d)
  have t1 : ∀ ob' nR' cs' sp' Fx' tp us nt ps h' tk' m' t' z', z' = ((i : Nat) : Int) + ps.length → sp' = spn sp ps → ps.length ≤ 3 → IntsAre us ps → (tp, tupOf (List.toArray us) nt) ∈ Fx' → (∀ p ∈ Fx, p ∈ Fx') → Fr g L' h' m' → SameBut [Str.ofString "step", Str.ofString "pieces", Str.ofString "choice"] m3 m' → Has m' [(Str.ofString "pieces", .ref tp), (Str.ofString "step", .int z' t')] →
      News g L' h' (Mut c.dbuf ob' c.R nR' cs' ++ Fx') → Inv w Fx' c.buf c.dbuf c.sc c.dsc ob' c.osc c.R nR' cs' (afterRows rs i r sp' ps) sp' c.bits →
      wpAny (model PySem.Challenge.rw_nu0223_01.row.prog w) (lawA L') (execs [lawIf2.1, lawIf3.1] (lawEnv L')) Q (fun _ _ => False) { s with heap := h', toks := tk' } := by
    intro ob' nR' cs' sp' Fx' tp us nt ps h' tk' m' t' z' e1 e2 e3 e4 e5 e6 F4 s4 hm4 N4 I4
    exact law_tl1 X T F4 (ps_same h13 s4 (by decide)) (Has.same s4 h23 rfl) hm4 (Has.same s4 hm3 rfl) N4 (fun p hp => e6 p (hsub p hp)) e1 e2 e3 e4 e5 I4 (e6 _ hRw) (hr.up e6) hin h21 (e6 _ hao) hro (fun m' nx' h' tk' a b d => k m' nx' h' tk' a b d)
  have up3 : ∀ {m m' : Str → Option Value}, SameBut [Str.ofString "step", Str.ofString "pieces"] m m' → SameBut [Str.ofString "step", Str.ofString "pieces", Str.ofString "choice"] m m' := fun h y hy => h y (by
    simp only [List.contains_cons, List.contains_nil, Bool.or_false, Bool.or_eq_false_iff] at hy ⊢
    exact ⟨hy.1, hy.2.1⟩)
  have hw3 := ok.hw3
  have hw0 := ok.hw0
  have hw : c.wv = 0 ∨ c.wv = 1 ∨ c.wv = 2 := by omega
  rcases hw with hw | hw | hw
  · refine law_w0 X T F3 ⟨by rw [← hw]; exact h13.1, h13.2.2.2.1, h13.2.2.2.2.2.2.1, h23.2.1, hm3.1, trivial⟩ N3 I (hsub _ ok.hS) ok.dS ok.loS ok.hf hri hao hro ?_ ?_
    · intro ob' nR' cs' h' tk' m' t' F4 s4 hm4 N4 I4
      exact t0 ob' nR' cs' h' tk' m' t' F4 (up3 s4) hm4 N4 I4
    · intro ob' nR' cs' sp' Fx' tp us nt ps h' tk' m' t' z' e1 e2 e3 e4 e5 e6 F4 s4 hm4 N4 I4
      exact t1 ob' nR' cs' sp' Fx' tp us nt ps h' tk' m' t' z' e1 e2 e3 e4 e5 e6 F4 (up3 s4) hm4 N4 I4
  · refine law_w1 X T F3 ⟨by rw [← hw]; exact h13.1, h13.2.2.2.2.2.2.1, h23.2.1, hm3.1, trivial⟩ N3 I (hsub _ ok.hc1) ok.dc1 (hsub _ ok.hM) ok.dM ok.loM (ok.hv.sub hsub) hri (by omega) hao hro ?_ ?_
    · intro ob' nR' cs' h' tk' m' t' F4 s4 hm4 N4 I4
      exact t0 ob' nR' cs' h' tk' m' t' F4 (up3 s4) hm4 N4 I4
    · intro ob' nR' cs' sp' Fx' tp us nt ps h' tk' m' t' z' e1 e2 e3 e4 e5 e6 F4 s4 hm4 N4 I4
      exact t1 ob' nR' cs' sp' Fx' tp us nt ps h' tk' m' t' z' e1 e2 e3 e4 e5 e6 F4 (up3 s4) hm4 N4 I4
  · refine law_w2 X T F3 ⟨by rw [← hw]; exact h13.1, h13.2.1, h13.2.2.1, h13.2.2.2.2.2.2.1, h23.2.1, hm3.1, trivial⟩ N3 I (hsub _ ok.hc1) ok.dc1 (hsub _ ok.hM) ok.dM ok.loM (ok.hv.sub hsub) hri ok.hsh ok.hwd ok.hb hao hro ?_ ?_
    · intro ob' nR' cs' h' tk' m' t' F4 s4 hm4 N4 I4
      exact t0 ob' nR' cs' h' tk' m' t' F4 s4 hm4 N4 I4
    · intro ob' nR' cs' sp' Fx' tp us nt ps h' tk' m' t' z' e1 e2 e3 e4 e5 e6 F4 s4 hm4 N4 I4
      exact t1 ob' nR' cs' sp' Fx' tp us nt ps h' tk' m' t' z' e1 e2 e3 e4 e5 e6 F4 s4 hm4 N4 I4
end
end
section
theorem st187 : True := by w_top off; k_with_none; trivial
theorem st188 : True := by
  k_with "my mem" => (first | with_reducible assumption | (refine mem_in ?_; with_reducible assumption) | (refine' List.mem_append_right _ ?_; k_mem) | (refine' List.mem_append_left _ ?_; k_mem))
  k_with "my all" => (with_reducible assumption)
  k_with "my ne" => ((dsimp only; first | with_reducible assumption | (refine Ne.symm ?_; with_reducible assumption)))
  k_with "my ne" => (first | with_reducible assumption | (refine Ne.symm ?_; with_reducible assumption))
  k_with "my range" => (first | (with_unfolding_all refine range1_rows ‹Fr _ _ _ _› ‹News _ _ _ _› ?_) | (with_unfolding_all refine range2_rows ‹Fr _ _ _ _› ‹News _ _ _ _› ?_))
  k_with "my pick" => (first | exact Pick.nil | (refine' Pick.take (by first | exact List.Mem.head _ | exact List.Mem.tail _ (List.Mem.head _)) (by walk_at "my pick")) | (refine' Pick.skip (by k_all) (by walk_at "my pick")) | (refine Pick.all (by assumption)))
  k_with "call ref" => (k_here; (with_reducible show wpAny _ _ (call (Value.ref 283) [Value.ref _, Value.int _ _]) _ _ _); k_dflt (refine' draw_at (by k_asm) (by k_asm) (by k_asm) (by k_asm) (by rfl) (by exact Nat.le_of_ble_eq_true rfl) (by exact Nat.le_of_ble_eq_true rfl) (by k_asm) (by k_asm) (by k_mem) (by k_mem) (by walk_at "my pick") (by first | with_reducible assumption | omega) (by decide) (by decide) ?_); intro _ _ _ _ _ _ _ _ _ _ _; (try k_sweep))
  k_with "CompSrc" => (refine Hold.mk ?_)
  k_with "pyIter ref" => (refine Hold.mk ?_)
  trivial
theorem st189 : True := by
  k_with "execs cons" => (refine Hold.mk ?_)
  k_with "call builtin:len" => (k_here; (with_reducible show wpAny _ _ (call (Value.builtin "len") [Value.ref _]) _ _ _); k_dflt (refine' l_len (by k_asm) (by k_mem) (by with_reducible assumption) (by omega) ?_; k_whole))
  trivial
section
variable {w : World} {g : Heap} {L' : Addr} {s : Shared} {m : Str → Option Value} {mean : ExcName → Option Value} {mg mb : Str → Option Value} {Q : Flow → Shared → Prop} {c : Cn} {n : Nat} {nx : List (Addr × Obj)}
set_option maxHeartbeats 2000000 in
theorem law_whl (X : (Mine.hd.heap_1 w.params).In g) (T : Top Mine.vw (looseW Mine.vw []) mean mg mb g) (F : Fr g L' s.heap m) (N : News g L' s.heap nx) (ok : COk w L' c) (J : CJ w c n m nx)
    (k : ∀ m' nx' h' tk', Fr g L' h' m' → News g L' h' nx' → CJ w c 0 m' nx' → Q .next { s with heap := h', toks := tk' }) :
    wpAny (model PySem.Challenge.rw_nu0223_01.row.prog w) (lawA L') (exec lawWhl.1 (lawEnv L')) Q (fun _ _ => False) s := by
  unfold lawWhl
  dsimp only
  refine wh (CJ w c) F N J ?turn
  case turn =>
    intro n m₁ nx₁ h₁ tk₁ F1 N1 J1
    have J2 := J1
    obtain ⟨i, ti, tq, ob, nR, cs, rs, sp, Fx, Rw, refs, nw, h1, h2, e1, hsub, I, hRw, hr, hin, h21⟩ := J2
    have hRm : (Rw, listOf (List.toArray (List.map Value.ref refs)) nw) ∈ nx₁ := by rw [e1]; exact List.mem_append_right _ hRw
    have hlen : (List.map Value.ref refs).length = rs.length := by rw [List.length_map]; exact hr.length
    have F2 : Fr g L' h₁ (kstB m₁ [(Str.ofString "rows", .ref Rw), (Str.ofString "at", .int ((i : Nat) : Int) ti), (Str.ofString "split_id", .int sp tq)]) := fr_map _ F1 h2
    rcases n with _ | n
    · clear F1
      show wpAny _ _ _ _ _ _
      (try k_fold)
      k_steps
      all_goals (try dsimp only)
      rw [kst_id h2] at F2
      exact k _ _ _ _ F2 N1 J1
    · clear F1
      show wpAny _ _ _ _ _ _
      (try k_fold)
      k_steps
      all_goals (try dsimp only)
      rw [kst_id h2] at F2
      refine Hold.of ?_
      refine law_trn X T F2 N1 ok J1 ?_
      intro m' nx' h' tk' F' N' J'
      exact WTurn.next F' N' (Nat.lt_succ_self n) J'
end
end
section
noncomputable def lawS9 : { b : Stmt // fnStmt lawFn.1 9 = some b } := ⟨_, rfl⟩
noncomputable def lawS10 : { b : Stmt // fnStmt lawFn.1 10 = some b } := ⟨_, rfl⟩
noncomputable def lawS11 : { b : Stmt // fnStmt lawFn.1 11 = some b } := ⟨_, rfl⟩
noncomputable def lawS12 : { b : Stmt // fnStmt lawFn.1 12 = some b } := ⟨_, rfl⟩
noncomputable def lawS14 : { b : Stmt // fnStmt lawFn.1 14 = some b } := ⟨_, rfl⟩
theorem st190 : True := by w_top off; k_with_none; trivial
theorem st191 : True := by
  k_with "my mem" => (first | with_reducible assumption | (refine mem_in ?_; with_reducible assumption) | (refine' List.mem_append_right _ ?_; k_mem) | (refine' List.mem_append_left _ ?_; k_mem))
  k_with "my all" => (with_reducible assumption)
  k_with "my ne" => ((dsimp only; first | with_reducible assumption | (refine Ne.symm ?_; with_reducible assumption)))
  k_with "my ne" => (first | with_reducible assumption | (refine Ne.symm ?_; with_reducible assumption))
  k_with "my range" => (first | (with_unfolding_all refine range1_rows ‹Fr _ _ _ _› ‹News _ _ _ _› ?_) | (with_unfolding_all refine range2_rows ‹Fr _ _ _ _› ‹News _ _ _ _› ?_))
  k_with "my pick" => (first | exact Pick.nil | (refine' Pick.take (by first | exact List.Mem.head _ | exact List.Mem.tail _ (List.Mem.head _)) (by walk_at "my pick")) | (refine' Pick.skip (by k_all) (by walk_at "my pick")) | (refine Pick.all (by assumption)))
  k_with "call ref" => (k_here; (with_reducible show wpAny _ _ (call (Value.ref 283) [Value.ref _, Value.int _ _]) _ _ _); k_dflt (refine' draw_at (by k_asm) (by k_asm) (by k_asm) (by k_asm) (by rfl) (by exact Nat.le_of_ble_eq_true rfl) (by exact Nat.le_of_ble_eq_true rfl) (by k_asm) (by k_asm) (by k_mem) (by k_mem) (by walk_at "my pick") (by first | with_reducible assumption | omega) (by decide) (by decide) ?_); intro _ _ _ _ _ _ _ _ _ _ _; (try k_sweep))
  k_with "CompSrc" => (refine Hold.mk ?_)
  k_with "pyIter ref" => (refine Hold.mk ?_)
  trivial
theorem st192 : True := by
  k_with "eval Call" => (k_here; (with_reducible show wpAny _ _ (eval (PySem.Expr.Call (PySem.Expr.Name _ _) [PySem.Expr.ListComp _ _ _ _] _ _) _) _ _ _); refine Hold.mk ?_)
  k_with "call ref" => (k_here; (with_reducible show wpAny _ _ (call (Value.ref 297) [Value.ref _]) _ _ _); refine Hold.mk ?_)
  k_with "call ref" => (k_here; (with_reducible show wpAny _ _ (call (Value.ref 267) [Value.ref _, Value.none, Value.ref _, Value.none, Value.int _ _]) _ _ _); refine Hold.mk ?_)
  k_with "compareOp Eq ref ref" => (refine Hold.mk ?_)
  trivial
theorem dled_sub (cs : List Cell) : (dled cs).Sublist (cled cs) := by
  induction cs with
  | nil => exact List.Sublist.refl _
  | cons a r ih => exact (ih.cons_cons _).cons _
section
variable {w : World} {g : Heap} {L' : Addr} {s : Shared} {m : Str → Option Value} {mean : ExcName → Option Value} {mg mb : Str → Option Value} {Q : Flow → Shared → Prop} {M Rw : Addr} {oM o1 : Obj} {kM : List (Int × Value)} {tl : List (Addr × Obj)} {refs : List Addr} {rs : List Row} {nw : Nat} {wv : Int} {sh wd : Nat} {tw ts td : Tok}
set_option maxHeartbeats 4000000 in
theorem law_post (X : (Mine.hd.heap_1 w.params).In g) (T : Top Mine.vw (looseW Mine.vw []) mean mg mb g) (F : Fr g L' s.heap m)
    (hm : Has m [(Str.ofString "width", .int (wd : Nat) td), (Str.ofString "shift", .int (sh : Nat) ts), (Str.ofString "rows", .ref Rw), (Str.ofString "way", .int wv tw)])
    (N : News g L' s.heap ((M, oM) :: (L' + 1 + 1, o1) :: tl)) (dc1 : o1.data = Data.cell (some (.ref M))) (loM : (M == sysModules) = false) (dM : oM.IsDictOf (IK w) kM) (hl : kM.length ≤ 3) (hv : MVals tl kM) (hRw : rowsL Rw refs nw ∈ tl) (hr : RowsIn tl refs rs) (hso : Sorted rs) (hok : ∀ r ∈ rs, OkRow r) (hl7 : rs.length ≤ 7)
    (hsh : sh < 4) (hwd : wd < 3) (hw0 : 0 ≤ wv) (hw3 : wv < 3)
    (k : ∀ m' nx' h' tk', Fr g L' h' m' → News g L' h' nx' → Q (.ret (.bool true)) { s with heap := h', toks := tk' }) :
    wpAny (model PySem.Challenge.rw_nu0223_01.row.prog w) (lawA L') (execs [lawSng.1, lawHld.1, lawS9.1, lawS10.1, lawS11.1, lawS12.1, lawWhl.1, lawS14.1] (lawEnv L')) Q (fun _ _ => False) s := by
  refine fr_cut _ F hm fun u F1 => ?_
  clear F
  unfold lawSng lawHld lawS9 lawS10 lawS11 lawS12 lawS14
  dsimp only
  show wpAny _ _ _ _ _ _
  (try k_fold)
  k_steps
  all_goals (try dsimp only)
  refine Hold.of ?_
  refine law_sng X T F1 N dc1 loM dM hl hv ?_
  intro S oS kS h2 tk2 F2 N2 dS loS hf
  clear F1 N
  (try dsimp only)
  show wpAny _ _ _ _ _ _
  (try k_fold)
  k_steps
  all_goals (try dsimp only)
  refine Hold.of ?_
  rename Fr _ _ _ _ => F3
  rename News _ _ _ _ => N3
  refine law_hld X T F3 (tl := (S, oS) :: tl) (fun p hp => N3 p (by simp only [List.mem_cons] at hp ⊢; grind)) dc1 loM dM hl ?_
  intro H oH h4 tk4 F4 N4 dH loH
  clear F3 N3
  (try dsimp only)
  show wpAny _ _ _ _ _ _
  (try k_fold)
  k_steps
  all_goals (try dsimp only)
  refine Hold.of ?_
  rename Fr _ _ _ _ => F5
  rename News _ _ _ _ => N5
  refine buffer_at (Fx := tl) X T F5 N5 rfl (Nat.le_of_ble_eq_true rfl) (Nat.le_of_ble_eq_true rfl) (.tail _ (.tail _ (.tail _ (.tail _ hRw)))) (fun p hp => .tail _ (.tail _ (.tail _ (.tail _ hp)))) hr (by omega) ?_
  intro buf dbuf ob R nR cs h6 tk6 F6 N6 ap6 off6 hB hC
  clear F5 N5
  obtain ⟨old, hold⟩ : ∃ old, old = (H, oH) :: (M, oM) :: (L' + 1 + 1, o1) :: (S, oS) :: tl := ⟨_, rfl⟩
  rw [← hold] at N6 off6
  have bw : (wd : Int) < 3 := by omega
  have bs : (sh : Int) < 4 := by omega
  (try dsimp only)
  show wpAny _ _ _ _ _ _
  (try k_fold)
  k_steps
  all_goals (try dsimp only)
  refine Hold.of ?_
  rename Fr _ _ _ _ => F7
  rename News _ _ _ _ => N7
  rename (_ ∧ _ ∧ _ ∧ AllLt _ _) => l7
  obtain ⟨bits, hbits⟩ : ∃ bits : Int, bits = (2 ^ ((wd : Nat) : Int).toNat - 1) * 2 ^ ((sh : Nat) : Int).toNat := ⟨_, rfl⟩
  rw [← hbits]
  rw [Int.toNat_natCast, Int.toNat_natCast] at hbits
  refine scn_at X T F7 N7 rfl (Nat.le_of_ble_eq_true rfl) (Nat.le_of_ble_eq_true rfl) ?_
  intro sc dsc osc h8 tk8 F8 N8 hS8 lt8 lt8b _
  clear F7 N7 l7
  (try dsimp only)
  show wpAny _ _ _ _ _ _
  (try k_fold)
  k_steps
  all_goals (try dsimp only)
  rename Fr _ _ _ _ => F9
  rename News _ _ _ _ => N9
  obtain ⟨Fx, hFx⟩ : ∃ Fx, Fx = old ++ ((buf, instObj 103 dbuf) :: (sc, instObj 267 dsc) :: (dsc, osc) :: iled cs) := ⟨_, rfl⟩
  have so : ∀ p ∈ old, p ∈ Fx := fun p hp => by rw [hFx]; exact List.mem_append_left _ hp
  have st : ∀ p ∈ tl, p ∈ Fx := fun p hp => so p (by rw [hold]; exact .tail _ (.tail _ (.tail _ (.tail _ hp))))
  have ap7 := ap6.sub (List.sublist_cons_self _ _)
  have d1 := dled_sub cs
  have apM : Apart (Mut dbuf ob R nR cs) := ap7.sub ((d1.cons_cons _).cons_cons _)
  have memM : ∀ q ∈ Mut dbuf ob R nR cs, q ∈ (dbuf, ob) :: (R, listOf (List.toArray (crefs cs)) nR) :: cled cs := fun q hq => by
    rcases mut_iff.mp hq with e | e | hq
    · rw [e]; exact .head _
    · rw [e]; exact .tail _ (.head _)
    · exact .tail _ (.tail _ (d1.subset hq))
  have offM : ∀ p ∈ Fx, ∀ q ∈ Mut dbuf ob R nR cs, p.1 ≠ q.1 := by
    intro p hp q hq
    have hq2 := memM q hq
    rw [hFx] at hp
    rcases List.mem_append.mp hp with hp | hp
    · exact off6 p hp q (.tail _ hq2)
    rcases List.mem_cons.mp hp with e | hp
    · rw [e]
      have h1 := (List.nodup_cons.mp ap6).1
      exact fun e2 => h1 (List.mem_map.mpr ⟨q, hq2, e2.symm⟩)
    have hq3 : @LT.lt Nat _ q.1 dsc := lt8 q (.tail _ (.tail _ (by
      rcases List.mem_cons.mp hq2 with e | hq2
      · rw [e]; exact .head _
      · rcases List.mem_cons.mp hq2 with e | hq2
        · rw [e]; exact .tail _ (.head _)
        · exact .tail _ (.tail _ (List.mem_append_left _ hq2)))))
    rcases List.mem_cons.mp hp with e | hp
    · rw [e]; exact Nat.ne_of_gt (Nat.lt_trans hq3 lt8b)
    rcases List.mem_cons.mp hp with e | hp
    · rw [e]; exact Nat.ne_of_gt hq3
    obtain ⟨c2, hc2, e⟩ := mem_iled.mp hp
    rw [e]
    have hcx : (c2.x, instObj 52 c2.dx) ∈ cled cs := mem_cledI.mpr ⟨c2, hc2, .inl rfl⟩
    obtain ⟨h1, h2⟩ := List.nodup_cons.mp ap7
    obtain ⟨h3, h4⟩ := List.nodup_cons.mp h2
    rcases mut_iff.mp hq with e2 | e2 | hq
    · rw [e2]; exact fun e3 => h1 (List.mem_map.mpr ⟨_, .tail _ hcx, e3⟩)
    · rw [e2]; exact fun e3 => h3 (List.mem_map.mpr ⟨_, hcx, e3⟩)
    · obtain ⟨c3, hc3, e2⟩ := mem_dledI.mp hq
      rw [e2]
      exact (cled_apart (ms := cs) h4).1 c2 hc2 c3 hc3
  have hx : ∀ p ∈ (buf, instObj 103 dbuf) :: (sc, instObj 267 dsc) :: (dsc, osc) :: iled cs, p ∈ Fx := fun p hp => by rw [hFx]; exact List.mem_append_right _ hp
  have NN : News g L' _ (Mut dbuf ob R nR cs ++ Fx) := fun p hp => N9 p (by
    rcases List.mem_append.mp hp with hp | hp
    · have hp2 := memM p hp
      refine .tail _ (.tail _ (.tail _ (.tail _ ?_)))
      rcases List.mem_cons.mp hp2 with e | hp2
      · rw [e]; exact .head _
      · rcases List.mem_cons.mp hp2 with e | hp2
        · rw [e]; exact .tail _ (.head _)
        · exact .tail _ (.tail _ (List.mem_append_left _ hp2))
    · rw [hFx] at hp
      rcases List.mem_append.mp hp with hp | hp
      · exact .tail _ (.tail _ (.tail _ (.tail _ (.tail _ (.tail _ (List.mem_append_right _ hp))))))
      rcases List.mem_cons.mp hp with e | hp
      · rw [e]; exact .tail _ (.tail _ (.tail _ (.head _)))
      rcases List.mem_cons.mp hp with e | hp
      · rw [e]; exact .head _
      rcases List.mem_cons.mp hp with e | hp
      · rw [e]; exact .tail _ (.head _)
      obtain ⟨c2, hc2, e⟩ := mem_iled.mp hp
      rw [e]
      exact .tail _ (.tail _ (.tail _ (.tail _ (.tail _ (.tail _ (List.mem_append_left _ (mem_cledI.mpr ⟨c2, hc2, .inl rfl⟩))))))))
  have I : Inv w Fx buf dbuf sc dsc ob osc R nR cs rs 70 bits := ⟨apM, offM, fun c2 hc2 => hx _ (.tail _ (.tail _ (.tail _ (mem_iled.mpr ⟨c2, hc2, rfl⟩)))), hx _ (.head _), hx _ (.tail _ (.head _)), hx _ (.tail _ (.tail _ (.head _))), hS8, hB, hC, by omega, hso, hok⟩
  have hMF : (M, oM) ∈ Fx := so _ (by rw [hold]; exact .tail _ (.head _))
  have hcF : (L' + 1 + 1, o1) ∈ Fx := so _ (by rw [hold]; exact .tail _ (.tail _ (.head _)))
  have hSF : (S, oS) ∈ Fx := so _ (by rw [hold]; exact .tail _ (.tail _ (.tail _ (.head _))))
  have hHF : (H, oH) ∈ Fx := so _ (by rw [hold]; exact .head _)
  refine law_whl (c := ⟨wv, tw, sh, ts, wd, td, S, H, M, buf, sc, dbuf, dsc, R, osc, oM, oS, o1, kM, kS, bits, Fx⟩) (n := rs.length) X T F9 NN ⟨hcF, dc1, hMF, dM, loM, hv.sub st, hSF, dS, loS, hf, hsh, hwd, hbits, hw0, hw3⟩ ⟨0, _, _, ob, nR, cs, rs, 70, Fx, Rw, refs, nw, ⟨rfl, rfl, rfl, rfl, rfl, rfl, rfl, trivial⟩, ⟨rfl, rfl, rfl, trivial⟩, rfl, fun _ h => h, I, st _ hRw, hr.up st, by omega, by omega⟩ ?_
  intro m' nx' h9 tk9 Fw Nw Jw
  obtain ⟨iw, tiw, tqw, obw, nRw, csw, rsw, spw, Fxw, Rww, refsw, nww, h1w, _, rfl, hsubw, _⟩ := Jw
  dsimp only at hsubw
  refine fr_cut [(Str.ofString "held", .ref H)] Fw ⟨h1w.2.2.2.2.1, trivial⟩ fun uw Fv => ?_
  have hMw := hsubw _ hMF
  have hcw := hsubw _ hcF
  have hHw := hsubw _ hHF
  clear Fw N9 NN F9
  (try dsimp only)
  show wpAny _ _ _ _ _ _
  (try k_fold)
  k_steps
  all_goals (try dsimp only)
  refine Hold.of ?_
  refine dict_self Nw (List.mem_append_right _ hMw) (List.mem_append_right _ hHw) dM dH loM loH (hv.sub fun p hp => List.mem_append_right _ (hsubw _ (st p hp))) (by exact Nat.le_of_ble_eq_true rfl) (by exact Nat.le_of_ble_eq_true rfl) ?_
  exact k _ _ _ _ Fv Nw
end
end
end
section
section
theorem st193 : True := by w_top off; k_with_none; trivial
theorem st194 : True := by
  k_with "my all" => (assumption)
  k_with "my range" => (first | (with_unfolding_all refine range1_rows ‹Fr _ _ _ _› ‹News _ _ _ _› ?_) | (with_unfolding_all refine range2_rows ‹Fr _ _ _ _› ‹News _ _ _ _› ?_))
  k_with "my inst" => (first
    | (refine' inst_base ?F ?h1 ?h2; (case F => k_asm); (case h1 => assumption); (case h2 => assumption))
    | (refine' inst_half ?F ?N ?h1 ?h2; (case F => k_asm); (case N => k_asm); (case h1 => assumption); (case h2 => k_mem)))
  k_with "my ne" => ((try dsimp only); first | with_reducible assumption | (refine Ne.symm ?_; with_reducible assumption) | (have h9 := ‹(_ ≠ _ ∧ _ ≠ _ ∧ _ ≠ _) ∧ _›; first | exact h9.1.1 | exact h9.1.2.1 | exact h9.1.2.2 | exact h9.2.1.1 | exact h9.2.1.2.1 | exact h9.2.1.2.2 | exact h9.2.2.1 | exact h9.2.2.2.1 | exact h9.2.2.2.2 | exact h9.2.1 | exact h9.2.2.1 | exact h9.2.2.2))
  k_with "my pick" => (first | exact Pick.nil | (refine' Pick.take (by k_mem) (by walk_at "my pick")) | (refine' Pick.skip (by k_all) (by walk_at "my pick")) | (refine Pick.all (by assumption)))
  k_with "call ref" => (k_here; (with_reducible show wpAny _ _ (call (Value.ref 283) [Value.ref _, Value.int _ _]) _ _ _); k_dflt (refine' draw_at (by k_asm) (by k_asm) (by k_asm) (by k_asm) (by rfl) (by exact Nat.le_of_ble_eq_true rfl) (by exact Nat.le_of_ble_eq_true rfl) (by k_asm) (by k_asm) (by k_mem) (by k_mem) (by walk_at "my pick") (by omega) (by decide) (by decide) ?_); intro _ _ _ _ _ _ _ _ _ _ _; (try k_sweep))
  trivial
end
local macro_rules | `(tactic| walk_at "call ref") => `(tactic| (k_extra "my pot"; intro P' C' oP' oC' h' tk' F' N' hpc' hnp' hnc' hpp'; (simp only [AllNe, and_true] at hnp' hnc'); (obtain ⟨np1', np2'⟩ := hnp'); (obtain ⟨nc1', nc2'⟩ := hnc'); (try k_sweep)))
section
theorem st195 : True := by
  k_with "my mem" => (first | assumption | (refine' List.mem_append_right _ ?_; k_mem) | (refine' List.mem_append_left _ ?_; k_mem))
  k_with "my ne" => (first | assumption | (refine Ne.symm ?_; assumption) | (dsimp only; first | assumption | (refine Ne.symm ?_; assumption)))
  k_with "my pot" => (k_here; (with_reducible show wpAny _ _ (call (Value.ref 276) [Value.ref _]) _ _ _); k_dflt (refine' pot_at ?k1 ?k2 ?k3 ?k4 ?kA ?kB ?kC ?k5 ?k6 ?k7 ?_; (case k1 => k_asm); (case k2 => k_asm); (case k3 => k_asm); (case k4 => k_asm); (case kA => rfl); (case kB => exact Nat.le_of_ble_eq_true rfl); (case kC => exact Nat.le_of_ble_eq_true rfl); (case k5 => k_asm); (case k6 => assumption); (case k7 => assumption)))
  k_with "call ref" => (k_here; (with_reducible show wpAny _ _ (call (Value.ref 290) [Value.ref _]) _ _ _); refine Hold.mk ?_)
  k_with "CompSrc" => (refine Hold.mk ?_)
  k_with "pyIter ref" => (refine Hold.mk ?_)
  k_with "call ref" => (k_here; (with_reducible show wpAny _ _ (call (Value.ref 283) [Value.ref _, Value.int 20 _]) _ _ _); refine Hold.mk ?_)
  trivial
theorem st196 : True := by
  k_with "exec For Name Tuple cons nil" => (refine Hold.mk ?_)
  trivial
set_option maxHeartbeats 8000000 in
theorem law_spec {w : World} {g : Heap} {s : Shared} {l : Addr} {vs : List Value} {ns : List Int} {Q E : Value → Shared → Prop}
    (G : Gd w g) (stay : g.StaysIn s.heap) (hsz : g.objs.size ≤ s.heap.objs.size)
    (hL : g.IsList l vs.toArray) (hI : IntsAre vs ns) (hlen : ns.length ≤ 63)
    (ret : ∀ h' tk', g.StaysIn h' → Q (.bool true) { s with heap := h', toks := tk' }) :
    wpAny (model PySem.Challenge.rw_nu0223_01.row.prog w) (AA 700 7000) (call (.ref 326) [.ref l]) Q E s := by
  refine enterC (news := []) (binds := [(Str.ofString "script", .ref l)]) G stay hsz (fun _ h => nomatch h) (by k_is) (by k_is) (by decide) (BindsTo.of_eq rfl) rfl (by decide +kernel) ?_
  · intro mean mg mb L' h₁ tk0 cells X T F0 N' Y lt eL
    refine fr_cut [(Str.ofString "script", .ref l)] F0 ⟨rfl, trivial⟩ fun u F => ?_
    clear F0
    k_cells Y
    simp only [List.cons_append, List.nil_append] at N'
    (try dsimp only)
    show wpAny _ _ _ _ _ _
    k_fold
    k_steps
    all_goals (try dsimp only)
    rename_i P C _ _ _ _ hPC hpp hnP1 hnP2 hnC1 hnC2 _ oc2 dc2 _ wv tw oP1 oC1 _ _ hp1 hw0 hw3 h1 F1 N1
    refine Hold.of ?_
    refine fr_cut [(Str.ofString "way", .int wv tw)] F1 ⟨rfl, trivial⟩ fun u1 F2 => ?_
    clear F1
    refine row_at X T F2 N1 rfl (Nat.le_of_ble_eq_true rfl) (Nat.le_of_ble_eq_true rfl) hp1 hPC (by k_mem) (by k_mem) (by walk_at "my pick") (by omega) ?_
    intro Rw rs refs n oP2 oC2 h2 tk2 led F3 N3 e1 e2 hp2 hrows hsort hok hlen
    have c1 : ∀ p ∈ led, p.1 ≠ L' + 1 + 1 := fun p hp => (e1 _ (.head _) p (.tail _ hp)).symm
    have c2 : ∀ p ∈ led, p.1 ≠ L' + 1 := fun p hp => (e1 _ (.tail _ (.head _)) p (.tail _ hp)).symm
    have c3 : @Ne Nat (L' + 1 + 1) Rw := e1 _ (.head _) _ (.head _)
    have c4 : @Ne Nat (L' + 1) Rw := e1 _ (.tail _ (.head _)) _ (.head _)
    have c5 : ∀ p ∈ led, p.1 ≠ P := fun p hp => (e2 p (.tail _ hp)).1
    have c6 : ∀ p ∈ led, p.1 ≠ C := fun p hp => (e2 p (.tail _ hp)).2
    have c7 : @Ne Nat Rw P := (e2 _ (.head _)).1
    have c8 : @Ne Nat Rw C := (e2 _ (.head _)).2
    have c9 : ∀ p ∈ led, ∀ q ∈ [P, C], q ≠ p.1 := fun p hp q hq => by
      rcases List.mem_cons.mp hq with rfl | hq
      · exact (c5 p hp).symm
      · rw [List.mem_singleton.mp hq]; exact (c6 p hp).symm
    clear e1 e2 N1 F2
    simp only [List.cons_append, List.nil_append] at N3
    dsimp only
    show wpAny _ _ _ _ _ _
    (try k_fold)
    k_steps
    all_goals (try dsimp only)
    rename_i _ _ sv ts _ _ _ _ _ hs0 hs4 _ _ wd td oP4 oC4 _ _ hp4 hd0 hd3 _ M _ oM loM _ _ dM _ l1 h4 o1 F4 N4 dc1
    refine Hold.of ?_
    obtain ⟨sn, rfl⟩ : ∃ k : Nat, sv = (k : Int) := ⟨sv.toNat, by omega⟩
    obtain ⟨wn, rfl⟩ : ∃ k : Nat, wd = (k : Int) := ⟨wd.toNat, by omega⟩
    have w3 : ∀ p ∈ rowsL Rw refs n :: led, p.1 ≠ M := List.forall_mem_cons.mpr ⟨Nat.ne_of_lt l1.2.2.1, fun p hp => Nat.ne_of_lt (allLt_mem l1.2.2.2.2.2 p hp)⟩
    refine law_for (tl := rowsL Rw refs n :: led) X T F4 ⟨rfl, rfl, rfl, rfl, trivial⟩ (fun p hp => N4 p ?perm) dc2 dc1 hPC hnP2 hnC2 (Nat.ne_of_lt l1.2.2.2.2.1) hnP1 hnC1 (Nat.ne_of_lt l1.2.2.2.1) (Nat.ne_of_lt l1.1) (Nat.ne_of_lt l1.2.1) (List.forall_mem_cons.mpr ⟨c7, c5⟩) (List.forall_mem_cons.mpr ⟨c8, c6⟩) w3 hp4 (by omega) dM ?_
    case perm =>
      simp only [List.mem_cons] at hp ⊢
      (repeat' (refine Or.elim hp ?_ ?_ <;> clear hp <;> intro hp)) <;> (first | solve_by_elim (maxDepth := 12) only [hp, Or.inl, Or.inr] | simp only [hp, true_or, or_true, eq_self])
    intro oP5 oC5 oM5 kM tups m5 h5 tk5 hm5 F5 N5 dM5 hv5 hk5
    clear F4 N4
    (try dsimp only)
    refine law_post (tl := (rowsL Rw refs n :: led) ++ tups) X T F5 hm5 (fun p hp => N5 p (.tail _ (.tail _ (.tail _ hp)))) dc1 loM dM5 hk5 (hv5.sub fun p hp => List.mem_append_right _ hp) (List.mem_append_left _ (.head _)) (hrows.up fun p hp => List.mem_append_left _ (.tail _ hp)) hsort hok hlen (by omega) (by omega) hw0 hw3 ?_
    intro m6 nx6 h6 tk6 F6 N6
    exact Out.ret _ F6 N6 (fun hZ tkZ kZ1 kZ2 kZ3 => ret hZ tkZ kZ1)
end
end
end Mine
set_option maxHeartbeats 4000000 in
theorem PySem.Challenge.cw_nu0223_01_holds : PySem.Challenge.rw_nu0223_01.Holds := by
  refine Mine.hd ?_
  k_fill
  intro w s₀ s₁ mg mb G Y fa o pm cd doc dV kV ho hd hcd hD hmg hg args vals as hpre hlay hrd hwl hlo
  have KX := kIn_of Y
  refine Ground.open G ?_
  intro T B D TE TW
  have hfa : mg (PySem.Str.ofString "law") = some (Value.ref 326) := mg_of KX T.g (by k_is)
  have hfa2 : fa = 326 := by
    have h := hfa.symm.trans hmg
    exact (Value.ref.inj (Option.some.inj h)).symm
  subst hfa2
  clear hmg ho hd hcd hD hfa
  wrow_args hpre hlay hrd hwl hlo
  rename_i l vs _ hL ra w1 r0 hI hr hc1 hc2
  refine Mine.wp_le (Mine.law_spec ⟨KX, _, _, _, T⟩ (fun _ _ h => h) (Nat.le_refl _) hL hI (by omega) ?_) rfl (Nat.le_of_ble_eq_true rfl) (Nat.le_of_ble_eq_true rfl) rfl rfl
  intro h' tk' k
  refine GoodW.toG ?_
  refine ⟨.inl ⟨_, .bool true, [], rfl, fun _ => ?_, ?_, ?_, fun _ => ⟨List.nodup_nil, fun _ h => nomatch h⟩⟩, k, rfl, hg⟩
  · rfl
  · constructor
  · with_unfolding_all rfl
