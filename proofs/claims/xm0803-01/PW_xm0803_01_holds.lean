import PyProof.Rows.All
import Wide.All
import OpenK.AllK
import Wide.FinOn
import PySem.Challenge.RW_xm0803_01
open PySem PySem.W PySem.Calls PyProof.Rows
set_option Elab.async false
set_option maxRecDepth 100000

set_option maxRecDepth 100000 in
set_option maxHeartbeats 8000000 in
open_top Mine.hd for PySem.Challenge.rw_xm0803_01

namespace Mine
noncomputable abbrev prg : Program := PySem.Challenge.rw_xm0803_01.row.prog
abbrev TT (mean : ExcName → Option Value) (mg mb : Str → Option Value) (h : Heap) : Prop := Top Mine.hd.view_39 (looseW Mine.hd.view_39 []) mean mg mb h
abbrev AA (dp un : Nat) (gd : Option (List Code)) (l : List Env) : Around := { handled := none, depth := dp, frames := some l, guards := gd, units := un }

structure Cx (w : World) (mean : ExcName → Option Value) (mg mb : Str → Option Value) (A : Around) (base : Heap) (l : List Env) (h : Heap) : Prop where
  B : Below A base l h
  X : (Mine.hd.heap_39 w.params).In base
  T : TT mean mg mb base

section
variable {w : World} {mean : ExcName → Option Value} {mg mb : Str → Option Value} {A : Around} {base : Heap} {l : List Env} {s : Shared} {R : Result → Shared → Prop}
  {name qual : Str} {params : Arguments} {body : List Stmt} {scope : Scope} {dV kV doc pm cdv ct oc : Value} {an od : Option Addr} {osl : Array (Option Value)} {f : Addr} {args : Args} {binds : List (Str × Value)}

theorem Cx.Xh {h : Heap} (C : Cx w mean mg mb A base l h) : (Mine.hd.heap_39 w.params).In h := C.X.keeps C.B.stays
theorem Cx.Th {h : Heap} (C : Cx w mean mg mb A base l h) : TT mean mg mb h := Top.keeps C.T C.B.stays
theorem Cx.stays {h h' : Heap} (C : Cx w mean mg mb A base l h) (k : h.StaysIn h') : Cx w mean mg mb A base l h' :=
  ⟨⟨C.B.stack, fun b o e => k b o (C.B.stays b o e), C.B.frames.of_keeps fun b o e _ => ⟨o, k b o e, rfl⟩⟩, C.X, C.T⟩
theorem Cx.inner {g h : Heap} {env : Env} {L : Addr} {m : Str → Option Value} (B : Below A base l g) (X : (Mine.hd.heap_39 w.params).In base) (T : TT mean mg mb base) (F : Fr g L h m) (hf : env.frame = some L) (hk : env.scope.kind = .function) :
    Cx w mean mg mb (A.deeper env) base (env :: l) h := ⟨pushX B F hf hk, X, T⟩

theorem enter (C : Cx w mean mg mb A base l s.heap) (mods : List (Addr × Obj)) (hm : ∀ p ∈ mods, s.heap.get? p.1 = some p.2 ∧ base.get? p.1 = none ∧ ∀ env ∈ l, env.frame ≠ some p.1)
    (ho : (Mine.hd.heap_39 w.params).lookup f = some ⟨oc, od, .func (fnOf name qual params body scope dV kV doc pm an cdv ct), osl⟩) (hcd : codeIn (Mine.hd.heap_39 w.params) cdv qual = true) (hroom : A.depth < recursionLimit)
    (hbind : BindsTo s (fnOf name qual params body scope dV kV doc pm an cdv ct) args binds) (hloc : ∀ y ∈ binds, scope.names.lookup y.1 = some .local)
    (h : ∀ g L' h₁, Below A base l g → (Mine.hd.heap_39 w.params).In g → TT mean mg mb g → (∀ b o, b ∉ mods.map (·.1) → s.heap.get? b = some o → g.get? b = some o) → (∀ b o, g.get? b = some o → s.heap.get? b = some o) →
      Fr g L' h₁ (fun y => binds.reverse.lookup y) → News g L' h₁ mods →
      wpAny (model prg w) (A.deeper (envOf qual scope L' f cdv)) (execs body (envOf qual scope L' f cdv))
        (fun fl s' => R (.ok (.ret (match fl with | .ret v => v | _ => .none))) s')
        (fun e s' => wpAny (model prg w) (A.deeper (envOf qual scope L' f cdv)) (leaving (envOf qual scope L' f cdv) e) (fun _ s'' => R (.error e) s'') (fun e' s'' => R (.error e') s'') s')
        { s with heap := h₁, toks := s.toks + binds.length })
    (hco : scope.isCoroutine = false := by rfl) (hgen : scope.isGenerator = false := by rfl) (hk : scope.kind = .function := by rfl)
    (hcell : ∀ x ∈ scope.names, x.2 ≠ .cell := by decide) : codeAny (model prg w) A (.call (.ref f) args) R s := by
  have st : base.StaysIn (hideAll s.heap (mods.map (·.1))) := fun b o e => hideAll_get _ (C.B.stays b o e) fun q => by
    obtain ⟨p, hp, rfl⟩ := List.mem_map.mp q
    rw [(hm p hp).2.1] at e; cases e
  refine codeAny_call_def (fd := fnOf name qual params body scope dV kV doc pm an cdv ct) (body := body) (binds := binds) hroom (C.Xh _ _ ho) rfl C.Th.nolimit (codeRec_of C.Xh hcd) rfl hbind hcell hloc (fun h₁ hns hk₁ => ?_) hco hgen hk
  exact h _ s.heap.objs.size h₁
    ⟨C.B.stack, st, funFrames_hideAll C.B.frames fun env he a ha => by
      obtain ⟨p, hp, rfl⟩ := List.mem_map.mp ha
      exact (hm p hp).2.2 env he⟩
    (C.X.keeps st) (Top.keeps C.T st) (fun b o hb e => hideAll_get _ e hb) (fun b o e => of_hideAll _ e)
    ⟨hns, fun b o e => hk₁ b o (of_hideAll _ e), Nat.le_of_eq (hideAll_size _ _)⟩
    (fun p hp => ⟨hk₁ _ _ (hm p hp).1, Nat.ne_of_lt (Heap.lt_size (hm p hp).1), hideAll_none _ (List.mem_map_of_mem hp)⟩)

theorem enterC (C : Cx w mean mg mb A base l s.heap) (mods : List (Addr × Obj)) (hm : ∀ p ∈ mods, s.heap.get? p.1 = some p.2 ∧ base.get? p.1 = none ∧ ∀ env ∈ l, env.frame ≠ some p.1)
    (ho : (Mine.hd.heap_39 w.params).lookup f = some ⟨oc, od, .func (fnOf name qual params body scope dV kV doc pm an cdv ct), osl⟩) (hcd : codeIn (Mine.hd.heap_39 w.params) cdv qual = true) (hroom : A.depth < recursionLimit)
    (hbind : BindsTo s (fnOf name qual params body scope dV kV doc pm an cdv ct) args binds) (hkind : (binds.all fun y => scope.names.lookup y.1 == some .local || scope.names.lookup y.1 == some .cell) = true)
    (hnd : ((cellsFrom 0 scope.names []).map (·.1)).Nodup)
    (h : ∀ g L' h₁ tk cells, Below A base l g → (Mine.hd.heap_39 w.params).In g → TT mean mg mb g → (∀ b o, b ∉ mods.map (·.1) → s.heap.get? b = some o → g.get? b = some o) → (∀ b o, g.get? b = some o → s.heap.get? b = some o) →
      Fr g L' h₁ (bindL (envOfC qual scope L' f cdv).kindOf binds fun _ => none) → News g L' h₁ (cells ++ mods) → CellsAre (bindC (envOfC qual scope L' f cdv).kindOf binds fun _ => none) (cellsFrom (L' + 1) scope.names []) cells → (∀ p ∈ mods, p.1 < L') →
      wpAny (model prg w) (A.deeper (envOfC qual scope L' f cdv)) (execs body (envOfC qual scope L' f cdv))
        (fun fl s' => R (.ok (.ret (match fl with | .ret v => v | _ => .none))) s')
        (fun e s' => wpAny (model prg w) (A.deeper (envOfC qual scope L' f cdv)) (leaving (envOfC qual scope L' f cdv) e) (fun _ s'' => R (.error e) s'') (fun e' s'' => R (.error e') s'') s')
        { s with heap := h₁, toks := tk })
    (hco : scope.isCoroutine = false := by rfl) (hgen : scope.isGenerator = false := by rfl) (hk : scope.kind = .function := by rfl) : codeAny (model prg w) A (.call (.ref f) args) R s := by
  have st : base.StaysIn (hideAll s.heap (mods.map (·.1))) := fun b o e => hideAll_get _ (C.B.stays b o e) fun q => by
    obtain ⟨p, hp, rfl⟩ := List.mem_map.mp q
    rw [(hm p hp).2.1] at e; cases e
  have hd : (⟨oc, od, .func (fnOf name qual params body scope dV kV doc pm an cdv ct), osl⟩ : Obj).data = .func (fnOf name qual params body scope dV kV doc pm an cdv ct) := rfl
  refine codeAny_call_function hroom (C.Xh _ _ ho) hd hco hgen rfl (codeRec_of C.Xh hcd) (hbind _ _ _ _ ?_)
  refine wpAny_newFunctionEnv_cells hk (kindsX hkind _) fun env' he s' x => ?_
  subst he
  refine ⟨C.Th.nolimit.keeps x.toInCall.keep, codeAny_func ?_⟩
  obtain ⟨h₁, tk, rfl, _⟩ := x.done
  have hk₁ := x.toInCall.keep
  obtain ⟨cells, NC, Y⟩ := Cl.news (h₀ := s.heap) (Nat.le_refl _) fun n c hmc => ⟨x.cell n c (lookup_of_mem_nodup (cellsFrom_names scope.names 0 (s.heap.objs.size + 1) [] [] rfl ▸ hnd) hmc), x.above n c hmc⟩
  refine h _ s.heap.objs.size h₁ tk cells
    ⟨C.B.stack, st, funFrames_hideAll C.B.frames fun env he a ha => by
      obtain ⟨p, hp, rfl⟩ := List.mem_map.mp ha
      exact (hm p hp).2.2 env he⟩
    (C.X.keeps st) (Top.keeps C.T st) (fun b o hb e => hideAll_get _ e hb) (fun b o e => of_hideAll _ e)
    ⟨x.toInCall.ns, fun b o e => hk₁ b o (of_hideAll _ e), Nat.le_of_eq (hideAll_size _ _)⟩ (fun p hp => ?_) Y (fun p hp => Heap.lt_size (hm p hp).1)
  rcases List.mem_append.mp hp with hp | hp
  · refine ⟨(NC p hp).1, (NC p hp).2.1, ?_⟩
    cases q : (hideAll s.heap (mods.map (·.1))).get? p.1 with
    | none => rfl
    | some o => have := of_hideAll _ q; rw [(NC p hp).2.2] at this; cases this
  · exact ⟨hk₁ _ _ (hm p hp).1, Nat.ne_of_lt (Heap.lt_size (hm p hp).1), hideAll_none _ (List.mem_map_of_mem hp)⟩
end
end Mine

namespace Mine
section
variable {prog : Program} {w : World} {A : Around} {E : Value → Shared → Prop} {s : Shared} {env : Env} {h₀ : Heap} {x : Str} {body : List Stmt} {Q : Flow → Shared → Prop}

def Stay (x : Str) (m₀ : Str → Option Value) (J : List (Addr × Obj) → Prop) (m' : Str → Option Value) (nx : List (Addr × Obj)) : Prop := (∀ z, z ≠ x → m' z = m₀ z) ∧ J nx

theorem iter_stay {l : Addr} {vs : List Value} {m₀ : Str → Option Value} {news : List (Addr × Obj)} (J : Nat → List (Addr × Obj) → Prop)
    (hh : A.handled = none) (hl : s.heap.IsList l vs.toArray) (hlL : env.locals ≠ l) (F : Fr h₀ env.locals s.heap m₀) (N : News h₀ env.locals s.heap news) (hj : J 0 news)
    (turn : ∀ i v news₁ h tk own oI, vs[i]? = some v → J i news₁ → (s.heap.objs.size, oI) ∈ own → oI.cls = .type "list_iterator" → (∀ p ∈ news₁, p.1 ≠ s.heap.objs.size) → h.IsList l vs.toArray → (∀ p ∈ own, p.1 = s.heap.objs.size ∨ p.1 = l) →
      Fr h₀ env.locals h (fun y => if y = x then some v else m₀ y) → News h₀ env.locals h (own ++ news₁) →
      wpAny (model prog w) A (execs body env) (LoopStepV h₀ env.locals [s.heap.objs.size] own (Stay x m₀ (J (i + 1))) { s with heap := h, toks := tk } (fun v s' => Q (.ret v) s') fun s' => Q .next s') E { s with heap := h, toks := tk })
    (done : ∀ (u : Str → Option Value) news₁ h tk, J vs.length news₁ → Fr h₀ env.locals h (fun y => if y = x then u y else m₀ y) → News h₀ env.locals h news₁ → Q .next { s with heap := h, toks := tk }) :
    wpAny (model prog w) A (pyIter (.ref l)) (fun it s₂ => LoopAtV prog w A h₀ env x body Q E it s₂) E s := by
  obtain ⟨ol, hol, hol'⟩ := id hl
  have hlt : l < s.heap.objs.size := Heap.lt_size hol
  have hne : l ≠ s.heap.objs.size := Nat.ne_of_lt hlt
  refine wpAny_pyIter_list hl ?_
  have W := Walks.list (prog := prog) (w := w) hh s.heap.objs.size l hne vs.toArray
  have hlen : vs.toArray.size = vs.length := by simp
  rw [hlen] at W
  let J' : Nat → (Str → Option Value) → List (Addr × Obj) → Prop := fun i => Stay x m₀ (J i)
  refine ⟨_, _, _, vs.length, _, _, m₀, news, J', rfl, W, ?_, ?_, ?_, ⟨⟨_, Heap.get?_push_size _ rfl, rfl, rfl⟩, hl.at fun o e => Heap.get?_push_of_some _ e⟩, F.push _, (fun p hp => ⟨Heap.get?_push_of_some _ (N p hp).1, (N p hp).2⟩), ⟨fun _ _ => rfl, hj⟩, ?_, ?_⟩
  · intro hm
    rcases List.mem_cons.mp hm with e | hm
    · exact absurd F.ns.lt (e ▸ Nat.lt_irrefl _)
    · exact hlL (List.mem_singleton.mp hm)
  · intro b hb
    rw [List.mem_singleton.mp hb]
    exact next_is_new F
  · intro p hp hI
    exact absurd (Heap.lt_size (N p hp).1) ((List.mem_singleton.mp hI) ▸ Nat.lt_irrefl _)
  · rintro i v m₁ news₁ s₁ own ⟨hh', tk', rfl⟩ hin hP ⟨hm, hJ⟩ hoff hown hat hall hst F₁ N₁
    have e : (fun z => if z = x then some v else m₁ z) = fun z => if z = x then some v else m₀ z := by
      funext z
      by_cases h1 : z = x
      · simp [h1]
      · simp only [if_neg h1]; exact hm z h1
    rw [e] at F₁
    obtain ⟨⟨oI, hoI, hcI, _⟩, hl'⟩ := hst
    have hv : vs[i]? = some v := by simpa using hP
    exact turn i v news₁ hh' tk' own oI hv hJ (hall _ (.head _) (next_is_new F) oI hoI) hcI (fun p hp q => hoff p hp (by rw [q]; exact .head _)) hl'
      (fun p hp => by rcases List.mem_cons.mp (hown p hp) with q | q; exact .inl q; exact .inr (List.mem_singleton.mp q)) F₁ N₁
  · rintro h' tk m' news' F' N' _ ⟨hm, hJ⟩
    refine done m' news' h' tk hJ ?_ N'
    have e : (fun z => if z = x then m' z else m₀ z) = m' := by
      funext z
      by_cases h1 : z = x
      · simp [h1]
      · simp only [if_neg h1]; exact (hm z h1).symm
    rw [e]; exact F'
end
end Mine

namespace Mine
abbrev lst (vs : List Value) (n : Nat) : Obj := { cls := .type "list", data := .seq vs.toArray n }
abbrev tup (vs : List Value) (n : Nat) : Obj := { cls := .type "tuple", data := .seq vs.toArray n }
abbrev entryD (w : World) (tag : Int) (lv : Addr) (ta tb tc t1 t2 : Tok) : Obj :=
  dictOf [⟨PyData.keyHash w.params "tag", .str "tag" ta, .int tag t1⟩, ⟨PyData.keyHash w.params "kind", .str "kind" tb, .int 3 t2⟩, ⟨PyData.keyHash w.params "values", .str "values" tc, .ref lv⟩] 3
abbrev exifD (w : World) (l : Addr) (ta tb : Tok) (v : Value) : Obj :=
  dictOf [⟨PyData.keyHash w.params "order", .str "order" ta, v⟩, ⟨PyData.keyHash w.params "entries", .str "entries" tb, .ref l⟩] 2
def IsEntry (w : World) (h : Heap) (a : Addr) (tag val : Int) : Prop :=
  ∃ dx lv ta tb tc t1 t2 t3 n, InstAt h a (instObj 63 dx) 63 (some (entryD w tag lv ta tb tc t1 t2)) ∧ h.get? lv = some (lst [.int val t3] n)
def IsExif (w : World) (h : Heap) (a l : Addr) : Prop :=
  ∃ dx ta tb v, InstAt h a (instObj 84 dx) 84 (some (exifD w l ta tb v))
theorem instKeep {g h : Heap} {x C dx : Addr} {od : Option Obj} (I : InstAt g x (instObj C dx) C od) (k : ∀ b o, g.get? b = some o → h.get? b = some o) : InstAt h x (instObj C dx) C od := by
  refine ⟨k _ _ I.at_, rfl, rfl, ?_⟩
  have := I.dict
  cases od with
  | none => exact this
  | some o => exact k _ _ this
theorem IsEntry.keeps {w : World} {g h : Heap} {a : Addr} {tag val : Int} (I : IsEntry w g a tag val) (k : g.StaysIn h) : IsEntry w h a tag val :=
  let ⟨dx, lv, ta, tb, tc, t1, t2, t3, n, i, e⟩ := I; ⟨dx, lv, ta, tb, tc, t1, t2, t3, n, instKeep i k, k _ _ e⟩
theorem IsExif.keeps {w : World} {g h : Heap} {a l : Addr} (I : IsExif w g a l) (k : g.StaysIn h) : IsExif w h a l :=
  let ⟨dx, ta, tb, v, i⟩ := I; ⟨dx, ta, tb, v, instKeep i k⟩
structure EntriesAt (w : World) (h : Heap) (vs : List Value) (rows : List (Int × Int)) : Prop where
  len : vs.length = rows.length
  at_ : ∀ (i : Nat) (r : Int × Int), rows[i]? = some r → ∃ a, vs[i]? = some (Value.ref a) ∧ IsEntry w h a r.1 r.2
theorem EntriesAt.keeps {w : World} {g h : Heap} {vs : List Value} {rows : List (Int × Int)} (I : EntriesAt w g vs rows) (k : g.StaysIn h) : EntriesAt w h vs rows :=
  ⟨I.len, fun i r e => let ⟨a, e1, e2⟩ := I.at_ i r e; ⟨a, e1, e2.keeps k⟩⟩
theorem EntriesAt.get {w : World} {h : Heap} {vs : List Value} {rows : List (Int × Int)} (I : EntriesAt w h vs rows) {i : Nat} {v : Value} (e : vs[i]? = some v) : ∃ (r : Int × Int) (a : Addr), rows[i]? = some r ∧ v = .ref a ∧ IsEntry w h a r.1 r.2 := by
  have hi : i < rows.length := I.len ▸ (List.getElem?_eq_some_iff.mp e).1
  obtain ⟨a, e1, e2⟩ := I.at_ i rows[i] (List.getElem?_eq_getElem hi)
  refine ⟨rows[i], a, List.getElem?_eq_getElem hi, ?_, e2⟩
  rw [e1] at e
  exact (Option.some.inj e).symm
theorem isList_keeps {g h : Heap} {l : Addr} {vs : Array Value} (I : g.IsList l vs) (k : ∀ b o, g.get? b = some o → h.get? b = some o) : h.IsList l vs := I.at fun o e => k l o e
theorem ne_of_fresh {h : Heap} {a b : Addr} {o : Obj} (e : h.get? a = some o) (f : h.get? b = none) : a ≠ b := by
  rintro rfl; rw [e] at f; cases f
end Mine

namespace Mine
theorem fill_mk : Mine.hd.heap_39 = Mine.hd.heap_39 → PySem.Challenge.rw_xm0803_01 = PySem.Challenge.rw_xm0803_01 := by
  k_fill
  intro _; rfl

local macro_rules | `(tactic| k_room) => `(tactic| ((try simp only [depth_under_make, depth_under_kw, depth_in1, depth_deeper, depth_caller]); (try dsimp only [AA] at *); omega))
local macro_rules | `(tactic| k_inst) => `(tactic| (refine' instKeep ?a ?b; (case a => assumption); (case b => exact Fr.keep (by assumption))))

theorem Cx.room {w : World} {mean : ExcName → Option Value} {mg mb : Str → Option Value} {base h : Heap} {l : List Env} {dp un dp' un' : Nat} {gd gd' : Option (List Code)} (C : Cx w mean mg mb (AA dp un gd l) base l h) :
    Cx w mean mg mb (AA dp' un' gd' l) base l h := ⟨⟨rfl, C.B.stays, C.B.frames⟩, C.X, C.T⟩
theorem two_new {h : Heap} {o1 o2 : Obj} (f1 : o1.isFreed = false) (f2 : o2.isFreed = false) : ((h.push o1).push o2).get? (h.objs.size + 1) = some o2 ∧ ((h.push o1).push o2).get? h.objs.size = some o1 ∧ h.get? (h.objs.size + 1) = none ∧ h.get? h.objs.size = none ∧ h.StaysIn ((h.push o1).push o2) := by
  refine ⟨?_, Heap.get?_push_of_some _ (Heap.get?_push_size _ f1), Heap.get?_none_of_le (Nat.le_succ _), Heap.get?_none_of_le (Nat.le_refl _), fun b o e => Heap.get?_push_of_some _ (Heap.get?_push_of_some _ e)⟩
  have := Heap.get?_push_size (h.push o1) f2
  rwa [Heap.size_push] at this
theorem frame_off {base h : Heap} {l : List Env} {a : Addr} (F : h.FunFrames base l) (e : h.get? a = none) : ∀ env ∈ l, env.frame ≠ some a := by
  intro env he q
  obtain ⟨_, o, ho, _⟩ := F.mem (List.mem_filterMap.mpr ⟨env, he, q⟩)
  rw [e] at ho; cases ho
theorem none_of_stays {base h : Heap} (k : base.StaysIn h) {a : Addr} (e : h.get? a = none) : base.get? a = none := fresh_of_stays k e
set_option maxHeartbeats 4000000 in
theorem entry_spec {w : World} {mean : ExcName → Option Value} {mg mb : Str → Option Value} {base : Heap} {l : List Env} {dp un : Nat} {gd : Option (List Code)} {s : Shared} {Q E : Value → Shared → Prop}
    {lv : Addr} {tag : Int} {t1 t2 : Tok}
    (C : Cx w mean mg mb (AA dp un gd l) base l s.heap) (hd : dp + 6 < recursionLimit) (hu : un + 60 < cLine)
    (ret : ∀ h' tk x dx ta tb tc, s.heap.StaysIn h' → s.heap.get? x = none → s.heap.get? dx = none → x ≠ dx → h'.get? x = some (instObj 63 dx) → h'.get? dx = some (entryD w tag lv ta tb tc t1 t2) → Q (.ref x) { s with heap := h', toks := tk }) :
    wpAny (model prg w) (AA dp un gd l) (call (.ref 63) [.int tag t1, .int 3 t2, .ref lv]) Q E s := by
  refine wpAny_call ?_
  obtain ⟨hh, gg, dd, tt, os⟩ := s
  have X₀ := C.Xh
  dsimp only at C X₀ ret
  have hm : makesIn (Mine.hd.heap_39 w.params) 63 = true := by k_is
  have hi : findIn (Mine.hd.heap_39 w.params) (.ref 63) "__init__" = some (some (.ref 60)) := by k_is
  have hf : typeIn (Mine.hd.heap_39 w.params) (.ref 60) = some (.type "function") := by k_is
  refine make_core (makes_of X₀ hm) (looks_findIn X₀ hi) (fun self => bind_fn X₀ self hf) (.inl rfl) ?_
  obtain ⟨n1, n2, n3, n4, n5⟩ := two_new (h := hh) (o1 := emptyDict) (o2 := instObj 63 hh.objs.size) rfl rfl
  show codeAny (model prg w) (AA (dp + 1) (un + 1) gd l) _ _ _
  have C₂ : Cx w mean mg mb (AA (dp + 1) (un + 1) gd l) base l ((hh.push emptyDict).push (instObj 63 hh.objs.size)) := C.room.stays n5
  have hbx := none_of_stays C.B.stays n3
  have hbd := none_of_stays C.B.stays n4
  have hfx := frame_off C.B.frames n3
  have hfd := frame_off C.B.frames n4
  clear C
  rename Cx _ _ _ _ _ _ _ _ => C
  generalize hH : (hh.push emptyDict).push (instObj 63 hh.objs.size) = H at n1 n2 n5 C ⊢
  k_dflt (refine' enter (binds := [("self", .ref (hh.objs.size + 1)), ("tag", .int tag t1), ("kind", .int 3 t2), ("values", .ref lv)]) C [(hh.objs.size + 1, instObj 63 hh.objs.size), (hh.objs.size, dictOf [] 0)] ?km ?k6 ?k7 ?k8 ?k9 ?kB ?_ ?c2 ?c3 ?c4 ?c5; (case k6 => k_is); (case k7 => k_is); (case k8 => k_room); (case k9 => exact BindsTo.of_eq rfl); (case c5 => decide); (case kB => exact locs rfl); (case c2 => exact rfl); (case c3 => exact rfl); (case c4 => exact rfl); (case km => exact List.forall_mem_cons.mpr ⟨⟨n1, hbx, hfx⟩, List.forall_mem_cons.mpr ⟨⟨n2, hbd, hfd⟩, fun _ h => nomatch h⟩⟩); k_whole)
  intro g L' h₁ B' X' T' kg ks F' N'
  generalize hx : hh.objs.size + 1 = x at *
  have hxd : hh.objs.size < x := by omega
  generalize hdx : hh.objs.size = dx at *
  have hlt := ltN hxd
  (try dsimp only)
  (try k_fold)
  (repeat' (first | (k_unfold; (try dsimp only)) | ((fail_if_success (with_reducible show wpAny _ _ (exec (PySem.Stmt.For _ _ _ _ _) _) _ _ _)); (fail_if_success (with_reducible show wpAny _ _ (exec (PySem.Stmt.While _ _ _ _) _) _ _ _)); (fail_if_success (with_reducible show wpAny _ _ (pyIter _) _ _ _)); (fail_if_success (with_reducible show wpAny _ _ (eval (PySem.Expr.ListComp _ _ _ _) _) _ _ _)); (fail_if_success (with_reducible show wpAny _ _ (exec (PySem.Stmt.Assign _ (PySem.Expr.ListComp _ _ _ _) _) _) _ _ _)); (fail_if_success (with_reducible show wpAny _ _ (eval (PySem.Expr.Subscript _ (PySem.Expr.Slice _ _ _ _) _) _) _ _ _)); first | walk1 | (dsimp only; walk1) | (leave1; walk_say "STEP leave1"; try dsimp only)) | fail "no step"))
  have st : hh.StaysIn g := fun b o e => kg b o (by simp only [List.map_cons, List.map_nil, List.mem_cons, List.not_mem_nil, or_false, not_or]; exact ⟨ne_of_fresh e n3, ne_of_fresh e n4⟩) (n5 b o e)
  exact ⟨rfl, ret _ _ x dx _ _ _ (fun b o e => Fr.keep (by assumption) _ _ (st b o e)) n3 n4 (Nat.ne_of_gt hxd) (News.get (by assumption) (.head _)) (News.get (by assumption) (.tail _ (.head _)))⟩
set_option maxHeartbeats 4000000 in
theorem exif_spec {w : World} {mean : ExcName → Option Value} {mg mb : Str → Option Value} {base : Heap} {l : List Env} {dp un : Nat} {gd : Option (List Code)} {s : Shared} {Q E : Value → Shared → Prop}
    {le : Addr} {v0 : Value}
    (C : Cx w mean mg mb (AA dp un gd l) base l s.heap) (hd : dp + 6 < recursionLimit) (hu : un + 60 < cLine)
    (ret : ∀ h' tk x dx ta tb, s.heap.StaysIn h' → s.heap.get? x = none → s.heap.get? dx = none → x ≠ dx → h'.get? x = some (instObj 84 dx) → h'.get? dx = some (exifD w le ta tb v0) → Q (.ref x) { s with heap := h', toks := tk }) :
    wpAny (model prg w) (AA dp un gd l) (call (.ref 84) [v0, .ref le]) Q E s := by
  refine wpAny_call ?_
  obtain ⟨hh, gg, dd, tt, os⟩ := s
  have X₀ := C.Xh
  dsimp only at C X₀ ret
  have hm : makesIn (Mine.hd.heap_39 w.params) 84 = true := by k_is
  have hi : findIn (Mine.hd.heap_39 w.params) (.ref 84) "__init__" = some (some (.ref 81)) := by k_is
  have hf : typeIn (Mine.hd.heap_39 w.params) (.ref 81) = some (.type "function") := by k_is
  refine make_core (makes_of X₀ hm) (looks_findIn X₀ hi) (fun self => bind_fn X₀ self hf) (.inl rfl) ?_
  obtain ⟨n1, n2, n3, n4, n5⟩ := two_new (h := hh) (o1 := emptyDict) (o2 := instObj 84 hh.objs.size) rfl rfl
  show codeAny (model prg w) (AA (dp + 1) (un + 1) gd l) _ _ _
  have C₂ : Cx w mean mg mb (AA (dp + 1) (un + 1) gd l) base l ((hh.push emptyDict).push (instObj 84 hh.objs.size)) := C.room.stays n5
  have hbx := none_of_stays C.B.stays n3
  have hbd := none_of_stays C.B.stays n4
  have hfx := frame_off C.B.frames n3
  have hfd := frame_off C.B.frames n4
  clear C
  rename Cx _ _ _ _ _ _ _ _ => C
  generalize hH : (hh.push emptyDict).push (instObj 84 hh.objs.size) = H at n1 n2 n5 C ⊢
  k_dflt (refine' enter (binds := [("self", .ref (hh.objs.size + 1)), ("order", v0), ("entries", .ref le)]) C [(hh.objs.size + 1, instObj 84 hh.objs.size), (hh.objs.size, dictOf [] 0)] ?km ?k6 ?k7 ?k8 ?k9 ?kB ?_ ?c2 ?c3 ?c4 ?c5; (case k6 => k_is); (case k7 => k_is); (case k8 => k_room); (case k9 => exact BindsTo.of_eq rfl); (case c5 => decide); (case kB => exact locs rfl); (case c2 => exact rfl); (case c3 => exact rfl); (case c4 => exact rfl); (case km => exact List.forall_mem_cons.mpr ⟨⟨n1, hbx, hfx⟩, List.forall_mem_cons.mpr ⟨⟨n2, hbd, hfd⟩, fun _ h => nomatch h⟩⟩); k_whole)
  intro g L' h₁ B' X' T' kg ks F' N'
  generalize hx : hh.objs.size + 1 = x at *
  have hxd : hh.objs.size < x := by omega
  generalize hdx : hh.objs.size = dx at *
  have hlt := ltN hxd
  (try dsimp only)
  (try k_fold)
  (repeat' (first | (k_unfold; (try dsimp only)) | ((fail_if_success (with_reducible show wpAny _ _ (exec (PySem.Stmt.For _ _ _ _ _) _) _ _ _)); (fail_if_success (with_reducible show wpAny _ _ (exec (PySem.Stmt.While _ _ _ _) _) _ _ _)); (fail_if_success (with_reducible show wpAny _ _ (pyIter _) _ _ _)); (fail_if_success (with_reducible show wpAny _ _ (eval (PySem.Expr.ListComp _ _ _ _) _) _ _ _)); (fail_if_success (with_reducible show wpAny _ _ (exec (PySem.Stmt.Assign _ (PySem.Expr.ListComp _ _ _ _) _) _) _ _ _)); (fail_if_success (with_reducible show wpAny _ _ (eval (PySem.Expr.Subscript _ (PySem.Expr.Slice _ _ _ _) _) _) _ _ _)); first | walk1 | (dsimp only; walk1) | (leave1; walk_say "STEP leave1"; try dsimp only)) | fail "no step"))
  have st : hh.StaysIn g := fun b o e => kg b o (by simp only [List.map_cons, List.map_nil, List.mem_cons, List.not_mem_nil, or_false, not_or]; exact ⟨ne_of_fresh e n3, ne_of_fresh e n4⟩) (n5 b o e)
  exact ⟨rfl, ret _ _ x dx _ _ (fun b o e => Fr.keep (by assumption) _ _ (st b o e)) n3 n4 (Nat.ne_of_gt hxd) (News.get (by assumption) (.head _)) (News.get (by assumption) (.tail _ (.head _)))⟩
structure RowsIn (tl : List (Addr × Obj)) (vs : List Value) (rows : List (Int × Int)) : Prop where
  len : vs.length = rows.length
  at_ : ∀ (i : Nat) (r : Int × Int), rows[i]? = some r → ∃ (a : Addr) (t1 t2 : Tok) (n : Nat), vs[i]? = some (Value.ref a) ∧ (a, tup [.int r.1 t1, .int r.2 t2] n) ∈ tl
theorem RowsIn.mono {tl tl' : List (Addr × Obj)} {vs : List Value} {rows : List (Int × Int)} (R : RowsIn tl vs rows) (k : ∀ p ∈ tl, p ∈ tl') : RowsIn tl' vs rows :=
  ⟨R.len, fun i r e => let ⟨a, t1, t2, n, e1, e2⟩ := R.at_ i r e; ⟨a, t1, t2, n, e1, k _ e2⟩⟩
structure EntriesIn (w : World) (en : List (Addr × Obj)) (ys : List Value) (rows : List (Int × Int)) : Prop where
  len : ys.length = rows.length
  at_ : ∀ (i : Nat) (r : Int × Int), rows[i]? = some r → ∃ (a dx lv : Addr) (ta tb tc t1 t2 t3 : Tok) (n : Nat), ys[i]? = some (Value.ref a) ∧ (a, instObj 63 dx) ∈ en ∧ (dx, entryD w r.1 lv ta tb tc t1 t2) ∈ en ∧ (lv, lst [.int r.2 t3] n) ∈ en
theorem EntriesIn.nil {w : World} : EntriesIn w [] [] [] := ⟨rfl, fun i r e => by simp at e⟩
theorem EntriesIn.snoc {w : World} {en : List (Addr × Obj)} {ys : List Value} {rows : List (Int × Int)} (R : EntriesIn w en ys rows) {r : Int × Int} {a dx lv : Addr} {ta tb tc t1 t2 t3 : Tok} {n : Nat} :
    EntriesIn w ((a, instObj 63 dx) :: (dx, entryD w r.1 lv ta tb tc t1 t2) :: (lv, lst [.int r.2 t3] n) :: en) (ys ++ [.ref a]) (rows ++ [r]) := by
  refine ⟨by simp [R.len], fun i q e => ?_⟩
  by_cases hi : i < rows.length
  · rw [List.getElem?_append_left hi] at e
    obtain ⟨a', dx', lv', ua, ub, uc, u1, u2, u3, n', e1, e2, e3, e4⟩ := R.at_ i q e
    exact ⟨a', dx', lv', ua, ub, uc, u1, u2, u3, n', by rw [List.getElem?_append_left (R.len ▸ hi)]; exact e1, .tail _ (.tail _ (.tail _ e2)), .tail _ (.tail _ (.tail _ e3)), .tail _ (.tail _ (.tail _ e4))⟩
  · have hi' : i = rows.length := by
      have := (List.getElem?_eq_some_iff.mp e).1
      rw [List.length_append, List.length_singleton] at this; omega
    subst hi'
    simp at e
    subst e
    exact ⟨a, dx, lv, ta, tb, tc, t1, t2, t3, n, by rw [← R.len]; simp, .head _, .tail _ (.head _), .tail _ (.tail _ (.head _))⟩
theorem EntriesIn.at {w : World} {en : List (Addr × Obj)} {ys : List Value} {rows : List (Int × Int)} (R : EntriesIn w en ys rows) {h : Heap} (N : ∀ p ∈ en, h.get? p.1 = some p.2) : EntriesAt w h ys rows :=
  ⟨R.len, fun i r e => let ⟨a, dx, lv, ta, tb, tc, t1, t2, t3, n, e1, e2, e3, e4⟩ := R.at_ i r e; ⟨a, e1, dx, lv, ta, tb, tc, t1, t2, t3, n, ⟨N _ e2, rfl, rfl, N _ e3⟩, N _ e4⟩⟩
theorem news_new {g h h' : Heap} {L x : Addr} {m : Str → Option Value} {o : Obj} {news : List (Addr × Obj)} (F : Fr g L h m) (N : News g L h' news) (e : h'.get? x = some o) (n : h.get? x = none) : News g L h' ((x, o) :: news) := by
  refine List.forall_mem_cons.mpr ⟨⟨e, ?_, fresh_of_stays F.keep n⟩, N⟩
  rintro rfl
  obtain ⟨oL, _, _, hL, _⟩ := F.ns
  rw [n] at hL; cases hL
theorem news_mv {g h : Heap} {L : Addr} {a b c x y z : Addr × Obj} {r : List (Addr × Obj)} (N : News g L h (x :: y :: z :: a :: b :: c :: r)) : News g L h (a :: b :: c :: x :: y :: z :: r) := fun p hp => N p (by
  simp only [List.mem_cons] at hp ⊢
  rcases hp with h | h | h | h | h | h | h <;> simp [h])
theorem take_snoc {α : Type} {rows : List α} {i : Nat} {r : α} (e : rows[i]? = some r) : rows.take (i + 1) = rows.take i ++ [r] := by rw [List.take_add_one, e]; rfl
theorem news_pull {g h : Heap} {L : Addr} {a d : Addr × Obj} {en r : List (Addr × Obj)} (N : News g L h (d :: (en ++ a :: r))) : News g L h (a :: d :: (en ++ r)) := fun p hp => N p (by
  simp only [List.mem_cons, List.mem_append] at hp ⊢
  rcases hp with h | h | h | h <;> simp [h])
theorem push2 {g h : Heap} {L : Addr} {m : Str → Option Value} {news : List (Addr × Obj)} (F : Fr g L h m) (N : News g L h news) (o1 o2 : Obj) (f1 : o1.isFreed = false) (f2 : o2.isFreed = false) :
    Fr g L ((h.push o1).push o2) m ∧ News g L ((h.push o1).push o2) ((h.objs.size + 1, o2) :: (h.objs.size, o1) :: news) := by
  obtain ⟨n1, n2, n3, n4, n5⟩ := two_new (h := h) f1 f2
  exact ⟨F.keeps n5, news_new F (news_new F (N.grown n5) n2 n4) n1 n3⟩
theorem stays_tl {h g h' : Heap} {tl : List (Addr × Obj)} (kg : ∀ b o, b ∉ tl.map (·.1) → h.get? b = some o → g.get? b = some o) (k : ∀ b o, g.get? b = some o → h'.get? b = some o) (hT : ∀ p ∈ tl, h.get? p.1 = some p.2) (N : ∀ p ∈ tl, h'.get? p.1 = some p.2) : h.StaysIn h' := by
  intro b o e
  by_cases hb : b ∈ tl.map (·.1)
  · obtain ⟨p, hp, rfl⟩ := List.mem_map.mp hb
    rw [hT p hp] at e
    rw [N p hp, e]
  · exact k _ _ (kg _ _ hb e)

end Mine

namespace Mine

local macro_rules | `(tactic| k_room) => `(tactic| ((try simp only [depth_under_make, depth_under_kw, depth_in1, depth_deeper, depth_caller]); (try dsimp only [AA] at *); omega))
local macro_rules | `(tactic| k_inst) => `(tactic| (refine' instKeep ?a ?b; (case a => assumption); (case b => exact Fr.keep (by assumption))))

theorem fmod_lo (a : Int) {b : Int} (h : 0 < b) : 0 ≤ a.fmod b := Int.fmod_nonneg_of_pos a h
theorem fmod_hi (a : Int) {b : Int} (h : 0 < b) : a.fmod b < b := Int.fmod_lt_of_pos a h
local macro_rules | `(tactic| walk_at "binaryOp FloorDiv int int") => `(tactic| ((with_reducible refine floordiv_int ?kbe ?_ (Or.inl (PyProof.noPylong_small ?kbp))); (case kbe => omega); (case kbp => omega)))
local macro_rules | `(tactic| walk_at "binaryOp Mult int int") => `(tactic| ((with_reducible show wpAny _ _ (binaryOp _ (Value.int (List.getD _ _ _) _) (Value.int (List.getD _ _ _) _)) _ _ _); (refine mul_int ?_ (IntMulOk.of_left (intBits_le_64 ?ka ?kb))); (case ka => (show -(2 ^ 64) < Int.fmod _ _; exact Int.lt_of_lt_of_le (by decide) (fmod_lo _ (by decide)))); (case kb => (show Int.fmod _ _ < _; exact Int.lt_trans (fmod_hi _ (by decide)) (by decide)))))
set_option maxHeartbeats 4000000 in
theorem take_spec {w : World} {mean : ExcName → Option Value} {mg mb : Str → Option Value} {base : Heap} {l : List Env} {dp un : Nat} {gd : Option (List Code)} {s : Shared} {Q E : Value → Shared → Prop}
    {src : Addr} {x y top : Int} {tx ty tt : Tok} {n : Nat}
    (C : Cx w mean mg mb (AA dp un gd l) base l s.heap) (hd : dp + 6 < recursionLimit) (hu : un + 60 < cLine)
    (hs : s.heap.get? src = some (lst [.int x tx, .int y ty] n)) (hb : base.get? src = none) (hl : ∀ env ∈ l, env.frame ≠ some src)
    (htop : 0 < top) (htop' : top < 1073741824)
    (ret : ∀ h' tk r tr x' y' tx' ty' n', 0 ≤ r → r < top → (∀ b o, b ≠ src → s.heap.get? b = some o → h'.get? b = some o) → h'.get? src = some (lst [.int x' tx', .int y' ty'] n') → Q (.int r tr) { s with heap := h', toks := tk }) :
    wpAny (model prg w) (AA dp un gd l) (call (.ref 114) [.ref src, .int top tt]) Q E s := by
  refine wpAny_call ?_
  k_dflt (refine' enter (binds := [("source", .ref src), ("top", .int top tt)]) C [(src, lst [.int x tx, .int y ty] n)] ?km ?k6 ?k7 ?k8 ?k9 ?kB ?_ ?c2 ?c3 ?c4 ?c5; (case k6 => k_is); (case k7 => k_is); (case k8 => k_room); (case k9 => exact BindsTo.of_eq rfl); (case c5 => decide); (case kB => exact locs rfl); (case c2 => exact rfl); (case c3 => exact rfl); (case c4 => exact rfl); (case km => exact List.forall_mem_cons.mpr ⟨⟨hs, hb, hl⟩, fun _ h => nomatch h⟩); k_whole)
  intro g L' h₁ B' X' T' kg ks F' N'
  (try dsimp only)
  (try k_fold)
  (repeat' (first | (k_unfold; (try dsimp only)) | ((fail_if_success (with_reducible show wpAny _ _ (exec (PySem.Stmt.For _ _ _ _ _) _) _ _ _)); (fail_if_success (with_reducible show wpAny _ _ (exec (PySem.Stmt.While _ _ _ _) _) _ _ _)); (fail_if_success (with_reducible show wpAny _ _ (pyIter _) _ _ _)); (fail_if_success (with_reducible show wpAny _ _ (eval (PySem.Expr.ListComp _ _ _ _) _) _ _ _)); (fail_if_success (with_reducible show wpAny _ _ (exec (PySem.Stmt.Assign _ (PySem.Expr.ListComp _ _ _ _) _) _) _ _ _)); (fail_if_success (with_reducible show wpAny _ _ (eval (PySem.Expr.Subscript _ (PySem.Expr.Slice _ _ _ _) _) _) _ _ _)); first | walk1 | (dsimp only; walk1) | (leave1; walk_say "STEP leave1"; try dsimp only)) | fail "no step"))
  · show Q _ _
    exact ret _ _ _ _ _ _ _ _ _ (fmod_lo _ htop) (fmod_hi _ htop) (fun b o hb e => Fr.keep (by assumption) _ _ (kg b o (by simpa using hb) e)) (News.get (by assumption) (.head _))
  · show Q _ _
    exact ret _ _ _ _ _ _ _ _ _ (fmod_lo _ htop) (fmod_hi _ htop) (fun b o hb e => Fr.keep (by assumption) _ _ (kg b o (by simpa using hb) e)) (News.get (by assumption) (.head _))

end Mine

namespace Mine

local macro_rules | `(tactic| k_room) => `(tactic| ((try simp only [depth_under_make, depth_under_kw, depth_in1, depth_deeper, depth_caller]); (try dsimp only [AA] at *); omega))
local macro_rules | `(tactic| k_inst) => `(tactic| (refine' instKeep ?a ?b; (case a => assumption); (case b => exact Fr.keep (by assumption))))

set_option maxHeartbeats 4000000 in
theorem entry_of_spec {w : World} {mean : ExcName → Option Value} {mg mb : Str → Option Value} {base : Heap} {l : List Env} {dp un : Nat} {gd : Option (List Code)} {s : Shared} {Q E : Value → Shared → Prop}
    {ex le : Addr} {vs : List Value} {rows : List (Int × Int)} {tag : Int} {tt : Tok}
    (C : Cx w mean mg mb (AA dp un gd l) base l s.heap) (hd : dp + 6 < recursionLimit) (hu : un + 60 < cLine)
    (hx : IsExif w s.heap ex le) (hl : s.heap.IsList le vs.toArray) (he : EntriesAt w s.heap vs rows)
    (ret : ∀ h' tk v, s.heap.StaysIn h' → ((v = .none ∧ ∀ r ∈ rows, r.1 ≠ tag) ∨ (∃ (i : Nat) (r : Int × Int) (a : Addr), rows[i]? = some r ∧ vs[i]? = some (Value.ref a) ∧ v = .ref a ∧ r.1 = tag ∧ ∀ (j : Nat) (r' : Int × Int), j < i → rows[j]? = some r' → r'.1 ≠ tag)) → Q v { s with heap := h', toks := tk }) :
    wpAny (model prg w) (AA dp un gd l) (call (.ref 100) [.ref ex, .int tag tt]) Q E s := by
  refine wpAny_call ?_
  k_dflt (refine' enter (binds := [("exif", .ref ex), ("tag", .int tag tt)]) C [] ?km ?k6 ?k7 ?k8 ?k9 ?kB ?_ ?c2 ?c3 ?c4 ?c5; (case k6 => k_is); (case k7 => k_is); (case k8 => k_room); (case k9 => exact BindsTo.of_eq rfl); (case c5 => decide); (case kB => exact locs rfl); (case c2 => exact rfl); (case c3 => exact rfl); (case c4 => exact rfl); (case km => exact fun _ h => nomatch h); k_whole)
  intro g L' h₁ B' X' T' kg ks F' N'
  have st : s.heap.StaysIn g := fun b o e => kg b o (by simp) e
  replace hx := hx.keeps st
  replace hl := isList_keeps hl st
  replace he := he.keeps st
  obtain ⟨dx, ta, tb, v0, hI⟩ := hx
  (try dsimp only)
  (try k_fold)
  (repeat' (first | (k_unfold; (try dsimp only)) | ((fail_if_success (with_reducible show wpAny _ _ (exec (PySem.Stmt.For _ _ _ _ _) _) _ _ _)); (fail_if_success (with_reducible show wpAny _ _ (exec (PySem.Stmt.While _ _ _ _) _) _ _ _)); (fail_if_success (with_reducible show wpAny _ _ (pyIter _) _ _ _)); (fail_if_success (with_reducible show wpAny _ _ (eval (PySem.Expr.ListComp _ _ _ _) _) _ _ _)); (fail_if_success (with_reducible show wpAny _ _ (exec (PySem.Stmt.Assign _ (PySem.Expr.ListComp _ _ _ _) _) _) _ _ _)); (fail_if_success (with_reducible show wpAny _ _ (eval (PySem.Expr.Subscript _ (PySem.Expr.Slice _ _ _ _) _) _) _ _ _)); first | walk1 | (dsimp only; walk1) | (leave1; walk_say "STEP leave1"; try dsimp only)) | fail "no step"))
  k_dflt ((rename Fr _ _ _ _ => lF'); (with_unfolding_all refine' For_invVF lF' ?k1 ?k2 ?_; (case k1 => exact rfl); (case k2 => exact rfl); k_whole))
  (repeat' (first | (k_unfold; (try dsimp only)) | ((fail_if_success (with_reducible show wpAny _ _ (exec (PySem.Stmt.For _ _ _ _ _) _) _ _ _)); (fail_if_success (with_reducible show wpAny _ _ (exec (PySem.Stmt.While _ _ _ _) _) _ _ _)); (fail_if_success (with_reducible show wpAny _ _ (pyIter _) _ _ _)); (fail_if_success (with_reducible show wpAny _ _ (eval (PySem.Expr.ListComp _ _ _ _) _) _ _ _)); (fail_if_success (with_reducible show wpAny _ _ (exec (PySem.Stmt.Assign _ (PySem.Expr.ListComp _ _ _ _) _) _) _ _ _)); (fail_if_success (with_reducible show wpAny _ _ (eval (PySem.Expr.Subscript _ (PySem.Expr.Slice _ _ _ _) _) _) _ _ _)); first | walk1 | (dsimp only; walk1) | (leave1; walk_say "STEP leave1"; try dsimp only)) | fail "no step"))
  rename Fr _ _ _ _ => F₂
  refine iter_stay (fun i news => news = [] ∧ ∀ (j : Nat) (r' : Int × Int), j < i → rows[j]? = some r' → r'.1 ≠ tag) rfl (isList_keeps hl F₂.keep) (Nat.ne_of_gt (Nat.lt_of_lt_of_le (Heap.lt_size hl.choose_spec.1) F₂.above)) F₂ N' ⟨rfl, fun j _ h => absurd h (Nat.not_lt_zero _)⟩ ?_ ?_
  · rintro i v news₁ h tk own oI hv ⟨rfl, hJ⟩ hoI hcI hoff hl' hown F₃ N₃
    obtain ⟨r, a, hr, rfl, hE⟩ := he.get hv
    obtain ⟨dx', lv, ta', tb', tc', t1', t2', t3', n', hI', hlv⟩ := hE
    (try dsimp only)
    (try k_fold)
    (repeat' (first | (k_unfold; (try dsimp only)) | ((fail_if_success (with_reducible show wpAny _ _ (exec (PySem.Stmt.For _ _ _ _ _) _) _ _ _)); (fail_if_success (with_reducible show wpAny _ _ (exec (PySem.Stmt.While _ _ _ _) _) _ _ _)); (fail_if_success (with_reducible show wpAny _ _ (pyIter _) _ _ _)); (fail_if_success (with_reducible show wpAny _ _ (eval (PySem.Expr.ListComp _ _ _ _) _) _ _ _)); (fail_if_success (with_reducible show wpAny _ _ (exec (PySem.Stmt.Assign _ (PySem.Expr.ListComp _ _ _ _) _) _) _ _ _)); (fail_if_success (with_reducible show wpAny _ _ (eval (PySem.Expr.Subscript _ (PySem.Expr.Slice _ _ _ _) _) _) _ _ _)); first | walk1 | (dsimp only; walk1) | (leave1; walk_say "STEP leave1"; try dsimp only)) | fail "no step"))
    · rename r.1 = tag => hrt
      show Q _ _
      exact ret _ _ _ (fun b o e => F₃.keep _ _ (st b o e)) (.inr ⟨i, r, a, hr, hv, rfl, hrt, hJ⟩)
    · rename ¬ _ = tag => hrt
      refine LoopStepU.intro F₃ N₃ (fun p hp => nomatch hp) ⟨fun z hz => if_neg hz, rfl, fun j r' hj e => ?_⟩
      rcases Nat.lt_or_eq_of_le (Nat.le_of_lt_succ hj) with q | rfl
      · exact hJ j r' q e
      · rw [hr] at e; cases e; exact hrt
  · rintro u news₁ h tk ⟨rfl, hJ⟩ F₃ N₃
    (try dsimp only)
    (try k_fold)
    (repeat' (first | (k_unfold; (try dsimp only)) | ((fail_if_success (with_reducible show wpAny _ _ (exec (PySem.Stmt.For _ _ _ _ _) _) _ _ _)); (fail_if_success (with_reducible show wpAny _ _ (exec (PySem.Stmt.While _ _ _ _) _) _ _ _)); (fail_if_success (with_reducible show wpAny _ _ (pyIter _) _ _ _)); (fail_if_success (with_reducible show wpAny _ _ (eval (PySem.Expr.ListComp _ _ _ _) _) _ _ _)); (fail_if_success (with_reducible show wpAny _ _ (exec (PySem.Stmt.Assign _ (PySem.Expr.ListComp _ _ _ _) _) _) _ _ _)); (fail_if_success (with_reducible show wpAny _ _ (eval (PySem.Expr.Subscript _ (PySem.Expr.Slice _ _ _ _) _) _) _ _ _)); first | walk1 | (dsimp only; walk1) | (leave1; walk_say "STEP leave1"; try dsimp only)) | fail "no step"))
    show Q _ _
    refine ret _ _ _ (fun b o e => F₃.keep _ _ (st b o e)) (.inl ⟨rfl, fun r hr => ?_⟩)
    obtain ⟨j, hj, e⟩ := List.getElem_of_mem hr
    exact hJ j r (he.len ▸ hj) (by rw [List.getElem?_eq_getElem hj, e])

end Mine

namespace Mine
open PyProof.Rows.LCg (NsObj SrcAt ns_obj fr_but news_but list_st lst_snoc)
section
variable {prog : Program} {w : World} {A : Around} {E : Value → Shared → Prop} {s : Shared} {h₀ : Heap} {L : Addr} {m : Str → Option Value} {env : Env}

abbrev tests (ifs : List PySem.Expr) (env : Env) : Sem Bool :=
  forIn ifs true fun c r => if r = true then do let ok ← isTrue c env (eval c env); pure (ForInStep.yield ok) else pure (ForInStep.yield r)

theorem comp_loop {elt target iter : PySem.Expr} {ifs : List PySem.Expr} {scope : Scope} {pos : Pos} {it acc : Value} {cenv : Env} {R : Result → Shared → Prop} (I : Nat → Shared → Prop)
    (turn : ∀ n s, I n s → wpAny (model prog w) A (pyNext it) (fun r s₁ => match r with
      | none => R (.ok .next) s₁
      | some v => wpAny (model prog w) A (letOwnedTupleGo target it v) (fun _ s₀ => wpAny (model prog w) A (assign target cenv v) (fun _ s₂ =>
          wpAny (model prog w) A (tests ifs cenv) (fun ok s₃ => if ok = true then wpAny (model prog w) A (eval elt cenv) (fun x s₄ =>
            wpAny (model prog w) A (call (.builtin "list.append") [acc, x]) (fun _ s₅ => ∃ m, m < n ∧ I m s₅) (notedBy (model prog w) A cenv fun e s' => R (.error e) s') s₄) (notedBy (model prog w) A cenv fun e s' => R (.error e) s') s₃
            else ∃ m, m < n ∧ I m s₃) (notedBy (model prog w) A cenv fun e s' => R (.error e) s') s₂)
          (notedBy (model prog w) A cenv fun e s' => R (.error e) s') s₀) (notedBy (model prog w) A cenv fun e s' => R (.error e) s') s₁) (notedBy (model prog w) A cenv fun e s' => R (.error e) s') s)
    (n : Nat) (h : I n s) : codeAny (model prog w) A (.compLoop (.ListComp elt [⟨target, iter, ifs, 0⟩] scope pos) 0 it acc cenv) R s := by
  refine codeAny_loop rfl I (fun n s hI => ?_) n h
  show wpAny _ A ((compTurn (.ListComp elt [⟨target, iter, ifs, 0⟩] scope pos) 0 it acc cenv).onRaise (fun x => do noteFrame x cenv; theTreesLotGoes x)) _ _ s
  refine wpAny_noted ?_
  rw [compTurn_list]
  refine wpAny_bind (wpAny_standAt (wpAny_bind (wpAny_mono (turn n s hI) (fun r s₁ h₁ => ?_) fun _ _ h' => h')))
  cases r with
  | none => exact wpAny_pure h₁
  | some v =>
    refine wpAny_bind (wpAny_mono h₁ (fun _ s₀ h₀' => ?_) fun _ _ h' => h')
    refine wpAny_bind (wpAny_mono h₀' (fun _ s₂ h₂ => ?_) fun _ _ h' => h')
    refine wpAny_bind (wpAny_mono h₂ (fun okb s₃ h₃ => ?_) fun _ _ h' => h')
    cases okb with
    | false => exact wpAny_pure ⟨rfl, h₃⟩
    | true => exact wpAny_bind (wpAny_bind (wpAny_mono h₃ (fun x s₄ h₄ => wpAny_bind (wpAny_mono h₄ (fun _ s₅ h₅ => wpAny_pure (wpAny_pure ⟨rfl, h₅⟩)) fun _ _ h' => h')) fun _ _ h' => h'))

abbrev cl0 (ys : List Value) : Obj := lst ys ys.length

def CEnd (h₀ : Heap) (L : Addr) (m : Str → Option Value) (s₁ : Shared) (I : Addr) (oI : Obj) (C : Addr) (oC : Obj) (D : Addr) (oD : Obj) (P : List (Addr × Obj) → Prop) (s₂ : Shared) : Prop :=
  ∃ h' tk news', s₂ = { s₁ with heap := h', toks := tk } ∧ Fr h₀ L h' m ∧ News h₀ L h' ((I, oI) :: (C, oC) :: (D, oD) :: news') ∧ (∀ p ∈ news', p.1 ≠ I ∧ p.1 ≠ C ∧ p.1 ≠ D) ∧ P news'

theorem comp_block {elt target iter : PySem.Expr} {ifs : List PySem.Expr} {scope : Scope} {cl : List (Str × Addr)} {pos : Pos} {s₂ : Shared} {I ax : Addr} {its : Array Value} {news : List (Addr × Obj)} {RR : Value → Addr → Result → Shared → Prop}
    (Bnd : Nat → Value → (Str → Option Value) → Prop) (G : Nat → List Value → List (Addr × Obj) → Prop)
    (hh : A.handled = none) (hne : ax ≠ I) (hsz : its.size ≤ sizeLine) (hcell : ∀ y ∈ scope.names, y.2 ≠ .cell) (hkind : scope.kind = .function)
    (hit : s₂.heap.IsListIter I ax 0) (hl : s₂.heap.IsList ax its) (hsrc : ∀ i ys nw, G i ys nw → SrcAt h₀ ax its nw) (hGl : ∀ i ys nw, G i ys nw → ys.length ≤ i)
    (F : Fr h₀ L s₂.heap m) (N : News h₀ L s₂.heap news) (hIL : L ≠ I) (hI₀ : h₀.get? I = none) (off : ∀ p ∈ news, p.1 ≠ I) (hG : G 0 [] news)
    (hasg : ∀ i v ys nw h tk C m' (Q : Unit → Shared → Prop) (E' : Value → Shared → Prop), its[i]? = some v → G i ys nw → Fr h₀ L h m → News h₀ L h nw → h.Ns C m' → (∃ l j, h.IsListIter I l j) →
      (∀ h' tk' m'', h'.Ns C m'' → Bnd i v m'' → (∀ b o, b ≠ C → h.get? b = some o → h'.get? b = some o) → Q () { s₂ with heap := h', toks := tk' }) →
      wpAny (model prog w) A (letOwnedTupleGo target (.ref I) v) (fun _ s' => wpAny (model prog w) A (assign target (compEnvC scope cl C env) v) Q E' s') E' { s₂ with heap := h, toks := tk })
    (turn : ∀ i v ys nw oI C oC D m₂ h tk (E' : Value → Shared → Prop), its[i]? = some v → G i ys nw → NsObj oC m₂ → Bnd i v m₂ → Fr h₀ L h m → News h₀ L h ((I, oI) :: (C, oC) :: (D, cl0 ys) :: nw) → (∀ p ∈ nw, p.1 ≠ I ∧ p.1 ≠ C ∧ p.1 ≠ D) → ((@Ne Nat I C) ∧ (@Ne Nat I D) ∧ (@Ne Nat C D)) →
      wpAny (model prog w) A (tests ifs (compEnvC scope cl C env)) (fun ok s₃ => if ok = true then wpAny (model prog w) A (eval elt (compEnvC scope cl C env)) (fun y s₄ => CEnd h₀ L m { s₂ with heap := h, toks := tk } I oI C oC D (cl0 ys) (G (i + 1) (ys ++ [y])) s₄) E' s₃
        else CEnd h₀ L m { s₂ with heap := h, toks := tk } I oI C oC D (cl0 ys) (G (i + 1) ys) s₃) E' { s₂ with heap := h, toks := tk })
    (hRR : ∀ D C h tk m' ys news', Fr h₀ L h m → News h₀ L h ((D, cl0 ys) :: news') → (∀ p ∈ news', p.1 ≠ D) → h.Ns C m' → h₀.get? C = none → h₀.get? D = none → C ≠ L → D ≠ L → C ≠ D → (∀ p ∈ news', p.1 ≠ C) → G its.size ys news' → RR (.ref D) C (.ok .next) { s₂ with heap := h, toks := tk }) :
    wpAny (model prog w) A (newList []) (fun acc s₃ => wpAny (model prog w) A (newFunctionEnv scope env.globals cl [] env.qual none .none (some env)) (fun cenv s₄ =>
      codeAny (model prog w) A (.compStart (.ListComp elt [⟨target, iter, ifs, 0⟩] scope pos) 0 (.ref I) acc { cenv with scope := relabel scope env }) (RR acc cenv.locals) s₄) E s₃) E s₂ := by
  refine wpAny_newObj_type (wpAny_newFunctionEnv hcell (by intro y hy; simp at hy) (fun h₁ hns₁ hsb₁ => ?_) hkind)
  dsimp only at hns₁ hsb₁ ⊢
  generalize hH2 : s₂.heap.push { cls := .type "list", dict := none, data := .seq ([] : List Value).toArray } = H2 at hns₁ hsb₁ ⊢
  have hC : H2.objs.size = s₂.heap.objs.size + 1 := by rw [← hH2, Heap.size_push]
  generalize hCe : H2.objs.size = C at *
  generalize hDe : s₂.heap.objs.size = D at *
  have hDClt : @LT.lt Nat _ D C := by omega
  have hDC : D ≠ C := Nat.ne_of_lt hDClt
  have below : ∀ {b : Addr} {o : Obj}, s₂.heap.get? b = some o → b ≠ C ∧ b ≠ D := fun e => by have := Heap.lt_size e; rw [hDe] at this; exact ⟨Nat.ne_of_lt (Nat.lt_trans this hDClt), Nat.ne_of_lt this⟩
  have old : ∀ b o, s₂.heap.get? b = some o → h₁.get? b = some o := fun b o e => hsb₁.extBut b o (below e).1 (Heap.get?_push_of_some _ (hH2 ▸ Heap.get?_push_of_some _ e))
  have hacc : h₁.get? D = some (cl0 []) := hsb₁.extBut _ _ hDC (Heap.get?_push_of_some _ (by rw [← hH2, ← hDe]; exact Heap.get?_push_size _ rfl))
  have fresh₀ : ∀ a, D ≤ a → h₀.get? a = none := fun a ha => by
    cases e : h₀.get? a with
    | none => rfl
    | some o' => have := Heap.lt_size (F.keep a o' e); rw [hDe] at this; exact absurd this (Nat.not_lt.mpr ha)
  have hD₀ : h₀.get? D = none := fresh₀ _ (Nat.le_refl _)
  have hC₀ : h₀.get? C = none := fresh₀ _ (Nat.le_of_lt hDClt)
  have hLlt : L < D := hDe ▸ F.ns.lt
  have hDL : D ≠ L := Nat.ne_of_gt hLlt
  have hCL : C ≠ L := Nat.ne_of_gt (Nat.lt_trans hLlt hDClt)
  obtain ⟨oI0, heI0, _⟩ := id hit
  have hIC : I ≠ C := (below heI0).1
  have hID : I ≠ D := (below heI0).2
  obtain ⟨ol, hol, _⟩ := id hl
  have haC : ax ≠ C := (below hol).1
  have haD : ax ≠ D := (below hol).2
  have off₀ : ∀ p ∈ news, p.1 ≠ I ∧ p.1 ≠ C ∧ p.1 ≠ D := fun p hp => ⟨off p hp, below (N p hp).1⟩
  have W := Walks.list (prog := prog) (w := w) hh I ax hne its
  have loop : ∀ s₃ : Shared, s₃ = { s₂ with heap := h₁, toks := s₂.toks + ([] : List (Str × Value)).length } →
      codeAny (model prog w) A (.compLoop (.ListComp elt [⟨target, iter, ifs, 0⟩] scope pos) 0 (.ref I) (.ref D) (compEnvC scope cl C env)) (RR (.ref D) C) s₃ := by
    rintro s₃ rfl
    refine comp_loop
      (fun k s' => ∃ h' tk i ys m' news', s' = { s₂ with heap := h', toks := tk } ∧ i ≤ its.size ∧ k = its.size + 1 - i ∧ h'.IsListIter I ax i ∧ h'.IsList ax its ∧ Fr h₀ L h' m ∧ h'.Ns C m' ∧ News h₀ L h' ((D, cl0 ys) :: news') ∧
        (∀ p ∈ news', p.1 ≠ I ∧ p.1 ≠ C ∧ p.1 ≠ D) ∧ G i ys news') ?_ (its.size + 1)
      ⟨h₁, _, 0, [], _, news, rfl, Nat.zero_le _, rfl, hit.at fun o e => old _ o e, hl.at fun o e => old _ o e, F.keeps old, hns₁, fun p hp => ?_, off₀, hG⟩
    · rintro k s' ⟨h', tk, i, ys, m', news', rfl, hi, rfl, hit', hl', F', hn', N', off', hG'⟩
      by_cases hlt : i < its.size
      · refine W.item i _ _ _ hlt ⟨hit', hl'⟩ fun v h₂ tk₂ hPv hst₂ hk₂ => ?_
        have N₂ : News h₀ L h₂ ((D, cl0 ys) :: news') := news_but N' hk₂ fun p hp => by
          rcases List.mem_cons.mp hp with rfl | hp
          · exact Ne.symm hID
          · exact (off' p hp).1
        have F₂ := fr_but F' hk₂ hIL hI₀
        refine hasg i v ys news' h₂ _ C m' _ _ hPv hG' F₂ (fun p hp => N₂ p (.tail _ hp)) (hn'.at' fun o e => hk₂ _ o (by simpa using Ne.symm hIC) e) ⟨_, _, hst₂.1⟩ fun h₃ tk₃ m₂ hn₃ hB hk₃ => ?_
        have hit₃ : h₃.IsListIter I ax (i + 1) := hst₂.1.at fun o e => hk₃ _ o hIC e
        have hl₃ : h₃.IsList ax its := hst₂.2.at fun o e => hk₃ _ o haC e
        obtain ⟨oI, heI, hIr⟩ := id hit₃
        obtain ⟨oC, heC, hoC⟩ := ns_obj hn₃
        have F₃ : Fr h₀ L h₃ m := ⟨F₂.ns.at' fun o e => hk₃ _ o (Ne.symm hCL) e, fun b o e => hk₃ b o (fun q => by rw [q, hC₀] at e; cases e) (F₂.keep b o e), F₂.above⟩
        have N₃ : News h₀ L h₃ ((I, oI) :: (C, oC) :: (D, cl0 ys) :: news') := fun p hp => by
          rcases List.mem_cons.mp hp with rfl | hp
          · exact ⟨heI, Ne.symm hIL, hI₀⟩
          · rcases List.mem_cons.mp hp with rfl | hp
            · exact ⟨heC, hCL, hC₀⟩
            · have z := N₂ p hp
              refine ⟨hk₃ _ _ ?_ z.1, z.2⟩
              rcases List.mem_cons.mp hp with rfl | hp
              · exact hDC
              · exact (off' p hp).2.1
        have fin : ∀ (h₄ : Heap) (news₄ : List (Addr × Obj)) (oD : Obj), Fr h₀ L h₄ m → News h₀ L h₄ ((I, oI) :: (C, oC) :: (D, oD) :: news₄) → SrcAt h₀ ax its news₄ →
            h₄.IsListIter I ax (i + 1) ∧ h₄.IsList ax its ∧ h₄.Ns C m₂ := fun h₄ news₄ oD F₄ N₄ S₄ =>
          ⟨⟨oI, (N₄ _ (.head _)).1, hIr⟩, S₄.list F₄.keep fun p hp => N₄ p (.tail _ (.tail _ (.tail _ hp))), hoC.ns (N₄ _ (.tail _ (.head _))).1⟩
        refine wpAny_mono (turn i v ys news' oI C oC D m₂ h₃ _ _ hPv hG' hoC hB F₃ N₃ off' ⟨hIC, hID, Ne.symm hDC⟩) (fun ok s₄ h₄ => ?_) fun _ _ e => e
        cases ok with
        | false =>
          simp only [Bool.false_eq_true, if_false] at h₄ ⊢
          obtain ⟨h₄, tk₄, news₄, rfl, F₄, N₄, off₄, G₄⟩ := h₄
          obtain ⟨a1, a2, a3⟩ := fin h₄ news₄ _ F₄ N₄ (hsrc _ _ _ G₄)
          exact ⟨its.size + 1 - (i + 1), by omega, h₄, tk₄, i + 1, ys, m₂, news₄, rfl, hlt, rfl, a1, a2, F₄, a3, fun p hp => N₄ p (.tail _ (.tail _ hp)), off₄, G₄⟩
        | true =>
          simp only [if_true] at h₄ ⊢
          refine wpAny_mono h₄ (fun y s₅ h₅ => ?_) fun _ _ e => e
          obtain ⟨h₄, tk₄, news₄, rfl, F₄, N₄, off₄, G₄⟩ := h₅
          obtain ⟨a1, a2, a3⟩ := fin h₄ news₄ _ F₄ N₄ (hsrc _ _ _ G₄)
          have zD := (N₄ (D, cl0 ys) (.tail _ (.tail _ (.head _)))).1
          have hyl := hGl _ _ _ hG'
          refine append_at (hsz := by show ys.toArray.size ≤ sizeLine; rw [List.size_toArray]; omega) zD fun h₅ hs₅ hD₅ => ?_
          refine ⟨its.size + 1 - (i + 1), by omega, h₅, tk₄, i + 1, ys ++ [y], m₂, news₄, rfl, hlt, rfl, a1.at fun o e => hs₅.extBut _ o hID e, a2.at fun o e => hs₅.extBut _ o haD e, F₄.change hs₅ hDL hD₀,
            a3.sameBut hs₅ (Ne.symm hDC), fun p hp => ?_, off₄, G₄⟩
          rcases List.mem_cons.mp hp with rfl | hp
          · exact ⟨hD₅.trans (congrArg some (lst_snoc ys y)), hDL, hD₀⟩
          · have z := N₄ p (.tail _ (.tail _ (.tail _ hp)))
            exact ⟨hs₅.extBut _ _ (off₄ p hp).2.2 z.1, z.2⟩
      · obtain rfl : i = its.size := Nat.le_antisymm hi (Nat.not_lt.mp hlt)
        refine W.done _ _ _ ⟨hit', hl'⟩ fun h₂ tk₂ hk₂ => ?_
        exact hRR _ _ h₂ tk₂ _ ys news' (fr_but F' hk₂ hIL hI₀) (news_but N' hk₂ fun p hp => by
          rcases List.mem_cons.mp hp with rfl | hp
          · exact Ne.symm hID
          · exact (off' p hp).1) (fun p hp => (off' p hp).2.2) (hn'.at' fun o e => hk₂ _ o (by simpa using Ne.symm hIC) e) hC₀ hD₀ hCL hDL (Ne.symm hDC) (fun p hp => (off' p hp).2.1) hG'
    · rcases List.mem_cons.mp hp with rfl | hp
      · exact ⟨hacc, hDL, hD₀⟩
      · exact ⟨old _ _ (N p hp).1, (N p hp).2⟩
  exact codeAny_compStart_list (loop _ rfl) (W.self 0 _ _ _ ⟨hit.at fun o e => old _ o e, hl.at fun o e => old _ o e⟩ (loop _ rfl))

abbrev CAsg (prog : Program) (w : World) (A : Around) (h₀ : Heap) (L : Addr) (m : Str → Option Value) (env : Env) (target : PySem.Expr) (scope : Scope) (cl : List (Str × Addr)) (its : Array Value) (Bnd : Nat → Value → (Str → Option Value) → Prop) (G : Nat → List Value → List (Addr × Obj) → Prop) (s₁ : Shared) : Prop :=
  ∀ I i v ys nw h tk C m' (Q : Unit → Shared → Prop) (E' : Value → Shared → Prop), its[i]? = some v → G i ys nw → Fr h₀ L h m → News h₀ L h nw → h.Ns C m' → (∃ l j, h.IsListIter I l j) →
      (∀ h' tk' m'', h'.Ns C m'' → Bnd i v m'' → (∀ b o, b ≠ C → h.get? b = some o → h'.get? b = some o) → Q () { s₁ with heap := h', toks := tk' }) →
      wpAny (model prog w) A (letOwnedTupleGo target (.ref I) v) (fun _ s' => wpAny (model prog w) A (assign target (compEnvC scope cl C env) v) Q E' s') E' { s₁ with heap := h, toks := tk }
abbrev CTurn (prog : Program) (w : World) (A : Around) (h₀ : Heap) (L : Addr) (m : Str → Option Value) (env : Env) (elt : PySem.Expr) (ifs : List PySem.Expr) (scope : Scope) (cl : List (Str × Addr)) (its : Array Value) (Bnd : Nat → Value → (Str → Option Value) → Prop) (G : Nat → List Value → List (Addr × Obj) → Prop) (s₁ : Shared) : Prop :=
  ∀ i v ys nw I oI C oC D m₂ h tk (E' : Value → Shared → Prop), its[i]? = some v → G i ys nw → NsObj oC m₂ → Bnd i v m₂ → Fr h₀ L h m → News h₀ L h ((I, oI) :: (C, oC) :: (D, cl0 ys) :: nw) → (∀ p ∈ nw, p.1 ≠ I ∧ p.1 ≠ C ∧ p.1 ≠ D) → ((@Ne Nat I C) ∧ (@Ne Nat I D) ∧ (@Ne Nat C D)) →
      wpAny (model prog w) A (tests ifs (compEnvC scope cl C env)) (fun ok s₃ => if ok = true then wpAny (model prog w) A (eval elt (compEnvC scope cl C env)) (fun y s₄ => CEnd h₀ L m { s₁ with heap := h, toks := tk } I oI C oC D (cl0 ys) (G (i + 1) (ys ++ [y])) s₄) E' s₃
        else CEnd h₀ L m { s₁ with heap := h, toks := tk } I oI C oC D (cl0 ys) (G (i + 1) ys) s₃) E' { s₁ with heap := h, toks := tk }

def CSrc (prog : Program) (w : World) (A : Around) (h₀ : Heap) (L : Addr) (m : Str → Option Value) (env : Env) (target elt : PySem.Expr) (ifs : List PySem.Expr) (scope : Scope) (cl : List (Str × Addr)) (Fin : Addr → List Value → List (Addr × Obj) → Shared → Prop) (xv : Value) (s₁ : Shared) : Prop :=
  ∃ ax its news Bnd G, xv = .ref ax ∧ A.handled = none ∧ Fr h₀ L s₁.heap m ∧ News h₀ L s₁.heap news ∧ its.size ≤ sizeLine ∧ (∀ i ys nw, G i ys nw → SrcAt h₀ ax its nw) ∧ (∀ i ys nw, G i ys nw → ys.length ≤ i) ∧ G 0 [] news ∧
    CAsg prog w A h₀ L m env target scope cl its Bnd G s₁ ∧ CTurn prog w A h₀ L m env elt ifs scope cl its Bnd G s₁ ∧
    ∀ D ys nw (s₂ : Shared), G its.size ys nw → (∃ h tk, s₂ = { s₁ with heap := h, toks := tk }) → News h₀ L s₂.heap ((D, cl0 ys) :: nw) → (∀ p ∈ nw, p.1 ≠ D) → Fin D ys nw s₂

theorem list_comp {elt target iter : PySem.Expr} {ifs : List PySem.Expr} {scope : Scope} {cl : List (Str × Addr)} {pos : Pos} {Q : Value → Shared → Prop}
    (_F₀ : Fr h₀ L s.heap m) (hclos : closureFor scope env = pure cl) (hcell : ∀ y ∈ scope.names, y.2 ≠ .cell) (hkind : scope.kind = .function)
    (hnames : ∀ y ∈ scope.names, y.2 = .local → scope.names.lookup y.1 = some .local)
    (h : wpAny (model prog w) A (eval iter env) (CSrc prog w A h₀ L m env target elt ifs scope cl (fun D _ _ s₂ => Fr h₀ L s₂.heap m → Q (.ref D) s₂)) E s)
    (hs : ∀ x, foldedSetIterable iter env x = pure x := by intro _; rfl) :
    wpAny (model prog w) A (eval (.ListComp elt [⟨target, iter, ifs, 0⟩] scope pos) env) Q E s := by
  rw [eval_ListComp]
  refine wpAny_comprehension_free (use := none) rfl hs hclos hkind hnames (wpAny_mono h (fun xv s₁ h₁ => ?_) fun _ _ e => e)
  obtain ⟨ax, its, news, Bnd, G, rfl, hh, F, N, hsz, hsrc, hGl, hG, hasg, turn, fin⟩ := h₁
  have hl := (hsrc _ _ _ hG).list F.keep N
  obtain ⟨ol, hol, _⟩ := id hl
  have hlt : ax < s₁.heap.objs.size := Heap.lt_size hol
  refine wpAny_pyIter_list hl ?_
  have up : ∀ b o, s₁.heap.get? b = some o → (s₁.heap.push { cls := .type "list_iterator", data := .fields #[.ref ax, .int 0 0] }).get? b = some o := fun b o e => Heap.get?_push_of_some _ e
  refine comp_block Bnd G hh (Nat.ne_of_lt hlt) hsz hcell hkind ⟨_, Heap.get?_push_size _ rfl, rfl, rfl⟩ (hl.push _) hsrc hGl (F.keeps up) (N.grown up) (Nat.ne_of_lt F.ns.lt) (next_is_new F) (fun p hp => Nat.ne_of_lt (Heap.lt_size (N p hp).1)) hG
    (fun i v ys nw h tk C m' Q E' => hasg _ i v ys nw h tk C m' Q E') (fun i v ys nw oI C oC D m₂ h tk E' => turn i v ys nw _ oI C oC D m₂ h tk E') ?_
  intro D C h tk m' ys news' F' N' o1 hn hC₀ hD₀ hCL hDL hCD offC hG'
  refine ⟨m', hn, fun h'' hs'' => fin D ys news' _ hG' ⟨h'', tk, rfl⟩ (fun p hp => ?_) o1 (F'.change hs'' hCL hC₀)⟩
  refine ⟨hs''.extBut _ _ ?_ (N' p hp).1, (N' p hp).2⟩
  rcases List.mem_cons.mp hp with rfl | hp
  · exact Ne.symm hCD
  · exact offC p hp

theorem assign_comp {elt target iter : PySem.Expr} {ifs : List PySem.Expr} {y : Str} {py : Pos} {scope : Scope} {cl : List (Str × Addr)} {pos spos : Pos} {Q : Flow → Shared → Prop} (_F₀ : Fr h₀ L s.heap m) (hLe : env.locals = L)
    (hsw : swapsWith (.ListComp elt [⟨target, iter, ifs, 0⟩] scope pos) (some (.Name y py)) spos.line env = pure true)
    (hclos : closureFor scope env = pure cl) (hcell : ∀ z ∈ scope.names, z.2 ≠ .cell) (hkind : scope.kind = .function)
    (hnames : ∀ z ∈ scope.names, z.2 = .local → scope.names.lookup z.1 = some .local)
    (hy : env.kindOf y = some .local) (hp : (env.scope.kind == .class || (env.scope.kind == .module && env.locals != env.globals)) = false)
    (h : wpAny (model prog w) A (eval iter env) (CSrc prog w A h₀ L m env target elt ifs scope cl (fun D _ _ s₂ => Fr h₀ L s₂.heap (fun z => if z = y then some (.ref D) else m z) → Q .next s₂)) E s)
    (hs : ∀ x, foldedSetIterable iter env x = pure x := by intro _; rfl) :
    wpAny (model prog w) A (exec (.Assign [.Name y py] (.ListComp elt [⟨target, iter, ifs, 0⟩] scope pos) spos) env) Q E s := by
  subst hLe
  rw [exec_Assign_Name_used _ _ _ _ hsw]
  refine wpAny_bind (wpAny_standAt (wpAny_bind ?_))
  show wpAny _ A (do let _ ← comprehension (.ListComp elt [⟨target, iter, ifs, 0⟩] scope pos) scope env _ (newList []) false (eval iter env) (some (assign (.Name y py) env))) _ _ s
  refine wpAny_bind (wpAny_mono (wpAny_comprehension_free (use := some (assign (.Name y py) env)) (Q := fun _ s' => Q .next s') rfl hs hclos hkind hnames
    (wpAny_mono h (fun xv s₁ h₁ => ?_) fun _ _ e => e)) (fun _ s' hq => wpAny_pure (wpAny_pure hq)) fun _ _ e => e)
  obtain ⟨ax, its, news, Bnd, G, rfl, hh, F, N, hsz, hsrc, hGl, hG, hasg, turn, fin⟩ := h₁
  have hl := (hsrc _ _ _ hG).list F.keep N
  obtain ⟨ol, hol, _⟩ := id hl
  have hlt : ax < s₁.heap.objs.size := Heap.lt_size hol
  refine wpAny_pyIter_list hl ?_
  have up : ∀ b o, s₁.heap.get? b = some o → (s₁.heap.push { cls := .type "list_iterator", data := .fields #[.ref ax, .int 0 0] }).get? b = some o := fun b o e => Heap.get?_push_of_some _ e
  refine comp_block Bnd G hh (Nat.ne_of_lt hlt) hsz hcell hkind ⟨_, Heap.get?_push_size _ rfl, rfl, rfl⟩ (hl.push _) hsrc hGl (F.keeps up) (N.grown up) (Nat.ne_of_lt F.ns.lt) (next_is_new F) (fun p hp => Nat.ne_of_lt (Heap.lt_size (N p hp).1)) hG
    (fun i v ys nw h tk C m' Q E' => hasg _ i v ys nw h tk C m' Q E') (fun i v ys nw oI C oC D m₂ h tk E' => turn i v ys nw _ oI C oC D m₂ h tk E') ?_
  intro D C h' tk m' ys news' F' N' o1 hn hC₀ hD₀ hCL hDL hCD offC hG'
  show wpAny _ A (assign (.Name y py) env (.ref D)) _ _ _
  refine wpAny_assign_Name (wpAny_storeName_local hy F'.ns (fun h₂ hn₂ hs₂ => ?_) hp)
  have hL₀ : h₀.get? env.locals = none := Heap.get?_none_of_le F'.above
  have F₂ : Fr h₀ env.locals h₂ (fun z => if z = y then some (.ref D) else m z) := ⟨hn₂, fun b o e => hs₂.extBut b o (fun q => by rw [q, hL₀] at e; cases e) (F'.keep b o e), F'.above⟩
  refine ⟨m', hn.sameBut hs₂ hCL, fun h'' hs'' => fin D ys news' _ hG' ⟨h'', _, rfl⟩ (fun p hp => ?_) o1 (F₂.change hs'' hCL hC₀)⟩
  have z : h₂.get? p.1 = some p.2 := hs₂.extBut _ _ (N' p hp).2.1 (N' p hp).1
  refine ⟨hs''.extBut _ _ ?_ z, (N' p hp).2⟩
  rcases List.mem_cons.mp hp with rfl | hp
  · exact Ne.symm hCD
  · exact offC p hp

theorem casg_name {x : Str} {px : Pos} {scope : Scope} {cl : List (Str × Addr)} {its : Array Value} {G : Nat → List Value → List (Addr × Obj) → Prop} {s₁ : Shared} (hkind : scope.kind = .function) (hx : scope.names.lookup x = some .local) :
    CAsg prog w A h₀ L m env (.Name x px) scope cl its (fun _ v m'' => m'' x = some v) G s₁ := by
  intro I i v ys nw h tk C m' Q E' _ _ _ _ hn _ k
  refine wpAny_of_eq (a := ()) rfl ?_
  refine wpAny_assign_Name (wpAny_storeName_local (lookup_relabel_local hx) hn (fun h₃ hn₃ hs₃ => ?_) (by simp [compEnvC, relabel, hkind]))
  exact k h₃ _ _ hn₃ (by simp) fun b o hb e => hs₃.extBut b o hb e

theorem casg_pair {x x₂ : Str} {px px₂ tp : Pos} {kk : Nat} {scope : Scope} {cl : List (Str × Addr)} {its : Array Value} {G : Nat → List Value → List (Addr × Obj) → Prop} {s₁ : Shared} (PV : Nat → Value → Value → Prop) (hh : A.handled = none) (hkind : scope.kind = .function)
    (hx : scope.names.lookup x = some .local) (hx₂ : scope.names.lookup x₂ = some .local) (hxx : x ≠ x₂)
    (hpair : ∀ i v ys nw h, its[i]? = some v → G i ys nw → Fr h₀ L h m → News h₀ L h nw → ∃ t v₁ v₂, v = .ref t ∧ IsTup h t #[v₁, v₂] ∧ PV i v₁ v₂) :
    CAsg prog w A h₀ L m env (.Tuple [.Name x px, .Name x₂ px₂] kk tp) scope cl its (fun i _ m'' => ∃ v₁ v₂, PV i v₁ v₂ ∧ m'' x = some v₁ ∧ m'' x₂ = some v₂) G s₁ := by
  intro I i v ys nw h tk C m' Q E' hv hG F N hn hI k
  obtain ⟨t, v₁, v₂, rfl, ht, hPV⟩ := hpair i v ys nw h hv hG F N
  obtain ⟨lI, jI, hLi⟩ := hI
  refine wpAny_letOwnedTupleGo_listiter hLi ?_
  refine assign_Tuple_tuple hh ht rfl rfl fun h₅ he => ?_
  have he' : ∀ b o, h.get? b = some o → h₅.get? b = some o := fun b o e => he b o (Nat.ne_of_lt (Heap.lt_size e)) e
  refine assignInOrder_cons (wpAny_assign_Name (wpAny_storeName_local (lookup_relabel_local hx) (hn.at' fun o e => he' _ o e) (fun h₆ hn₆ hs₆ => ?_) (by simp [compEnvC, relabel, hkind])))
  refine assignInOrder_cons (wpAny_assign_Name (wpAny_storeName_local (lookup_relabel_local hx₂) hn₆ (fun h₃ hn₃ hs₃ => ?_) (by simp [compEnvC, relabel, hkind])))
  refine assignInOrder_nil ?_
  exact k h₃ _ _ hn₃ ⟨v₁, v₂, hPV, by simp [hxx], by simp⟩ fun b o hb e => hs₃.extBut b o hb (hs₆.extBut b o hb (he' b o e))
end

end Mine

namespace Mine

local macro_rules | `(tactic| k_room) => `(tactic| ((try simp only [depth_under_make, depth_under_kw, depth_in1, depth_deeper, depth_caller]); (try dsimp only [AA] at *); omega))
local macro_rules | `(tactic| k_inst) => `(tactic| (refine' instKeep ?a ?b; (case a => assumption); (case b => exact Fr.keep (by assumption))))

theorem stays_but {g h : Heap} {a : Addr} (k : ∀ b o, b ≠ a → g.get? b = some o → h.get? b = some o) {l : Addr} {vs : Array Value} (hl : g.IsList l vs) (hne : l ≠ a) : h.IsList l vs := hl.at fun o e => k l o hne e
set_option maxHeartbeats 4000000 in
theorem one_spec {w : World} {mean : ExcName → Option Value} {mg mb : Str → Option Value} {base : Heap} {l : List Env} {dp un : Nat} {gd : Option (List Code)} {s : Shared} {Q E : Value → Shared → Prop}
    {src lt : Addr} {x y : Int} {tx ty : Tok} {n : Nat} {vs : List Value}
    (C : Cx w mean mg mb (AA dp un gd l) base l s.heap) (hd : dp + 12 < recursionLimit) (hu : un + 120 < cLine)
    (hs : s.heap.get? src = some (lst [.int x tx, .int y ty] n)) (hb : base.get? src = none) (hl : ∀ env ∈ l, env.frame ≠ some src)
    (hv : s.heap.IsList lt vs.toArray) (hne : lt ≠ src) (h0 : 0 < vs.length) (h1 : vs.length < 1000)
    (ret : ∀ h' tk v (k : Nat) x' y' tx' ty' n', vs[k]? = some v → (∀ b o, b ≠ src → s.heap.get? b = some o → h'.get? b = some o) → h'.get? src = some (lst [.int x' tx', .int y' ty'] n') → Q v { s with heap := h', toks := tk }) :
    wpAny (model prg w) (AA dp un gd l) (call (.ref 121) [.ref src, .ref lt]) Q E s := by
  refine wpAny_call ?_
  k_dflt (refine' enter (binds := [("source", .ref src), ("things", .ref lt)]) C [(src, lst [.int x tx, .int y ty] n)] ?km ?k6 ?k7 ?k8 ?k9 ?kB ?_ ?c2 ?c3 ?c4 ?c5; (case k6 => k_is); (case k7 => k_is); (case k8 => k_room); (case k9 => exact BindsTo.of_eq rfl); (case c5 => decide); (case kB => exact locs rfl); (case c2 => exact rfl); (case c3 => exact rfl); (case c4 => exact rfl); (case km => exact List.forall_mem_cons.mpr ⟨⟨hs, hb, hl⟩, fun _ h => nomatch h⟩); k_whole)
  intro g L' h₁ B' X' T' kg ks F' N'
  have st : ∀ b o, b ≠ src → s.heap.get? b = some o → g.get? b = some o := fun b o hb e => kg b o (by simpa using hb) e
  replace hv := stays_but st hv hne
  (try dsimp only)
  (try k_fold)
  (repeat' (first | (k_unfold; (try dsimp only)) | ((fail_if_success (with_reducible show wpAny _ _ (exec (PySem.Stmt.For _ _ _ _ _) _) _ _ _)); (fail_if_success (with_reducible show wpAny _ _ (exec (PySem.Stmt.While _ _ _ _) _) _ _ _)); (fail_if_success (with_reducible show wpAny _ _ (pyIter _) _ _ _)); (fail_if_success (with_reducible show wpAny _ _ (eval (PySem.Expr.ListComp _ _ _ _) _) _ _ _)); (fail_if_success (with_reducible show wpAny _ _ (exec (PySem.Stmt.Assign _ (PySem.Expr.ListComp _ _ _ _) _) _) _ _ _)); (fail_if_success (with_reducible show wpAny _ _ (eval (PySem.Expr.Subscript _ (PySem.Expr.Slice _ _ _ _) _) _) _ _ _)); (fail_if_success (with_reducible show wpAny _ _ (call (Value.ref _) _) _ _ _)); first | walk1 | (dsimp only; walk1) | (leave1; walk_say "STEP leave1"; try dsimp only)) | fail "no step"))
  refine PyProof.Rows.len_list (isList_keeps hv F'.keep) (by simp only [List.size_toArray]; omega) ?_
  (try dsimp only)
  (repeat' (first | (k_unfold; (try dsimp only)) | ((fail_if_success (with_reducible show wpAny _ _ (exec (PySem.Stmt.For _ _ _ _ _) _) _ _ _)); (fail_if_success (with_reducible show wpAny _ _ (exec (PySem.Stmt.While _ _ _ _) _) _ _ _)); (fail_if_success (with_reducible show wpAny _ _ (pyIter _) _ _ _)); (fail_if_success (with_reducible show wpAny _ _ (eval (PySem.Expr.ListComp _ _ _ _) _) _ _ _)); (fail_if_success (with_reducible show wpAny _ _ (exec (PySem.Stmt.Assign _ (PySem.Expr.ListComp _ _ _ _) _) _) _ _ _)); (fail_if_success (with_reducible show wpAny _ _ (eval (PySem.Expr.Subscript _ (PySem.Expr.Slice _ _ _ _) _) _) _ _ _)); (fail_if_success (with_reducible show wpAny _ _ (call (Value.ref _) _) _ _ _)); first | walk1 | (dsimp only; walk1) | (leave1; walk_say "STEP leave1"; try dsimp only)) | fail "no step"))
  rename Fr _ _ _ _ => F₂
  rename News _ _ _ _ => N₂
  k_dflt (refine take_spec (dp := dp + 1) (un := un + 3) (l := _ :: l) (Cx.inner B' C.X C.T F₂ rfl rfl) (by omega) (by omega) (N₂.get (.head _)) hb (List.forall_mem_cons.mpr ⟨fun q => (N₂ _ (.head _)).2.1 (Option.some.inj q).symm, hl⟩) (by simp only [List.size_toArray]; omega) (by simp only [List.size_toArray]; omega) ?_)
  intro h' tk r tr x' y' tx' ty' n' hr0 hr1 hk hs'
  simp only [List.size_toArray] at hr1
  have hsg : g.get? src = none := (N₂ _ (.head _)).2.2
  have F₃ : Fr g L' h' _ := ⟨F₂.ns.at' fun o e => hk _ o (Ne.symm (N₂ _ (.head _)).2.1) e, fun b o e => hk b o (ne_of_fresh e hsg) (F₂.keep b o e), F₂.above⟩
  have N₃ : News g L' h' [(src, lst [.int x' tx', .int y' ty'] n')] := List.forall_mem_cons.mpr ⟨⟨hs', (N₂ _ (.head _)).2⟩, fun _ h => nomatch h⟩
  clear F₂ N₂
  (try dsimp only)
  have hrn : r.toNat < vs.length := by omega
  have hv' := isList_keeps hv F₃.keep
  k_dflt (refine tail_any hv'.typeIs slot_list_getitem.lookup (wpAny_getItem_list hv' hr0 (by omega) (x := vs[r.toNat]) (by simp [hrn]) ?_) (by with_unfolding_all rfl))
  (try dsimp only)
  (repeat' (first | (k_unfold; (try dsimp only)) | ((fail_if_success (with_reducible show wpAny _ _ (exec (PySem.Stmt.For _ _ _ _ _) _) _ _ _)); (fail_if_success (with_reducible show wpAny _ _ (exec (PySem.Stmt.While _ _ _ _) _) _ _ _)); (fail_if_success (with_reducible show wpAny _ _ (pyIter _) _ _ _)); (fail_if_success (with_reducible show wpAny _ _ (eval (PySem.Expr.ListComp _ _ _ _) _) _ _ _)); (fail_if_success (with_reducible show wpAny _ _ (exec (PySem.Stmt.Assign _ (PySem.Expr.ListComp _ _ _ _) _) _) _ _ _)); (fail_if_success (with_reducible show wpAny _ _ (eval (PySem.Expr.Subscript _ (PySem.Expr.Slice _ _ _ _) _) _) _ _ _)); (fail_if_success (with_reducible show wpAny _ _ (call (Value.ref _) _) _ _ _)); first | walk1 | (dsimp only; walk1) | (leave1; walk_say "STEP leave1"; try dsimp only)) | fail "no step"))
  show Q _ _
  exact ret _ _ _ r.toNat _ _ _ _ _ (List.getElem?_eq_getElem hrn) (fun b o hb e => F₃.keep _ _ (st b o hb e)) (N₃.get (.head _))

end Mine

namespace Mine

local macro_rules | `(tactic| k_room) => `(tactic| ((try simp only [depth_under_make, depth_under_kw, depth_in1, depth_deeper, depth_caller]); (try dsimp only [AA] at *); omega))
local macro_rules | `(tactic| k_inst) => `(tactic| (refine' instKeep ?a ?b; (case a => assumption); (case b => exact Fr.keep (by assumption))))

set_option maxHeartbeats 4000000 in
theorem pool_spec {w : World} {mean : ExcName → Option Value} {mg mb : Str → Option Value} {base : Heap} {l : List Env} {dp un : Nat} {gd : Option (List Code)} {s : Shared} {Q E : Value → Shared → Prop}
    {sc : Addr} {vs : List Value} {ns : List Int}
    (C : Cx w mean mg mb (AA dp un gd l) base l s.heap) (hd : dp + 6 < recursionLimit) (hu : un + 60 < cLine)
    (hv : s.heap.IsList sc vs.toArray) (hi : IntsAre vs ns) (hn : ns.length ≤ 63)
    (ret : ∀ h' tk p x y tx ty, s.heap.StaysIn h' → s.heap.get? p = none → h'.get? p = some (lst [.int x tx, .int y ty] 0) → Q (.ref p) { s with heap := h', toks := tk }) :
    wpAny (model prg w) (AA dp un gd l) (call (.ref 107) [.ref sc]) Q E s := by
  refine wpAny_call ?_
  k_dflt (refine' enter (binds := [("script", .ref sc)]) C [] ?km ?k6 ?k7 ?k8 ?k9 ?kB ?_ ?c2 ?c3 ?c4 ?c5; (case k6 => k_is); (case k7 => k_is); (case k8 => k_room); (case k9 => exact BindsTo.of_eq rfl); (case c5 => decide); (case kB => exact locs rfl); (case c2 => exact rfl); (case c3 => exact rfl); (case c4 => exact rfl); (case km => exact fun _ h => nomatch h); k_whole)
  intro g L' h₁ B' X' T' kg ks F' N'
  have st : s.heap.StaysIn g := fun b o e => kg b o (by simp) e
  replace hv := isList_keeps hv st
  (try dsimp only)
  (try k_fold)
  (repeat' (first | (k_unfold; (try dsimp only)) | ((fail_if_success (with_reducible show wpAny _ _ (exec (PySem.Stmt.For _ _ _ _ _) _) _ _ _)); (fail_if_success (with_reducible show wpAny _ _ (exec (PySem.Stmt.While _ _ _ _) _) _ _ _)); (fail_if_success (with_reducible show wpAny _ _ (pyIter _) _ _ _)); (fail_if_success (with_reducible show wpAny _ _ (eval (PySem.Expr.ListComp _ _ _ _) _) _ _ _)); (fail_if_success (with_reducible show wpAny _ _ (exec (PySem.Stmt.Assign _ (PySem.Expr.ListComp _ _ _ _) _) _) _ _ _)); (fail_if_success (with_reducible show wpAny _ _ (eval (PySem.Expr.Subscript _ (PySem.Expr.Slice _ _ _ _) _) _) _ _ _)); first | walk1 | (dsimp only; walk1) | (leave1; walk_say "STEP leave1"; try dsimp only)) | fail "no step"))
  all_goals exact ret _ _ _ _ _ _ _ (fun b o e => Fr.keep (by assumption) _ _ (st b o e)) (fresh_of_stays st (News.fresh (by assumption) (.head _))) (News.get (by assumption) (.head _))

end Mine

namespace Mine

local macro_rules | `(tactic| k_room) => `(tactic| ((try simp only [depth_under_make, depth_under_kw, depth_in1, depth_deeper, depth_caller]); (try dsimp only [AA] at *); omega))
local macro_rules | `(tactic| k_inst) => `(tactic| (refine' instKeep ?a ?b; (case a => assumption); (case b => exact Fr.keep (by assumption))))

set_option maxHeartbeats 4000000 in
theorem found_spec {w : World} {mean : ExcName → Option Value} {mg mb : Str → Option Value} {base : Heap} {l : List Env} {dp un : Nat} {gd : Option (List Code)} {s : Shared} {Q E : Value → Shared → Prop}
    {lr : Addr} {vs : List Value} {rows : List (Int × Int)} {tag : Int} {tt : Tok} {tl : List (Addr × Obj)}
    (C : Cx w mean mg mb (AA dp un gd l) base l s.heap) (hd : dp + 12 < recursionLimit) (hu : un + 120 < cLine)
    (hl : s.heap.IsList lr vs.toArray) (hT : ∀ p ∈ tl, s.heap.get? p.1 = some p.2 ∧ base.get? p.1 = none ∧ ∀ env ∈ l, env.frame ≠ some p.1) (hTc : ∀ p ∈ tl, p.2.cls = .type "tuple")
    (hR : RowsIn tl vs rows) (hn : rows.length ≤ 20)
    (ret : ∀ h' tk, s.heap.StaysIn h' → Q (.bool true) { s with heap := h', toks := tk }) :
    wpAny (model prg w) (AA dp un gd l) (call (.ref 136) [.ref lr, .int tag tt]) Q E s := by
  refine wpAny_call ?_
  k_dflt (refine' enterC (binds := [("rows", .ref lr), ("tag", .int tag tt)]) C tl ?km ?k6 ?k7 ?k8 ?k9 ?kB ?kD ?_ ?c2 ?c3 ?c4; (case k6 => k_is); (case k7 => k_is); (case k8 => k_room); (case k9 => exact BindsTo.of_eq rfl); (case kB => exact rfl); (case kD => decide +kernel); (case c2 => exact rfl); (case c3 => exact rfl); (case c4 => exact rfl); (case km => exact hT); k_whole)
  intro g L' h₁ tk₁ cells B' X' T' kg ks F' N' Y' l1
  (try k_lt l1)
  k_cells Y'
  rename Obj => oc
  rename _ = Data.cell _ => hoc
  (try simp only [List.cons_append, List.nil_append] at N')
  (try dsimp only)
  (try k_fold)
  (repeat' (first | (k_unfold; (try dsimp only)) | ((fail_if_success (with_reducible show wpAny _ _ (exec (PySem.Stmt.For _ _ _ _ _) _) _ _ _)); (fail_if_success (with_reducible show wpAny _ _ (exec (PySem.Stmt.While _ _ _ _) _) _ _ _)); (fail_if_success (with_reducible show wpAny _ _ (pyIter _) _ _ _)); (fail_if_success (with_reducible show wpAny _ _ (eval (PySem.Expr.ListComp _ _ _ _) _) _ _ _)); (fail_if_success (with_reducible show wpAny _ _ (exec (PySem.Stmt.Assign _ (PySem.Expr.ListComp _ _ _ _) _) _) _ _ _)); (fail_if_success (with_reducible show wpAny _ _ (eval (PySem.Expr.Subscript _ (PySem.Expr.Slice _ _ _ _) _) _) _ _ _)); first | walk1 | (dsimp only; walk1) | (leave1; walk_say "STEP leave1"; try dsimp only)) | fail "no step"))
  rename News _ _ _ _ => N₁
  rename Fr _ _ _ _ => F₁
  have hnr : ∀ p ∈ tl, lr ≠ p.1 := by
    intro p hp q
    obtain ⟨o, ho, hc, _⟩ := hl
    have := (hT p hp).1
    rw [← q, ho] at this
    have := hTc p hp
    rw [← Option.some.inj ‹some o = some p.2›, hc] at this
    exact absurd this (by decide)
  have hlg : g.IsList lr vs.toArray := by
    obtain ⟨o, ho, hr⟩ := hl
    refine ⟨o, kg _ _ (fun q => ?_) ho, hr⟩
    obtain ⟨p, hp, e⟩ := List.mem_map.mp q
    exact hnr p hp e.symm
  k_dflt (refine list_comp F₁ (by with_unfolding_all rfl) (by decide) rfl (by decide) ?_)
  (repeat' (first | (k_unfold; (try dsimp only)) | ((fail_if_success (with_reducible show wpAny _ _ (exec (PySem.Stmt.For _ _ _ _ _) _) _ _ _)); (fail_if_success (with_reducible show wpAny _ _ (exec (PySem.Stmt.While _ _ _ _) _) _ _ _)); (fail_if_success (with_reducible show wpAny _ _ (pyIter _) _ _ _)); (fail_if_success (with_reducible show wpAny _ _ (eval (PySem.Expr.ListComp _ _ _ _) _) _ _ _)); (fail_if_success (with_reducible show wpAny _ _ (exec (PySem.Stmt.Assign _ (PySem.Expr.ListComp _ _ _ _) _) _) _ _ _)); (fail_if_success (with_reducible show wpAny _ _ (eval (PySem.Expr.Subscript _ (PySem.Expr.Slice _ _ _ _) _) _) _ _ _)); first | walk1 | (dsimp only; walk1) | (leave1; walk_say "STEP leave1"; try dsimp only)) | fail "no step"))
  have hGlen : ∀ (i : Nat) (ys : List Value) (nw : List (Addr × Obj)), (∃ en, nw = en ++ ((L' + 1, oc) :: tl) ∧ EntriesIn w en ys (rows.take i)) → ys.length ≤ i := by
    rintro i ys nw ⟨en, _, hE⟩
    have := hE.len
    rw [List.length_take] at this
    omega
  refine ⟨lr, vs.toArray, _, _, fun i ys nw => ∃ en, nw = en ++ ((L' + 1, oc) :: tl) ∧ EntriesIn w en ys (rows.take i), rfl, rfl, F₁, N₁, ?_, fun _ _ _ _ => .inl hlg, hGlen, ⟨[], rfl, EntriesIn.nil⟩,
    casg_pair (fun i v1 v2 => ∃ (r : Int × Int) (t1 t2 : Tok), rows[i]? = some r ∧ v1 = .int r.1 t1 ∧ v2 = .int r.2 t2) rfl rfl rfl rfl (by decide) ?_, ?_, ?_⟩
  · rw [List.size_toArray, hR.len, sizeLine_eq]; omega
  · rintro i v ys nw h hv ⟨en, rfl, _⟩ F N
    have hv' : vs[i]? = some v := by simpa using hv
    have hi : i < rows.length := hR.len ▸ (List.getElem?_eq_some_iff.mp hv').1
    obtain ⟨a, t1, t2, n, e1, e2⟩ := hR.at_ i rows[i] (List.getElem?_eq_getElem hi)
    rw [e1] at hv'
    exact ⟨a, _, _, (Option.some.inj hv').symm, ⟨_, N.get (List.mem_append_right _ (.tail _ e2)), rfl, n, rfl⟩, rows[i], t1, t2, List.getElem?_eq_getElem hi, rfl, rfl⟩
  · rintro i v ys nw I oI C₁ oC D m₂ h tk E' hv ⟨en, rfl, hE⟩ hC ⟨v1, v2, ⟨r, t1, t2, hr, rfl, rfl⟩, hm1, hm2⟩ F N off ne
    refine wpAny_tests_nil ?_
    simp only [if_true]
    (try k_fold)
    (repeat' (first | (k_unfold; (try dsimp only)) | ((fail_if_success (with_reducible show wpAny _ _ (exec (PySem.Stmt.For _ _ _ _ _) _) _ _ _)); (fail_if_success (with_reducible show wpAny _ _ (exec (PySem.Stmt.While _ _ _ _) _) _ _ _)); (fail_if_success (with_reducible show wpAny _ _ (pyIter _) _ _ _)); (fail_if_success (with_reducible show wpAny _ _ (eval (PySem.Expr.ListComp _ _ _ _) _) _ _ _)); (fail_if_success (with_reducible show wpAny _ _ (exec (PySem.Stmt.Assign _ (PySem.Expr.ListComp _ _ _ _) _) _) _ _ _)); (fail_if_success (with_reducible show wpAny _ _ (eval (PySem.Expr.Subscript _ (PySem.Expr.Slice _ _ _ _) _) _) _ _ _)); (fail_if_success (with_reducible show wpAny _ _ (call (Value.ref _) _) _ _ _)); first | walk1 | (dsimp only; walk1) | (leave1; walk_say "STEP leave1"; try dsimp only)) | fail "no step"))
    rename Fr _ _ _ _ => F₅
    rename News _ _ _ _ => N₅
    rename _ < _ ∧ _ => l5
    k_dflt (refine entry_spec (dp := dp + 1) (un := un + 3) (l := _ :: l) (Cx.inner B' C.X C.T F₅ rfl rfl) (by omega) (by omega) ?_)
    intro h' tk' x dx ta tb tc k nx ndx hxd e1 e2
    (repeat' (first | (k_unfold; (try dsimp only)) | ((fail_if_success (with_reducible show wpAny _ _ (exec (PySem.Stmt.For _ _ _ _ _) _) _ _ _)); (fail_if_success (with_reducible show wpAny _ _ (exec (PySem.Stmt.While _ _ _ _) _) _ _ _)); (fail_if_success (with_reducible show wpAny _ _ (pyIter _) _ _ _)); (fail_if_success (with_reducible show wpAny _ _ (eval (PySem.Expr.ListComp _ _ _ _) _) _ _ _)); (fail_if_success (with_reducible show wpAny _ _ (exec (PySem.Stmt.Assign _ (PySem.Expr.ListComp _ _ _ _) _) _) _ _ _)); (fail_if_success (with_reducible show wpAny _ _ (eval (PySem.Expr.Subscript _ (PySem.Expr.Slice _ _ _ _) _) _) _ _ _)); first | walk1 | (dsimp only; walk1) | (leave1; walk_say "STEP leave1"; try dsimp only)) | fail "no step"))
    refine ⟨h', tk', _, rfl, F₅.keeps k, news_mv (news_new F₅ (news_new F₅ (N₅.grown k) e2 ndx) e1 nx), ?_, ⟨_ :: _ :: _ :: en, rfl, take_snoc hr ▸ EntriesIn.snoc hE⟩⟩
    refine List.forall_mem_cons.mpr ⟨⟨Ne.symm (ne_of_fresh (N₅.get (.tail _ (.head _))) nx), Ne.symm (ne_of_fresh (N₅.get (.tail _ (.tail _ (.head _)))) nx), Ne.symm (ne_of_fresh (N₅.get (.tail _ (.tail _ (.tail _ (.head _))))) nx)⟩, ?_⟩
    refine List.forall_mem_cons.mpr ⟨⟨Ne.symm (ne_of_fresh (N₅.get (.tail _ (.head _))) ndx), Ne.symm (ne_of_fresh (N₅.get (.tail _ (.tail _ (.head _)))) ndx), Ne.symm (ne_of_fresh (N₅.get (.tail _ (.tail _ (.tail _ (.head _))))) ndx)⟩, ?_⟩
    exact List.forall_mem_cons.mpr ⟨⟨Nat.ne_of_gt l5.1, Nat.ne_of_gt l5.2.1, Nat.ne_of_gt l5.2.2.1⟩, off⟩
  · rintro D ys nw s₂ ⟨en, rfl, hE⟩ ⟨h, tk, rfl⟩ N off F
    (try dsimp only at N F ⊢)
    (try k_fold)
    (repeat' (first | (k_unfold; (try dsimp only)) | ((fail_if_success (with_reducible show wpAny _ _ (exec (PySem.Stmt.For _ _ _ _ _) _) _ _ _)); (fail_if_success (with_reducible show wpAny _ _ (exec (PySem.Stmt.While _ _ _ _) _) _ _ _)); (fail_if_success (with_reducible show wpAny _ _ (pyIter _) _ _ _)); (fail_if_success (with_reducible show wpAny _ _ (eval (PySem.Expr.ListComp _ _ _ _) _) _ _ _)); (fail_if_success (with_reducible show wpAny _ _ (exec (PySem.Stmt.Assign _ (PySem.Expr.ListComp _ _ _ _) _) _) _ _ _)); (fail_if_success (with_reducible show wpAny _ _ (eval (PySem.Expr.Subscript _ (PySem.Expr.Slice _ _ _ _) _) _) _ _ _)); (fail_if_success (with_reducible show wpAny _ _ (call (Value.ref _) _) _ _ _)); first | walk1 | (dsimp only; walk1) | (leave1; walk_say "STEP leave1"; try dsimp only)) | fail "no step"))
    rename Fr _ _ _ _ => F₂
    have hys : ys.length = rows.length := by have := hE.len; rw [List.length_take, List.size_toArray, hR.len, Nat.min_self] at this; exact this
    have hE' : EntriesIn w en ys rows := by rwa [List.size_toArray, hR.len, List.take_length] at hE
    have N₂ := news_pull N
    clear N
    k_dflt (refine exif_spec (dp := dp + 1) (un := un + 3) (l := _ :: l) (Cx.inner B' C.X C.T F₂ rfl rfl) (by omega) (by omega) ?_)
    intro h₃ tk₃ x dx ta tb k₃ nx ndx hxd e1 e2
    have F₃ := F₂.keeps k₃
    have N₃ := N₂.grown k₃
    have hx : IsExif w h₃ x D := ⟨dx, ta, tb, _, e1, rfl, rfl, e2⟩
    clear F₂ N₂
    (repeat' (first | (k_unfold; (try dsimp only)) | ((fail_if_success (with_reducible show wpAny _ _ (exec (PySem.Stmt.For _ _ _ _ _) _) _ _ _)); (fail_if_success (with_reducible show wpAny _ _ (exec (PySem.Stmt.While _ _ _ _) _) _ _ _)); (fail_if_success (with_reducible show wpAny _ _ (pyIter _) _ _ _)); (fail_if_success (with_reducible show wpAny _ _ (eval (PySem.Expr.ListComp _ _ _ _) _) _ _ _)); (fail_if_success (with_reducible show wpAny _ _ (exec (PySem.Stmt.Assign _ (PySem.Expr.ListComp _ _ _ _) _) _) _ _ _)); (fail_if_success (with_reducible show wpAny _ _ (eval (PySem.Expr.Subscript _ (PySem.Expr.Slice _ _ _ _) _) _) _ _ _)); (fail_if_success (with_reducible show wpAny _ _ (call (Value.ref _) _) _ _ _)); first | walk1 | (dsimp only; walk1) | (leave1; walk_say "STEP leave1"; try dsimp only)) | fail "no step"))
    k_dflt (refine entry_of_spec (dp := dp + 1) (un := un + 3) (l := _ :: l) (Cx.inner B' C.X C.T F₃ rfl rfl) (by omega) (by omega) hx ⟨_, N₃.get (.tail _ (.head _)), rfl, _, rfl⟩ (hE'.at fun p hp => N₃.get (.tail _ (.tail _ (List.mem_append_left _ hp)))) ?_)
    intro h₄ tk₄ v k₄ hv
    have F₄ := F₃.keeps k₄
    have N₄ := N₃.grown k₄
    clear F₃ N₃
    (repeat' (first | (k_unfold; (try dsimp only)) | ((fail_if_success (with_reducible show wpAny _ _ (exec (PySem.Stmt.For _ _ _ _ _) _) _ _ _)); (fail_if_success (with_reducible show wpAny _ _ (exec (PySem.Stmt.While _ _ _ _) _) _ _ _)); (fail_if_success (with_reducible show wpAny _ _ (pyIter _) _ _ _)); (fail_if_success (with_reducible show wpAny _ _ (eval (PySem.Expr.ListComp _ _ _ _) _) _ _ _)); (fail_if_success (with_reducible show wpAny _ _ (exec (PySem.Stmt.Assign _ (PySem.Expr.ListComp _ _ _ _) _) _) _ _ _)); (fail_if_success (with_reducible show wpAny _ _ (eval (PySem.Expr.Subscript _ (PySem.Expr.Slice _ _ _ _) _) _) _ _ _)); (fail_if_success (with_reducible show wpAny _ _ (call (Value.ref _) _) _ _ _)); first | walk1 | (dsimp only; walk1) | (leave1; walk_say "STEP leave1"; try dsimp only)) | fail "no step"))
    rename Fr _ _ _ _ => F₅
    rename News _ _ _ _ => N₅
    k_dflt (refine assign_comp F₅ rfl (by with_unfolding_all rfl) (by with_unfolding_all rfl) (by decide) rfl (by decide) rfl rfl ?_)
    (repeat' (first | (k_unfold; (try dsimp only)) | ((fail_if_success (with_reducible show wpAny _ _ (exec (PySem.Stmt.For _ _ _ _ _) _) _ _ _)); (fail_if_success (with_reducible show wpAny _ _ (exec (PySem.Stmt.While _ _ _ _) _) _ _ _)); (fail_if_success (with_reducible show wpAny _ _ (pyIter _) _ _ _)); (fail_if_success (with_reducible show wpAny _ _ (eval (PySem.Expr.ListComp _ _ _ _) _) _ _ _)); (fail_if_success (with_reducible show wpAny _ _ (exec (PySem.Stmt.Assign _ (PySem.Expr.ListComp _ _ _ _) _) _) _ _ _)); (fail_if_success (with_reducible show wpAny _ _ (eval (PySem.Expr.Subscript _ (PySem.Expr.Slice _ _ _ _) _) _) _ _ _)); (fail_if_success (with_reducible show wpAny _ _ (call (Value.ref _) _) _ _ _)); first | walk1 | (dsimp only; walk1) | (leave1; walk_say "STEP leave1"; try dsimp only)) | fail "no step"))
    refine ⟨lr, vs.toArray, _, _, fun i zs nw => nw = ((L' + 1, oc) :: (D, cl0 ys) :: (en ++ tl)) ∧ IntsAre zs (((rows.take i).filter (fun r => decide (r.1 = tag))).map (·.2)), rfl, rfl, F₅, N₅, ?_, fun _ _ _ _ => .inl hlg, ?_, ⟨rfl, .nil⟩,
      casg_pair (fun i v1 v2 => ∃ (r : Int × Int) (t1 t2 : Tok), rows[i]? = some r ∧ v1 = .int r.1 t1 ∧ v2 = .int r.2 t2) rfl rfl rfl rfl (by decide) ?_, ?_, ?_⟩
    · rw [List.size_toArray, hR.len, sizeLine_eq]; omega
    · rintro i zs nw ⟨_, hI⟩
      have := hI.length
      rw [List.length_map] at this
      have h2 := List.length_filter_le (fun r : Int × Int => decide (r.1 = tag)) (rows.take i)
      rw [List.length_take] at h2
      omega
    · rintro i v ys nw h hv ⟨rfl, _⟩ F N
      have hv' : vs[i]? = some v := by simpa using hv
      have hi : i < rows.length := hR.len ▸ (List.getElem?_eq_some_iff.mp hv').1
      obtain ⟨a, t1, t2, n, e1, e2⟩ := hR.at_ i rows[i] (List.getElem?_eq_getElem hi)
      rw [e1] at hv'
      exact ⟨a, _, _, (Option.some.inj hv').symm, ⟨_, N.get (.tail _ (.tail _ (List.mem_append_right _ e2))), rfl, n, rfl⟩, rows[i], t1, t2, List.getElem?_eq_getElem hi, rfl, rfl⟩
    · clear hv
      rintro i v zs nw I oI C₁ oC D₁ m₂ h tk E' hv ⟨rfl, hI⟩ hC ⟨v1, v2, ⟨r, t1, t2, hr, rfl, rfl⟩, hm1, hm2⟩ F N off ne
      refine wpAny_tests_one ?_
      (try k_fold)
      (repeat' (first | (k_unfold; (try dsimp only)) | ((fail_if_success (with_reducible show wpAny _ _ (exec (PySem.Stmt.For _ _ _ _ _) _) _ _ _)); (fail_if_success (with_reducible show wpAny _ _ (exec (PySem.Stmt.While _ _ _ _) _) _ _ _)); (fail_if_success (with_reducible show wpAny _ _ (pyIter _) _ _ _)); (fail_if_success (with_reducible show wpAny _ _ (eval (PySem.Expr.ListComp _ _ _ _) _) _ _ _)); (fail_if_success (with_reducible show wpAny _ _ (exec (PySem.Stmt.Assign _ (PySem.Expr.ListComp _ _ _ _) _) _) _ _ _)); (fail_if_success (with_reducible show wpAny _ _ (eval (PySem.Expr.Subscript _ (PySem.Expr.Slice _ _ _ _) _) _) _ _ _)); (fail_if_success (with_reducible show wpAny _ _ (call (Value.ref _) _) _ _ _)); first | walk1 | (dsimp only; walk1) | (leave1; walk_say "STEP leave1"; try dsimp only)) | fail "no step"))
      · rename r.1 = tag => hrt
        refine ⟨h, tk, _, rfl, F, N, off, rfl, ?_⟩
        rw [take_snoc hr, List.filter_append, List.map_append]
        refine hI.append ?_
        rw [List.filter_cons_of_pos (by simpa using hrt)]
        exact .cons _ _ .nil
      · rename ¬ _ = tag => hrt
        refine ⟨h, tk, _, rfl, F, N, off, rfl, ?_⟩
        rw [take_snoc hr, List.filter_append, List.map_append, List.filter_cons_of_neg (by simpa using hrt)]
        simpa using hI
    · rintro D₁ zs nw s₂ ⟨rfl, hI⟩ ⟨h, tk, rfl⟩ N off F
      rw [List.size_toArray, hR.len, List.take_length] at hI
      rcases hv with ⟨rfl, hnone⟩ | ⟨i, r, a, hr, hy, rfl, hrt, hfirst⟩
      · have hnil : rows.filter (fun r => decide (r.1 = tag)) = [] := List.filter_eq_nil_iff.mpr fun r hr => by simpa using hnone r hr
        rw [hnil] at hI
        cases hI
        (try dsimp only at N F ⊢)
        (try k_fold)
        (repeat' (first | (k_unfold; (try dsimp only)) | ((fail_if_success (with_reducible show wpAny _ _ (exec (PySem.Stmt.For _ _ _ _ _) _) _ _ _)); (fail_if_success (with_reducible show wpAny _ _ (exec (PySem.Stmt.While _ _ _ _) _) _ _ _)); (fail_if_success (with_reducible show wpAny _ _ (pyIter _) _ _ _)); (fail_if_success (with_reducible show wpAny _ _ (eval (PySem.Expr.ListComp _ _ _ _) _) _ _ _)); (fail_if_success (with_reducible show wpAny _ _ (exec (PySem.Stmt.Assign _ (PySem.Expr.ListComp _ _ _ _) _) _) _ _ _)); (fail_if_success (with_reducible show wpAny _ _ (eval (PySem.Expr.Subscript _ (PySem.Expr.Slice _ _ _ _) _) _) _ _ _)); (fail_if_success (with_reducible show wpAny _ _ (call (Value.ref _) _) _ _ _)); first | walk1 | (dsimp only; walk1) | (leave1; walk_say "STEP leave1"; try dsimp only)) | fail "no step"))
        rename News _ _ _ _ => N₉
        show Q _ _
        exact ret _ _ (stays_tl kg (Fr.keep (by assumption)) (fun p hp => (hT p hp).1) fun p hp => N₉.get (by simp [hp]))
      · obtain ⟨q, hq⟩ : ∃ q, rows.filter (fun r => decide (r.1 = tag)) = r :: q := by
          rw [← List.take_append_drop i rows, List.filter_append, List.filter_eq_nil_iff.mpr, List.drop_eq_getElem_cons (List.getElem?_eq_some_iff.mp hr).1]
          · rw [(List.getElem?_eq_some_iff.mp hr).2, List.filter_cons_of_pos (by simpa using hrt)]
            exact ⟨_, rfl⟩
          · intro r' hr'
            obtain ⟨j, hj, e⟩ := List.getElem_of_mem hr'
            rw [List.length_take] at hj
            rw [List.getElem_take] at e
            have := hfirst j r' (by omega) (by rw [List.getElem?_eq_getElem (by omega), e])
            simpa using this
        rw [hq, List.map_cons] at hI
        obtain ⟨z0, t0, zs', hz, hI'⟩ : ∃ z0 t0 zs', zs = .int r.2 t0 :: zs' ∧ IntsAre zs' (q.map (·.2)) ∧ z0 = 0 := by
          cases hI with
          | cons n t h' => exact ⟨0, t, _, rfl, h', rfl⟩
        subst hz
        obtain ⟨a', dx', lv', ua, ub, uc, u1, u2, u3, n', y1, y2, y3, y4⟩ := hE'.at_ i r hr
        rw [hy] at y1
        obtain rfl : a = a' := Value.ref.inj (Option.some.inj y1)
        have N₆ : News g L' h ((a, instObj 63 dx') :: (dx', entryD w r.1 lv' ua ub uc u1 u2) :: (lv', lst [.int r.2 u3] n') :: (D₁, cl0 (Value.int r.2 t0 :: zs')) :: (L' + 1, oc) :: (D, cl0 ys) :: (en ++ tl)) := fun p hp => by
          have inn : ∀ p ∈ en, p ∈ (D₁, cl0 (Value.int r.2 t0 :: zs')) :: (L' + 1, oc) :: (D, cl0 ys) :: (en ++ tl) := fun p hp => .tail _ (.tail _ (.tail _ (List.mem_append_left _ hp)))
          rcases List.mem_cons.mp hp with rfl | hp
          · exact N _ (inn _ y2)
          rcases List.mem_cons.mp hp with rfl | hp
          · exact N _ (inn _ y3)
          rcases List.mem_cons.mp hp with rfl | hp
          · exact N _ (inn _ y4)
          · exact N _ hp
        clear N
        (try dsimp only at N₆ F ⊢)
        (try k_fold)
        (repeat' (first | (k_unfold; (try dsimp only)) | ((fail_if_success (with_reducible show wpAny _ _ (exec (PySem.Stmt.For _ _ _ _ _) _) _ _ _)); (fail_if_success (with_reducible show wpAny _ _ (exec (PySem.Stmt.While _ _ _ _) _) _ _ _)); (fail_if_success (with_reducible show wpAny _ _ (pyIter _) _ _ _)); (fail_if_success (with_reducible show wpAny _ _ (eval (PySem.Expr.ListComp _ _ _ _) _) _ _ _)); (fail_if_success (with_reducible show wpAny _ _ (exec (PySem.Stmt.Assign _ (PySem.Expr.ListComp _ _ _ _) _) _) _ _ _)); (fail_if_success (with_reducible show wpAny _ _ (eval (PySem.Expr.Subscript _ (PySem.Expr.Slice _ _ _ _) _) _) _ _ _)); (fail_if_success (with_reducible show wpAny _ _ (call (Value.ref _) _) _ _ _)); first | walk1 | (dsimp only; walk1) | (leave1; walk_say "STEP leave1"; try dsimp only)) | fail "no step"))
        · rename decide _ = true => hbad
          exact absurd hbad (by simp)
        k_dflt (refine wpAny_Subscript_list_slice ?_)
        (repeat' (first | (k_unfold; (try dsimp only)) | ((fail_if_success (with_reducible show wpAny _ _ (exec (PySem.Stmt.For _ _ _ _ _) _) _ _ _)); (fail_if_success (with_reducible show wpAny _ _ (exec (PySem.Stmt.While _ _ _ _) _) _ _ _)); (fail_if_success (with_reducible show wpAny _ _ (pyIter _) _ _ _)); (fail_if_success (with_reducible show wpAny _ _ (eval (PySem.Expr.ListComp _ _ _ _) _) _ _ _)); (fail_if_success (with_reducible show wpAny _ _ (exec (PySem.Stmt.Assign _ (PySem.Expr.ListComp _ _ _ _) _) _) _ _ _)); (fail_if_success (with_reducible show wpAny _ _ (eval (PySem.Expr.Subscript _ (PySem.Expr.Slice _ _ _ _) _) _) _ _ _)); (fail_if_success (with_reducible show wpAny _ _ (call (Value.ref _) _) _ _ _)); (fail_if_success (with_reducible show Exists _)); first | walk1 | (dsimp only; walk1) | (leave1; walk_say "STEP leave1"; try dsimp only)) | fail "no step"))
        rename Fr _ _ _ _ => F₇
        rename News _ _ _ _ => N₇
        refine ⟨D₁, _, none, some 1, rfl, ⟨_, N₇.get (.tail _ (.tail _ (.tail _ (.tail _ (.tail _ (.head _)))))), rfl, _, rfl⟩, ?_, .none, .int _ _, ?_⟩
        · have := hI.length
          simp only [List.length_cons, List.length_map] at this
          have h2 : (r :: q).length ≤ rows.length := hq ▸ List.length_filter_le _ _
          rw [List.length_cons] at h2
          rw [List.size_toArray, List.length_cons, sizeLine_eq]; omega
        have hpick : slicePick (Value.int r.2 t0 :: zs').toArray none (some 1) none = #[Value.int r.2 t0] := by
          rw [show (some 1 : Option Int) = some ((1 : Nat) : Int) from rfl, slicePick_upto _ 1 (by simp)]
          simp
        rw [hpick]
        (try dsimp only)
        obtain ⟨F₈, N₈⟩ := push2 F₇ N₇ { cls := .type "slice", data := .fields #[.none, .int 1 _, .none] } (lst [.int r.2 t0] 0) rfl rfl
        generalize ((_ : Heap).push _).push _ = H at F₈ N₈ ⊢
        clear F₇ N₇
        (try k_fold)
        (repeat' (first | (k_unfold; (try dsimp only)) | ((fail_if_success (with_reducible show wpAny _ _ (exec (PySem.Stmt.For _ _ _ _ _) _) _ _ _)); (fail_if_success (with_reducible show wpAny _ _ (exec (PySem.Stmt.While _ _ _ _) _) _ _ _)); (fail_if_success (with_reducible show wpAny _ _ (pyIter _) _ _ _)); (fail_if_success (with_reducible show wpAny _ _ (eval (PySem.Expr.ListComp _ _ _ _) _) _ _ _)); (fail_if_success (with_reducible show wpAny _ _ (exec (PySem.Stmt.Assign _ (PySem.Expr.ListComp _ _ _ _) _) _) _ _ _)); (fail_if_success (with_reducible show wpAny _ _ (eval (PySem.Expr.Subscript _ (PySem.Expr.Slice _ _ _ _) _) _) _ _ _)); (fail_if_success (with_reducible show wpAny _ _ (call (Value.ref _) _) _ _ _)); first | walk1 | (dsimp only; walk1) | (leave1; walk_say "STEP leave1"; try dsimp only)) | fail "no step"))
        rename News _ _ _ _ => N₉
        rw [show (r.1 == tag) = true by simpa using hrt]
        exact ret _ _ (stays_tl kg (Fr.keep (by assumption)) (fun p hp => (hT p hp).1) fun p hp => N₉.get (by simp [hp]))

end Mine

namespace Mine
open Sem (wp)

local macro_rules | `(tactic| k_room) => `(tactic| ((try simp only [depth_under_make, depth_under_kw, depth_in1, depth_deeper, depth_caller]); (try dsimp only [AA] at *); omega))
local macro_rules | `(tactic| k_inst) => `(tactic| (refine' instKeep ?a ?b; (case a => assumption); (case b => exact Fr.keep (by assumption))))

abbrev segBm : List Value := [.ref 31, .type "Exception", .type "BaseException", .type "object"]
abbrev segC : Obj := excClassObj "SegmentError" "SegmentError" 44 43 [.ref 31] segBm true [] [] false none none (some (.ref 35)) none (some (.str "SegmentError" 218)) (some (.str "SegmentError" 226)) (some (.bool true)) "Exception.__new__"
theorem seg_at {w : World} {h : Heap} (X : (Mine.hd.heap_39 w.params).In h) : h.get? 44 = some segC := X _ _ (by k_is)
abbrev excO (t : Addr) (d : Option Addr) : Obj := { cls := .ref 44, dict := d, data := .fields #[.ref t, .none, .none, .none, .bool false, .none] }
section
variable {prog : Program} {w : World} {A : Around} {E : Value → Shared → Prop} {R : Result → Shared → Prop} {h : Heap} {g : Array GenState} {d : Drawn} {t : Nat} {os : OsState}
theorem seg_new {v : Value} (hC : h.get? 44 = some segC)
    (hq : R (.ok (.ret (.ref (h.objs.size + 1)))) ⟨(h.push { cls := .type "tuple", data := .seq [v].toArray }).push (excO h.objs.size none), g, d, t, os⟩) :
    codeAny (model prog w) A (.builtin "Exception.__new__" ⟨[.ref 44, v], []⟩) R ⟨h, g, d, t, os⟩ := by
  have F := PySem.F.excBase_Exception
  have hends := F.ends
  have hcB : (Value.ref 44 :: segBm).contains (.type "Exception") = true := by decide +kernel
  have hcA : (Value.ref 44 :: segBm).contains (.type "AttributeError") = false := by decide +kernel
  have hcN : (Value.ref 44 :: segBm).contains (.type "NameError") = false := by decide +kernel
  have hrest : [v].length ≤ sizeLine := by rw [sizeLine_eq, List.length_singleton]; decide
  refine codeAny_builtinAt F.entry ?_
  unfold Builtin.«BaseException.__new__»
  refine PySem.wpAt_bind ?_
  show PySem.wpAt _ _ _ (stack >>= _) _ _ _
  refine PySem.wpAt_bind (PySem.wpAt_stack fun p below => PySem.wpAt_of_wpAny ?_)
  wp_walk
  refine PySem.wpAt_of_wpAny ?_
  rw [F.owner]
  repeat (first | with_reducible refine wpAny_madeHere_exc F.canon hC ?_ | with_reducible refine wpAny_loadPart_at hC ?_ | (with_reducible refine wpAny_isSubtype_exc hC ?_; first | rw [hcB] | rw [hcA] | rw [hcN]) | wp_step)
  show R _ _
  rw [Heap.size_push]
  exact hq
end
section
variable {prog : Program} {w : World} {A : Around} {E : Value → Shared → Prop} {R : Result → Shared → Prop} {h : Heap} {g : Array GenState} {d : Drawn} {t : Nat} {os : OsState}
theorem seg_check {v : Value} {Q : Unit → Shared → Prop} (hC : h.get? 44 = some segC) (hq : Q () ⟨h, g, d, t, os⟩) : wpAny (model prog w) A (checkBuiltinCall "Exception.__new__" ⟨[.ref 44, v], []⟩) Q E ⟨h, g, d, t, os⟩ := by
  have F := PySem.F.excBase_Exception
  have hcont : (Value.ref 44 :: segBm).contains (.type "Exception") = true := by decide +kernel
  have hstar := F.noStar
  simp only [checkBuiltinCall, F.newKind, F.newSplit, F.newRow]
  repeat (first | refine wpAny_loadPart_at hC ?_ | (refine wpAny_isSubtype_exc hC ?_; rw [hcont]) | refine wpAny_staticBase_exc hC ?_ | refine wpAny_madeBy_exc hC ?_ | simp only [bne_self_eq_false, Bool.false_eq_true, if_false] | wp_step)
  exact hq
theorem seg_call {v : Value} {Q : Value → Shared → Prop} (X : (Mine.hd.heap_39 w.params).In h)
    (hq : wpAny (model prog w) (A.under (.builtin "type.__call__" ⟨[.ref 44, v], []⟩)) (call (.ref 28) [.ref (h.objs.size + 1), v]) (fun r s' => r = .none ∧ Q (.ref (h.objs.size + 1)) s') E
      ⟨(h.push { cls := .type "tuple", data := .seq [v].toArray }).push (excO h.objs.size none), g, d, t, os⟩) :
    wpAny (model prog w) A (call (.ref 44) [v]) Q E ⟨h, g, d, t, os⟩ := by
  have hC := seg_at X
  have f1 := tc_lookup
  have f2 := tc_bind (.ref 44)
  have hT : (⟨h, g, d, t, os⟩ : Shared).TypeIs (.ref 44) "type" := ⟨_, hC, rfl⟩
  have hi : findIn (Mine.hd.heap_39 w.params) (.ref 44) "__init__" = some (some (.ref 28)) := by k_is
  refine wpAny_call (codeAny_of_tree ?_)
  show wpAny _ _ (callAny (.ref 44) _) _ _ _
  repeat (any_goals (first | assumption | with_reducible refine wpAny_loadPart_at hC ?_ | wp_step))
  refine ⟨rfl, ?_⟩
  refine codeAny_call_builtin_at (Code.quiet_builtin _ (by decide +kernel)) entry_typeCall (wpAny_check_type_call_sub hC ?_)
  repeat (first | with_reducible refine wpAny_loadPart_at hC ?_ | with_reducible refine wpAny_madeBy_exc hC ?_ | wp_step)
  refine codeAny_call_builtin_code (Code.quiet_builtin _ PySem.F.excBase_Exception.quiet) (seg_check hC ?_)
  refine seg_new hC ?_
  show wpAny _ _ _ _ _ _
  have k : ∀ b o, h.get? b = some o → ((h.push { cls := .type "tuple", data := .seq [v].toArray }).push (excO h.objs.size none)).get? b = some o := fun b o e => Heap.get?_push_of_some _ (Heap.get?_push_of_some _ e)
  have hC₁ := k _ _ hC
  have X₁ := X.keeps k
  have hfI : ∃ oI, ((h.push { cls := .type "tuple", data := .seq [v].toArray }).push (excO h.objs.size none)).get? 28 = some oI ∧ oI.cls = .type "function" := ⟨_, X₁ 28 _ (by k_is), rfl⟩
  obtain ⟨oI, hfI₁, hfc⟩ := hfI
  have hget : ((h.push { cls := .type "tuple", data := .seq [v].toArray }).push (excO h.objs.size none)).get? (h.objs.size + 1) = some (excO h.objs.size none) := by heap_get
  have hcC : (Value.ref 44 :: segBm).contains (.ref 44) = true := by simp
  unfold isInstance
  repeat (first | with_reducible refine wpAny_loadPart_at hget ?_ | (with_reducible refine wpAny_isSubtype_exc hC₁ ?_; rw [hcC]) | wp_step)
  show wpAny _ _ (typeLookup (.ref 44) _) _ _ _
  refine (looks_findIn X₁ hi).here ?_
  refine wpAny_holding (wpAny_bind ?_)
  unfold bindSpecial
  refine wpAny_bind (wpAny_typeOf (T := "function") ⟨_, hfI₁, hfc⟩ ?_)
  rw [if_pos (by decide)]
  refine wpAny_pure (wpAny_bind (wpAny_mono hq (fun r s' hr => ?_) fun _ _ x => x))
  obtain ⟨rfl, hQ⟩ := hr
  wp_walk
  exact hQ
end

end Mine

namespace Mine

local macro_rules | `(tactic| k_room) => `(tactic| ((try simp only [depth_under_make, depth_under_kw, depth_in1, depth_deeper, depth_caller]); (try dsimp only [AA] at *); omega))
local macro_rules | `(tactic| k_inst) => `(tactic| (refine' instKeep ?a ?b; (case a => assumption); (case b => exact Fr.keep (by assumption))))

section
variable {w : World} {A : Around} {E : Value → Shared → Prop} {h : Heap} {g : Array GenState} {d : Drawn} {t : Nat} {os : OsState}
theorem seg_check_init {e t0 : Addr} {dd : Option Addr} {v : Value} {Q : Unit → Shared → Prop} (hC : h.get? 44 = some segC) (he : h.get? e = some (excO t0 dd)) (hq : Q () ⟨h, g, d, t, os⟩) :
    wpAny (model prg w) A (checkBuiltinCall "Exception.__init__" ⟨[.ref e, v], []⟩) Q E ⟨h, g, d, t, os⟩ := by
  have F := PySem.F.excBase_Exception
  have hcB : (Value.ref 44 :: segBm).contains (.type "Exception") = true := by decide +kernel
  have hshort := F.noStar
  simp only [checkBuiltinCall, F.initKind, F.initSplit, F.initRow]
  repeat (first | with_reducible refine wpAny_loadPart_at he ?_ | with_reducible refine wpAny_loadPart_at hC ?_ | (with_reducible refine wpAny_isSubtype_exc hC ?_; rw [hcB]) | wp_step)
  exact hq
theorem seg_init_call {e t0 : Addr} {dd : Option Addr} {v : Value} {Q : Value → Shared → Prop} (hC : h.get? 44 = some segC) (he : h.get? e = some (excO t0 dd))
    (hq : Q .none ⟨(h.push { cls := .type "tuple", data := .seq [v].toArray }).update e (Obj.mapFields (·.setIfInBounds 0 (.ref h.objs.size))), g, d, t, os⟩) :
    wpAny (model prg w) A (call (.builtin "Exception.__init__") [.ref e, v]) Q E ⟨h, g, d, t, os⟩ := by
  have F := PySem.F.excBase_Exception
  have hrest : [v].length ≤ sizeLine := by rw [sizeLine_eq, List.length_singleton]; decide
  have he₁ : (h.push { cls := .type "tuple", data := .seq [v].toArray }).get? e = some (excO t0 dd) := Heap.get?_push_of_some _ he
  refine wpAny_call (codeAny_call_builtin F.init.plain F.initEntry (seg_check_init hC he ?_))
  show wpAny _ _ (Builtin.«BaseException.__init__» _) _ _ _
  unfold Builtin.«BaseException.__init__»
  wp_walk
  exact hq
end
theorem meta_Exc : typeOf (.type "Exception") = pure (.type "type") := by first | rfl | kernel_rfl
theorem seg_init_N {w : World} {A : Around} {E : Value → Shared → Prop} {s : Shared} {g₀ : Heap} {L e t0 : Addr} {m : Str → Option Value} {dd : Option Addr} {v : Value} {Q : Value → Shared → Prop} (F : Fr g₀ L s.heap m) (N : News g₀ L s.heap [(e, excO t0 dd)]) (X : (Mine.hd.heap_39 w.params).In g₀)
    (k : ∀ h' t1, Fr g₀ L h' m → News g₀ L h' [(e, excO t1 dd)] → Q .none { s with heap := h' }) : wpAny (model prg w) A (call (.builtin "Exception.__init__") [.ref e, v]) Q E s := by
  obtain ⟨hh, gg, d, tk, os⟩ := s
  refine seg_init_call (seg_at (X.keeps F.keep)) (N.get (.head _)) ?_
  have F₁ := F.push { cls := .type "tuple", data := .seq [v].toArray }
  have N₁ : News g₀ L (hh.push { cls := .type "tuple", data := .seq [v].toArray }) ([] ++ (e, excO t0 dd) :: []) := N.grown fun b o q => Heap.get?_push_of_some _ q
  obtain ⟨F₂, N₂⟩ := news_upd (f := Obj.mapFields (·.setIfInBounds 0 (.ref hh.objs.size))) (o' := excO hh.objs.size dd) F₁ N₁ (fun _ h => nomatch h) (fun _ h => nomatch h) rfl rfl
  exact k _ _ F₂ N₂
abbrev segMro : List Value := [.ref 44, .ref 31, .type "Exception", .type "BaseException", .type "object"]
theorem seg_refuse (e : Addr) : refuseLoop (.ref e) "__setattr__" segMro = pure () := by
  rw [refuseLoop_ref, refuseLoop_ref]; kernel_rfl
theorem seg_set {w : World} {A : Around} {E : Value → Shared → Prop} {s : Shared} {e t0 : Addr} {v : Value} {Q : Unit → Shared → Prop} (X : (Mine.hd.heap_39 w.params).In s.heap) (he : s.heap.get? e = some (excO t0 none))
    (hq : ∀ h' tk dx, (∀ b o, b ≠ e → s.heap.get? b = some o → h'.get? b = some o) → h'.get? e = some (excO t0 (some dx)) → Q () { s with heap := h', toks := tk }) :
    wpAny (model prg w) A (setAttr (.ref e) "message" v) Q E s := by
  have SF := PySem.F.store_object
  have I : InstAt s.heap e (excO t0 none) 44 none := ⟨he, rfl, rfl, trivial⟩
  have hs : findIn (Mine.hd.heap_39 w.params) (.ref 44) "__setattr__" = some (some (.builtin "object.__setattr__")) := by k_is
  have ha : findIn (Mine.hd.heap_39 w.params) (.ref 44) "message" = some none := by k_is
  refine set_plain X I hs ?_
  generalize s.toks = tk0
  obtain ⟨h, gg, d, tk, os⟩ := s
  dsimp only at X he I hq ⊢
  have hC : h.get? 44 = some segC := seg_at X
  have ht : takerIn (Mine.hd.heap_39 w.params) 44 "message" = some none := by k_is
  obtain ⟨cd, hc, hho⟩ : ∃ cd, clsIn (Mine.hd.heap_39 w.params) 44 = some cd ∧ cd.mro = segMro ∧ cd.hasDict = true := ⟨_, by k_is, by first | exact ⟨rfl, rfl⟩ | exact ⟨by kernel_rfl, by kernel_rfl⟩⟩
  have hsub : Looks (model prg w) h (isInstance (.ref e) (.type "object")) true := I.type.andThen (looks_mroIn X (by unfold mroIn; rw [hc, Option.bind_some, hho.1]; decide +kernel))
  obtain ⟨attr, ha', hr⟩ := Option.bind_eq_some_iff.mp ht
  have hattr : attr = none := by
    have e2 := ha.symm.trans ha'
    cases e2; rfl
  subst hattr
  have hm : Looks (model prg w) h (mroOf (.ref 44)) cd.mro := (looks_clsIn X hc).andThen .now
  refine codeAny_call_builtin SF.slot.plain SF.entry (@check_slot (model prg w) _ _ _ "object.__setattr__" "object" "__setattr__" (.ref e) [.str "message" tk0, v] [] _ SF.kind SF.split hsub (SF.args (.ref e) (.str "message" tk0) v) ?_)
  rw [osa_eq, refuse_eq]
  refine wpAny_bind (wpAny_bind (I.type.here (wpAny_bind (hm.here ?_))))
  rw [hho.1, seg_refuse]
  refine wpAny_pure (wpAny_bind (I.type.here (wpAny_bind ((looks_findIn X ha).here (wpAny_bind ((Looks.now : Looks (model prg w) h (Builtin.ObjectAttr.storeTaker? none) none).here ?_))))))
  have hx₁ : (h.push { cls := .type "dict", data := .dict #[] }).get? e = some (excO t0 none) := Heap.get?_push_of_some _ he
  have hxs : e ≠ h.objs.size := Nat.ne_of_lt (Heap.lt_size he)
  refine wpAny_bind (wpAny_pure (wpAny_bind (wpAny_bind (wpAny_loadPart he (wpAny_bind ((looks_clsIn X hc).here ?_))))))
  rw [hho.2]
  show wpAny _ _ (alloc { cls := .type "dict", data := .dict #[] } >>= fun d => update e (fun o => { cls := o.cls, dict := some d, data := o.data, slots := o.slots }) >>= fun _ => dictMade (.ref 44) e d) _ _ _
  refine wpAny_bind (wpAny_alloc' ?_)
  refine wpAny_bind (wpAny_update' hx₁ ?_)
  refine wpAny_pure ?_
  have hgd : ((h.push { cls := .type "dict", data := .dict #[] }).update e fun o => { cls := o.cls, dict := some h.objs.size, data := o.data, slots := o.slots }).get? h.objs.size
      = some { cls := .type "dict", data := .dict #[] } :=
    (Heap.get?_update_ne _ _ _ _ hxs.symm).trans (Heap.get?_push_at rfl rfl)
  have hnd : ((h.push { cls := .type "dict", data := .dict #[] }).update e fun o => { cls := o.cls, dict := some h.objs.size, data := o.data, slots := o.slots }).Ns h.objs.size (fun _ => none) :=
    ⟨_, #[], _, hgd, rfl, fun e he => absurd he (by simp), fun _ => rfl⟩
  show wpAny _ _ (Builtin.ObjectAttr.storeInDict h.objs.size (.str _ tk0) _ v) _ _ _
  unfold Builtin.ObjectAttr.storeInDict Builtin.ObjectAttr.newKeyGuard
  refine wpAny_bind (wpAny_pure (wpAny_bind (wpAny_nsSet1 (Heap.Ns1.of_empty hnd) fun h' hn' hs => ?_)))
  obtain ⟨oD, esD, epD, hoD, hdD, hcD⟩ := hn'.count (Within.cons "message" v Within.nil)
  refine wpAny_bind (wpAny_lookBehind hoD (by rw [hdD]; exact pastItsLine_dict (Nat.le_trans hcD (by rw [List.length_cons, List.length_nil, sizeLine_eq]; omega))) ?_)
  wp_walk
  refine hq h' _ h.objs.size (fun b o hbe hb => ?_) ?_
  · exact (hs.2 b (Nat.ne_of_lt (Heap.lt_size hb))).trans ((Heap.get?_update_ne _ _ _ _ hbe).trans (Heap.get?_push_of_some _ hb))
  · exact (hs.2 e hxs).trans (Heap.get?_update_self _ hx₁ rfl)
local macro_rules | `(tactic| walk_at "getMethod type:Exception") => `(tactic| (k_here; refine' method_type ?F ?X ?m (by decide +kernel) ?e ?h ?_; (case F => k_asm); (case X => k_asm); (case m => exact meta_Exc); (case e => k_dflt k_is); (case h => k_handed)))
local macro_rules | `(tactic| walk_at "call builtin:Exception.__init__") => `(tactic| (k_here; refine' seg_init_N ?F ?N ?X ?_; (case F => k_asm); (case N => k_asm); (case X => k_asm); k_whole; intro h' t1 F' N'))
set_option maxHeartbeats 4000000 in
theorem init_spec {w : World} {mean : ExcName → Option Value} {mg mb : Str → Option Value} {base : Heap} {l : List Env} {dp un : Nat} {gd : Option (List Code)} {s : Shared} {Q E : Value → Shared → Prop}
    {e t0 : Addr} {msg : Str} {tm : Tok}
    (C : Cx w mean mg mb (AA dp un gd l) base l s.heap) (hd : dp + 6 < recursionLimit) (hu : un + 60 < cLine)
    (he : s.heap.get? e = some (excO t0 none)) (hb : base.get? e = none) (hl : ∀ env ∈ l, env.frame ≠ some e)
    (ret : ∀ h' tk t1 dx, (∀ b o, b ≠ e → s.heap.get? b = some o → h'.get? b = some o) → h'.get? e = some (excO t1 (some dx)) → Q .none { s with heap := h', toks := tk }) :
    wpAny (model prg w) (AA dp un gd l) (call (.ref 28) [.ref e, .str msg tm]) Q E s := by
  refine wpAny_call ?_
  k_dflt (refine' enter (binds := [("self", .ref e), ("message", .str msg tm)]) C [(e, excO t0 none)] ?km ?k6 ?k7 ?k8 ?k9 ?kB ?_ ?c2 ?c3 ?c4 ?c5; (case k6 => k_is); (case k7 => k_is); (case k8 => k_room); (case k9 => exact BindsTo.of_eq rfl); (case c5 => decide); (case kB => exact locs rfl); (case c2 => exact rfl); (case c3 => exact rfl); (case c4 => exact rfl); (case km => exact List.forall_mem_cons.mpr ⟨⟨he, hb, hl⟩, fun _ h => nomatch h⟩); k_whole)
  intro g L' h₁ B' X' T' kg ks F' N'
  (try dsimp only)
  (try k_fold)
  (repeat' (first | (k_unfold; (try dsimp only)) | ((fail_if_success (with_reducible show wpAny _ _ (exec (PySem.Stmt.For _ _ _ _ _) _) _ _ _)); (fail_if_success (with_reducible show wpAny _ _ (exec (PySem.Stmt.While _ _ _ _) _) _ _ _)); (fail_if_success (with_reducible show wpAny _ _ (pyIter _) _ _ _)); (fail_if_success (with_reducible show wpAny _ _ (eval (PySem.Expr.ListComp _ _ _ _) _) _ _ _)); (fail_if_success (with_reducible show wpAny _ _ (exec (PySem.Stmt.Assign _ (PySem.Expr.ListComp _ _ _ _) _) _) _ _ _)); (fail_if_success (with_reducible show wpAny _ _ (eval (PySem.Expr.Subscript _ (PySem.Expr.Slice _ _ _ _) _) _) _ _ _)); first | walk1 | (dsimp only; walk1) | (leave1; walk_say "STEP leave1"; try dsimp only)) | fail "no step"))
  rename Fr _ _ _ _ => F₅
  rename News _ _ _ _ => N₅
  refine seg_set (X'.keeps F₅.keep) (N₅.get (.head _)) ?_
  intro h'' tk dx keep hdx
  (repeat' (first | (k_unfold; (try dsimp only)) | ((fail_if_success (with_reducible show wpAny _ _ (exec (PySem.Stmt.For _ _ _ _ _) _) _ _ _)); (fail_if_success (with_reducible show wpAny _ _ (exec (PySem.Stmt.While _ _ _ _) _) _ _ _)); (fail_if_success (with_reducible show wpAny _ _ (pyIter _) _ _ _)); (fail_if_success (with_reducible show wpAny _ _ (eval (PySem.Expr.ListComp _ _ _ _) _) _ _ _)); (fail_if_success (with_reducible show wpAny _ _ (exec (PySem.Stmt.Assign _ (PySem.Expr.ListComp _ _ _ _) _) _) _ _ _)); (fail_if_success (with_reducible show wpAny _ _ (eval (PySem.Expr.Subscript _ (PySem.Expr.Slice _ _ _ _) _) _) _ _ _)); first | walk1 | (dsimp only; walk1) | (leave1; walk_say "STEP leave1"; try dsimp only)) | fail "no step"))
  exact ret h'' _ _ dx (fun b o hbe hbo => keep b o hbe (F₅.keep b o (kg b o (by simpa using hbe) hbo))) hdx

theorem exc_spec {w : World} {mean : ExcName → Option Value} {mg mb : Str → Option Value} {base : Heap} {l : List Env} {dp un : Nat} {gd : Option (List Code)} {s : Shared} {Q E : Value → Shared → Prop}
    {msg : Str} {tm : Tok}
    (C : Cx w mean mg mb (AA dp un gd l) base l s.heap) (hd : dp + 12 < recursionLimit) (hu : un + 120 < cLine)
    (ret : ∀ h' tk e t1 dx, (∀ b o, s.heap.get? b = some o → h'.get? b = some o) → s.heap.get? e = none → h'.get? e = some (excO t1 (some dx)) → Q (.ref e) { s with heap := h', toks := tk }) :
    wpAny (model prg w) (AA dp un gd l) (call (.ref 44) [.str msg tm]) Q E s := by
  obtain ⟨h, gg, d, tk, os⟩ := s
  have k : ∀ b o, h.get? b = some o → ((h.push { cls := .type "tuple", data := .seq [.str msg tm].toArray }).push (excO h.objs.size none)).get? b = some o := fun b o e => Heap.get?_push_of_some _ (Heap.get?_push_of_some _ e)
  have hget : ((h.push { cls := .type "tuple", data := .seq [.str msg tm].toArray }).push (excO h.objs.size none)).get? (h.objs.size + 1) = some (excO h.objs.size none) := by heap_get
  have hn : h.get? (h.objs.size + 1) = none := by
    cases q : h.get? (h.objs.size + 1) with
    | none => rfl
    | some o => exact absurd (Heap.lt_size q) (Nat.not_lt.mpr (Nat.le_succ _))
  have C₁ : Cx w mean mg mb (AA (dp + 1) (un + 1) gd l) base l ((h.push { cls := .type "tuple", data := .seq [.str msg tm].toArray }).push (excO h.objs.size none)) := C.room.stays k
  refine seg_call C.Xh ?_
  show wpAny (model prg w) (AA (dp + 1) (un + 1) gd l) _ _ _ _
  refine init_spec (t0 := h.objs.size) C₁ (by omega) (by omega) hget (none_of_stays C.B.stays hn) (frame_off C.B.frames hn) ?_
  · intro h' tk' t1 dx keep hd'
    exact ⟨rfl, ret h' tk' _ t1 dx (fun b o hb => keep b o (fun e => by subst e; rw [hn] at hb; cases hb) (k b o hb)) hn hd'⟩

end Mine

namespace Mine
open Sem (wp)
section
variable {prog : Program} {w : World} {A : Around} {E : Value → Shared → Prop} {env : Env}
theorem seg_raiseStmt {M : Model} {s : Shared} {x : Sem Value} {Q : Flow → Shared → Prop} (hh : A.handled = none)
    (h : wpAny M A x (fun v s₁ => ∃ e t dx, v = .ref e ∧ s₁.heap.get? 44 = some segC ∧ s₁.heap.get? e = some (excO t (some dx)) ∧ E (.ref e) s₁) E s) :
    wpAny M A (raiseStmt env (some x) none) Q E s := by
  have hcB : (Value.ref 44 :: segBm).contains (.type "BaseException") = true := by decide +kernel
  unfold raiseStmt
  refine wpAny_bind (wpAny_mono h (fun v s₁ h₁ => ?_) fun _ _ x => x)
  obtain ⟨e, t, dx, rfl, hC, he, hE⟩ := h₁
  obtain ⟨hp, g, d, tk, os⟩ := s₁
  repeat (first | with_reducible refine wpAny_loadPart_at he ?_ | with_reducible refine wpAny_loadPart_at hC ?_ | (with_reducible refine wpAny_isSubtype_exc hC ?_; rw [hcB]) | wp_step)
  exact wpAny_raiseNew_none hh hE
theorem seg_Raise {s : Shared} {x : Str} {np cpos pos : Pos} {e₀ : PySem.Expr} {rest : List PySem.Expr} {Q : Flow → Shared → Prop}
    (hh : A.handled = none)
    (h : wpAny (model prog w) A (eval (.Name x np) env) (fun f s₁ => f = .ref 44 ∧ wpAny (model prog w) A (spliced (backTo cpos (starEach (e₀ :: rest) env)))
      (fun a s₂ => ∃ v, a = [v] ∧ s₂.heap.get? 44 = some segC ∧ wpAny (model prog w) A (call (.ref 44) [v]) (fun r s₃ => ∃ e t dx, r = .ref e ∧ s₃.heap.get? 44 = some segC ∧ s₃.heap.get? e = some (excO t (some dx)) ∧ E (.ref e) s₃) E s₂) E s₁) E s)
    (he : starEach (e₀ :: rest) env = (false, eval e₀ env) :: starEach rest env := by rfl) (hplain : (backTo cpos (starEach rest env)).any (·.1) = false := by rfl) :
    wpAny (model prog w) A (exec (.Raise (some (.Call (.Name x np) (e₀ :: rest) [] cpos)) none pos) env) Q E s := by
  have hplain' : (backTo cpos (starEach (e₀ :: rest) env)).any (·.1) = false := by rw [he]; show (false || (backTo cpos (starEach rest env)).any (·.1)) = false; rw [hplain]; rfl
  rw [arm_exec_Raise]
  first
    | refine wpAny_bind (wpAny_standAt (seg_raiseStmt hh (wpAny_bind (wpAny_mono (wpAny_Call_ofName (wpAny_mono h (fun f s₁ h₁ => ?_) fun _ _ x => x)) (fun v s₃ h₃ => wpAny_bind (wpAny_standAt (wpAny_pure h₃))) fun _ _ x => x))))
    | (simp only [evalOpt, Option.map]; refine wpAny_bind (wpAny_standAt (seg_raiseStmt hh (wpAny_bind (wpAny_mono (wpAny_Call_ofName (wpAny_mono h (fun f s₁ h₁ => ?_) fun _ _ x => x)) (fun v s₃ h₃ => wpAny_bind (wpAny_standAt (wpAny_pure h₃))) fun _ _ x => x)))))
    | (refine wpAny_bind (wpAny_standAt (seg_raiseStmt hh ?_)); refine wpAny_bind (wpAny_mono (wpAny_Call_ofName (wpAny_mono h (fun f s₁ h₁ => ?_) fun _ _ x => x)) (fun v s₃ h₃ => wpAny_bind (wpAny_standAt (wpAny_pure h₃))) fun _ _ x => x))
  obtain ⟨rfl, h₁⟩ := h₁
  have h₂ : wpAny (model prog w) A (evalArgs (.ref 44) true (backTo cpos (starEach (e₀ :: rest) env)) []) (fun a s₂ => ∃ v, a = ⟨[v], []⟩ ∧ s₂.heap.get? 44 = some segC ∧ wpAny (model prog w) A (call (.ref 44) [v]) (fun r s₃ => ∃ e t dx, r = .ref e ∧ s₃.heap.get? 44 = some segC ∧ s₃.heap.get? e = some (excO t (some dx)) ∧ E (.ref e) s₃) E s₂) E s₁ := by
    rw [he] at h₁ ⊢
    exact Calls.evalArgs_plain (wpAny_mono h₁ (fun vs s₂ ⟨v, e, r⟩ => ⟨v, by rw [e], r⟩) fun _ _ y => y)
  replace h₁ := h₂
  clear h₂
  unfold callWith
  refine wpAny_bind (wpAny_holding (wpAny_mono h₁ (fun a s₂ h₂ => wpAny_bind (wpAny_standAt ?_)) fun _ _ x => x))
  obtain ⟨v, rfl, hC, h₂⟩ := h₂
  obtain ⟨hp, g, d, tk, os⟩ := s₂
  simp only [hplain']
  refine wpAny_bind (wpAny_keeperOf_exc hC ?_)
  refine wpAny_bind (wpAny_mono h₂ (fun r s₃ h₃ => wpAny_bind (wpAny_holding (wpAny_point (wpAny_pure h₃)))) fun _ _ x => x)
end
theorem hide_mono {s g : Heap} (st : s.StaysIn g) (as : List Addr) : (hideAll s as).StaysIn (hideAll g as) := fun b o e => by
  by_cases hb : b ∈ as
  · rw [hideAll_none _ hb] at e; cases e
  · exact hideAll_get _ (st b o (of_hideAll _ e)) hb
theorem frames_hide {base h : Heap} {l : List Env} (F : h.FunFrames base l) : h.FunFrames (hideAll h (l.filterMap (·.frame))) l :=
  funFrames_hide F fun env he a ha => List.mem_filterMap.mpr ⟨env, he, ha⟩
theorem frames_keep {B h h' : Heap} {l : List Env} (F : h.FunFrames B l) (k : h.StaysIn h') : h'.FunFrames B l := F.of_keeps fun b o e _ => ⟨o, k b o e, rfl⟩
section
variable {M : Model} {A : Around} {E : Value → Shared → Prop} {env : Env} {l : List Env}
theorem seg_leaves {g h base : Heap} {s' : Shared} {L e t1 dx : Addr} {m : Str → Option Value} {Q : Unit → Shared → Prop} (hfr : A.frames = some (env :: l)) (hf : env.frame = some L) (hk : env.scope.kind = .function)
    (Fg : g.FunFrames base l) (F : Fr g L h m) (k : h.StaysIn s'.heap) (ne : h.get? e = none) (he : s'.heap.get? e = some (excO t1 (some dx)))
    (hQ : ∀ h', Heap.FlyingW (hideAll g (l.filterMap (·.frame))) l e (.ref 44) (.ref t1) h' → g.UpToSlots h' → Q () { s' with heap := h' }) :
    wpAny M A (leaving env (.ref e)) Q E s' := by
  have st : (hideAll g (l.filterMap (·.frame))).StaysIn s'.heap := fun b o q => k b o (F.keep b o (of_hideAll _ q))
  have hL : g.get? L = none := Heap.get?_none_of_le F.above
  have hL' : (hideAll g (l.filterMap (·.frame))).get? L = none := fresh_of_stays (fun b o q => of_hideAll _ q) hL
  have hen : (hideAll g (l.filterMap (·.frame))).get? e = none := fresh_of_stays (fun b o q => F.keep b o (of_hideAll _ q)) ne
  have fr : s'.heap.FunFrames (hideAll g (l.filterMap (·.frame))) (env :: l) :=
    .cons (by rw [hk]; decide) hf (F.keeps k).ns hL' (frames_keep (frames_hide Fg) fun b o q => k b o (F.keep b o q))
  refine wpAny_leaving_firstW hfr fr hf he st hen rfl rfl rfl fun h' hL => ?_
  obtain ⟨k1, ⟨_, _, k2⟩, k3, k4⟩ := hL
  exact hQ h' ⟨k1, hen, k2, k3⟩ ((Heap.UpToSlots.of_keeps fun b o q => k b o (F.keep b o q)).trans k4)
end

end Mine

namespace Mine

local macro_rules | `(tactic| k_room) => `(tactic| ((try simp only [depth_under_make, depth_under_kw, depth_in1, depth_deeper, depth_caller]); (try dsimp only [AA] at *); omega))
local macro_rules | `(tactic| k_inst) => `(tactic| (refine' instKeep ?a ?b; (case a => assumption); (case b => exact Fr.keep (by assumption))))

theorem va_some (kvs : List (Int × Value)) (k : Int) : (valueAt kvs k).isSome = decide (k ∈ kvs.map (·.1)) := by
  unfold valueAt
  rw [Option.isSome_map, Bool.eq_iff_iff, List.find?_isSome, decide_eq_true_iff, List.mem_map]
  simp only [decide_eq_true_eq]
theorem fst_take {tags : List Int} {vs : List Value} (h : tags.length ≤ vs.length) (i : Nat) : ((tags.zip vs).take i).map (·.1) = tags.take i := by
  rw [List.map_take, List.map_fst_zip h]
theorem dup_of_mem {tags : List Int} {i : Nat} {k : Int} (e : tags[i]? = some k) (hm : k ∈ tags.take i) : ¬ tags.Nodup := by
  intro h
  have hi := (List.getElem?_eq_some_iff.mp e).1
  rw [← List.take_append_drop i tags, List.drop_eq_getElem_cons hi, (List.getElem?_eq_some_iff.mp e).2, List.nodup_append] at h
  exact h.2.2 k hm k (.head _) rfl
theorem eq_of_tag : ∀ {rows : List (Int × Int)}, (rows.map (·.1)).Nodup → ∀ {r r' : Int × Int}, r ∈ rows → r' ∈ rows → r.1 = r'.1 → r = r'
  | [], _, _, _, h, _, _ => nomatch h
  | x :: rows, hn, r, r', h, h', e => by
    rw [List.map_cons, List.nodup_cons] at hn
    rcases List.mem_cons.mp h with e1 | h1
    · rcases List.mem_cons.mp h' with e2 | h2
      · rw [e1, e2]
      · exact absurd (List.mem_map.mpr ⟨r', h2, by rw [← e, e1]⟩) hn.1
    · rcases List.mem_cons.mp h' with e2 | h2
      · exact absurd (List.mem_map.mpr ⟨r, h1, by rw [e, e2]⟩) hn.1
      · exact eq_of_tag hn.2 h1 h2 e
theorem nodup_of_tags : ∀ {rows : List (Int × Int)}, (rows.map (·.1)).Nodup → rows.Nodup
  | [], _ => List.Pairwise.nil
  | x :: rows, hn => by
    rw [List.map_cons, List.nodup_cons] at hn
    exact List.nodup_cons.mpr ⟨fun h => hn.1 (List.mem_map.mpr ⟨x, h, rfl⟩), nodup_of_tags hn.2⟩
theorem perm_of_tags {rs rows : List (Int × Int)} (hn : (rows.map (·.1)).Nodup) (hp : (rs.map (·.1)).Perm (rows.map (·.1))) (hs : ∀ r ∈ rs, r ∈ rows) : rs.Perm rows := by
  have hn' : (rs.map (·.1)).Nodup := hp.nodup_iff.mpr hn
  refine (List.perm_ext_iff_of_nodup (nodup_of_tags hn') (nodup_of_tags hn)).mpr fun r => ⟨hs r, fun h => ?_⟩
  obtain ⟨r', h', e⟩ := List.mem_map.mp (hp.mem_iff.mpr (List.mem_map.mpr ⟨r, h, rfl⟩))
  rwa [← eq_of_tag hn (hs _ h') h e]
theorem EntriesAt.snoc {w : World} {h : Heap} {ys : List Value} {rs : List (Int × Int)} {a : Addr} {r : Int × Int} (R : EntriesAt w h ys rs) (I : IsEntry w h a r.1 r.2) : EntriesAt w h (ys ++ [.ref a]) (rs ++ [r]) := by
  refine ⟨by simp [R.len], fun i q e => ?_⟩
  by_cases hi : i < rs.length
  · rw [List.getElem?_append_left hi] at e
    obtain ⟨a', e1, e2⟩ := R.at_ i q e
    exact ⟨a', by rw [List.getElem?_append_left (R.len ▸ hi)]; exact e1, e2⟩
  · have hi' : i = rs.length := by
      have := (List.getElem?_eq_some_iff.mp e).1
      rw [List.length_append, List.length_singleton] at this; omega
    subst hi'
    simp at e
    subst e
    exact ⟨a, by rw [← R.len]; simp, I⟩
theorem valueAt_mem {kvs : List (Int × Value)} {k : Int} (h : k ∈ kvs.map (·.1)) : ∃ v, valueAt kvs k = some v ∧ (k, v) ∈ kvs := by
  have := va_some kvs k
  rw [decide_eq_true h] at this
  obtain ⟨v, hv⟩ := Option.isSome_iff_exists.mp this
  refine ⟨v, hv, ?_⟩
  unfold valueAt at hv
  obtain ⟨kv, h1, h2⟩ := Option.map_eq_some_iff.mp hv
  have h3 := List.mem_of_find?_eq_some h1
  have h4 : kv.1 = k := by simpa using List.find?_some h1
  rw [← h4, ← h2]; exact h3
theorem stored_new {kvs : List (Int × Value)} {k : Int} {v : Value} (h : k ∉ kvs.map (·.1)) : stored kvs k v = kvs ++ [(k, v)] := by
  unfold stored
  rw [if_neg]
  intro q
  obtain ⟨kv, hk, e⟩ := List.any_eq_true.mp q
  exact h (List.mem_map.mpr ⟨kv, hk, by simpa using e⟩)
theorem ints_at {vs : List Value} {ns : List Int} (h : IntsAre vs ns) : ∀ {j : Nat} {v : Value}, vs[j]? = some v → ∃ (k : Int) (t : Tok), ns[j]? = some k ∧ v = .int k t := by
  induction h with
  | nil => intro j v e; simp at e
  | cons n t h ih =>
    intro j v e
    cases j with
    | zero => exact ⟨n, t, rfl, by simpa using e.symm⟩
    | succ j => exact ih (by simpa using e)
theorem ints_of : ∀ {ns : List Int} {vs : List Value}, vs.length = ns.length → (∀ (j : Nat) (v : Value), vs[j]? = some v → ∃ (k : Int) (t : Tok), ns[j]? = some k ∧ v = .int k t) → IntsAre vs ns
  | [], [], _, _ => .nil
  | [], _ :: _, h, _ => by simp at h
  | _ :: _, [], h, _ => by simp at h
  | n :: ns, v :: vs, h, hv => by
    obtain ⟨k, t, e, rfl⟩ := hv 0 v rfl
    obtain rfl : n = k := by simpa using e
    exact .cons _ _ (ints_of (by simpa using h) fun j u hu => hv (j + 1) u (by simpa using hu))
section
variable {prog : Program} {w : World} {A : Around} {E : Value → Shared → Prop} {s : Shared}
theorem sorted_dict {h₀ : Heap} {L d : Addr} {m : Str → Option Value} {news : List (Addr × Obj)} {o : Obj} {kvs : List (Int × Value)} {Q : Value → Shared → Prop} (hh : A.handled = none) (F : Fr h₀ L s.heap m) (N : News h₀ L s.heap news) (hp : (d, o) ∈ news)
    (hd : o.IsDictOf (PySem.intKind prog w) kvs) (lo : (d == sysModules) = false) (hn : kvs.length < 64)
    (h : ∀ (D : Addr) (h' : Heap) (tk : Nat) (vs' : List Value) (ns' : List Int) (c : Nat), Fr h₀ L h' m → News h₀ L h' ((D, lst vs' c) :: news) → IntsAre vs' ns' → ns'.Perm (kvs.map (·.1)) → ns'.Pairwise (· ≤ ·) → Q (.ref D) { s with heap := h', toks := tk }) :
    wpAny (model prog w) A (call (.builtin "sorted") [.ref d]) Q E s := by
  obtain ⟨ep, hat⟩ := (kda_dict N hp hd).dictAt
  refine kdu_sorted (kdl_dict (knd := PySem.intKind prog w) (kvs := kvs) (ep := ep) lo) hh F N hat (by rw [sizeLine_eq]; omega) fun B h' tk vs F' N' l1 hl hv => ?_
  have hI : IntsAre vs (kvs.map (·.1)) := ints_of (by rw [hl, List.length_map]) fun j v e => by
    obtain ⟨k, x, hx, hk⟩ := hv j v e
    obtain ⟨t, rfl⟩ := PyProof.V.Flat.int_inv (kdl_flat_int hk)
    exact ⟨k, t, by rw [List.getElem?_map, hx]; rfl, rfl⟩
  refine ksk_lsort F' N' (fun o => Upd.head (fun p hp => Nat.ne_of_lt (l1 p hp))) rfl hI (by rw [List.length_map]; exact hn) fun vs' ns' c h'' F'' N'' i' _ p' o' _ => ?_
  exact h _ _ _ _ _ _ F'' N'' i' p' o'
end
set_option maxHeartbeats 4000000 in
theorem sorted_entries_spec {w : World} {mean : ExcName → Option Value} {mg mb : Str → Option Value} {base : Heap} {l : List Env} {dp un : Nat} {gd : Option (List Code)} {s : Shared} {Q E : Value → Shared → Prop}
    {le : Addr} {vs : List Value} {rows : List (Int × Int)}
    (C : Cx w mean mg mb (AA dp un gd l) base l s.heap) (hd : dp + 18 < recursionLimit) (hu : un + 180 < cLine)
    (hv : s.heap.IsList le vs.toArray) (hR : EntriesAt w s.heap vs rows) (hn : rows.length ≤ 20)
    (ret : ∀ h' tk D ys rows', s.heap.StaysIn h' → (rows.map (·.1)).Nodup → s.heap.get? D = none → h'.get? D = some (lst ys ys.length) → (∀ G, EntriesAt w G vs rows → EntriesAt w G ys rows') → rows'.Perm rows → (rows'.map (·.1)).Pairwise (· ≤ ·) → Q (.ref D) { s with heap := h', toks := tk })
    (exc : ∀ h' tk e t, ¬ (rows.map (·.1)).Nodup → Heap.FlyingW (hideAll s.heap (l.filterMap (·.frame))) l e (.ref 44) (.ref t) h' → s.heap.UpToSlots h' → E (.ref e) { s with heap := h', toks := tk }) :
    wpAny (model prg w) (AA dp un gd l) (call (.ref 93) [.ref le]) Q E s := by
  refine wpAny_call ?_
  k_dflt (refine' enterC (binds := [("entries", .ref le)]) C [] ?km ?k6 ?k7 ?k8 ?k9 ?kB ?kD ?_ ?c2 ?c3 ?c4; (case k6 => k_is); (case k7 => k_is); (case k8 => k_room); (case k9 => exact BindsTo.of_eq rfl); (case kB => exact rfl); (case kD => decide +kernel); (case c2 => exact rfl); (case c3 => exact rfl); (case c4 => exact rfl); (case km => exact fun _ h => nomatch h); k_whole)
  intro g L' h₁ tk₁ cells B' X' T' kg ks F' N' Y' l1
  have st : s.heap.StaysIn g := fun b o e => kg b o (by simp) e
  replace hv := isList_keeps hv st
  replace hR := hR.keeps st
  (try k_lt l1)
  k_cells Y'
  rename Obj => oc
  rename _ = Data.cell _ => hoc
  (try simp only [List.cons_append, List.nil_append] at N')
  (try dsimp only)
  (try k_fold)
  (repeat' (first | (k_unfold; (try dsimp only)) | ((fail_if_success (with_reducible show wpAny _ _ (exec (PySem.Stmt.For _ _ _ _ _) _) _ _ _)); (fail_if_success (with_reducible show wpAny _ _ (exec (PySem.Stmt.While _ _ _ _) _) _ _ _)); (fail_if_success (with_reducible show wpAny _ _ (pyIter _) _ _ _)); (fail_if_success (with_reducible show wpAny _ _ (eval (PySem.Expr.ListComp _ _ _ _) _) _ _ _)); (fail_if_success (with_reducible show wpAny _ _ (exec (PySem.Stmt.Assign _ (PySem.Expr.ListComp _ _ _ _) _) _) _ _ _)); (fail_if_success (with_reducible show wpAny _ _ (eval (PySem.Expr.Subscript _ (PySem.Expr.Slice _ _ _ _) _) _) _ _ _)); first | walk1 | (dsimp only; walk1) | (leave1; walk_say "STEP leave1"; try dsimp only)) | fail "no step"))
  rename_i D hA od hlo hs1 hf1 hdi hf2 hlt hB oc2 F₁ N₁ hoc2
  clear hs1 hf1 hf2
  ((rename Fr _ _ _ _ => lF'); (with_unfolding_all refine' For_invVF lF' ?k1 ?k2 ?_; (case k1 => exact rfl); (case k2 => exact rfl); k_whole))
  (repeat' (first | (k_unfold; (try dsimp only)) | ((fail_if_success (with_reducible show wpAny _ _ (exec (PySem.Stmt.For _ _ _ _ _) _) _ _ _)); (fail_if_success (with_reducible show wpAny _ _ (exec (PySem.Stmt.While _ _ _ _) _) _ _ _)); (fail_if_success (with_reducible show wpAny _ _ (pyIter _) _ _ _)); (fail_if_success (with_reducible show wpAny _ _ (eval (PySem.Expr.ListComp _ _ _ _) _) _ _ _)); (fail_if_success (with_reducible show wpAny _ _ (exec (PySem.Stmt.Assign _ (PySem.Expr.ListComp _ _ _ _) _) _) _ _ _)); (fail_if_success (with_reducible show wpAny _ _ (eval (PySem.Expr.Subscript _ (PySem.Expr.Slice _ _ _ _) _) _) _ _ _)); first | walk1 | (dsimp only; walk1) | (leave1; walk_say "STEP leave1"; try dsimp only)) | fail "no step"))
  refine (iter_stay (vs := vs) (news := [(D, od), (L' + 1, oc2)]) (fun i nw => ∃ od, nw = [(D, od), (L' + 1, oc2)] ∧ Obj.IsDictOf (intKind prg w) od (((rows.map (·.1)).zip vs).take i) ∧ ((rows.map (·.1)).take i).Nodup) ?h1 ?h2 ?h3 lF' N₁ ?h4 ?turn ?done)
  case h1 => exact rfl
  case h2 => exact isList_keeps hv lF'.keep
  case h3 => exact Nat.ne_of_gt (Nat.lt_of_lt_of_le (Heap.lt_size hv.choose_spec.1) lF'.above)
  case h4 => exact ⟨od, rfl, hdi, List.Pairwise.nil⟩
  case turn =>
    clear lF' N₁ hdi
    rintro i v news₁ h tk own oI hvi ⟨od₂, rfl, hdi, hnd⟩ hown hoI hoff hl' hownl F N
    obtain ⟨r, a, hr, rfl, hE⟩ := hR.get hvi
    obtain ⟨dx', lv, ta', tb', tc', t1', t2', t3', n', hI', hlv⟩ := hE
    have hDI : hB.objs.size ≠ D := Ne.symm (hoff _ (.head _))
    have hownD : ∀ p ∈ own, p.1 ≠ D := fun p hp q => by
      rcases hownl p hp with e | e
      · exact hDI (e.symm.trans q)
      · have := (N (D, od₂) (List.mem_append_right _ (.head _))).2.2
        obtain ⟨o, ho, _⟩ := hv
        rw [show D = le from q.symm.trans e, ho] at this; cases this
    have N₂ : News g L' h ((D, od₂) :: (L' + 1, oc2) :: own) := fun p hp => N p (by simp only [List.mem_cons, List.mem_append] at hp ⊢; rcases hp with h | h | h <;> simp [h])
    clear N
    (try dsimp only)
    (try k_fold)
    (repeat' (first | (k_unfold; (try dsimp only)) | ((fail_if_success (with_reducible show wpAny _ _ (exec (PySem.Stmt.For _ _ _ _ _) _) _ _ _)); (fail_if_success (with_reducible show wpAny _ _ (exec (PySem.Stmt.While _ _ _ _) _) _ _ _)); (fail_if_success (with_reducible show wpAny _ _ (pyIter _) _ _ _)); (fail_if_success (with_reducible show wpAny _ _ (eval (PySem.Expr.ListComp _ _ _ _) _) _ _ _)); (fail_if_success (with_reducible show wpAny _ _ (exec (PySem.Stmt.Assign _ (PySem.Expr.ListComp _ _ _ _) _) _) _ _ _)); (fail_if_success (with_reducible show wpAny _ _ (eval (PySem.Expr.Subscript _ (PySem.Expr.Slice _ _ _ _) _) _) _ _ _)); first | walk1 | (dsimp only; walk1) | (leave1; walk_say "STEP leave1"; try dsimp only)) | fail "no step"))
    have hlen : (rows.map (·.1)).length = vs.length := by rw [List.length_map, hR.len]
    have hfst := fst_take (Nat.le_of_eq hlen) i
    have hti : (rows.map (·.1))[i]? = some r.1 := by rw [List.getElem?_map, hr]; rfl
    by_cases hm : r.1 ∈ (rows.map (·.1)).take i
    · refine kda_in N₂ (.head _) hdi hlo (intKind_is _ _ _ _) true (by rw [va_some, hfst]; simpa using hm) ?_
      (repeat' (first | (k_unfold; (try dsimp only)) | ((fail_if_success (with_reducible show wpAny _ _ (exec (PySem.Stmt.For _ _ _ _ _) _) _ _ _)); (fail_if_success (with_reducible show wpAny _ _ (exec (PySem.Stmt.While _ _ _ _) _) _ _ _)); (fail_if_success (with_reducible show wpAny _ _ (pyIter _) _ _ _)); (fail_if_success (with_reducible show wpAny _ _ (eval (PySem.Expr.ListComp _ _ _ _) _) _ _ _)); (fail_if_success (with_reducible show wpAny _ _ (exec (PySem.Stmt.Assign _ (PySem.Expr.ListComp _ _ _ _) _) _) _ _ _)); (fail_if_success (with_reducible show wpAny _ _ (eval (PySem.Expr.Subscript _ (PySem.Expr.Slice _ _ _ _) _) _) _ _ _)); (fail_if_success (with_reducible show wpAny _ _ (call (Value.ref _) _) _ _ _)); (fail_if_success (with_reducible show wpAny _ _ (exec (PySem.Stmt.Raise _ _ _) _) _ _ _)); first | walk1 | (dsimp only; walk1) | (leave1; walk_say "STEP leave1"; try dsimp only)) | fail "no step"))
      k_dflt (refine seg_Raise rfl ?_)
      (repeat' (first | (k_unfold; (try dsimp only)) | ((fail_if_success (with_reducible show wpAny _ _ (exec (PySem.Stmt.For _ _ _ _ _) _) _ _ _)); (fail_if_success (with_reducible show wpAny _ _ (exec (PySem.Stmt.While _ _ _ _) _) _ _ _)); (fail_if_success (with_reducible show wpAny _ _ (pyIter _) _ _ _)); (fail_if_success (with_reducible show wpAny _ _ (eval (PySem.Expr.ListComp _ _ _ _) _) _ _ _)); (fail_if_success (with_reducible show wpAny _ _ (exec (PySem.Stmt.Assign _ (PySem.Expr.ListComp _ _ _ _) _) _) _ _ _)); (fail_if_success (with_reducible show wpAny _ _ (eval (PySem.Expr.Subscript _ (PySem.Expr.Slice _ _ _ _) _) _) _ _ _)); (fail_if_success (with_reducible show wpAny _ _ (call (Value.ref _) _) _ _ _)); (fail_if_success (with_reducible show wpAny _ _ (exec (PySem.Stmt.Raise _ _ _) _) _ _ _)); first | walk1 | (dsimp only; walk1) | (leave1; walk_say "STEP leave1"; try dsimp only)) | fail "no step"))
      · exact seg_at (X'.keeps F.keep)
      k_dflt (refine exc_spec (dp := dp + 1) (un := un + 3) (l := _ :: l) (Cx.inner B' C.X C.T F rfl rfl) (by omega) (by omega) ?_)
      intro h' tk' e t1 dx k ne he
      refine ⟨e, t1, dx, rfl, seg_at (X'.keeps fun b o q => k _ _ (F.keep _ _ q)), he, ?_⟩
      refine seg_leaves rfl rfl rfl (frames_keep C.B.frames st) F k ne he ?_
      intro h'' hfl hup
      refine exc _ _ _ _ ?_ (flyingW_base (hide_mono st _) hfl) ((Heap.UpToSlots.of_keeps st).trans hup)
      exact dup_of_mem hti hm
    · refine kda_in N₂ (.head _) hdi hlo (intKind_is _ _ _ _) false (by rw [va_some, hfst]; simpa using hm) ?_
      (repeat' (first | (k_unfold; (try dsimp only)) | ((fail_if_success (with_reducible show wpAny _ _ (exec (PySem.Stmt.For _ _ _ _ _) _) _ _ _)); (fail_if_success (with_reducible show wpAny _ _ (exec (PySem.Stmt.While _ _ _ _) _) _ _ _)); (fail_if_success (with_reducible show wpAny _ _ (pyIter _) _ _ _)); (fail_if_success (with_reducible show wpAny _ _ (eval (PySem.Expr.ListComp _ _ _ _) _) _ _ _)); (fail_if_success (with_reducible show wpAny _ _ (exec (PySem.Stmt.Assign _ (PySem.Expr.ListComp _ _ _ _) _) _) _ _ _)); (fail_if_success (with_reducible show wpAny _ _ (eval (PySem.Expr.Subscript _ (PySem.Expr.Slice _ _ _ _) _) _) _ _ _)); first | walk1 | (dsimp only; walk1) | (leave1; walk_say "STEP leave1"; try dsimp only)) | fail "no step"))
      k_dflt (refine kda_set F N₂ (UpdF.head fun p hp => ?_) hdi (intKind_is _ _ _ _) ?_ ?_)
      · rcases List.mem_cons.mp hp with rfl | hp
        · exact Nat.ne_of_lt hlt
        · exact hownD p hp
      · rw [List.length_take, sizeLine_eq]; rw [List.length_zip, ← hlen, List.length_map, Nat.min_self]; omega
      intro h' o' F₃ N₃ hdi'
      (repeat' (first | (k_unfold; (try dsimp only)) | ((fail_if_success (with_reducible show wpAny _ _ (exec (PySem.Stmt.For _ _ _ _ _) _) _ _ _)); (fail_if_success (with_reducible show wpAny _ _ (exec (PySem.Stmt.While _ _ _ _) _) _ _ _)); (fail_if_success (with_reducible show wpAny _ _ (pyIter _) _ _ _)); (fail_if_success (with_reducible show wpAny _ _ (eval (PySem.Expr.ListComp _ _ _ _) _) _ _ _)); (fail_if_success (with_reducible show wpAny _ _ (exec (PySem.Stmt.Assign _ (PySem.Expr.ListComp _ _ _ _) _) _) _ _ _)); (fail_if_success (with_reducible show wpAny _ _ (eval (PySem.Expr.Subscript _ (PySem.Expr.Slice _ _ _ _) _) _) _ _ _)); first | walk1 | (dsimp only; walk1) | (leave1; walk_say "STEP leave1"; try dsimp only)) | fail "no step"))
      refine LoopStepU.intro F₃ (fun p hp => N₃ p ?_) ?_ ⟨fun z hz => if_neg hz, o', rfl, ?_, ?_⟩
      · simp only [List.mem_cons, List.mem_append] at hp ⊢; rcases hp with h | h | h <;> simp_all
      · intro p hp q
        refine hoff (p.1, if p.1 = D then od₂ else oc2) ?_ (List.mem_singleton.mp q)
        simp only [List.mem_cons, List.not_mem_nil, or_false] at hp ⊢
        rcases hp with rfl | rfl
        · simp
        · right; rw [if_neg (Nat.ne_of_lt hlt)]
      · rw [stored_new (by rw [hfst]; exact hm)] at hdi'
        rwa [take_snoc (r := (r.1, .ref a)) (by rw [List.getElem?_zip_eq_some]; exact ⟨hti, hvi⟩)]
      · rw [take_snoc hti, List.nodup_append]
        refine ⟨hnd, by simp, ?_⟩
        intro x hx y hy q
        rw [List.mem_singleton.mp hy] at q
        exact hm (q ▸ hx)
  case done =>
    rintro u news₁ h tk ⟨od₂, rfl, hdi, hnd⟩ F N
    (try dsimp only)
    (try k_fold)
    (repeat' (first | (k_unfold; (try dsimp only)) | ((fail_if_success (with_reducible show wpAny _ _ (exec (PySem.Stmt.For _ _ _ _ _) _) _ _ _)); (fail_if_success (with_reducible show wpAny _ _ (exec (PySem.Stmt.While _ _ _ _) _) _ _ _)); (fail_if_success (with_reducible show wpAny _ _ (pyIter _) _ _ _)); (fail_if_success (with_reducible show wpAny _ _ (eval (PySem.Expr.ListComp _ _ _ _) _) _ _ _)); (fail_if_success (with_reducible show wpAny _ _ (exec (PySem.Stmt.Assign _ (PySem.Expr.ListComp _ _ _ _) _) _) _ _ _)); (fail_if_success (with_reducible show wpAny _ _ (eval (PySem.Expr.Subscript _ (PySem.Expr.Slice _ _ _ _) _) _) _ _ _)); (fail_if_success (with_reducible show wpAny _ _ (call (Value.ref _) _) _ _ _)); first | walk1 | (dsimp only; walk1) | (leave1; walk_say "STEP leave1"; try dsimp only)) | fail "no step"))
    have hlen : (rows.map (·.1)).length = vs.length := by rw [List.length_map, hR.len]
    rw [List.take_of_length_le (by rw [List.length_zip, hlen, Nat.min_self]; exact Nat.le_refl _)] at hdi
    rw [← hlen, List.take_length] at hnd
    k_dflt (refine list_comp F (by with_unfolding_all rfl) (by decide) rfl (by decide) ?_)
    (repeat' (first | (k_unfold; (try dsimp only)) | ((fail_if_success (with_reducible show wpAny _ _ (exec (PySem.Stmt.For _ _ _ _ _) _) _ _ _)); (fail_if_success (with_reducible show wpAny _ _ (exec (PySem.Stmt.While _ _ _ _) _) _ _ _)); (fail_if_success (with_reducible show wpAny _ _ (pyIter _) _ _ _)); (fail_if_success (with_reducible show wpAny _ _ (eval (PySem.Expr.ListComp _ _ _ _) _) _ _ _)); (fail_if_success (with_reducible show wpAny _ _ (exec (PySem.Stmt.Assign _ (PySem.Expr.ListComp _ _ _ _) _) _) _ _ _)); (fail_if_success (with_reducible show wpAny _ _ (eval (PySem.Expr.Subscript _ (PySem.Expr.Slice _ _ _ _) _) _) _ _ _)); (fail_if_success (with_reducible show wpAny _ _ (call (Value.ref _) _) _ _ _)); first | walk1 | (dsimp only; walk1) | (leave1; walk_say "STEP leave1"; try dsimp only)) | fail "no step"))
    k_dflt (refine sorted_dict rfl F N (.head _) hdi hlo ?_ ?_)
    · rw [List.length_zip, ← hlen, List.length_map, Nat.min_self]; omega
    intro S h₂ tk₂ vs' ns' c F₂ N₂ hI hp ho
    rw [List.map_fst_zip (Nat.le_of_eq hlen)] at hp
    clear F N
    (repeat' (first | (k_unfold; (try dsimp only)) | ((fail_if_success (with_reducible show wpAny _ _ (exec (PySem.Stmt.For _ _ _ _ _) _) _ _ _)); (fail_if_success (with_reducible show wpAny _ _ (exec (PySem.Stmt.While _ _ _ _) _) _ _ _)); (fail_if_success (with_reducible show wpAny _ _ (pyIter _) _ _ _)); (fail_if_success (with_reducible show wpAny _ _ (eval (PySem.Expr.ListComp _ _ _ _) _) _ _ _)); (fail_if_success (with_reducible show wpAny _ _ (exec (PySem.Stmt.Assign _ (PySem.Expr.ListComp _ _ _ _) _) _) _ _ _)); (fail_if_success (with_reducible show wpAny _ _ (eval (PySem.Expr.Subscript _ (PySem.Expr.Slice _ _ _ _) _) _) _ _ _)); (fail_if_success (with_reducible show wpAny _ _ (call (Value.ref _) _) _ _ _)); first | walk1 | (dsimp only; walk1) | (leave1; walk_say "STEP leave1"; try dsimp only)) | fail "no step"))
    refine ⟨S, vs'.toArray, _, _, fun i ys nw => nw = [(S, lst vs' c), (D, od₂), (L' + 1, oc2)] ∧ ∃ rs, (∀ G, EntriesAt w G vs rows → EntriesAt w G ys rs) ∧ rs.map (·.1) = ns'.take i ∧ ∀ r ∈ rs, r ∈ rows, rfl, rfl, F₂, N₂, ?_, ?_, ?_, ⟨rfl, [], fun G _ => ⟨rfl, fun i r e => by simp at e⟩, by simp, fun r h => nomatch h⟩, casg_name rfl rfl, ?_, ?_⟩
    · rw [List.size_toArray, hI.length, hp.length_eq, List.length_map, sizeLine_eq]; omega
    · rintro i ys nw ⟨rfl, _⟩
      exact .inr ⟨_, .head _, rfl, _, rfl⟩
    · rintro i ys nw ⟨_, rs, hE, hrs, _⟩
      have := congrArg List.length hrs
      rw [List.length_map, ← (hE g hR).len, List.length_take] at this
      omega
    · rintro i v ys nw I oI C₁ oC D₁ m₂ h tk E' hv ⟨rfl, rs, hE, hrs, hsub⟩ hC hm₂ F N off ne
      refine wpAny_tests_nil ?_
      simp only [if_true]
      (try k_fold)
      (repeat' (first | (k_unfold; (try dsimp only)) | ((fail_if_success (with_reducible show wpAny _ _ (exec (PySem.Stmt.For _ _ _ _ _) _) _ _ _)); (fail_if_success (with_reducible show wpAny _ _ (exec (PySem.Stmt.While _ _ _ _) _) _ _ _)); (fail_if_success (with_reducible show wpAny _ _ (pyIter _) _ _ _)); (fail_if_success (with_reducible show wpAny _ _ (eval (PySem.Expr.ListComp _ _ _ _) _) _ _ _)); (fail_if_success (with_reducible show wpAny _ _ (exec (PySem.Stmt.Assign _ (PySem.Expr.ListComp _ _ _ _) _) _) _ _ _)); (fail_if_success (with_reducible show wpAny _ _ (eval (PySem.Expr.Subscript _ (PySem.Expr.Slice _ _ _ _) _) _) _ _ _)); (fail_if_success (with_reducible show wpAny _ _ (call (Value.ref _) _) _ _ _)); first | walk1 | (dsimp only; walk1) | (leave1; walk_say "STEP leave1"; try dsimp only)) | fail "no step"))
      obtain ⟨k, t, hk, rfl⟩ := ints_at hI (by simpa using hv : vs'[i]? = some v)
      have hkm : k ∈ rows.map (·.1) := hp.mem_iff.mp (List.mem_of_getElem? hk)
      obtain ⟨x, hx, hxm⟩ := valueAt_mem (kvs := (rows.map (·.1)).zip vs) (k := k) (by rw [List.map_fst_zip (Nat.le_of_eq hlen)]; exact hkm)
      obtain ⟨j, hj, ej⟩ := List.getElem_of_mem hxm
      have hz : ((rows.map (·.1)).zip vs)[j]? = some (k, x) := by rw [List.getElem?_eq_getElem hj, ej]
      rw [List.getElem?_zip_eq_some] at hz
      obtain ⟨r, a, hr, rfl, hIe⟩ := hR.get hz.2
      have hrk : r.1 = k := by have := hz.1; rw [List.getElem?_map, hr] at this; exact Option.some.inj this
      k_dflt (refine kda_item N (.tail _ (.tail _ (.tail _ (.tail _ (.head _))))) hdi (intKind_is _ _ _ _) hx ?_)
      (repeat' (first | (k_unfold; (try dsimp only)) | ((fail_if_success (with_reducible show wpAny _ _ (exec (PySem.Stmt.For _ _ _ _ _) _) _ _ _)); (fail_if_success (with_reducible show wpAny _ _ (exec (PySem.Stmt.While _ _ _ _) _) _ _ _)); (fail_if_success (with_reducible show wpAny _ _ (pyIter _) _ _ _)); (fail_if_success (with_reducible show wpAny _ _ (eval (PySem.Expr.ListComp _ _ _ _) _) _ _ _)); (fail_if_success (with_reducible show wpAny _ _ (exec (PySem.Stmt.Assign _ (PySem.Expr.ListComp _ _ _ _) _) _) _ _ _)); (fail_if_success (with_reducible show wpAny _ _ (eval (PySem.Expr.Subscript _ (PySem.Expr.Slice _ _ _ _) _) _) _ _ _)); (fail_if_success (with_reducible show wpAny _ _ (call (Value.ref _) _) _ _ _)); first | walk1 | (dsimp only; walk1) | (leave1; walk_say "STEP leave1"; try dsimp only)) | fail "no step"))
      refine ⟨h, _, _, rfl, F, N, off, rfl, rs ++ [r], fun G hG => (hE G hG).snoc ?_, ?_, ?_⟩
      · obtain ⟨a', e1, e2⟩ := hG.at_ j r hr
        rw [hz.2] at e1
        obtain rfl : a = a' := Value.ref.inj (Option.some.inj e1)
        exact e2
      · rw [List.map_append, hrs, take_snoc hk, List.map_singleton, hrk]
      · intro q hq
        rcases List.mem_append.mp hq with hq | hq
        · exact hsub q hq
        · rw [List.mem_singleton.mp hq]; exact List.mem_of_getElem? hr
    · rintro D₁ ys nw s₂ ⟨rfl, rs, hE, hrs, hsub⟩ ⟨h, tk, rfl⟩ N off F
      (try dsimp only at N F ⊢)
      (try k_fold)
      (repeat' (first | (k_unfold; (try dsimp only)) | ((fail_if_success (with_reducible show wpAny _ _ (exec (PySem.Stmt.For _ _ _ _ _) _) _ _ _)); (fail_if_success (with_reducible show wpAny _ _ (exec (PySem.Stmt.While _ _ _ _) _) _ _ _)); (fail_if_success (with_reducible show wpAny _ _ (pyIter _) _ _ _)); (fail_if_success (with_reducible show wpAny _ _ (eval (PySem.Expr.ListComp _ _ _ _) _) _ _ _)); (fail_if_success (with_reducible show wpAny _ _ (exec (PySem.Stmt.Assign _ (PySem.Expr.ListComp _ _ _ _) _) _) _ _ _)); (fail_if_success (with_reducible show wpAny _ _ (eval (PySem.Expr.Subscript _ (PySem.Expr.Slice _ _ _ _) _) _) _ _ _)); (fail_if_success (with_reducible show wpAny _ _ (call (Value.ref _) _) _ _ _)); first | walk1 | (dsimp only; walk1) | (leave1; walk_say "STEP leave1"; try dsimp only)) | fail "no step"))
      rw [List.size_toArray, hI.length, List.take_length] at hrs
      have hst : s.heap.StaysIn h := fun b o e => F.keep b o (st b o e)
      refine ret _ _ D₁ ys rs hst hnd (fresh_of_stays st (N.fresh (.head _))) (N.get (.head _)) hE (perm_of_tags hnd (hrs ▸ hp) hsub) (hrs ▸ ho)

end Mine

namespace Mine
open Sem (wp)

local macro_rules | `(tactic| k_room) => `(tactic| ((try simp only [depth_under_make, depth_under_kw, depth_in1, depth_deeper, depth_caller]); (try dsimp only [AA] at *); omega))
local macro_rules | `(tactic| k_inst) => `(tactic| (refine' instKeep ?a ?b; (case a => assumption); (case b => exact Fr.keep (by assumption))))

def cut (h : Heap) (n : Nat) : Heap := ⟨h.objs.extract 0 n, h.life⟩
theorem cut_size (h : Heap) (n : Nat) : (cut h n).objs.size ≤ n := by
  show (h.objs.extract 0 n).size ≤ n
  rw [Array.size_extract]; omega
theorem cut_get {h : Heap} {n : Nat} {b : Addr} {o : Obj} (hb : @LT.lt Nat _ b n) (e : h.get? b = some o) : (cut h n).get? b = some o := by
  rw [Heap.get?_some_iff] at e ⊢
  refine ⟨?_, e.2⟩
  show (h.objs.extract 0 n)[b]? = some o
  rw [Array.getElem?_extract]
  have hs := (Array.getElem?_eq_some_iff.mp e.1).1
  rw [if_pos (by omega), Nat.zero_add]
  exact e.1
theorem of_cut {h : Heap} {n : Nat} {b : Addr} {o : Obj} (e : (cut h n).get? b = some o) : h.get? b = some o ∧ @LT.lt Nat _ b n := by
  rw [Heap.get?_some_iff] at e
  have e1 : (h.objs.extract 0 n)[b]? = some o := e.1
  rw [Array.getElem?_extract] at e1
  split at e1
  · rw [Nat.zero_add] at e1
    exact ⟨Heap.get?_some_iff.mpr ⟨e1, e.2⟩, by omega⟩
  · cases e1
theorem base_hide {base h : Heap} {l : List Env} (F : h.FunFrames base l) (k : base.StaysIn h) : base.StaysIn (hideAll h (l.filterMap (·.frame))) := fun b o q => hideAll_get _ (k b o q) fun hm => by
  rw [(F.mem hm).1] at q; cases q
section
variable {w : World} {A₀ : Around} {E : Value → Shared → Prop} {l : List Env} {mean : ExcName → Option Value} {mg mb : Str → Option Value}
theorem seg_caught {h : Heap} {s' : Shared} {L a e t : Addr} {name : Str} {scope : Scope} {cd : Value} {np pos : Pos} {b₀ : Stmt} {suite : List Stmt} {rest : List ExceptHandler} {Q : Flow → Shared → Prop} (hfr : A₀.frames = some l)
    (hfl : Heap.FlyingW (hideAll h ((envOf name scope L a cd :: l).filterMap (·.frame))) (envOf name scope L a cd :: l) e (.ref 44) (.ref t) s'.heap) (hup : h.UpToSlots s'.heap)
    (X : (Mine.hd.heap_39 w.params).In (hideAll h ((envOf name scope L a cd :: l).filterMap (·.frame))))
    (hname : ∀ (h' : Heap) (Q' : Value → Shared → Prop) (E' : Value → Shared → Prop), (hideAll h ((envOf name scope L a cd :: l).filterMap (·.frame))).StaysIn h' → h.UpToSlots h' → Q' (.ref 44) { s' with heap := h' } → wpAny (model prg w) ((A₀.deeper (envOf name scope L a cd)).mark (some (.ref e))) (eval (.Name "SegmentError" np) (envOf name scope L a cd)) Q' E' { s' with heap := h' })
    (hE : PassesOwnAt (model prg w) ((A₀.deeper (envOf name scope L a cd)).mark (some (.ref e))) (A₀.deeper (envOf name scope L a cd)) (envOf name scope L a cd) E)
    (k : ∀ h', (hideAll h ((envOf name scope L a cd :: l).filterMap (·.frame))).StaysIn h' → h.UpToSlots h' →
      wpAny (model prg w) ((A₀.deeper (envOf name scope L a cd)).mark (some (.ref e))) (execs (b₀ :: suite) (envOf name scope L a cd)) Q E { s' with heap := h' }) :
    wpAny (model prg w) (A₀.deeper (envOf name scope L a cd)) (noteFrame (.ref e) (envOf name scope L a cd))
      (fun _ s₂ => wpAny (model prg w) (A₀.deeper (envOf name scope L a cd)) (setFlight (.ref e) none) (fun _ s₃ =>
        wpAny (model prg w) (A₀.deeper (envOf name scope L a cd)) (handleBy (.ref e) (envOf name scope L a cd) (.ExceptHandler (some (.Name "SegmentError" np)) none (b₀ :: suite) pos :: rest)) Q E s₃) E s₂) E s' := by
  refine wpAny_looks_onW (Around.frames_deeper hfr) rfl hfl fun h₄ hheld₄ hsm₄ => ?_
  refine wpAny_landsW hheld₄ fun h₅ hheld hsm₅' => ?_
  have hsm₅ := hsm₄.trans hsm₅'
  obtain ⟨ob, hob, hobc⟩ := hheld.there
  refine wpAny_handleBy_cons (codeAny_handlers_test (hname _ _ _ hheld.1 (hup.trans hsm₅) ?_)) (by intro q; cases q)
  refine wpAny_excMatches_sub_self (seg_at (X.keeps hheld.1)) hob hobc (by decide +kernel) (codeAny_handlers_suite ?_)
  refine lands_againW hheld fun h₆ hfl₆ hsm₆ => ?_
  exact wpAny_passesOwnAt hE (k h₆ hfl₆.1 ((hup.trans hsm₅).trans hsm₆))
end
theorem RowsIn.snoc {en : List (Addr × Obj)} {zs : List Value} {rows : List (Int × Int)} (R : RowsIn en zs rows) {r : Int × Int} {a : Addr} {t1 t2 : Tok} {n : Nat} :
    RowsIn ((a, tup [.int r.1 t1, .int r.2 t2] n) :: en) (zs ++ [.ref a]) (rows ++ [r]) := by
  refine ⟨by simp [R.len], fun i q e => ?_⟩
  by_cases hi : i < rows.length
  · rw [List.getElem?_append_left hi] at e
    obtain ⟨a', u1, u2, n', e1, e2⟩ := R.at_ i q e
    exact ⟨a', u1, u2, n', by rw [List.getElem?_append_left (R.len ▸ hi)]; exact e1, .tail _ e2⟩
  · have hi' : i = rows.length := by
      have := (List.getElem?_eq_some_iff.mp e).1
      rw [List.length_append, List.length_singleton] at this; omega
    subst hi'
    simp at e
    subst e
    exact ⟨a, t1, t2, n, by rw [← R.len]; simp, .head _⟩
theorem news_mv1 {g h : Heap} {L : Addr} {a b c x : Addr × Obj} {en r : List (Addr × Obj)} (N : News g L h (x :: a :: b :: c :: (en ++ r))) : News g L h (a :: b :: c :: (x :: en ++ r)) := fun p hp => N p (by
  simp only [List.mem_cons, List.mem_append] at hp ⊢
  rcases hp with h | h | h | (h | h) | h <;> simp [h])
theorem RowsIn.reads {en : List (Addr × Obj)} {h : Heap} (N : ∀ p ∈ en, h.get? p.1 = some p.2) : ∀ {zs : List Value} {rows : List (Int × Int)}, RowsIn en zs rows → ∃ as, ReadsAll h zs (rows.map fun r => .tuple [.int r.1, .int r.2]) as
  | [], [], _ => ⟨_, .nil⟩
  | [], _ :: _, R => by have := R.len; simp at this
  | _ :: _, [], R => by have := R.len; simp at this
  | z :: zs, r :: rows, R => by
    obtain ⟨a, t1, t2, n, e1, e2⟩ := R.at_ 0 r rfl
    obtain rfl : z = .ref a := by simpa using e1
    obtain ⟨as, hr⟩ := RowsIn.reads N (zs := zs) (rows := rows) ⟨by have := R.len; simpa using this, fun i q e => R.at_ (i + 1) q (by simpa using e)⟩
    exact ⟨_, .cons (.tuple (N _ e2) rfl rfl (.cons (.int _ _) (.cons (.int _ _) .nil))) hr⟩
set_option maxHeartbeats 4000000 in
theorem told_spec {w : World} {mean : ExcName → Option Value} {mg mb : Str → Option Value} {base : Heap} {l : List Env} {dp un : Nat} {gd : Option (List Code)} {s : Shared} {Q E : Value → Shared → Prop}
    {le : Addr} {vs : List Value} {rows : List (Int × Int)}
    (C : Cx w mean mg mb (AA dp un gd l) base l s.heap) (hd : dp + 30 < recursionLimit) (hu : un + 240 < cLine)
    (hv : s.heap.IsList le vs.toArray) (hR : EntriesAt w s.heap vs rows) (hn : rows.length ≤ 20)
    (ret : ∀ h' tk t, (∀ b o, b ∉ l.filterMap (·.frame) → s.heap.get? b = some o → h'.get? b = some o) → s.heap.UpToSlots h' →
      ((¬ (rows.map (·.1)).Nodup ∧ ∃ as, Reads h' (.ref t) (.tuple []) as) ∨ ((rows.map (·.1)).Nodup ∧ ∃ rows' : List (Int × Int), rows'.Perm rows ∧ (rows'.map (·.1)).Pairwise (· ≤ ·) ∧ ∃ as, Reads h' (.ref t) (.tuple (.tuple [.str "all", .int 0] :: rows'.map fun r => .tuple [.int r.1, .int r.2])) as)) →
      Q (.ref t) { s with heap := h', toks := tk }) :
    wpAny (model prg w) (AA dp un gd l) (call (.ref 126) [.ref le]) Q E s := by
  refine wpAny_call ?_
  k_dflt (refine' enter (binds := [("entries", .ref le)]) C [] ?km ?k6 ?k7 ?k8 ?k9 ?kB ?_ ?c2 ?c3 ?c4 ?c5; (case k6 => k_is); (case k7 => k_is); (case k8 => k_room); (case k9 => exact BindsTo.of_eq rfl); (case c5 => decide); (case kB => exact locs rfl); (case c2 => exact rfl); (case c3 => exact rfl); (case c4 => exact rfl); (case km => exact fun _ h => nomatch h); k_whole)
  intro g L' h₁ B' X' T' kg ks F' N'
  have st : s.heap.StaysIn g := fun b o e => kg b o (by simp) e
  replace hv := isList_keeps hv st
  replace hR := hR.keeps st
  (try dsimp only)
  (try k_fold)
  (repeat' (first | (k_unfold; (try dsimp only)) | ((fail_if_success (with_reducible show wpAny _ _ (exec (PySem.Stmt.For _ _ _ _ _) _) _ _ _)); (fail_if_success (with_reducible show wpAny _ _ (exec (PySem.Stmt.While _ _ _ _) _) _ _ _)); (fail_if_success (with_reducible show wpAny _ _ (pyIter _) _ _ _)); (fail_if_success (with_reducible show wpAny _ _ (eval (PySem.Expr.ListComp _ _ _ _) _) _ _ _)); (fail_if_success (with_reducible show wpAny _ _ (exec (PySem.Stmt.Assign _ (PySem.Expr.ListComp _ _ _ _) _) _) _ _ _)); (fail_if_success (with_reducible show wpAny _ _ (eval (PySem.Expr.Subscript _ (PySem.Expr.Slice _ _ _ _) _) _) _ _ _)); (fail_if_success (with_reducible show wpAny _ _ (call (Value.ref _) _) _ _ _)); first | walk1 | (dsimp only; walk1) | (leave1; walk_say "STEP leave1"; try dsimp only)) | fail "no step"))
  rename Fr _ _ _ _ => F₁
  rename News _ _ _ _ => N₁
  k_dflt (refine sorted_entries_spec (dp := dp + 1) (un := un + 3) (l := _ :: l) (Cx.inner B' C.X C.T F₁ rfl rfl) (by omega) (by omega) (isList_keeps hv F₁.keep) (hR.keeps F₁.keep) hn ?_ ?_)
  · intro h' tk D ys rows' k hnd hDf hD hE hp ho
    have F₂ := F₁.keeps k
    have N₂ := news_new F₁ (N₁.grown k) hD hDf
    have hE' := hE g hR
    clear F₁ N₁
    (try dsimp only)
    (try k_fold)
    (repeat' (first | (k_unfold; (try dsimp only)) | ((fail_if_success (with_reducible show wpAny _ _ (exec (PySem.Stmt.For _ _ _ _ _) _) _ _ _)); (fail_if_success (with_reducible show wpAny _ _ (exec (PySem.Stmt.While _ _ _ _) _) _ _ _)); (fail_if_success (with_reducible show wpAny _ _ (pyIter _) _ _ _)); (fail_if_success (with_reducible show wpAny _ _ (eval (PySem.Expr.ListComp _ _ _ _) _) _ _ _)); (fail_if_success (with_reducible show wpAny _ _ (exec (PySem.Stmt.Assign _ (PySem.Expr.ListComp _ _ _ _) _) _) _ _ _)); (fail_if_success (with_reducible show wpAny _ _ (eval (PySem.Expr.Subscript _ (PySem.Expr.Slice _ _ _ _) _) _) _ _ _)); (fail_if_success (with_reducible show wpAny _ _ (call (Value.ref _) _) _ _ _)); first | walk1 | (dsimp only; walk1) | (leave1; walk_say "STEP leave1"; try dsimp only)) | fail "no step"))
    rename_i hA T0 hB lt1 P hC F₃ N₃ lt2
    k_dflt (refine list_comp F₃ (by with_unfolding_all rfl) (by decide) rfl (by decide) ?_)
    (repeat' (first | (k_unfold; (try dsimp only)) | ((fail_if_success (with_reducible show wpAny _ _ (exec (PySem.Stmt.For _ _ _ _ _) _) _ _ _)); (fail_if_success (with_reducible show wpAny _ _ (exec (PySem.Stmt.While _ _ _ _) _) _ _ _)); (fail_if_success (with_reducible show wpAny _ _ (pyIter _) _ _ _)); (fail_if_success (with_reducible show wpAny _ _ (eval (PySem.Expr.ListComp _ _ _ _) _) _ _ _)); (fail_if_success (with_reducible show wpAny _ _ (exec (PySem.Stmt.Assign _ (PySem.Expr.ListComp _ _ _ _) _) _) _ _ _)); (fail_if_success (with_reducible show wpAny _ _ (eval (PySem.Expr.Subscript _ (PySem.Expr.Slice _ _ _ _) _) _) _ _ _)); (fail_if_success (with_reducible show wpAny _ _ (call (Value.ref _) _) _ _ _)); first | walk1 | (dsimp only; walk1) | (leave1; walk_say "STEP leave1"; try dsimp only)) | fail "no step"))
    have N₄ : News g L' _ ([] ++ [(D, lst ys ys.length), (T0, tup [.str "all" tk, .int 0 (tk + 1)] 0), (P, lst [.ref T0] 0)]) := fun p hp => N₃ p (by simp only [List.nil_append, List.mem_cons, List.not_mem_nil, or_false] at hp ⊢; rcases hp with h | h | h <;> simp [h])
    have hyl : ys.length = rows.length := hE'.len.trans hp.length_eq
    refine ⟨D, ys.toArray, _, _, fun i zs nw => ∃ en, nw = en ++ [(D, lst ys ys.length), (T0, tup [.str "all" tk, .int 0 (tk + 1)] 0), (P, lst [.ref T0] 0)] ∧ RowsIn en zs (rows'.take i), rfl, rfl, F₃, N₄, ?_, ?_, ?_, ⟨[], rfl, rfl, fun i r e => by simp at e⟩, casg_name rfl rfl, ?_, ?_⟩
    · rw [List.size_toArray, hyl, sizeLine_eq]; omega
    · rintro i zs nw ⟨en, rfl, _⟩
      exact .inr ⟨_, List.mem_append_right _ (.head _), rfl, _, rfl⟩
    · rintro i zs nw ⟨en, _, hZ⟩
      have := hZ.len
      rw [List.length_take] at this
      omega
    · rintro i v zs nw I oI C₁ oC D₁ m₂ h tk₂ E' hv ⟨en, rfl, hZ⟩ hC hm₂ F N off ne
      obtain ⟨r, a, hr, rfl, dx', lv, ta', tb', tc', t1', t2', t3', n', hI', hlv⟩ := hE'.get (by simpa using hv : ys[i]? = some v)
      refine wpAny_tests_nil ?_
      simp only [if_true]
      (try k_fold)
      (repeat' (first | (k_unfold; (try dsimp only)) | ((fail_if_success (with_reducible show wpAny _ _ (exec (PySem.Stmt.For _ _ _ _ _) _) _ _ _)); (fail_if_success (with_reducible show wpAny _ _ (exec (PySem.Stmt.While _ _ _ _) _) _ _ _)); (fail_if_success (with_reducible show wpAny _ _ (pyIter _) _ _ _)); (fail_if_success (with_reducible show wpAny _ _ (eval (PySem.Expr.ListComp _ _ _ _) _) _ _ _)); (fail_if_success (with_reducible show wpAny _ _ (exec (PySem.Stmt.Assign _ (PySem.Expr.ListComp _ _ _ _) _) _) _ _ _)); (fail_if_success (with_reducible show wpAny _ _ (eval (PySem.Expr.Subscript _ (PySem.Expr.Slice _ _ _ _) _) _) _ _ _)); (fail_if_success (with_reducible show wpAny _ _ (call (Value.ref _) _) _ _ _)); first | walk1 | (dsimp only; walk1) | (leave1; walk_say "STEP leave1"; try dsimp only)) | fail "no step"))
      have hlv' : h.IsList lv #[.int r.2 t3'] := ⟨_, F.keep _ _ hlv, rfl, _, rfl⟩
      k_dflt (refine tail_any hlv'.typeIs slot_list_getitem.lookup (wpAny_getItem_list hlv' (by decide) (by decide) (x := .int r.2 t3') (by simp) ?_) (by with_unfolding_all rfl))
      (try dsimp only)
      (repeat' (first | (k_unfold; (try dsimp only)) | ((fail_if_success (with_reducible show wpAny _ _ (exec (PySem.Stmt.For _ _ _ _ _) _) _ _ _)); (fail_if_success (with_reducible show wpAny _ _ (exec (PySem.Stmt.While _ _ _ _) _) _ _ _)); (fail_if_success (with_reducible show wpAny _ _ (pyIter _) _ _ _)); (fail_if_success (with_reducible show wpAny _ _ (eval (PySem.Expr.ListComp _ _ _ _) _) _ _ _)); (fail_if_success (with_reducible show wpAny _ _ (exec (PySem.Stmt.Assign _ (PySem.Expr.ListComp _ _ _ _) _) _) _ _ _)); (fail_if_success (with_reducible show wpAny _ _ (eval (PySem.Expr.Subscript _ (PySem.Expr.Slice _ _ _ _) _) _) _ _ _)); (fail_if_success (with_reducible show wpAny _ _ (call (Value.ref _) _) _ _ _)); first | walk1 | (dsimp only; walk1) | (leave1; walk_say "STEP leave1"; try dsimp only)) | fail "no step"))
      rename_i T₁ hT F₅ N₅ l5
      refine ⟨_, _, (T₁, _) :: en ++ _, rfl, F₅, news_mv1 N₅, ?_, (T₁, _) :: en, rfl, ?_⟩
      · refine List.forall_mem_cons.mpr ⟨?_, off⟩
        exact ⟨Nat.ne_of_gt l5.1, Nat.ne_of_gt l5.2.1, Nat.ne_of_gt l5.2.2.1⟩
      · rw [take_snoc hr]
        exact hZ.snoc
    · rintro D₁ zs nw s₂ ⟨en, rfl, hZ⟩ ⟨h, tk₂, rfl⟩ N off F
      (try dsimp only at N F ⊢)
      (try k_fold)
      (repeat' (first | (k_unfold; (try dsimp only)) | ((fail_if_success (with_reducible show wpAny _ _ (exec (PySem.Stmt.For _ _ _ _ _) _) _ _ _)); (fail_if_success (with_reducible show wpAny _ _ (exec (PySem.Stmt.While _ _ _ _) _) _ _ _)); (fail_if_success (with_reducible show wpAny _ _ (pyIter _) _ _ _)); (fail_if_success (with_reducible show wpAny _ _ (eval (PySem.Expr.ListComp _ _ _ _) _) _ _ _)); (fail_if_success (with_reducible show wpAny _ _ (exec (PySem.Stmt.Assign _ (PySem.Expr.ListComp _ _ _ _) _) _) _ _ _)); (fail_if_success (with_reducible show wpAny _ _ (eval (PySem.Expr.Subscript _ (PySem.Expr.Slice _ _ _ _) _) _) _ _ _)); (fail_if_success (with_reducible show wpAny _ _ (call (Value.ref _) _) _ _ _)); first | walk1 | (dsimp only; walk1) | (leave1; walk_say "STEP leave1"; try dsimp only)) | fail "no step"))
      have hzl : zs.length = rows.length := by
        have := hZ.len
        rw [List.length_take, List.size_toArray, hyl, hp.length_eq, Nat.min_self] at this
        exact this
      rw [List.size_toArray, hyl, ← hp.length_eq, List.take_length] at hZ
      k_dflt (refine add_lists F N (vs := [.ref T0]) (ws := zs) ⟨_, N.get (.tail _ (List.mem_append_right _ (.tail _ (.tail _ (.head _))))), rfl, _, rfl⟩ ⟨_, N.get (.head _), rfl, _, rfl⟩ ?_ (by rw [hzl, List.length_singleton, sizeLine_eq]; omega))
      intro h₅ F₅ N₅
      (try dsimp only)
      (repeat' (first | (k_unfold; (try dsimp only)) | ((fail_if_success (with_reducible show wpAny _ _ (exec (PySem.Stmt.For _ _ _ _ _) _) _ _ _)); (fail_if_success (with_reducible show wpAny _ _ (exec (PySem.Stmt.While _ _ _ _) _) _ _ _)); (fail_if_success (with_reducible show wpAny _ _ (pyIter _) _ _ _)); (fail_if_success (with_reducible show wpAny _ _ (eval (PySem.Expr.ListComp _ _ _ _) _) _ _ _)); (fail_if_success (with_reducible show wpAny _ _ (exec (PySem.Stmt.Assign _ (PySem.Expr.ListComp _ _ _ _) _) _) _ _ _)); (fail_if_success (with_reducible show wpAny _ _ (eval (PySem.Expr.Subscript _ (PySem.Expr.Slice _ _ _ _) _) _) _ _ _)); (fail_if_success (with_reducible show wpAny _ _ (call (Value.ref _) _) _ _ _)); first | walk1 | (dsimp only; walk1) | (leave1; walk_say "STEP leave1"; try dsimp only)) | fail "no step"))
      rename Fr _ _ _ _ => F₅
      rename News _ _ _ _ => N₅
      obtain ⟨as, hrd⟩ := hZ.reads (fun p hp => N₅.get (.tail _ (.tail _ (.tail _ (List.mem_append_left _ hp)))))
      exact ret _ _ _ (fun b o _ q => F₅.keep b o (st b o q)) (Heap.UpToSlots.of_keeps fun b o q => F₅.keep b o (st b o q)) (.inr ⟨hnd, rows', hp, ho, _, .tuple (N₅.get (.head _)) rfl rfl (.cons (.tuple (N₅.get (.tail _ (.tail _ (.tail _ (List.mem_append_right _ (.tail _ (.head _))))))) rfl rfl (.cons (.str _ _) (.cons (.int _ _) .nil))) hrd)⟩)
  · intro h' tk e t hnn hfl hup
    have hBs : base.StaysIn (hideAll h₁ (L' :: l.filterMap (·.frame))) := (fun (P : Below ((AA dp un gd l).deeper (envOf "" ⟨.function, [], false, false, []⟩ L' 0 .none)) base (envOf "" ⟨.function, [], false, false, []⟩ L' 0 .none :: l) h₁) => base_hide P.frames P.stays) (pushX B' F₁ rfl rfl)
    have hbl : ∀ b o, base.get? b = some o → b < L' := fun b o q => Nat.lt_of_lt_of_le (Heap.lt_size (B'.stays b o q)) F₁.above
    have kF₁ := F₁.keep
    have aF₁ := F₁.above
    have hcut : ∀ h', (hideAll h₁ (L' :: l.filterMap (·.frame))).StaysIn h' → base.StaysIn (cut h' L') := fun h' k b o q => cut_get (hbl b o q) (k b o (hBs b o q))
    have FB : ∀ h', h₁.UpToSlots h' → Fr (cut h' L') L' h' _ := fun h' up => ⟨up.ns F₁.ns, fun b o e => (of_cut e).1, cut_size _ _⟩
    k_dflt (refine seg_caught C.B.stack hfl hup (C.X.keeps hBs) ?hname ?hE ?k)
    case hname =>
      intro h'' Q' E' k up hq
      have F₂ := FB _ up
      have XB : (Mine.hd.heap_39 w.params).In (cut h'' L') := C.X.keeps (hcut _ k)
      have TB : TT mean mg mb (cut h'' L') := Top.keeps C.T (hcut _ k)
      clear F₁ N₁ FB
      (repeat' (first | (k_unfold; (try dsimp only)) | ((fail_if_success (with_reducible show wpAny _ _ (exec (PySem.Stmt.For _ _ _ _ _) _) _ _ _)); (fail_if_success (with_reducible show wpAny _ _ (exec (PySem.Stmt.While _ _ _ _) _) _ _ _)); (fail_if_success (with_reducible show wpAny _ _ (pyIter _) _ _ _)); (fail_if_success (with_reducible show wpAny _ _ (eval (PySem.Expr.ListComp _ _ _ _) _) _ _ _)); (fail_if_success (with_reducible show wpAny _ _ (exec (PySem.Stmt.Assign _ (PySem.Expr.ListComp _ _ _ _) _) _) _ _ _)); (fail_if_success (with_reducible show wpAny _ _ (eval (PySem.Expr.Subscript _ (PySem.Expr.Slice _ _ _ _) _) _) _ _ _)); (fail_if_success (with_reducible show wpAny _ _ (call (Value.ref _) _) _ _ _)); first | walk1 | (dsimp only; walk1) | (leave1; walk_say "STEP leave1"; try dsimp only)) | fail "no step"))
      exact hq
    case hE => with_unfolding_all passes_own
    case k =>
      intro h'' k up
      have F₂ := FB _ up
      have N₂ : News (cut h'' L') L' h'' [] := fun _ h => nomatch h
      have XB : (Mine.hd.heap_39 w.params).In (cut h'' L') := C.X.keeps (hcut _ k)
      have TB : TT mean mg mb (cut h'' L') := Top.keeps C.T (hcut _ k)
      clear F₁ N₁ FB
      (try dsimp only)
      (try k_fold)
      (repeat' (first | (k_unfold; (try dsimp only)) | ((fail_if_success (with_reducible show wpAny _ _ (exec (PySem.Stmt.For _ _ _ _ _) _) _ _ _)); (fail_if_success (with_reducible show wpAny _ _ (exec (PySem.Stmt.While _ _ _ _) _) _ _ _)); (fail_if_success (with_reducible show wpAny _ _ (pyIter _) _ _ _)); (fail_if_success (with_reducible show wpAny _ _ (eval (PySem.Expr.ListComp _ _ _ _) _) _ _ _)); (fail_if_success (with_reducible show wpAny _ _ (exec (PySem.Stmt.Assign _ (PySem.Expr.ListComp _ _ _ _) _) _) _ _ _)); (fail_if_success (with_reducible show wpAny _ _ (eval (PySem.Expr.Subscript _ (PySem.Expr.Slice _ _ _ _) _) _) _ _ _)); (fail_if_success (with_reducible show wpAny _ _ (call (Value.ref _) _) _ _ _)); first | walk1 | (dsimp only; walk1) | (leave1; walk_say "STEP leave1"; try dsimp only)) | fail "no step"))
      rename Fr _ _ _ _ => F₃
      rename News _ _ _ _ => N₃
      have hgl : ∀ b o, s.heap.get? b = some o → b < L' := fun b o q => Nat.lt_of_lt_of_le (Heap.lt_size (st b o q)) aF₁
      refine ret _ _ _ (fun b o hb q => F₃.keep b o (cut_get (hgl b o q) (k b o (hideAll_get _ (kF₁ b o (st b o q)) fun hm => ?_)))) (fun b o q hnf => ?_) (.inl ⟨hnn, _, .tuple (N₃.get (.head _)) rfl rfl .nil⟩)
      · rcases List.mem_cons.mp hm with rfl | hm
        · exact absurd (hgl _ o q) (Nat.lt_irrefl _)
        · exact hb hm
      · obtain ⟨sl, e⟩ := up b o (kF₁ b o (st b o q)) hnf
        exact ⟨sl, F₃.keep _ _ (cut_get (hgl b o q) e)⟩

end Mine

namespace Mine
open Sem (wp)
open AutoSeq1 (wpAny_loadPart')
open MeetsSeq MeetsSeq2 MeetsSeq3
theorem eqBool_ne {prog : Program} {w : World} {A : Around} {E : Value → Shared → Prop} {s : Shared} {a b : Int} (hne : a ≠ b) {t u : Tok} {Q : Bool → Shared → Prop} (h : Q false s) :
    wpAny (model prog w) A (eqBool (.int a t) (.int b u)) Q E s := wpAny_eqBool_int (by rw [show (a == b) = false by simpa using hne]; exact h)
theorem rc_lt_int {prog : Program} {w : World} {A : Around} {E : Value → Shared → Prop} {s : Shared} {a b : Int} {t u : Tok} {Q : Value → Shared → Prop} (h : Q (.bool (decide (a < b))) s) :
    wpAny (model prog w) A (richCompare .Lt (.int a t) (.int b u)) Q E s := wpAny_lt_int h
set_option maxHeartbeats 4000000 in
theorem tuple_ltAt (l b : Addr) (a c v v' : Int) (t1 t2 u1 u2 : Tok) (n n2 : Nat) (hne : a ≠ c) :
    Meets (Builtin.«tuple.__lt__» ⟨[.ref l, .ref b], []⟩)
      (fun _ R s => s.heap.get? l = some (tup [.int a t1, .int v t2] n) ∧ s.heap.get? b = some (tup [.int c u1, .int v' u2] n2) ∧ R (.ok (.ret (.bool (decide (a < c))))) s) :=
  .of_wp fun prog w A R s h => by
    obtain ⟨hp, g, d, tk, os⟩ := s; obtain ⟨hl, hb, h⟩ := h
    have f2 := AutoSeq1.sub_tuple_tuple
    wp_walk using wpAny_loadPart' hl, wpAny_loadPart' hb, eqBool_ne hne, rc_lt_int
    exact ⟨_, rfl, h⟩
theorem rc_lt_tup {prog : Program} {w : World} {A : Around} {E : Value → Shared → Prop} {s : Shared} {l b : Addr} {a c v v' : Int} {t1 t2 u1 u2 : Tok} {n n2 : Nat} {Q : Value → Shared → Prop}
    (hl : s.heap.get? l = some (tup [.int a t1, .int v t2] n)) (hb : s.heap.get? b = some (tup [.int c u1, .int v' u2] n2)) (hne : a ≠ c) (hu : A.units < cLine) (h : Q (.bool (decide (a < c))) s) :
    wpAny (model prog w) A (richCompare .Lt (.ref l) (.ref b)) Q E s :=
  richCompare_meets_room (op := .Lt) ⟨_, hl, rfl⟩ ⟨_, hb, rfl⟩ F.slot_tuple_lt F.entry_tuple_lt (F.args_tuple_lt_2 _ _) (tuple_ltAt l b a c v v' t1 t2 u1 u2 n n2 hne)
    ⟨hl, hb, show Value.bool (decide (a < c)) ≠ Value.notImplemented ∧ Q (.bool (decide (a < c))) s from ⟨(fun x => nomatch x), h⟩⟩ hu

end Mine

namespace Mine
open Sem (wp)

section
variable {prog : Program} {w : World} {A : Around} {R : Result → Shared → Prop} {I : Addr} {fp wr : List Addr} {n : Nat} {P : Nat → Value → Prop} {St : Nat → Heap → Prop} {g : Heap}
def CmpAt (prog : Program) (w : World) (A : Around) (g : Heap) (P : Nat → Value → Prop) (bt : Nat → Nat → Bool) : Prop :=
  ∀ i j vi vj (s : Shared) (Q : Value → Shared → Prop) (E : Value → Shared → Prop), i ≠ j → P i vi → P j vj → g.StaysIn s.heap → Q (.bool (bt i j)) s → wpAny (model prog w) A (richCompare .Lt vi vj) Q E s
theorem best_le (bt : Nat → Nat → Bool) : ∀ k, argBest bt k ≤ k
  | 0 => Nat.le_refl _
  | k + 1 => by
    unfold argBest
    split
    · exact Nat.le_refl _
    · exact Nat.le_succ_of_le (best_le bt k)
theorem min_loop_at (W : Walks prog w A.in1 I fp wr n P St) (bt : Nat → Nat → Bool) (hcmp : CmpAt prog w A.in1 g P bt) (S : Addr) (hSf : S ∉ fp) (hgw : ∀ b ∈ wr, g.get? b = none) (hgS : g.get? S = none) :
    ∀ (k j : Nat) (s : Shared) (vb : Value) (c : Nat), n - (j + 1) = k → j + 1 ≤ n → St (j + 1) s.heap → P (argBest bt j) vb → g.StaysIn s.heap →
    s.heap.get? S = some { cls := .type "list", dict := none, data := .seq #[vb, vb] c, slots := #[] } →
    (∀ v h' tk, P (argBest bt (n - 1)) v → (∀ b o, b ∉ wr → b ≠ S → s.heap.get? b = some o → h'.get? b = some o) → R (.ok (.ret v)) { s with heap := h', toks := tk }) →
    codeAny (model prog w) A (.builtin "min.loop" ⟨[.ref I, .none, .ref S], []⟩) R s := by
  have hSw : S ∉ wr := fun h => hSf (W.sub _ h)
  have hname : (toString "min" ++ toString ".loop" : String) = "min.loop" := by decide
  have hgn : ∀ b o, g.get? b = some o → b ∉ wr ∧ b ≠ S := fun b o e => ⟨(fun hb => by rw [hgw b hb] at e; cases e), (fun hb => by rw [hb, hgS] at e; cases e)⟩
  intro k
  induction k with
  | zero =>
    intro j s vb c hk hj hst hPb hg hS hR
    have hin : j + 1 = n := by omega
    refine codeAny_builtin F.entry_min_loop ?_
    rw [Around.under_plainId F.plain_min_loop _]
    show wpAny _ A.in1 (seqItems? (.ref S) >>= _) _ _ s
    refine wpAny_bind (wpAny_seqItems hS rfl ?_)
    show wpAny _ A.in1 (tryCatch (pyNext (.ref I)) _ >>= _) _ _ s
    refine wpAny_bind (wpAny_tryCatch (W.done s _ _ (hin ▸ hst) fun h' tk hk' => ?_))
    have hS' := hk' S _ hSw hS
    show wpAny _ A.in1 (updateSeq S (fun _ => #[]) >>= _) _ _ _
    refine wpAny_bind ?_
    refine wpAny_updateSeq hS' rfl (wpAny_bind (wpAny_letGo (wpAny_pure ?_)))
    refine hR vb _ tk (by rw [← hin]; exact hPb) fun b o hbw hbS e => (Heap.get?_update_other _ _ (Ne.symm hbS)).trans (hk' b o hbw e)
  | succ k ih =>
    intro j s vb c hk hj hst hPb hg hS hR
    have hlt : j + 1 < n := by omega
    refine codeAny_builtin F.entry_min_loop ?_
    rw [Around.under_plainId F.plain_min_loop _]
    show wpAny _ A.in1 (seqItems? (.ref S) >>= _) _ _ s
    refine wpAny_bind (wpAny_seqItems hS rfl ?_)
    show wpAny _ A.in1 (tryCatch (pyNext (.ref I)) _ >>= _) _ _ s
    refine wpAny_bind (wpAny_tryCatch (W.item (j + 1) s _ _ hlt hst fun v h' tk hP hst' hk' => ?_))
    have hS' := hk' S _ hSw hS
    have hg' : g.StaysIn h' := fun b o e => hk' b o (hgn b o e).1 (hg b o e)
    show wpAny _ A.in1 (tryCatch (holding [v, v] (richCompare .Lt v vb >>= _)) _ >>= _) _ _ _
    refine wpAny_bind (wpAny_tryCatch (wpAny_holding (wpAny_bind (hcmp (j + 1) (argBest bt j) v vb _ _ _ (Nat.ne_of_gt (Nat.lt_succ_of_le (best_le bt j))) hP hPb hg' ?_))))
    refine wpAny_bind (wpAny_holding (wpAny_truthy_bool ?_))
    refine wpAny_bind (wpAny_letGo (wpAny_pure ?_))
    cases hb : bt (j + 1) (argBest bt j) with
    | true =>
      simp only [if_true]
      refine wpAny_bind ?_
      refine wpAny_updateSeq hS' rfl (wpAny_bind (wpAny_letGo ?_))
      rw [hname]
      refine wpAny_pure ⟨plainId_quiet F.plain_min_loop _, ih (j + 1) _ v _ (by omega) hlt (W.frame _ _ _ hst' fun b hbf o e => ?_) (by simp only [argBest, hb, if_true]; exact hP) (fun b o e => (Heap.get?_update_other _ _ (Ne.symm (hgn b o e).2)).trans (hg' b o e)) (Heap.get?_update_self _ hS' rfl)
        fun v' h'' tk'' hP' hk'' => ?_⟩
      · exact (Heap.get?_update_other _ _ (fun h : S = b => hSf (by rw [h]; exact hbf))).trans e
      · exact hR v' h'' tk'' hP' fun b o hbw hbS e => hk'' b o hbw hbS ((Heap.get?_update_other _ _ (Ne.symm hbS)).trans (hk' b o hbw e))
    | false =>
      simp only [Bool.false_eq_true, if_false]
      refine wpAny_bind (wpAny_letGo ?_)
      rw [hname]
      refine wpAny_pure ⟨plainId_quiet F.plain_min_loop _, ih (j + 1) _ vb c (by omega) hlt hst' (by simp only [argBest, hb, Bool.false_eq_true, if_false]; exact hPb) hg' hS' fun v' h'' tk'' hP' hk'' => ?_⟩
      exact hR v' h'' tk'' hP' fun b o hbw hbS e => hk'' b o hbw hbS (hk' b o hbw e)
theorem min_loop_first (W : Walks prog w A.in1 I fp wr n P St) (bt : Nat → Nat → Bool) (hcmp : CmpAt prog w A.in1 g P bt) (S : Addr) (hSf : S ∉ fp) (hgw : ∀ b ∈ wr, g.get? b = none) (hgS : g.get? S = none) (hn : 0 < n) {s : Shared} {c : Nat} (hst : St 0 s.heap) (hg : g.StaysIn s.heap)
    (hS : s.heap.get? S = some { cls := .type "list", dict := none, data := .seq #[] c, slots := #[] })
    (hR : ∀ v h' tk, P (argBest bt (n - 1)) v → (∀ b o, b ∉ wr → b ≠ S → s.heap.get? b = some o → h'.get? b = some o) → R (.ok (.ret v)) { s with heap := h', toks := tk }) :
    codeAny (model prog w) A (.builtin "min.loop" ⟨[.ref I, .none, .ref S], []⟩) R s := by
  have hSw : S ∉ wr := fun h => hSf (W.sub _ h)
  have hname : (toString "min" ++ toString ".loop" : String) = "min.loop" := by decide
  have hgn : ∀ b o, g.get? b = some o → b ∉ wr ∧ b ≠ S := fun b o e => ⟨(fun hb => by rw [hgw b hb] at e; cases e), (fun hb => by rw [hb, hgS] at e; cases e)⟩
  refine codeAny_builtin F.entry_min_loop ?_
  rw [Around.under_plainId F.plain_min_loop _]
  show wpAny _ A.in1 (seqItems? (.ref S) >>= _) _ _ s
  refine wpAny_bind (wpAny_seqItems hS rfl ?_)
  show wpAny _ A.in1 (tryCatch (pyNext (.ref I)) _ >>= _) _ _ s
  refine wpAny_bind (wpAny_tryCatch (W.item 0 s _ _ hn hst fun v h' tk hP hst' hk' => ?_))
  have hS' := hk' S _ hSw hS
  show wpAny _ A.in1 (updateSeq S (fun _ => #[v, v]) >>= _) _ _ _
  refine wpAny_bind ?_
  refine wpAny_updateSeq hS' rfl ?_
  rw [hname]
  refine wpAny_pure ⟨plainId_quiet F.plain_min_loop _, min_loop_at W bt hcmp S hSf hgw hgS _ 0 _ v _ rfl hn (W.frame _ _ _ hst' fun b hbf o e => ?_) hP (fun b o e => (Heap.get?_update_other _ _ (Ne.symm (hgn b o e).2)).trans (hk' b o (hgn b o e).1 (hg b o e))) (Heap.get?_update_self _ hS' rfl) fun v' h'' tk'' hP' hk'' => ?_⟩
  · exact (Heap.get?_update_other _ _ (fun h : S = b => hSf (by rw [h]; exact hbf))).trans e
  · exact hR v' h'' tk'' hP' fun b o hbw hbS e => hk'' b o hbw hbS ((Heap.get?_update_other _ _ (Ne.symm hbS)).trans (hk' b o hbw e))
end
section
variable {prog : Program} {w : World} {A : Around} {E : Value → Shared → Prop} {s : Shared}
theorem min_at {g : Heap} {l : Addr} {its : Array Value} {bt : Nat → Nat → Bool} {Q : Value → Shared → Prop} (hh : A.handled = none) (hl : s.heap.IsList l its) (hn : 0 < its.size) (hg : g.StaysIn s.heap)
    (hcmp : CmpAt prog w A.in1 g (fun i v => its[i]? = some v) bt)
    (h : ∀ v h' tk, its[argBest bt (its.size - 1)]? = some v → (∀ b o, s.heap.get? b = some o → h'.get? b = some o) → Q v { s with heap := h', toks := tk }) :
    wpAny (model prog w) A (call (.builtin "min") [.ref l]) Q E s := by
  have hname : (toString "min" ++ toString ".loop" : String) = "min.loop" := by decide
  obtain ⟨ol, hol, _⟩ := id hl
  have hlt : l < s.heap.objs.size := Heap.lt_size hol
  refine call_function_tree F.kind_min F.plain_min F.entry_min (F.args_min1 _) ?_
  show wpAny _ A.in1 (Builtin.Builtins.bindParams "min" ["key", "default"] 0 ⟨[], []⟩ >>= _) _ _ s
  refine wpAny_bind (wpAny_of_eq (show Builtin.Builtins.bindParams "min" ["key", "default"] 0 ⟨[], []⟩ = pure [none, none] from rfl) ?_)
  refine wpAny_bind (wpAny_pure ?_)
  refine wpAny_bind (wpAny_pyIter_list hl ?_)
  have W := Walks.list (prog := prog) (w := w) (A := A.in1) hh s.heap.objs.size l (Nat.ne_of_lt hlt) its
  have up : ∀ b o, s.heap.get? b = some o → (s.heap.push { cls := .type "list_iterator", data := .fields #[.ref l, .int 0 0] }).get? b = some o := fun b o e => Heap.get?_push_of_some _ e
  have hgI : g.get? s.heap.objs.size = none := by
    cases q : g.get? s.heap.objs.size with
    | none => rfl
    | some o => exact absurd (Heap.lt_size (hg _ o q)) (Nat.lt_irrefl _)
  have hgS : g.get? (s.heap.objs.size + 1) = none := by
    cases q : g.get? (s.heap.objs.size + 1) with
    | none => rfl
    | some o => exact absurd (Heap.lt_size (hg _ o q)) (Nat.not_lt.mpr (Nat.le_succ _))
  refine wpAny_bind (wpAny_newObj_type ?_)
  rw [hname]
  have up2 : ∀ (o' : Obj) b o, (s.heap.push { cls := .type "list_iterator", data := .fields #[.ref l, .int 0 0] }).get? b = some o → ((s.heap.push { cls := .type "list_iterator", data := .fields #[.ref l, .int 0 0] }).push o').get? b = some o := fun o' b o e => Heap.get?_push_of_some _ e
  have hsz : (s.heap.push { cls := .type "list_iterator", data := .fields #[.ref l, .int 0 0] }).objs.size = s.heap.objs.size + 1 := Heap.size_push _ _
  have hl2 : ((s.heap.push { cls := .type "list_iterator", data := .fields #[.ref l, .int 0 0] }).push { cls := .type "list", data := .seq ([] : List Value).toArray }).IsList l its := hl.at fun o e => up2 _ _ o (up _ o e)
  have hit : (s.heap.push { cls := .type "list_iterator", data := .fields #[.ref l, .int 0 0] }).IsListIter s.heap.objs.size l 0 := ⟨_, Heap.get?_push_size _ rfl, rfl, rfl⟩
  refine wpAny_pure ⟨plainId_quiet F.plain_min_loop _, min_loop_first (g := g) (A := A) W bt hcmp (s.heap.push { cls := .type "list_iterator", data := .fields #[.ref l, .int 0 0] }).objs.size ?_ ?_ ?_ hn ⟨hit.at fun o e => up2 _ _ o e, hl2⟩ (fun b o e => up2 _ b o (up b o (hg b o e))) (Heap.get?_push_size _ rfl) fun v h' tk hP hk => ?_⟩
  · rw [hsz]
    intro hm
    rcases List.mem_cons.mp hm with e | hm
    · exact absurd e (Nat.succ_ne_self _)
    · have := List.mem_singleton.mp hm
      exact absurd hlt (Nat.not_lt.mpr (Nat.le_trans (Nat.le_succ _) (Nat.le_of_eq this)))
  · intro b hb
    rw [List.mem_singleton.mp hb]; exact hgI
  · rw [hsz]; exact hgS
  · refine h v h' tk hP fun b o e => hk b o ?_ ?_ (up2 _ b o (up b o e))
    · intro hb
      rw [List.mem_singleton.mp hb] at e
      exact absurd (Heap.lt_size e) (Nat.lt_irrefl _)
    · rw [hsz]; exact Nat.ne_of_lt (Nat.lt_succ_of_lt (Heap.lt_size e))
end

end Mine

namespace Mine
open PySem.SeqAt
theorem lay_rows : ∀ rows : List (Int × Int), PyData.canLayAll0 (rows.map fun r => PyData.tuple [.int r.1, .int r.2]) = true
  | [] => rfl
  | r :: rows => by
    rw [List.map_cons, PyData.canLayAll0, lay_rows rows]
    rfl
theorem dep_rows : ∀ rows : List (Int × Int), PyData.depthAll (rows.map fun r => PyData.tuple [.int r.1, .int r.2]) ≤ 1
  | [] => Nat.zero_le _
  | r :: rows => by
    rw [List.map_cons, PyData.depthAll]
    exact Nat.max_le.mpr ⟨Nat.le_refl 1, dep_rows rows⟩
theorem shaped_list (rows : List (Int × Int)) : shaped (.list (rows.map fun r => PyData.tuple [.int r.1, .int r.2])) = true := by
  unfold shaped
  rw [PyData.canLay0, lay_rows, PyData.depth]
  have := dep_rows rows
  simp only [Bool.true_and, decide_eq_true_eq]
  omega
theorem shaped_all (rows : List (Int × Int)) : shaped (.tuple (.tuple [.str "all", .int 0] :: rows.map fun r => PyData.tuple [.int r.1, .int r.2])) = true := by
  unfold shaped
  rw [PyData.canLay0, PyData.canLayAll0, lay_rows, PyData.depth, PyData.depthAll]
  have := dep_rows rows
  rw [show PyData.canLay0 (.tuple [.str "all", .int 0]) = true from by decide +kernel, show PyData.depth (.tuple [.str "all", .int 0]) = 1 from rfl]
  simp only [Bool.true_and, decide_eq_true_eq]
  omega
theorem shaped_row (a b : Int) : shaped (.tuple [.int a, .int b]) = true := rfl
theorem eqv_row (a b c d : Int) : PyData.eqv (.tuple [.int a, .int b]) (.tuple [.int c, .int d]) = decide ((a, b) = (c, d)) := by
  simp only [PyData.eqv, PyData.eqvAll, Bool.and_true]
  rw [Bool.eq_iff_iff]
  simp
theorem eqv_rows : ∀ rows : List (Int × Int), PyData.eqvAll (rows.map fun r => PyData.tuple [.int r.1, .int r.2]) (rows.map fun r => PyData.tuple [.int r.1, .int r.2]) = true
  | [] => rfl
  | r :: rows => by
    rw [List.map_cons, PyData.eqvAll, eqv_rows rows, eqv_row]
    simp
theorem eqv_all (rows : List (Int × Int)) : PyData.eqv (.tuple (.tuple [.str "all", .int 0] :: rows.map fun r => PyData.tuple [.int r.1, .int r.2])) (.tuple (.tuple [.str "all", .int 0] :: rows.map fun r => PyData.tuple [.int r.1, .int r.2])) = true := by
  rw [PyData.eqv, PyData.eqvAll, eqv_rows]
  decide +kernel
theorem same_rows : ∀ {a b : List (Int × Int)}, (a.map (·.1)).Nodup → a.Perm b → (a.map (·.1)).Pairwise (· ≤ ·) → (b.map (·.1)).Pairwise (· ≤ ·) → a = b
  | [], b, _, p, _, _ => p.nil_eq
  | x :: xs, [], _, p, _, _ => absurd p.length_eq (by simp)
  | x :: xs, y :: ys, hn, p, ha, hb => by
    rw [List.map_cons, List.pairwise_cons] at ha hb
    rw [List.map_cons, List.nodup_cons] at hn
    have hxy : x.1 ≤ y.1 := by
      rcases List.mem_cons.mp (p.mem_iff.mpr (.head _) : y ∈ x :: xs) with e | h
      · rw [e]; exact Int.le_refl _
      · exact ha.1 _ (List.mem_map.mpr ⟨y, h, rfl⟩)
    have hyx : y.1 ≤ x.1 := by
      rcases List.mem_cons.mp (p.mem_iff.mp (.head _) : x ∈ y :: ys) with e | h
      · rw [e]; exact Int.le_refl _
      · exact hb.1 _ (List.mem_map.mpr ⟨x, h, rfl⟩)
    have e : x = y := by
      rcases List.mem_cons.mp (p.mem_iff.mpr (.head _) : y ∈ x :: xs) with e | h
      · exact e.symm
      · exact absurd (List.mem_map.mpr ⟨y, h, Int.le_antisymm hyx hxy⟩) hn.1
    subst e
    rw [same_rows hn.2 (List.Perm.cons_inv p) ha.2 hb.2]

end Mine

namespace Mine
open Sem (wp)

local macro_rules | `(tactic| k_room) => `(tactic| ((try simp only [depth_under_make, depth_under_kw, depth_in1, depth_deeper, depth_caller]); (try dsimp only [AA] at *); omega))
local macro_rules | `(tactic| k_inst) => `(tactic| (refine' instKeep ?a ?b; (case a => assumption); (case b => exact Fr.keep (by assumption))))

theorem nodup_of_count : ∀ {l : List Int}, (∀ k ∈ l, l.count k ≤ 1) → l.Nodup
  | [], _ => List.Pairwise.nil
  | x :: xs, h => by
    refine List.nodup_cons.mpr ⟨fun hx => ?_, nodup_of_count fun k hk => ?_⟩
    · have h1 := h x (.head _)
      have h2 := List.count_pos_iff.mpr hx
      rw [List.count_cons_self] at h1
      omega
    · have h1 := h k (.tail _ hk)
      rw [List.count_cons] at h1
      omega
theorem count_of_nodup : ∀ {l : List Int}, l.Nodup → ∀ k, l.count k ≤ 1
  | [], _, k => by simp
  | x :: xs, h, k => by
    rw [List.nodup_cons] at h
    rw [List.count_cons]
    split
    · rename_i e
      have : x = k := by simpa using e
      subst this
      rw [List.count_eq_zero.mpr h.1]; omega
    · have := count_of_nodup h.2 k; omega
theorem dup_iff {l : List Int} : l.filter (fun t => decide (1 < l.count t)) = [] ↔ l.Nodup := by
  rw [List.filter_eq_nil_iff]
  constructor
  · intro h
    exact nodup_of_count fun k hk => by have := h k hk; simpa using this
  · intro h k _
    have := count_of_nodup h k
    simpa using this
theorem tags_ne {l : List (Int × Int)} (h : (l.map (·.1)).Nodup) {i j : Nat} (hi : i < l.length) (hj : j < l.length) (hij : i ≠ j) : l[i].1 ≠ l[j].1 := by
  intro e
  rw [List.Nodup, List.pairwise_iff_getElem] at h
  rcases Nat.lt_or_gt_of_ne hij with q | q
  · exact h i j (by rw [List.length_map]; exact hi) (by rw [List.length_map]; exact hj) q (by simpa using e)
  · exact h j i (by rw [List.length_map]; exact hj) (by rw [List.length_map]; exact hi) q (by simpa using e.symm)
theorem perm_out : ∀ {l : List (Int × Int)} {r : Int × Int}, l.Nodup → r ∈ l → (r :: l.filter (fun q => decide (q ≠ r))).Perm l
  | [], _, _, h => nomatch h
  | x :: xs, r, hn, h => by
    rw [List.nodup_cons] at hn
    by_cases e : x = r
    · subst e
      rw [List.filter_cons_of_neg (by simp)]
      rw [List.filter_eq_self.mpr]
      intro a ha
      simp only [ne_eq, decide_not, Bool.not_eq_true', decide_eq_false_iff_not]
      rintro rfl
      exact hn.1 ha
    · rw [List.filter_cons_of_pos (by simpa using e)]
      have hm : r ∈ xs := by
        rcases List.mem_cons.mp h with q | q
        · exact absurd q.symm e
        · exact q
      exact (List.Perm.swap _ _ _).trans ((perm_out hn.2 hm).cons x)
theorem RowsIn.push {tl : List (Addr × Obj)} {zs : List Value} {rows : List (Int × Int)} (R : RowsIn tl zs rows) {r : Int × Int} {a : Addr} {t1 t2 : Tok} {n : Nat} (hin : (a, tup [.int r.1 t1, .int r.2 t2] n) ∈ tl) :
    RowsIn tl (zs ++ [.ref a]) (rows ++ [r]) := by
  refine ⟨by simp [R.len], fun i q e => ?_⟩
  by_cases hi : i < rows.length
  · rw [List.getElem?_append_left hi] at e
    obtain ⟨a', u1, u2, n', e1, e2⟩ := R.at_ i q e
    exact ⟨a', u1, u2, n', by rw [List.getElem?_append_left (R.len ▸ hi)]; exact e1, e2⟩
  · have hi' : i = rows.length := by
      have := (List.getElem?_eq_some_iff.mp e).1
      rw [List.length_append, List.length_singleton] at this; omega
    subst hi'
    simp at e
    subst e
    exact ⟨a, t1, t2, n, by rw [← R.len]; simp, hin⟩
set_option maxHeartbeats 4000000 in
theorem due_spec {w : World} {mean : ExcName → Option Value} {mg mb : Str → Option Value} {base : Heap} {l : List Env} {dp un : Nat} {gd : Option (List Code)} {s : Shared} {Q E : Value → Shared → Prop}
    {lr : Addr} {vs : List Value} {rows : List (Int × Int)} {tl : List (Addr × Obj)}
    (C : Cx w mean mg mb (AA dp un gd l) base l s.heap) (hd : dp + 12 < recursionLimit) (hu : un + 120 < cLine)
    (hl : s.heap.IsList lr vs.toArray) (hT : ∀ p ∈ tl, s.heap.get? p.1 = some p.2)
    (hR : RowsIn tl vs rows) (hn : rows.length ≤ 20)
    (ret : ∀ h' tk t, s.heap.StaysIn h' →
      ((¬ (rows.map (·.1)).Nodup ∧ ∃ as, Reads h' (.ref t) (.tuple []) as) ∨ ((rows.map (·.1)).Nodup ∧ ∃ rows' : List (Int × Int), rows'.Perm rows ∧ (rows'.map (·.1)).Pairwise (· ≤ ·) ∧ ∃ as, Reads h' (.ref t) (.tuple (.tuple [.str "all", .int 0] :: rows'.map fun r => .tuple [.int r.1, .int r.2])) as)) →
      Q (.ref t) { s with heap := h', toks := tk }) :
    wpAny (model prg w) (AA dp un gd l) (call (.ref 131) [.ref lr]) Q E s := by
  refine wpAny_call ?_
  k_dflt (refine' enterC (binds := [("rows", .ref lr)]) C [] ?km ?k6 ?k7 ?k8 ?k9 ?kB ?kD ?_ ?c2 ?c3 ?c4; (case k6 => k_is); (case k7 => k_is); (case k8 => k_room); (case k9 => exact BindsTo.of_eq rfl); (case kB => exact rfl); (case kD => decide +kernel); (case c2 => exact rfl); (case c3 => exact rfl); (case c4 => exact rfl); (case km => exact fun _ h => nomatch h); k_whole)
  intro g L' h₁ tk₁ cells B' X' T' kg ks F' N' Y' l1
  have st : s.heap.StaysIn g := fun b o e => kg b o (by simp) e
  replace hl := isList_keeps hl st
  replace hT : ∀ p ∈ tl, g.get? p.1 = some p.2 := fun p hp => st _ _ (hT p hp)
  (try k_lt l1)
  k_cells Y'
  (try simp only [List.cons_append, List.nil_append] at N')
  (try dsimp only)
  (try k_fold)
  (repeat' (first | (k_unfold; (try dsimp only)) | ((fail_if_success (with_reducible show wpAny _ _ (exec (PySem.Stmt.For _ _ _ _ _) _) _ _ _)); (fail_if_success (with_reducible show wpAny _ _ (exec (PySem.Stmt.While _ _ _ _) _) _ _ _)); (fail_if_success (with_reducible show wpAny _ _ (pyIter _) _ _ _)); (fail_if_success (with_reducible show wpAny _ _ (eval (PySem.Expr.ListComp _ _ _ _) _) _ _ _)); (fail_if_success (with_reducible show wpAny _ _ (exec (PySem.Stmt.Assign _ (PySem.Expr.ListComp _ _ _ _) _) _) _ _ _)); (fail_if_success (with_reducible show wpAny _ _ (eval (PySem.Expr.Subscript _ (PySem.Expr.Slice _ _ _ _) _) _) _ _ _)); (fail_if_success (with_reducible show wpAny _ _ (call (Value.ref _) _) _ _ _)); first | walk1 | (dsimp only; walk1) | (leave1; walk_say "STEP leave1"; try dsimp only)) | fail "no step"))
  with_reducible refine wpAny_Assign_Name ?_ ?_
  rotate_left
  · with_unfolding_all rfl
  (try dsimp only)
  rename News _ _ _ _ => N₁
  rename Fr _ _ _ _ => F₁
  rename_i oA oB dA dB
  k_dflt (refine list_comp F₁ (by with_unfolding_all rfl) (by decide) rfl (by decide) ?_)
  (repeat' (first | (k_unfold; (try dsimp only)) | ((fail_if_success (with_reducible show wpAny _ _ (exec (PySem.Stmt.For _ _ _ _ _) _) _ _ _)); (fail_if_success (with_reducible show wpAny _ _ (exec (PySem.Stmt.While _ _ _ _) _) _ _ _)); (fail_if_success (with_reducible show wpAny _ _ (pyIter _) _ _ _)); (fail_if_success (with_reducible show wpAny _ _ (eval (PySem.Expr.ListComp _ _ _ _) _) _ _ _)); (fail_if_success (with_reducible show wpAny _ _ (exec (PySem.Stmt.Assign _ (PySem.Expr.ListComp _ _ _ _) _) _) _ _ _)); (fail_if_success (with_reducible show wpAny _ _ (eval (PySem.Expr.Subscript _ (PySem.Expr.Slice _ _ _ _) _) _) _ _ _)); (fail_if_success (with_reducible show wpAny _ _ (call (Value.ref _) _) _ _ _)); first | walk1 | (dsimp only; walk1) | (leave1; walk_say "STEP leave1"; try dsimp only)) | fail "no step"))
  have hvl : vs.length = rows.length := hR.len
  have hpair : ∀ {i : Nat} {v : Value} {h : Heap} {m : Str → Option Value}, vs.toArray[i]? = some v → Fr g L' h m → ∃ t v₁ v₂, v = .ref t ∧ IsTup h t #[v₁, v₂] ∧ ∃ (r : Int × Int) (t1 t2 : Tok), rows[i]? = some r ∧ v₁ = .int r.1 t1 ∧ v₂ = .int r.2 t2 := by
    intro i v h m hv F
    have hv' : vs[i]? = some v := by simpa using hv
    have hi : i < rows.length := hR.len ▸ (List.getElem?_eq_some_iff.mp hv').1
    obtain ⟨a, t1, t2, n, e1, e2⟩ := hR.at_ i rows[i] (List.getElem?_eq_getElem hi)
    rw [e1] at hv'
    exact ⟨a, _, _, (Option.some.inj hv').symm, ⟨_, F.keep _ _ (hT _ e2), rfl, n, rfl⟩, rows[i], t1, t2, List.getElem?_eq_getElem hi, rfl, rfl⟩
  refine ⟨lr, vs.toArray, _, _, fun i ys nw => nw = [(L' + 1 + 1, oA), (L' + 1, oB)] ∧ IntsAre ys ((rows.take i).map (·.1)), rfl, rfl, F₁, N₁, ?_, fun _ _ _ _ => .inl hl, ?_, ⟨rfl, .nil⟩,
    casg_pair (fun i v1 v2 => ∃ (r : Int × Int) (t1 t2 : Tok), rows[i]? = some r ∧ v1 = .int r.1 t1 ∧ v2 = .int r.2 t2) rfl rfl rfl rfl (by decide) (fun i v ys nw h hv _ F _ => hpair hv F), ?_, ?_⟩
  · rw [List.size_toArray, hvl, sizeLine_eq]; omega
  · rintro i ys nw ⟨_, hI⟩
    have := hI.length
    rw [List.length_map, List.length_take] at this
    omega
  · rintro i v ys nw I oI C₁ oC D m₂ h tk E' hv ⟨rfl, hI⟩ hC ⟨v1, v2, ⟨r, t1, t2, hr, rfl, rfl⟩, hm1, hm2⟩ F N off ne
    refine wpAny_tests_nil ?_
    simp only [if_true]
    (try k_fold)
    (repeat' (first | (k_unfold; (try dsimp only)) | ((fail_if_success (with_reducible show wpAny _ _ (exec (PySem.Stmt.For _ _ _ _ _) _) _ _ _)); (fail_if_success (with_reducible show wpAny _ _ (exec (PySem.Stmt.While _ _ _ _) _) _ _ _)); (fail_if_success (with_reducible show wpAny _ _ (pyIter _) _ _ _)); (fail_if_success (with_reducible show wpAny _ _ (eval (PySem.Expr.ListComp _ _ _ _) _) _ _ _)); (fail_if_success (with_reducible show wpAny _ _ (exec (PySem.Stmt.Assign _ (PySem.Expr.ListComp _ _ _ _) _) _) _ _ _)); (fail_if_success (with_reducible show wpAny _ _ (eval (PySem.Expr.Subscript _ (PySem.Expr.Slice _ _ _ _) _) _) _ _ _)); (fail_if_success (with_reducible show wpAny _ _ (call (Value.ref _) _) _ _ _)); first | walk1 | (dsimp only; walk1) | (leave1; walk_say "STEP leave1"; try dsimp only)) | fail "no step"))
    refine ⟨h, tk, _, rfl, F, N, off, rfl, ?_⟩
    rw [take_snoc hr, List.map_append]
    exact hI.append (.cons _ _ .nil)
  · clear F₁ N₁
    rintro S zs nw s₂ ⟨rfl, hI⟩ ⟨h, tk, rfl⟩ N off F
    rw [List.size_toArray, hvl, List.take_length] at hI
    (try dsimp only at N F ⊢)
    (try k_fold)
    (repeat' (first | (k_unfold; (try dsimp only)) | ((fail_if_success (with_reducible show wpAny _ _ (exec (PySem.Stmt.For _ _ _ _ _) _) _ _ _)); (fail_if_success (with_reducible show wpAny _ _ (exec (PySem.Stmt.While _ _ _ _) _) _ _ _)); (fail_if_success (with_reducible show wpAny _ _ (pyIter _) _ _ _)); (fail_if_success (with_reducible show wpAny _ _ (eval (PySem.Expr.ListComp _ _ _ _) _) _ _ _)); (fail_if_success (with_reducible show wpAny _ _ (exec (PySem.Stmt.Assign _ (PySem.Expr.ListComp _ _ _ _) _) _) _ _ _)); (fail_if_success (with_reducible show wpAny _ _ (eval (PySem.Expr.Subscript _ (PySem.Expr.Slice _ _ _ _) _) _) _ _ _)); (fail_if_success (with_reducible show wpAny _ _ (call (Value.ref _) _) _ _ _)); first | walk1 | (dsimp only; walk1) | (leave1; walk_say "STEP leave1"; try dsimp only)) | fail "no step"))
    rename Fr _ _ _ _ => F₂
    rename News _ _ _ _ => N₂

    k_dflt (refine list_comp F₂ (by with_unfolding_all rfl) (by decide) rfl (by decide) ?_)
    (repeat' (first | (k_unfold; (try dsimp only)) | ((fail_if_success (with_reducible show wpAny _ _ (exec (PySem.Stmt.For _ _ _ _ _) _) _ _ _)); (fail_if_success (with_reducible show wpAny _ _ (exec (PySem.Stmt.While _ _ _ _) _) _ _ _)); (fail_if_success (with_reducible show wpAny _ _ (pyIter _) _ _ _)); (fail_if_success (with_reducible show wpAny _ _ (eval (PySem.Expr.ListComp _ _ _ _) _) _ _ _)); (fail_if_success (with_reducible show wpAny _ _ (exec (PySem.Stmt.Assign _ (PySem.Expr.ListComp _ _ _ _) _) _) _ _ _)); (fail_if_success (with_reducible show wpAny _ _ (eval (PySem.Expr.Subscript _ (PySem.Expr.Slice _ _ _ _) _) _) _ _ _)); (fail_if_success (with_reducible show wpAny _ _ (call (Value.ref _) _) _ _ _)); first | walk1 | (dsimp only; walk1) | (leave1; walk_say "STEP leave1"; try dsimp only)) | fail "no step"))
    (try simp only [List.cons_append, List.nil_append] at N₂)
    rename Obj => oB2
    rename oB2.data = _ => dB2
    clear off
    have hzl : zs.length = rows.length := by rw [hI.length, List.length_map]
    refine ⟨S, zs.toArray, _, _, fun i ys nw => nw = [(S, cl0 zs), (L' + 1 + 1, oA), (L' + 1, oB2)] ∧ IntsAre ys (((rows.map (·.1)).take i).filter (fun t => decide (1 < (rows.map (·.1)).count t))), rfl, rfl, F₂, N₂, ?_, ?_, ?_, ⟨rfl, .nil⟩, casg_name rfl rfl, ?_, ?_⟩
    · rw [List.size_toArray, hzl, sizeLine_eq]; omega
    · rintro i ys nw ⟨rfl, _⟩
      exact .inr ⟨_, .head _, rfl, _, rfl⟩
    · rintro i ys nw ⟨_, hJ⟩
      have := hJ.length
      have h2 := List.length_filter_le (fun t => decide (1 < (rows.map (·.1)).count t)) ((rows.map (·.1)).take i)
      rw [List.length_take] at h2
      omega
    · rintro i v ys nw I oI C₁ oC D m₂ h tk E' hv ⟨rfl, hJ⟩ hC hm₂ F N off ne
      obtain ⟨k, t, hk, rfl⟩ := ints_at hI (by simpa using hv : zs[i]? = some v)
      refine wpAny_tests_one ?_
      (try k_fold)
      (repeat' (first | (k_unfold; (try dsimp only)) | ((fail_if_success (with_reducible show wpAny _ _ (exec (PySem.Stmt.For _ _ _ _ _) _) _ _ _)); (fail_if_success (with_reducible show wpAny _ _ (exec (PySem.Stmt.While _ _ _ _) _) _ _ _)); (fail_if_success (with_reducible show wpAny _ _ (pyIter _) _ _ _)); (fail_if_success (with_reducible show wpAny _ _ (eval (PySem.Expr.ListComp _ _ _ _) _) _ _ _)); (fail_if_success (with_reducible show wpAny _ _ (exec (PySem.Stmt.Assign _ (PySem.Expr.ListComp _ _ _ _) _) _) _ _ _)); (fail_if_success (with_reducible show wpAny _ _ (eval (PySem.Expr.Subscript _ (PySem.Expr.Slice _ _ _ _) _) _) _ _ _)); (fail_if_success (with_reducible show wpAny _ _ (call (Value.ref _) _) _ _ _)); first | walk1 | (dsimp only; walk1) | (leave1; walk_say "STEP leave1"; try dsimp only)) | fail "no step"))
      · rename (1 : Int) < _ => hc
        refine ⟨h, _, _, rfl, F, N, off, rfl, ?_⟩
        rw [take_snoc hk, List.filter_append, List.filter_cons_of_pos (by rw [decide_eq_true_eq]; omega)]
        exact hJ.append (.cons _ _ .nil)
      · rename ¬ (1 : Int) < _ => hc
        refine ⟨h, _, _, rfl, F, N, off, rfl, ?_⟩
        rw [take_snoc hk, List.filter_append, List.filter_cons_of_neg (by rw [decide_eq_true_eq]; omega)]
        simpa using hJ
    · clear F₂ N₂
      rintro D ys nw s₂ ⟨rfl, hJ⟩ ⟨h, tk, rfl⟩ N off F
      (try dsimp only at N F ⊢)
      (try k_fold)
      (repeat' (first | (k_unfold; (try dsimp only)) | ((fail_if_success (with_reducible show wpAny _ _ (exec (PySem.Stmt.For _ _ _ _ _) _) _ _ _)); (fail_if_success (with_reducible show wpAny _ _ (exec (PySem.Stmt.While _ _ _ _) _) _ _ _)); (fail_if_success (with_reducible show wpAny _ _ (pyIter _) _ _ _)); (fail_if_success (with_reducible show wpAny _ _ (eval (PySem.Expr.ListComp _ _ _ _) _) _ _ _)); (fail_if_success (with_reducible show wpAny _ _ (exec (PySem.Stmt.Assign _ (PySem.Expr.ListComp _ _ _ _) _) _) _ _ _)); (fail_if_success (with_reducible show wpAny _ _ (eval (PySem.Expr.Subscript _ (PySem.Expr.Slice _ _ _ _) _) _) _ _ _)); (fail_if_success (with_reducible show wpAny _ _ (call (Value.ref _) _) _ _ _)); first | walk1 | (dsimp only; walk1) | (leave1; walk_say "STEP leave1"; try dsimp only)) | fail "no step"))
      rw [List.size_toArray, hzl, List.take_of_length_le (by rw [List.length_map]; exact Nat.le_refl _)] at hJ
      have hyl := hJ.length
      have hD : h.IsList D ys.toArray := ⟨_, N.get (.head _), rfl, _, rfl⟩
      have hyb : ys.length ≤ 20 := by
        have := List.length_filter_le (fun t => decide (1 < (rows.map (·.1)).count t)) (rows.map (·.1))
        rw [List.length_map] at this; omega
      refine PyProof.Rows.len_list hD (by simp only [List.size_toArray]; omega) ?_
      (try dsimp only)
      (repeat' (first | (k_unfold; (try dsimp only)) | ((fail_if_success (with_reducible show wpAny _ _ (exec (PySem.Stmt.For _ _ _ _ _) _) _ _ _)); (fail_if_success (with_reducible show wpAny _ _ (exec (PySem.Stmt.While _ _ _ _) _) _ _ _)); (fail_if_success (with_reducible show wpAny _ _ (pyIter _) _ _ _)); (fail_if_success (with_reducible show wpAny _ _ (eval (PySem.Expr.ListComp _ _ _ _) _) _ _ _)); (fail_if_success (with_reducible show wpAny _ _ (exec (PySem.Stmt.Assign _ (PySem.Expr.ListComp _ _ _ _) _) _) _ _ _)); (fail_if_success (with_reducible show wpAny _ _ (eval (PySem.Expr.Subscript _ (PySem.Expr.Slice _ _ _ _) _) _) _ _ _)); (fail_if_success (with_reducible show wpAny _ _ (call (Value.ref _) _) _ _ _)); first | walk1 | (dsimp only; walk1) | (leave1; walk_say "STEP leave1"; try dsimp only)) | fail "no step"))
      · rename News _ _ _ _ => N₃
        rename Fr _ _ _ _ => F₃
        rename (0 : Int) < _ => hpos
        refine ret _ _ _ (fun b o q => F₃.keep b o (st b o q)) (.inl ⟨fun hnd => ?_, _, .tuple (N₃.get (.head _)) rfl rfl .nil⟩)
        rw [dup_iff.mpr hnd] at hyl
        rw [List.size_toArray, hyl] at hpos
        exact absurd hpos (by decide)
      · rename ¬ (0 : Int) < _ => hpos
        have hnd : (rows.map (·.1)).Nodup := dup_iff.mp (List.length_eq_zero_iff.mp (by rw [List.size_toArray] at hpos; omega))
        rename_i tkA T0 hA la P hB lb lf cf hC' lc T1 hD' ld hE hF hG F₃ N₃
        have N₄ : News g L' hG [(lf, lst vs cf), (P, lst (.ref T0 :: []) 0), (T0, tup [.str "all" tkA, .int 0 (tkA + 1)] 0), (L' + 1 + 1, oA)] := fun p hp => N₃ p (by simp only [List.mem_cons, List.not_mem_nil, or_false] at hp ⊢; rcases hp with h | h | h | h <;> simp [h])
        have hPL : P ≠ L' := (N₄ _ (.tail _ (.head _))).2.1
        k_dflt (refine While_inv (n₀ := rows.length) (fun n m₁ nw => ∃ (X : Addr) (ls fs : List Value) (c1 c2 : Nat) (oL : Obj) (cv : Option Value) (rest done : List (Int × Int)), nw = [(X, lst ls c1), (P, lst (.ref T0 :: fs) c2), (T0, tup [.str "all" tkA, .int 0 (tkA + 1)] 0), (L' + 1 + 1, oL)] ∧ oL.data = .cell cv ∧
          n = rest.length ∧ RowsIn tl ls rest ∧ RowsIn tl fs done ∧ (done ++ rest).Perm rows ∧ (done.map (·.1)).Pairwise (· ≤ ·) ∧ (∀ a ∈ done, ∀ b ∈ rest, a.1 ≤ b.1) ∧ m₁ (Str.ofString "found") = some (.ref P) ∧ m₁ (Str.ofString "left") = some (.ref X) ∧ (@Ne Nat P X) ∧ (@Ne Nat T0 X) ∧ (@Ne Nat T0 P) ∧ (@Ne Nat (L' + 1 + 1) X) ∧ (@Ne Nat (L' + 1 + 1) P) ∧ (@Ne Nat (L' + 1 + 1) T0)) F₃ N₄ ?hJ ?turn ?hE)
        case hJ => exact ⟨lf, vs, [], cf, 0, oA, _, rows, [], rfl, dA, rfl, hR, ⟨rfl, fun i r e => by simp at e⟩, by simp, List.Pairwise.nil, (fun a h => nomatch h), rfl, rfl, by omega, by omega, by omega, by omega, by omega, by omega⟩
        case hE => with_unfolding_all passes_own
        case turn =>
          clear F₃ N₃ N₄
          rintro n m₁ nw h₁ tk₁ F₁ N₁ ⟨X, ls, fs, c1, c2, oL, cv, rest, done, rfl, dL, rfl, hls, hfs, hperm, hsort, hle, mf, ml, n1, n2, n3, n4, n5, n6⟩
          have e1 : (fun y => if y = Str.ofString "left" then some (Value.ref X) else if y = Str.ofString "found" then some (Value.ref P) else m₁ y) = m₁ := by
            funext y
            by_cases y1 : y = Str.ofString "left"
            · rw [if_pos y1, y1, ml]
            · rw [if_neg y1]
              by_cases y2 : y = Str.ofString "found"
              · rw [if_pos y2, y2, mf]
              · rw [if_neg y2]
          have F₂ : Fr g L' h₁ (fun y => if y = Str.ofString "left" then some (Value.ref X) else if y = Str.ofString "found" then some (Value.ref P) else m₁ y) := by rw [e1]; exact F₁
          clear F₁ e1
          (try dsimp only)
          (try k_fold)
          (repeat' (first | (k_unfold; (try dsimp only)) | ((fail_if_success (with_reducible show wpAny _ _ (exec (PySem.Stmt.For _ _ _ _ _) _) _ _ _)); (fail_if_success (with_reducible show wpAny _ _ (exec (PySem.Stmt.While _ _ _ _) _) _ _ _)); (fail_if_success (with_reducible show wpAny _ _ (pyIter _) _ _ _)); (fail_if_success (with_reducible show wpAny _ _ (eval (PySem.Expr.ListComp _ _ _ _) _) _ _ _)); (fail_if_success (with_reducible show wpAny _ _ (exec (PySem.Stmt.Assign _ (PySem.Expr.ListComp _ _ _ _) _) _) _ _ _)); (fail_if_success (with_reducible show wpAny _ _ (eval (PySem.Expr.Subscript _ (PySem.Expr.Slice _ _ _ _) _) _) _ _ _)); (fail_if_success (with_reducible show wpAny _ _ (call (Value.ref _) _) _ _ _)); (fail_if_success (with_reducible show wpAny _ _ (compareOp PySem.CmpOp.NotEq (Value.ref _) (Value.ref _)) _ _ _)); (fail_if_success (with_reducible show wpAny _ _ (call (Value.builtin "min") _) _ _ _)); first | walk1 | (dsimp only; walk1) | (leave1; walk_say "STEP leave1"; try dsimp only)) | fail "no step"))
          rename Fr _ _ _ _ => F₃
          rename News _ _ _ _ => N₃
          obtain ⟨as, hrd⟩ := hls.reads (fun p hp => F₃.keep _ _ (hT p hp))
          have hX : Reads _ (.ref X) _ _ := .list (N₃.get (.tail _ (.head _))) rfl rfl hrd
          rcases rest with _ | ⟨r0, rest0⟩
          · k_dflt (refine PySem.SeqAt.compareNe_shaped (db := .list []) hX (.list (N₃.get (.head _)) rfl rfl .nil) (shaped_list []) rfl (by show un + 3 + 64 < cLine; omega) ?_)
            rw [show (PyData.eqv (.list (([] : List (Int × Int)).map fun r => PyData.tuple [.int r.1, .int r.2])) (.list [])) = true from rfl, Bool.not_true]
            (try dsimp only)
            (repeat' (first | (k_unfold; (try dsimp only)) | ((fail_if_success (with_reducible show wpAny _ _ (exec (PySem.Stmt.For _ _ _ _ _) _) _ _ _)); (fail_if_success (with_reducible show wpAny _ _ (exec (PySem.Stmt.While _ _ _ _) _) _ _ _)); (fail_if_success (with_reducible show wpAny _ _ (pyIter _) _ _ _)); (fail_if_success (with_reducible show wpAny _ _ (eval (PySem.Expr.ListComp _ _ _ _) _) _ _ _)); (fail_if_success (with_reducible show wpAny _ _ (exec (PySem.Stmt.Assign _ (PySem.Expr.ListComp _ _ _ _) _) _) _ _ _)); (fail_if_success (with_reducible show wpAny _ _ (eval (PySem.Expr.Subscript _ (PySem.Expr.Slice _ _ _ _) _) _) _ _ _)); (fail_if_success (with_reducible show wpAny _ _ (call (Value.ref _) _) _ _ _)); (fail_if_success (with_reducible show wpAny _ _ (compareOp PySem.CmpOp.NotEq (Value.ref _) (Value.ref _)) _ _ _)); (fail_if_success (with_reducible show wpAny _ _ (call (Value.builtin "min") _) _ _ _)); first | walk1 | (dsimp only; walk1) | (leave1; walk_say "STEP leave1"; try dsimp only)) | fail "no step"))
            have hfl : fs.length = rows.length := by
              rw [hfs.len]
              have := hperm.length_eq
              rwa [List.append_nil] at this
            rw [List.append_nil] at hperm
            k_dflt (refine tuple_ofL F₃ N₃ (vs := .ref T0 :: fs) ⟨_, N₃.get (.tail _ (.tail _ (.head _))), rfl, _, rfl⟩ ?_ (by rw [List.length_cons, hfl, sizeLine_eq]; omega))
            intro T₂ h₆ F₆ N₆ k₆
            (try dsimp only)
            (repeat' (first | (k_unfold; (try dsimp only)) | ((fail_if_success (with_reducible show wpAny _ _ (exec (PySem.Stmt.For _ _ _ _ _) _) _ _ _)); (fail_if_success (with_reducible show wpAny _ _ (exec (PySem.Stmt.While _ _ _ _) _) _ _ _)); (fail_if_success (with_reducible show wpAny _ _ (pyIter _) _ _ _)); (fail_if_success (with_reducible show wpAny _ _ (eval (PySem.Expr.ListComp _ _ _ _) _) _ _ _)); (fail_if_success (with_reducible show wpAny _ _ (exec (PySem.Stmt.Assign _ (PySem.Expr.ListComp _ _ _ _) _) _) _ _ _)); (fail_if_success (with_reducible show wpAny _ _ (eval (PySem.Expr.Subscript _ (PySem.Expr.Slice _ _ _ _) _) _) _ _ _)); (fail_if_success (with_reducible show wpAny _ _ (call (Value.ref _) _) _ _ _)); (fail_if_success (with_reducible show wpAny _ _ (compareOp PySem.CmpOp.NotEq (Value.ref _) (Value.ref _)) _ _ _)); (fail_if_success (with_reducible show wpAny _ _ (call (Value.builtin "min") _) _ _ _)); first | walk1 | (dsimp only; walk1) | (leave1; walk_say "STEP leave1"; try dsimp only)) | fail "no step"))
            obtain ⟨as, hrd⟩ := hfs.reads (fun p hp => F₆.keep _ _ (hT p hp))
            exact ret _ _ _ (fun b o q => F₆.keep b o (st b o q)) (.inr ⟨hnd, done, hperm, hsort, _, .tuple (N₆.get (.head _)) rfl rfl (.cons (.tuple (N₆.get (.tail _ (.tail _ (.tail _ (.tail _ (.head _)))))) rfl rfl (.cons (.str _ _) (.cons (.int _ _) .nil))) hrd)⟩)
          · k_dflt (refine PySem.SeqAt.compareNe_shaped (db := .list []) hX (.list (N₃.get (.head _)) rfl rfl .nil) (shaped_list (r0 :: rest0)) rfl (by show un + 3 + 64 < cLine; omega) ?_)
            rw [show (PyData.eqv (.list ((r0 :: rest0).map fun r => PyData.tuple [.int r.1, .int r.2])) (.list [])) = false from rfl, Bool.not_false]
            (try dsimp only)
            (repeat' (first | (k_unfold; (try dsimp only)) | ((fail_if_success (with_reducible show wpAny _ _ (exec (PySem.Stmt.For _ _ _ _ _) _) _ _ _)); (fail_if_success (with_reducible show wpAny _ _ (exec (PySem.Stmt.While _ _ _ _) _) _ _ _)); (fail_if_success (with_reducible show wpAny _ _ (pyIter _) _ _ _)); (fail_if_success (with_reducible show wpAny _ _ (eval (PySem.Expr.ListComp _ _ _ _) _) _ _ _)); (fail_if_success (with_reducible show wpAny _ _ (exec (PySem.Stmt.Assign _ (PySem.Expr.ListComp _ _ _ _) _) _) _ _ _)); (fail_if_success (with_reducible show wpAny _ _ (eval (PySem.Expr.Subscript _ (PySem.Expr.Slice _ _ _ _) _) _) _ _ _)); (fail_if_success (with_reducible show wpAny _ _ (call (Value.ref _) _) _ _ _)); (fail_if_success (with_reducible show wpAny _ _ (compareOp PySem.CmpOp.NotEq (Value.ref _) (Value.ref _)) _ _ _)); (fail_if_success (with_reducible show wpAny _ _ (call (Value.builtin "min") _) _ _ _)); first | walk1 | (dsimp only; walk1) | (leave1; walk_say "STEP leave1"; try dsimp only)) | fail "no step"))
            generalize hrest : r0 :: rest0 = rest at *
            have hlp : 0 < rest.length := by rw [← hrest]; exact Nat.succ_pos _
            clear hrest r0 rest0
            have hndr : (rest.map (·.1)).Nodup := by
              have := (hperm.map (·.1)).nodup_iff.mpr hnd
              rw [List.map_append, List.nodup_append] at this
              exact this.2.1
            have hrl : rest.length ≤ 20 := by
              have := hperm.length_eq
              rw [List.length_append] at this; omega
            k_dflt (refine min_at (g := g) (bt := fun i j => decide (((rest.getD i (0, 0)).1 : Int) < (rest.getD j (0, 0)).1)) rfl ⟨_, N₃.get (.tail _ (.head _)), rfl, _, rfl⟩ (by rw [List.size_toArray, hls.len]; exact hlp) F₃.keep ?cmp ?_)
            case cmp =>
              intro i j vi vj s' Q' E' hij hi hj hg hq
              have hi' : ls[i]? = some vi := by simpa using hi
              have hj' : ls[j]? = some vj := by simpa using hj
              have li : i < rest.length := hls.len ▸ (List.getElem?_eq_some_iff.mp hi').1
              have lj : j < rest.length := hls.len ▸ (List.getElem?_eq_some_iff.mp hj').1
              obtain ⟨a, t1, t2, na, e1, e2⟩ := hls.at_ i rest[i] (List.getElem?_eq_getElem li)
              obtain ⟨b, u1, u2, nb, e3, e4⟩ := hls.at_ j rest[j] (List.getElem?_eq_getElem lj)
              obtain rfl : vi = .ref a := Option.some.inj (hi'.symm.trans e1)
              obtain rfl : vj = .ref b := Option.some.inj (hj'.symm.trans e3)
              have hne : rest[i].1 ≠ rest[j].1 := tags_ne hndr li lj hij
              refine rc_lt_tup (hg _ _ (hT _ e2)) (hg _ _ (hT _ e4)) hne (by show un + 3 + 1 < cLine; omega) ?_
              have hq' : Q' (.bool (decide ((rest.getD i (0, 0)).1 < (rest.getD j (0, 0)).1))) s' := hq
              rw [List.getD_eq_getElem?_getD, List.getD_eq_getElem?_getD, List.getElem?_eq_getElem li, List.getElem?_eq_getElem lj] at hq'
              exact hq'
            intro v h₅ tk₅ hv k₅
            have F₅ := F₃.keeps k₅
            have N₅ := N₃.grown k₅
            clear F₃ N₃ hX hrd
            obtain ⟨r, a, t1, t2, na, hvr, hin, hmr, hmin⟩ : ∃ (r : Int × Int) (a : Addr) (t1 t2 : Tok) (na : Nat), v = .ref a ∧ (a, tup [.int r.1 t1, .int r.2 t2] na) ∈ tl ∧ r ∈ rest ∧ ∀ b ∈ rest, r.1 ≤ b.1 := by
              obtain ⟨q1, q2⟩ := argBest_lt (fun i => (rest.getD i (0, 0)).1) (ls.toArray.size - 1)
              have hv' : ls[argBest (fun i j => decide (((rest.getD i (0, 0)).1 : Int) < (rest.getD j (0, 0)).1)) (ls.toArray.size - 1)]? = some v := by simpa using hv
              generalize argBest (fun i j => decide (((rest.getD i (0, 0)).1 : Int) < (rest.getD j (0, 0)).1)) (ls.toArray.size - 1) = im at q1 q2 hv'
              rw [List.size_toArray, hls.len] at q1 q2
              have li : im < rest.length := by omega
              obtain ⟨a, t1, t2, na, e1, e2⟩ := hls.at_ im rest[im] (List.getElem?_eq_getElem li)
              refine ⟨rest[im], a, t1, t2, na, Option.some.inj (hv'.symm.trans e1), e2, List.getElem_mem li, fun b hb => ?_⟩
              obtain ⟨j, hj, rfl⟩ := List.getElem_of_mem hb
              have := q2 j (by omega)
              simp only [List.getD_eq_getElem?_getD, List.getElem?_eq_getElem li, List.getElem?_eq_getElem hj, Option.getD_some] at this
              exact this
            subst hvr
            clear hv
            (try dsimp only)
            (repeat' (first | (k_unfold; (try dsimp only)) | ((fail_if_success (with_reducible show wpAny _ _ (exec (PySem.Stmt.For _ _ _ _ _) _) _ _ _)); (fail_if_success (with_reducible show wpAny _ _ (exec (PySem.Stmt.While _ _ _ _) _) _ _ _)); (fail_if_success (with_reducible show wpAny _ _ (pyIter _) _ _ _)); (fail_if_success (with_reducible show wpAny _ _ (eval (PySem.Expr.ListComp _ _ _ _) _) _ _ _)); (fail_if_success (with_reducible show wpAny _ _ (exec (PySem.Stmt.Assign _ (PySem.Expr.ListComp _ _ _ _) _) _) _ _ _)); (fail_if_success (with_reducible show wpAny _ _ (eval (PySem.Expr.Subscript _ (PySem.Expr.Slice _ _ _ _) _) _) _ _ _)); (fail_if_success (with_reducible show wpAny _ _ (call (Value.ref _) _) _ _ _)); (fail_if_success (with_reducible show wpAny _ _ (compareOp PySem.CmpOp.NotEq (Value.ref _) (Value.ref _)) _ _ _)); (fail_if_success (with_reducible show wpAny _ _ (call (Value.builtin "min") _) _ _ _)); first | walk1 | (dsimp only; walk1) | (leave1; walk_say "STEP leave1"; try dsimp only)) | fail "no step"))
            rename News _ _ _ _ => N₆
            rename Fr _ _ _ _ => F₆
            rename Obj => oL2
            rename oL2.data = _ => dL2
            have hfl : fs.length ≤ rows.length := by
              rw [hfs.len, ← hperm.length_eq, List.length_append]; omega
            have N₇ : News g L' _ ([] ++ (P, lst (.ref T0 :: fs) c2) :: [(X, lst ls c1), (T0, tup [.str "all" tkA, .int 0 (tkA + 1)] 0), (L' + 1 + 1, oL2)]) := fun p hp => N₆ p (by simp only [List.nil_append, List.mem_cons, List.not_mem_nil, or_false] at hp ⊢; rcases hp with h | h | h | h <;> simp [h])
            k_dflt (refine append_at (hsz := by rw [List.size_toArray, List.length_cons, sizeLine_eq]; omega) (N₇.get (.head _)) ?_)
            intro h₇ hs₇ hP₇
            rw [List.push_toArray] at hP₇
            have F₇ := F₆.change hs₇ hPL (N₇.fresh (.head _))
            have N₈ : News g L' h₇ ((P, lst (.ref T0 :: (fs ++ [.ref a])) (c2 + 1)) :: [(X, lst ls c1), (T0, tup [.str "all" tkA, .int 0 (tkA + 1)] 0), (L' + 1 + 1, oL2)]) := News.setIn N₇ (fun p hp => nomatch hp) (List.forall_mem_cons.mpr ⟨fun q => n1 q.symm, List.forall_mem_cons.mpr ⟨n3, List.forall_mem_cons.mpr ⟨n5, fun p hp => nomatch hp⟩⟩⟩) hs₇ hP₇
            clear F₆ N₆ N₇
            (try dsimp only)
            (repeat' (first | (k_unfold; (try dsimp only)) | ((fail_if_success (with_reducible show wpAny _ _ (exec (PySem.Stmt.For _ _ _ _ _) _) _ _ _)); (fail_if_success (with_reducible show wpAny _ _ (exec (PySem.Stmt.While _ _ _ _) _) _ _ _)); (fail_if_success (with_reducible show wpAny _ _ (pyIter _) _ _ _)); (fail_if_success (with_reducible show wpAny _ _ (eval (PySem.Expr.ListComp _ _ _ _) _) _ _ _)); (fail_if_success (with_reducible show wpAny _ _ (exec (PySem.Stmt.Assign _ (PySem.Expr.ListComp _ _ _ _) _) _) _ _ _)); (fail_if_success (with_reducible show wpAny _ _ (eval (PySem.Expr.Subscript _ (PySem.Expr.Slice _ _ _ _) _) _) _ _ _)); (fail_if_success (with_reducible show wpAny _ _ (call (Value.ref _) _) _ _ _)); (fail_if_success (with_reducible show wpAny _ _ (compareOp PySem.CmpOp.NotEq (Value.ref _) (Value.ref _)) _ _ _)); (fail_if_success (with_reducible show wpAny _ _ (call (Value.builtin "min") _) _ _ _)); first | walk1 | (dsimp only; walk1) | (leave1; walk_say "STEP leave1"; try dsimp only)) | fail "no step"))
            k_dflt (refine assign_comp F₇ rfl (by with_unfolding_all rfl) (by with_unfolding_all rfl) (by decide) rfl (by decide) rfl rfl ?_)
            (repeat' (first | (k_unfold; (try dsimp only)) | ((fail_if_success (with_reducible show wpAny _ _ (exec (PySem.Stmt.For _ _ _ _ _) _) _ _ _)); (fail_if_success (with_reducible show wpAny _ _ (exec (PySem.Stmt.While _ _ _ _) _) _ _ _)); (fail_if_success (with_reducible show wpAny _ _ (pyIter _) _ _ _)); (fail_if_success (with_reducible show wpAny _ _ (eval (PySem.Expr.ListComp _ _ _ _) _) _ _ _)); (fail_if_success (with_reducible show wpAny _ _ (exec (PySem.Stmt.Assign _ (PySem.Expr.ListComp _ _ _ _) _) _) _ _ _)); (fail_if_success (with_reducible show wpAny _ _ (eval (PySem.Expr.Subscript _ (PySem.Expr.Slice _ _ _ _) _) _) _ _ _)); (fail_if_success (with_reducible show wpAny _ _ (call (Value.ref _) _) _ _ _)); (fail_if_success (with_reducible show wpAny _ _ (compareOp PySem.CmpOp.NotEq (Value.ref _) (Value.ref _)) _ _ _)); (fail_if_success (with_reducible show wpAny _ _ (call (Value.builtin "min") _) _ _ _)); first | walk1 | (dsimp only; walk1) | (leave1; walk_say "STEP leave1"; try dsimp only)) | fail "no step"))
            have N₉ : News g L' h₇ ([] ++ [(X, lst ls c1), (P, lst (.ref T0 :: (fs ++ [.ref a])) (c2 + 1)), (T0, tup [.str "all" tkA, .int 0 (tkA + 1)] 0), (L' + 1 + 1, oL2)]) := fun p hp => N₈ p (by simp only [List.nil_append, List.mem_cons, List.not_mem_nil, or_false] at hp ⊢; rcases hp with h | h | h | h <;> simp [h])
            refine ⟨X, ls.toArray, _, _, fun i ys nw => nw = [(X, lst ls c1), (P, lst (.ref T0 :: (fs ++ [.ref a])) (c2 + 1)), (T0, tup [.str "all" tkA, .int 0 (tkA + 1)] 0), (L' + 1 + 1, oL2)] ∧ RowsIn tl ys ((rest.take i).filter (fun q => decide (q ≠ r))), rfl, rfl, F₇, N₉, ?_, ?_, ?_, ⟨rfl, rfl, fun i r e => by simp at e⟩, casg_name rfl rfl, ?_, ?_⟩
            · rw [List.size_toArray, hls.len, sizeLine_eq]; omega
            · rintro i ys nw ⟨rfl, _⟩
              exact .inr ⟨_, .head _, rfl, _, rfl⟩
            · rintro i ys nw ⟨_, hZ⟩
              have h1 := hZ.len
              have h2 := List.length_filter_le (fun q => decide (q ≠ r)) (rest.take i)
              rw [List.length_take] at h2
              omega
            · rintro i v ys nw I oI C₁ oC D₉ m₂ h tk E' hv ⟨rfl, hZ⟩ hC hm₂ F N off ne
              have hv' : ls[i]? = some v := by simpa using hv
              have li : i < rest.length := hls.len ▸ (List.getElem?_eq_some_iff.mp hv').1
              obtain ⟨b, u1, u2, nb, e3, e4⟩ := hls.at_ i rest[i] (List.getElem?_eq_getElem li)
              obtain rfl : v = .ref b := Option.some.inj (hv'.symm.trans e3)
              have hq : rest[i]? = some rest[i] := List.getElem?_eq_getElem li
              generalize rest[i] = q at e4 hq
              refine wpAny_tests_one ?_
              (try k_fold)
              (repeat' (first | (k_unfold; (try dsimp only)) | ((fail_if_success (with_reducible show wpAny _ _ (exec (PySem.Stmt.For _ _ _ _ _) _) _ _ _)); (fail_if_success (with_reducible show wpAny _ _ (exec (PySem.Stmt.While _ _ _ _) _) _ _ _)); (fail_if_success (with_reducible show wpAny _ _ (pyIter _) _ _ _)); (fail_if_success (with_reducible show wpAny _ _ (eval (PySem.Expr.ListComp _ _ _ _) _) _ _ _)); (fail_if_success (with_reducible show wpAny _ _ (exec (PySem.Stmt.Assign _ (PySem.Expr.ListComp _ _ _ _) _) _) _ _ _)); (fail_if_success (with_reducible show wpAny _ _ (eval (PySem.Expr.Subscript _ (PySem.Expr.Slice _ _ _ _) _) _) _ _ _)); (fail_if_success (with_reducible show wpAny _ _ (call (Value.ref _) _) _ _ _)); (fail_if_success (with_reducible show wpAny _ _ (compareOp PySem.CmpOp.NotEq (Value.ref _) (Value.ref _)) _ _ _)); (fail_if_success (with_reducible show wpAny _ _ (call (Value.builtin "min") _) _ _ _)); first | walk1 | (dsimp only; walk1) | (leave1; walk_say "STEP leave1"; try dsimp only)) | fail "no step"))
              k_dflt (refine PySem.SeqAt.compareNe_shaped (.tuple (F.keep _ _ (hT _ e4)) rfl rfl (.cons (.int _ _) (.cons (.int _ _) .nil))) (.tuple (F.keep _ _ (hT _ hin)) rfl rfl (.cons (.int _ _) (.cons (.int _ _) .nil))) (shaped_row _ _) (shaped_row _ _) (by show un + 3 + 64 < cLine; omega) ?_)
              rw [eqv_row]
              by_cases hqr : q = r
              · rw [decide_eq_true (show (q.1, q.2) = (r.1, r.2) from hqr), Bool.not_true]
                (try dsimp only)
                (repeat' (first | (k_unfold; (try dsimp only)) | ((fail_if_success (with_reducible show wpAny _ _ (exec (PySem.Stmt.For _ _ _ _ _) _) _ _ _)); (fail_if_success (with_reducible show wpAny _ _ (exec (PySem.Stmt.While _ _ _ _) _) _ _ _)); (fail_if_success (with_reducible show wpAny _ _ (pyIter _) _ _ _)); (fail_if_success (with_reducible show wpAny _ _ (eval (PySem.Expr.ListComp _ _ _ _) _) _ _ _)); (fail_if_success (with_reducible show wpAny _ _ (exec (PySem.Stmt.Assign _ (PySem.Expr.ListComp _ _ _ _) _) _) _ _ _)); (fail_if_success (with_reducible show wpAny _ _ (eval (PySem.Expr.Subscript _ (PySem.Expr.Slice _ _ _ _) _) _) _ _ _)); (fail_if_success (with_reducible show wpAny _ _ (call (Value.ref _) _) _ _ _)); (fail_if_success (with_reducible show wpAny _ _ (compareOp PySem.CmpOp.NotEq (Value.ref _) (Value.ref _)) _ _ _)); (fail_if_success (with_reducible show wpAny _ _ (call (Value.builtin "min") _) _ _ _)); first | walk1 | (dsimp only; walk1) | (leave1; walk_say "STEP leave1"; try dsimp only)) | fail "no step"))
                refine ⟨h, _, _, rfl, F, N, off, rfl, ?_⟩
                rw [take_snoc hq, List.filter_append, List.filter_cons_of_neg (by simpa using hqr)]
                simpa using hZ
              · rw [decide_eq_false (show ¬ (q.1, q.2) = (r.1, r.2) from hqr), Bool.not_false]
                (try dsimp only)
                (repeat' (first | (k_unfold; (try dsimp only)) | ((fail_if_success (with_reducible show wpAny _ _ (exec (PySem.Stmt.For _ _ _ _ _) _) _ _ _)); (fail_if_success (with_reducible show wpAny _ _ (exec (PySem.Stmt.While _ _ _ _) _) _ _ _)); (fail_if_success (with_reducible show wpAny _ _ (pyIter _) _ _ _)); (fail_if_success (with_reducible show wpAny _ _ (eval (PySem.Expr.ListComp _ _ _ _) _) _ _ _)); (fail_if_success (with_reducible show wpAny _ _ (exec (PySem.Stmt.Assign _ (PySem.Expr.ListComp _ _ _ _) _) _) _ _ _)); (fail_if_success (with_reducible show wpAny _ _ (eval (PySem.Expr.Subscript _ (PySem.Expr.Slice _ _ _ _) _) _) _ _ _)); (fail_if_success (with_reducible show wpAny _ _ (call (Value.ref _) _) _ _ _)); (fail_if_success (with_reducible show wpAny _ _ (compareOp PySem.CmpOp.NotEq (Value.ref _) (Value.ref _)) _ _ _)); (fail_if_success (with_reducible show wpAny _ _ (call (Value.builtin "min") _) _ _ _)); first | walk1 | (dsimp only; walk1) | (leave1; walk_say "STEP leave1"; try dsimp only)) | fail "no step"))
                refine ⟨h, _, _, rfl, F, N, off, rfl, ?_⟩
                rw [take_snoc hq, List.filter_append, List.filter_cons_of_pos (by simpa using hqr)]
                exact hZ.push e4
            · rintro D₉ ys nw s₂ ⟨rfl, hZ⟩ ⟨h, tk, rfl⟩ N off F
              rw [List.size_toArray, hls.len, List.take_length] at hZ
              (try dsimp only at N F ⊢)
              (try k_fold)
              (repeat' (first | (k_unfold; (try dsimp only)) | ((fail_if_success (with_reducible show wpAny _ _ (exec (PySem.Stmt.For _ _ _ _ _) _) _ _ _)); (fail_if_success (with_reducible show wpAny _ _ (exec (PySem.Stmt.While _ _ _ _) _) _ _ _)); (fail_if_success (with_reducible show wpAny _ _ (pyIter _) _ _ _)); (fail_if_success (with_reducible show wpAny _ _ (eval (PySem.Expr.ListComp _ _ _ _) _) _ _ _)); (fail_if_success (with_reducible show wpAny _ _ (exec (PySem.Stmt.Assign _ (PySem.Expr.ListComp _ _ _ _) _) _) _ _ _)); (fail_if_success (with_reducible show wpAny _ _ (eval (PySem.Expr.Subscript _ (PySem.Expr.Slice _ _ _ _) _) _) _ _ _)); (fail_if_success (with_reducible show wpAny _ _ (call (Value.ref _) _) _ _ _)); (fail_if_success (with_reducible show wpAny _ _ (compareOp PySem.CmpOp.NotEq (Value.ref _) (Value.ref _)) _ _ _)); (fail_if_success (with_reducible show wpAny _ _ (call (Value.builtin "min") _) _ _ _)); first | walk1 | (dsimp only; walk1) | (leave1; walk_say "STEP leave1"; try dsimp only)) | fail "no step"))
              have hnrest : rest.Nodup := nodup_of_tags hndr
              have hpo := perm_out hnrest hmr
              refine WhileStep.intro F (news₂ := [(D₉, lst ys ys.length), (P, lst (.ref T0 :: (fs ++ [.ref a])) (c2 + 1)), (T0, tup [.str "all" tkA, .int 0 (tkA + 1)] 0), (L' + 1 + 1, oL2)]) (fun p hp => N p (by simp only [List.mem_cons, List.not_mem_nil, or_false] at hp ⊢; rcases hp with h | h | h | h <;> simp [h])) (n' := (rest.filter (fun q => decide (q ≠ r))).length) ?_
                ⟨D₉, ys, fs ++ [.ref a], ys.length, c2 + 1, oL2, _, rest.filter (fun q => decide (q ≠ r)), done ++ [r], rfl, dL2, rfl, hZ, hfs.push hin, ?_, ?_, ?_, ?_, ?_, off _ (.tail _ (.head _)), off _ (.tail _ (.tail _ (.head _))), n3, off _ (.tail _ (.tail _ (.tail _ (.head _)))), n5, n6⟩
              · have := hpo.length_eq
                rw [List.length_cons] at this; omega
              · rw [List.append_assoc]
                exact (List.Perm.append_left done hpo).trans hperm
              · rw [List.map_append, List.pairwise_append]
                refine ⟨hsort, List.pairwise_singleton _ _, fun x hx y hy => ?_⟩
                obtain ⟨d, hd1, rfl⟩ := List.mem_map.mp hx
                rw [List.mem_singleton.mp hy]
                exact hle d hd1 r hmr
              · intro x hx y hy
                have hy' := (List.mem_filter.mp hy).1
                rcases List.mem_append.mp hx with hx | hx
                · exact hle x hx y hy'
                · rw [List.mem_singleton.mp hx]; exact hmin y hy'
              · with_unfolding_all rfl
              · with_unfolding_all rfl

end Mine

namespace Mine
section
variable {prog : Program} {w : World} {A : Around} {E : Value → Shared → Prop} {s : Shared} {env : Env} {h₀ : Heap} {x : Str} {body : List Stmt} {Q : Flow → Shared → Prop}
theorem iter_range {r : Addr} {n : Nat} {t u v : Tok} {m₀ : Str → Option Value} {news : List (Addr × Obj)} (J : Nat → List (Addr × Obj) → Prop)
    (hh : A.handled = none) (hr : IsRange s.heap r 0 n 1 t u v) (hsmall : Builtin.Range.small 0 n 1 = true) (F : Fr h₀ env.locals s.heap m₀) (N : News h₀ env.locals s.heap news) (hj : J 0 news)
    (turn : ∀ i news₁ h tk own tt, i < n → J i news₁ → (∀ p ∈ news₁, p.1 ≠ s.heap.objs.size) → (∀ p ∈ own, p.1 = s.heap.objs.size) → (∃ oI, (s.heap.objs.size, oI) ∈ own) →
      Fr h₀ env.locals h (fun y => if y = x then some (.int i tt) else m₀ y) → News h₀ env.locals h (own ++ news₁) →
      wpAny (model prog w) A (execs body env) (LoopStepV h₀ env.locals [s.heap.objs.size] own (Stay x m₀ (J (i + 1))) { s with heap := h, toks := tk } (fun v s' => Q (.ret v) s') fun s' => Q .next s') E { s with heap := h, toks := tk })
    (done : ∀ (u : Str → Option Value) news₁ h tk, J n news₁ → Fr h₀ env.locals h (fun y => if y = x then u y else m₀ y) → News h₀ env.locals h news₁ → Q .next { s with heap := h, toks := tk }) :
    wpAny (model prog w) A (pyIter (.ref r)) (fun it s₂ => LoopAtV prog w A h₀ env x body Q E it s₂) E s := by
  refine wpAny_pyIter_range hr hsmall ?_
  have W := Walks.range (prog := prog) (w := w) hh s.heap.objs.size 0 1 n
  let J' : Nat → (Str → Option Value) → List (Addr × Obj) → Prop := fun i => Stay x m₀ (J i)
  have hst : IsRangeIter (s.heap.push { cls := .type "range_iterator", data := .fields #[rawInt 0, rawInt (Builtin.Range.rangeSize 0 n 1), rawInt 1] }) s.heap.objs.size (0 + ((0 : Nat) : Int) * 1) ((n : Int) - (0 : Nat)) 1 := by
    have : Builtin.Range.rangeSize 0 n 1 = (n : Int) := by rw [rangeSize_nat]; simp
    rw [this]
    exact Heap.get?_push_size _ rfl
  refine ⟨_, _, _, n, _, _, m₀, news, J', rfl, W, ?_, ?_, ?_, hst, F.push _, (fun p hp => ⟨Heap.get?_push_of_some _ (N p hp).1, (N p hp).2⟩), ⟨fun _ _ => rfl, hj⟩, ?_, ?_⟩
  · intro hm
    have e := List.mem_singleton.mp hm
    exact absurd F.ns.lt (e ▸ Nat.lt_irrefl _)
  · intro b hb
    rw [List.mem_singleton.mp hb]
    exact next_is_new F
  · intro p hp hI
    exact absurd (Heap.lt_size (N p hp).1) ((List.mem_singleton.mp hI) ▸ Nat.lt_irrefl _)
  · rintro i v m₁ news₁ s₁ own ⟨hh', tk', rfl⟩ hin ⟨tt, hP⟩ ⟨hm, hJ⟩ hoff hown hat hall hst' F₁ N₁
    have hv' : v = .int i tt := by rw [hP, Int.mul_one, Int.zero_add]
    have e : (fun z => if z = x then some v else m₁ z) = fun z => if z = x then some (.int i tt) else m₀ z := by
      funext z
      by_cases h1 : z = x
      · rw [if_pos h1, if_pos h1, hv']
      · rw [if_neg h1, if_neg h1]; exact hm z h1
    rw [e] at F₁
    exact turn i news₁ hh' tk' own tt hin hJ (fun p hp q => hoff p hp (by rw [q]; exact .head _)) (fun p hp => List.mem_singleton.mp (hown p hp)) ⟨_, hall _ (.head _) (next_is_new F) _ hst'⟩ F₁ N₁
  · rintro h' tk m' news' F' N' _ ⟨hm, hJ⟩
    refine done m' news' h' tk hJ ?_ N'
    have e : (fun z => if z = x then m' z else m₀ z) = m' := by
      funext z
      by_cases h1 : z = x
      · simp [h1]
      · simp only [if_neg h1]; exact (hm z h1).symm
    rw [e]; exact F'
end

end Mine

namespace Mine
open Sem (wp)
local macro_rules | `(tactic| k_room) => `(tactic| ((try simp only [depth_under_make, depth_under_kw, depth_in1, depth_deeper, depth_caller]); (try dsimp only [AA] at *); omega))
local macro_rules | `(tactic| k_inst) => `(tactic| (refine' instKeep ?a ?b; (case a => assumption); (case b => exact Fr.keep (by assumption))))

theorem hT_of {g h : Heap} {L : Addr} {news tl : List (Addr × Obj)} {env : Env} (N : News g L h news) (hs : ∀ p ∈ tl, p ∈ news) (hf : env.frame = some L) : ∀ p ∈ tl, h.get? p.1 = some p.2 ∧ g.get? p.1 = none ∧ ∀ e ∈ [env], e.frame ≠ some p.1 := fun p hp =>
  ⟨(N p (hs p hp)).1, (N p (hs p hp)).2.2, fun e he q => (N p (hs p hp)).2.1 (by rw [List.mem_singleton.mp he, hf] at q; exact (Option.some.inj q).symm)⟩
theorem mvN {g h : Heap} {L : Addr} {a b : List (Addr × Obj)} (N : News g L h a) (hs : ∀ p ∈ b, p ∈ a) : News g L h b := fun p hp => N p (hs p hp)
section
variable {q1 q2 q3 q4 q5 q6 q7 q8 : Addr × Obj} {u1 u2 u3 : List (Addr × Obj)}
theorem mvA : ∀ p ∈ [q3, q2], p ∈ [q1, q2, q3] := by intro p hp; grind
theorem mvB : ∀ p ∈ q1 :: q2 :: (u1 ++ u2), p ∈ u1 ++ q1 :: q2 :: u2 := by intro p hp; grind
theorem mvC : ∀ p ∈ q2 :: q1 :: u1, p ∈ q1 :: q2 :: u1 := by intro p hp; grind
theorem mvD : ∀ p ∈ ([] ++ q4 :: q1 :: q2 :: u1), p ∈ q1 :: q2 :: q3 :: q4 :: u1 := by intro p hp; grind
theorem mvE : ∀ p ∈ u1 ++ (q3 :: q1 :: q2 :: u2), p ∈ ([] ++ q1 :: q2 :: q3 :: (u1 ++ u2)) := by intro p hp; grind
theorem mvG : ∀ p ∈ u2, p ∈ q1 :: u2 := by intro p hp; grind
theorem mvH : ∀ p ∈ q4 :: q1 :: q3 :: u2, p ∈ q1 :: q2 :: q3 :: q4 :: q5 :: u2 := by intro p hp; grind
theorem mvI : ∀ p ∈ q1 :: q5 :: u2, p ∈ q1 :: q2 :: q3 :: q4 :: q5 :: u2 := by intro p hp; grind
theorem mvF : ∀ p ∈ u2, p ∈ q1 :: (u1 ++ u2) := by intro p hp; grind
end
theorem allLt_mem {n : Addr} : ∀ {l : List (Addr × Obj)}, AllLt n l → ∀ p ∈ l, p.1 < n
  | [], _, _, h => nomatch h
  | q :: l, ⟨h1, h2⟩, p, h => by
    rcases List.mem_cons.mp h with e | h
    · rw [e]; exact h1
    · exact allLt_mem h2 p h
theorem mv9 {g h : Heap} {L R₂ : Addr} {q2 q3 q4 q5 : Addr × Obj} {u tl₂ : List (Addr × Obj)} {vs ws vs₂ : List Value} {c₂ : Nat} (N : News g L h ((R₂, { cls := .type "list", data := .seq (vs ++ ws).toArray }) :: q2 :: q3 :: q4 :: q5 :: u)) (hv : vs₂ = vs ++ ws) (ht : tl₂ = q3 :: u) (hc : c₂ = 0) :
    News g L h (q4 :: (R₂, lst vs₂ c₂) :: tl₂) := by
  subst hv ht hc
  exact mvN N mvH
theorem told_keeps {g h h' : Heap} {L : Addr} {m : Str → Option Value} {news : List (Addr × Obj)} (F : Fr g L h m) (N : News g L h news) (k : ∀ b o, b ∉ [L] → h.get? b = some o → h'.get? b = some o) (up : h.UpToSlots h') : Fr g L h' m ∧ News g L h' news := by
  have hL : g.get? L = none := Heap.get?_none_of_le F.above
  exact ⟨F.of_stays (fun b o e => k b o (fun q => by rw [List.mem_singleton.mp q, hL] at e; cases e) (F.keep b o e)) up, fun p hp => ⟨k _ _ (fun q => (N p hp).2.1 (List.mem_singleton.mp q)) (N p hp).1, (N p hp).2⟩⟩
theorem nilN {g h : Heap} {L : Addr} {m : Str → Option Value} (_ : Fr g L h m) : News g L h [] := fun p hp => nomatch hp
theorem src_step {g h h' : Heap} {L src : Addr} {m : Str → Option Value} {o o' : Obj} {news : List (Addr × Obj)} (F : Fr g L h m) (N : News g L h ((src, o) :: news)) (off : ∀ p ∈ news, p.1 ≠ src)
    (hk : ∀ b o, b ≠ src → h.get? b = some o → h'.get? b = some o) (hs : h'.get? src = some o') : Fr g L h' m ∧ News g L h' ((src, o') :: news) := by
  have n1 := (N _ (.head _)).2
  refine ⟨⟨F.ns.at' fun o e => hk _ o (Ne.symm n1.1) e, fun b o e => hk b o (fun q => by rw [q, n1.2] at e; cases e) (F.keep b o e), F.above⟩, List.forall_mem_cons.mpr ⟨⟨hs, n1⟩, fun p hp => ⟨hk _ _ (off p hp) (N p (.tail _ hp)).1, (N p (.tail _ hp)).2⟩⟩⟩
theorem law_post (ns : List Int) : PySem.Challenge.rw_xm0803_01.row.claim.post [ofPy (PyData.list (ns.map PyData.int))] (WData.bool true) [ofPy (PyData.list (ns.map PyData.int))] = true := by
  wrow_post
set_option maxHeartbeats 8000000 in
theorem law_holds : PySem.Challenge.rw_xm0803_01.Holds := Mine.hd (by
  k_go0
  rename Below _ _ _ _ => B'
  rename Frag.In _ _ => X'
  rename TT _ _ _ _ => T'
  rename World => w
  (repeat' (first | (k_unfold; (try dsimp only)) | ((fail_if_success (with_reducible show wpAny _ _ (exec (PySem.Stmt.For _ _ _ _ _) _) _ _ _)); (fail_if_success (with_reducible show wpAny _ _ (exec (PySem.Stmt.While _ _ _ _) _) _ _ _)); (fail_if_success (with_reducible show wpAny _ _ (pyIter _) _ _ _)); (fail_if_success (with_reducible show wpAny _ _ (eval (PySem.Expr.ListComp _ _ _ _) _) _ _ _)); (fail_if_success (with_reducible show wpAny _ _ (exec (PySem.Stmt.Assign _ (PySem.Expr.ListComp _ _ _ _) _) _) _ _ _)); (fail_if_success (with_reducible show wpAny _ _ (eval (PySem.Expr.Subscript _ (PySem.Expr.Slice _ _ _ _) _) _) _ _ _)); (fail_if_success (with_reducible show wpAny _ _ (call (Value.ref _) _) _ _ _)); first | walk1 | (dsimp only; walk1) | (leave1; walk_say "STEP leave1"; try dsimp only)) | fail "no step"))
  rename_i T0 hA lt0 P hB F₁ N₁ lt1
  k_dflt (refine found_spec (dp := callerA.depth + 1) (un := callerA.units + 3) (l := _ :: []) (rows := [(5, 1)]) (tl := [(T0, tup [.int 5 _, .int 1 _] 0)]) (Cx.inner B' X' T' F₁ rfl rfl) (by decide) (by decide) ⟨_, N₁.get (.head _), rfl, _, rfl⟩ (hT_of N₁ (fun p hp => .tail _ hp) rfl) (fun p hp => by rw [List.mem_singleton.mp hp]) ⟨rfl, fun i r e => ?_⟩ (by decide) ?_)
  · cases i with
    | zero => cases e; exact ⟨T0, _, _, 0, rfl, .head _⟩
    | succ i => simp at e
  intro h₂ tk₂ k₂
  have F₂ := F₁.keeps k₂
  have N₂ := nilN F₂
  clear F₁ N₁
  (try dsimp only)
  (repeat' (first | (k_unfold; (try dsimp only)) | ((fail_if_success (with_reducible show wpAny _ _ (exec (PySem.Stmt.For _ _ _ _ _) _) _ _ _)); (fail_if_success (with_reducible show wpAny _ _ (exec (PySem.Stmt.While _ _ _ _) _) _ _ _)); (fail_if_success (with_reducible show wpAny _ _ (pyIter _) _ _ _)); (fail_if_success (with_reducible show wpAny _ _ (eval (PySem.Expr.ListComp _ _ _ _) _) _ _ _)); (fail_if_success (with_reducible show wpAny _ _ (exec (PySem.Stmt.Assign _ (PySem.Expr.ListComp _ _ _ _) _) _) _ _ _)); (fail_if_success (with_reducible show wpAny _ _ (eval (PySem.Expr.Subscript _ (PySem.Expr.Slice _ _ _ _) _) _) _ _ _)); (fail_if_success (with_reducible show wpAny _ _ (call (Value.ref _) _) _ _ _)); first | walk1 | (dsimp only; walk1) | (leave1; walk_say "STEP leave1"; try dsimp only)) | fail "no step"))
  rename Fr _ _ _ _ => F₃
  rename IntsAre _ _ => hI
  rename Heap.IsList _ _ _ => hL
  rename ¬ ((63 : Nat) : Int) < _ => h63
  k_dflt (refine pool_spec (dp := callerA.depth + 1) (un := callerA.units + 3) (l := _ :: []) (Cx.inner B' X' T' F₃ rfl rfl) (by decide) (by decide) (isList_keeps hL F₃.keep) hI (by omega) ?_)
  intro h₄ tk₄ src x0 y0 tx0 ty0 k₄ hn₄ hs₄
  have F₄ := F₃.keeps k₄
  have N₄ := news_new F₃ (nilN F₄) hs₄ hn₄
  clear F₃
  (try dsimp only)
  (repeat' (first | (k_unfold; (try dsimp only)) | ((fail_if_success (with_reducible show wpAny _ _ (exec (PySem.Stmt.For _ _ _ _ _) _) _ _ _)); (fail_if_success (with_reducible show wpAny _ _ (exec (PySem.Stmt.While _ _ _ _) _) _ _ _)); (fail_if_success (with_reducible show wpAny _ _ (pyIter _) _ _ _)); (fail_if_success (with_reducible show wpAny _ _ (eval (PySem.Expr.ListComp _ _ _ _) _) _ _ _)); (fail_if_success (with_reducible show wpAny _ _ (exec (PySem.Stmt.Assign _ (PySem.Expr.ListComp _ _ _ _) _) _) _ _ _)); (fail_if_success (with_reducible show wpAny _ _ (eval (PySem.Expr.Subscript _ (PySem.Expr.Slice _ _ _ _) _) _) _ _ _)); (fail_if_success (with_reducible show wpAny _ _ (call (Value.ref _) _) _ _ _)); first | walk1 | (dsimp only; walk1) | (leave1; walk_say "STEP leave1"; try dsimp only)) | fail "no step"))
  ((rename Fr _ _ _ _ => lF'); (with_unfolding_all refine' For_invVF lF' ?k1 ?k2 ?_; (case k1 => exact rfl); (case k2 => exact rfl); k_whole))
  (repeat' (first | (k_unfold; (try dsimp only)) | ((fail_if_success (with_reducible show wpAny _ _ (exec (PySem.Stmt.For _ _ _ _ _) _) _ _ _)); (fail_if_success (with_reducible show wpAny _ _ (exec (PySem.Stmt.While _ _ _ _) _) _ _ _)); (fail_if_success (with_reducible show wpAny _ _ (pyIter _) _ _ _)); (fail_if_success (with_reducible show wpAny _ _ (eval (PySem.Expr.ListComp _ _ _ _) _) _ _ _)); (fail_if_success (with_reducible show wpAny _ _ (exec (PySem.Stmt.Assign _ (PySem.Expr.ListComp _ _ _ _) _) _) _ _ _)); (fail_if_success (with_reducible show wpAny _ _ (eval (PySem.Expr.Subscript _ (PySem.Expr.Slice _ _ _ _) _) _) _ _ _)); (fail_if_success (with_reducible show wpAny _ _ (call (Value.ref _) _) _ _ _)); (fail_if_success (with_reducible show wpAny _ _ (call (Value.type "range") _) _ _ _)); (fail_if_success (with_reducible show wpAny _ _ (compareOp PySem.CmpOp.NotEq (Value.ref _) (Value.ref _)) _ _ _)); (fail_if_success (with_reducible show wpAny _ _ (call (Value.builtin "list.append") _) _ _ _)); (fail_if_success (with_reducible show wpAny _ _ (binaryOp PySem.Operator.Add (Value.ref _) (Value.ref _)) _ _ _)); (fail_if_success (with_reducible show wpAny _ _ (subscriptTail _ _ (Value.ref _) (Value.int _ _)) _ _ _)); first | walk1 | (dsimp only; walk1) | (leave1; walk_say "STEP leave1"; try dsimp only)) | fail "no step"))
  rename_i R hC lt2 Tp hD lt3 hE hF hG N₅
  have hRs : ∀ p ∈ [(R, lst [] 0)], p.1 ≠ src := fun p hp => by rw [List.mem_singleton.mp hp]; exact Nat.ne_of_gt lt2
  have N₆ := mvN N₅ mvA
  k_dflt (refine take_spec (dp := callerA.depth + 1) (un := callerA.units + 3) (l := _ :: []) (Cx.inner B' X' T' lF' rfl rfl) (by decide) (by decide) (N₆.get (.head _)) (N₆.fresh (.head _)) (fun e he q => (N₆ _ (.head _)).2.1 (by rw [List.mem_singleton.mp he] at q; exact (Option.some.inj q).symm)) (by decide) (by decide) ?_)
  intro h₆ tk₆ fig tf x1 y1 tx1 ty1 n1 hf0 hf1 hk₆ hs₆
  obtain ⟨F₇, N₇⟩ := src_step lF' N₆ hRs hk₆ hs₆
  clear lF' N₅ N₆
  (try dsimp only)
  (repeat' (first | (k_unfold; (try dsimp only)) | ((fail_if_success (with_reducible show wpAny _ _ (exec (PySem.Stmt.For _ _ _ _ _) _) _ _ _)); (fail_if_success (with_reducible show wpAny _ _ (exec (PySem.Stmt.While _ _ _ _) _) _ _ _)); (fail_if_success (with_reducible show wpAny _ _ (pyIter _) _ _ _)); (fail_if_success (with_reducible show wpAny _ _ (eval (PySem.Expr.ListComp _ _ _ _) _) _ _ _)); (fail_if_success (with_reducible show wpAny _ _ (exec (PySem.Stmt.Assign _ (PySem.Expr.ListComp _ _ _ _) _) _) _ _ _)); (fail_if_success (with_reducible show wpAny _ _ (eval (PySem.Expr.Subscript _ (PySem.Expr.Slice _ _ _ _) _) _) _ _ _)); (fail_if_success (with_reducible show wpAny _ _ (call (Value.ref _) _) _ _ _)); (fail_if_success (with_reducible show wpAny _ _ (call (Value.type "range") _) _ _ _)); (fail_if_success (with_reducible show wpAny _ _ (compareOp PySem.CmpOp.NotEq (Value.ref _) (Value.ref _)) _ _ _)); (fail_if_success (with_reducible show wpAny _ _ (call (Value.builtin "list.append") _) _ _ _)); (fail_if_success (with_reducible show wpAny _ _ (binaryOp PySem.Operator.Add (Value.ref _) (Value.ref _)) _ _ _)); (fail_if_success (with_reducible show wpAny _ _ (subscriptTail _ _ (Value.ref _) (Value.int _ _)) _ _ _)); first | walk1 | (dsimp only; walk1) | (leave1; walk_say "STEP leave1"; try dsimp only)) | fail "no step"))
  k_dflt (refine range1_rows F₇ N₇ ?_)
  intro h₈ tk₈ u1 u2 u3 hr F₈ N₈ k₈
  clear F₇ N₇
  (try dsimp only)
  (repeat' (first | (k_unfold; (try dsimp only)) | ((fail_if_success (with_reducible show wpAny _ _ (exec (PySem.Stmt.For _ _ _ _ _) _) _ _ _)); (fail_if_success (with_reducible show wpAny _ _ (exec (PySem.Stmt.While _ _ _ _) _) _ _ _)); (fail_if_success (with_reducible show wpAny _ _ (pyIter _) _ _ _)); (fail_if_success (with_reducible show wpAny _ _ (eval (PySem.Expr.ListComp _ _ _ _) _) _ _ _)); (fail_if_success (with_reducible show wpAny _ _ (exec (PySem.Stmt.Assign _ (PySem.Expr.ListComp _ _ _ _) _) _) _ _ _)); (fail_if_success (with_reducible show wpAny _ _ (eval (PySem.Expr.Subscript _ (PySem.Expr.Slice _ _ _ _) _) _) _ _ _)); (fail_if_success (with_reducible show wpAny _ _ (call (Value.ref _) _) _ _ _)); (fail_if_success (with_reducible show wpAny _ _ (call (Value.type "range") _) _ _ _)); (fail_if_success (with_reducible show wpAny _ _ (compareOp PySem.CmpOp.NotEq (Value.ref _) (Value.ref _)) _ _ _)); (fail_if_success (with_reducible show wpAny _ _ (call (Value.builtin "list.append") _) _ _ _)); (fail_if_success (with_reducible show wpAny _ _ (binaryOp PySem.Operator.Add (Value.ref _) (Value.ref _)) _ _ _)); (fail_if_success (with_reducible show wpAny _ _ (subscriptTail _ _ (Value.ref _) (Value.int _ _)) _ _ _)); first | walk1 | (dsimp only; walk1) | (leave1; walk_say "STEP leave1"; try dsimp only)) | fail "no step"))
  obtain ⟨n, hn⟩ : ∃ n : Nat, (7 : Int) - fig = n := ⟨(7 - fig).toNat, by omega⟩
  have hn7 : n ≤ 7 := by omega
  rw [hn] at hr
  refine (iter_range (n := n) (fun i nw => ∃ (x y : Int) (tx ty : Tok) (e : Nat) (vs : List Value) (rows : List (Int × Int)) (tl : List (Addr × Obj)) (c : Nat), nw = (src, lst [.int x tx, .int y ty] e) :: (R, lst vs c) :: tl ∧ RowsIn tl vs rows ∧ rows.length = i ∧ (∀ p ∈ tl, p.2.cls = .type "tuple") ∧ (∀ p ∈ (R, lst vs c) :: tl, p.1 ≠ src) ∧ (∀ p ∈ tl, p.1 ≠ R)) rfl hr (small_one (by decide) (by decide) (by omega) (by omega)) F₈ N₈ ?h0 ?turn ?done)
  case h0 => exact ⟨_, _, _, _, _, [], [], [], 0, rfl, ⟨rfl, fun i r e => by simp at e⟩, rfl, (fun p h => nomatch h), hRs, (fun p h => nomatch h)⟩
  case turn =>
    clear F₈ N₈
    rintro i nw h tk own tt hi ⟨x, y, tx, ty, e, vs, rows, tl, c, rfl, hRw, hlen, htc, hsrc, hRt⟩ hoff hown ⟨oI, hoI⟩ F N
    have hos : ∀ p ∈ own, p.1 ≠ src := fun p hp q => hoff _ (.head _) (q.symm.trans (hown p hp))
    have hoR : ∀ p ∈ own, p.1 ≠ R := fun p hp q => hoff _ (.tail _ (.head _)) (q.symm.trans (hown p hp))
    have N₁ := mvN N mvB
    have off₁ : ∀ p ∈ (R, lst vs c) :: (own ++ tl), p.1 ≠ src := fun p hp => by
      rcases List.mem_cons.mp hp with rfl | hp
      · exact hsrc _ (.head _)
      · exact (List.mem_append.mp hp).elim (hos p) fun hp => hsrc p (.tail _ hp)
    clear N
    (try dsimp only)
    (try k_fold)
    (repeat' (first | (k_unfold; (try dsimp only)) | ((fail_if_success (with_reducible show wpAny _ _ (exec (PySem.Stmt.For _ _ _ _ _) _) _ _ _)); (fail_if_success (with_reducible show wpAny _ _ (exec (PySem.Stmt.While _ _ _ _) _) _ _ _)); (fail_if_success (with_reducible show wpAny _ _ (pyIter _) _ _ _)); (fail_if_success (with_reducible show wpAny _ _ (eval (PySem.Expr.ListComp _ _ _ _) _) _ _ _)); (fail_if_success (with_reducible show wpAny _ _ (exec (PySem.Stmt.Assign _ (PySem.Expr.ListComp _ _ _ _) _) _) _ _ _)); (fail_if_success (with_reducible show wpAny _ _ (eval (PySem.Expr.Subscript _ (PySem.Expr.Slice _ _ _ _) _) _) _ _ _)); (fail_if_success (with_reducible show wpAny _ _ (call (Value.ref _) _) _ _ _)); (fail_if_success (with_reducible show wpAny _ _ (call (Value.type "range") _) _ _ _)); (fail_if_success (with_reducible show wpAny _ _ (compareOp PySem.CmpOp.NotEq (Value.ref _) (Value.ref _)) _ _ _)); (fail_if_success (with_reducible show wpAny _ _ (call (Value.builtin "list.append") _) _ _ _)); (fail_if_success (with_reducible show wpAny _ _ (binaryOp PySem.Operator.Add (Value.ref _) (Value.ref _)) _ _ _)); (fail_if_success (with_reducible show wpAny _ _ (subscriptTail _ _ (Value.ref _) (Value.int _ _)) _ _ _)); first | walk1 | (dsimp only; walk1) | (leave1; walk_say "STEP leave1"; try dsimp only)) | fail "no step"))
    rename Fr _ _ _ _ => F₁
    k_dflt (refine take_spec (dp := callerA.depth + 1) (un := callerA.units + 3) (l := _ :: []) (Cx.inner B' X' T' F₁ rfl rfl) (by decide) (by decide) (N₁.get (.head _)) (N₁.fresh (.head _)) (fun e he q => (N₁ _ (.head _)).2.1 (by rw [List.mem_singleton.mp he] at q; exact (Option.some.inj q).symm)) (by decide) (by decide) ?_)
    intro h₂ tk₂ a ta xa ya txa tya na ha0 ha1 hk₂ hs₂
    obtain ⟨F₂, N₂⟩ := src_step F₁ N₁ off₁ hk₂ hs₂
    clear F₁ N₁
    (try dsimp only)
    (repeat' (first | (k_unfold; (try dsimp only)) | ((fail_if_success (with_reducible show wpAny _ _ (exec (PySem.Stmt.For _ _ _ _ _) _) _ _ _)); (fail_if_success (with_reducible show wpAny _ _ (exec (PySem.Stmt.While _ _ _ _) _) _ _ _)); (fail_if_success (with_reducible show wpAny _ _ (pyIter _) _ _ _)); (fail_if_success (with_reducible show wpAny _ _ (eval (PySem.Expr.ListComp _ _ _ _) _) _ _ _)); (fail_if_success (with_reducible show wpAny _ _ (exec (PySem.Stmt.Assign _ (PySem.Expr.ListComp _ _ _ _) _) _) _ _ _)); (fail_if_success (with_reducible show wpAny _ _ (eval (PySem.Expr.Subscript _ (PySem.Expr.Slice _ _ _ _) _) _) _ _ _)); (fail_if_success (with_reducible show wpAny _ _ (call (Value.ref _) _) _ _ _)); (fail_if_success (with_reducible show wpAny _ _ (call (Value.type "range") _) _ _ _)); (fail_if_success (with_reducible show wpAny _ _ (compareOp PySem.CmpOp.NotEq (Value.ref _) (Value.ref _)) _ _ _)); (fail_if_success (with_reducible show wpAny _ _ (call (Value.builtin "list.append") _) _ _ _)); (fail_if_success (with_reducible show wpAny _ _ (binaryOp PySem.Operator.Add (Value.ref _) (Value.ref _)) _ _ _)); (fail_if_success (with_reducible show wpAny _ _ (subscriptTail _ _ (Value.ref _) (Value.int _ _)) _ _ _)); first | walk1 | (dsimp only; walk1) | (leave1; walk_say "STEP leave1"; try dsimp only)) | fail "no step"))
    rename Fr _ _ _ _ => F₃
    k_dflt (refine take_spec (dp := callerA.depth + 1) (un := callerA.units + 3) (l := _ :: []) (Cx.inner B' X' T' F₃ rfl rfl) (by decide) (by decide) (N₂.get (.head _)) (N₂.fresh (.head _)) (fun e he q => (N₂ _ (.head _)).2.1 (by rw [List.mem_singleton.mp he] at q; exact (Option.some.inj q).symm)) (by decide) (by decide) ?_)
    intro h₄ tk₄ b tb xb yb txb tyb nb hb0 hb1 hk₄ hs₄
    obtain ⟨F₄, N₄⟩ := src_step F₃ N₂ off₁ hk₄ hs₄
    clear F₃ N₂
    (try dsimp only)
    (repeat' (first | (k_unfold; (try dsimp only)) | ((fail_if_success (with_reducible show wpAny _ _ (exec (PySem.Stmt.For _ _ _ _ _) _) _ _ _)); (fail_if_success (with_reducible show wpAny _ _ (exec (PySem.Stmt.While _ _ _ _) _) _ _ _)); (fail_if_success (with_reducible show wpAny _ _ (pyIter _) _ _ _)); (fail_if_success (with_reducible show wpAny _ _ (eval (PySem.Expr.ListComp _ _ _ _) _) _ _ _)); (fail_if_success (with_reducible show wpAny _ _ (exec (PySem.Stmt.Assign _ (PySem.Expr.ListComp _ _ _ _) _) _) _ _ _)); (fail_if_success (with_reducible show wpAny _ _ (eval (PySem.Expr.Subscript _ (PySem.Expr.Slice _ _ _ _) _) _) _ _ _)); (fail_if_success (with_reducible show wpAny _ _ (call (Value.ref _) _) _ _ _)); (fail_if_success (with_reducible show wpAny _ _ (call (Value.type "range") _) _ _ _)); (fail_if_success (with_reducible show wpAny _ _ (compareOp PySem.CmpOp.NotEq (Value.ref _) (Value.ref _)) _ _ _)); (fail_if_success (with_reducible show wpAny _ _ (call (Value.builtin "list.append") _) _ _ _)); (fail_if_success (with_reducible show wpAny _ _ (binaryOp PySem.Operator.Add (Value.ref _) (Value.ref _)) _ _ _)); (fail_if_success (with_reducible show wpAny _ _ (subscriptTail _ _ (Value.ref _) (Value.int _ _)) _ _ _)); first | walk1 | (dsimp only; walk1) | (leave1; walk_say "STEP leave1"; try dsimp only)) | fail "no step"))
    rename_i l2 hA5 F₅ N₅ lt5
    have off₅ : ∀ p ∈ (l2, lst [.int a ta, .int b tb] 0) :: (R, lst vs c) :: (own ++ tl), p.1 ≠ src := List.forall_mem_cons.mpr ⟨Nat.ne_of_gt lt5.1, off₁⟩
    have N₆ := mvN N₅ mvC
    k_dflt (refine one_spec (dp := callerA.depth + 1) (un := callerA.units + 3) (l := _ :: []) (Cx.inner B' X' T' F₅ rfl rfl) (by decide) (by decide) (N₆.get (.head _)) (N₆.fresh (.head _)) (fun e he q => (N₆ _ (.head _)).2.1 (by rw [List.mem_singleton.mp he] at q; exact (Option.some.inj q).symm)) ⟨_, N₆.get (.tail _ (.head _)), rfl, _, rfl⟩ (Nat.ne_of_gt lt5.1) (vs := [.int a ta, .int b tb]) (Nat.succ_pos _) (by show 2 < 1000; decide) ?_)
    intro h₇ tk₇ v k xc yc txc tyc nc hv hk₇ hs₇
    obtain ⟨tag, tg, rfl⟩ : ∃ (tag : Int) (tg : Tok), v = .int tag tg := by
      rcases k with _ | _ | k
      · exact ⟨a, ta, (Option.some.inj hv).symm⟩
      · exact ⟨b, tb, (Option.some.inj hv).symm⟩
      · simp at hv
    obtain ⟨F₇, N₇⟩ := src_step F₅ N₆ off₅ hk₇ hs₇
    clear F₅ N₅ N₆
    (try dsimp only)
    (repeat' (first | (k_unfold; (try dsimp only)) | ((fail_if_success (with_reducible show wpAny _ _ (exec (PySem.Stmt.For _ _ _ _ _) _) _ _ _)); (fail_if_success (with_reducible show wpAny _ _ (exec (PySem.Stmt.While _ _ _ _) _) _ _ _)); (fail_if_success (with_reducible show wpAny _ _ (pyIter _) _ _ _)); (fail_if_success (with_reducible show wpAny _ _ (eval (PySem.Expr.ListComp _ _ _ _) _) _ _ _)); (fail_if_success (with_reducible show wpAny _ _ (exec (PySem.Stmt.Assign _ (PySem.Expr.ListComp _ _ _ _) _) _) _ _ _)); (fail_if_success (with_reducible show wpAny _ _ (eval (PySem.Expr.Subscript _ (PySem.Expr.Slice _ _ _ _) _) _) _ _ _)); (fail_if_success (with_reducible show wpAny _ _ (call (Value.ref _) _) _ _ _)); (fail_if_success (with_reducible show wpAny _ _ (call (Value.type "range") _) _ _ _)); (fail_if_success (with_reducible show wpAny _ _ (compareOp PySem.CmpOp.NotEq (Value.ref _) (Value.ref _)) _ _ _)); (fail_if_success (with_reducible show wpAny _ _ (call (Value.builtin "list.append") _) _ _ _)); (fail_if_success (with_reducible show wpAny _ _ (binaryOp PySem.Operator.Add (Value.ref _) (Value.ref _)) _ _ _)); (fail_if_success (with_reducible show wpAny _ _ (subscriptTail _ _ (Value.ref _) (Value.int _ _)) _ _ _)); first | walk1 | (dsimp only; walk1) | (leave1; walk_say "STEP leave1"; try dsimp only)) | fail "no step"))
    rename_i T₁ hT F₈ N₈ lt8
    have hvl : vs.length ≤ 7 := by rw [hRw.len, hlen]; omega
    have N₉ := mvN N₈ mvD
    have hRsrc : R ≠ src := hsrc _ (.head _)
    k_dflt (refine append_at (hsz := by rw [List.size_toArray, sizeLine_eq]; omega) (N₉.get (.head _)) ?_)
    intro h₉ hs₉ hR₉
    rw [List.push_toArray] at hR₉
    have F₁₀ := F₈.change hs₉ (N₉ _ (.head _)).2.1 (N₉.fresh (.head _))
    have N₁₀ := News.setIn N₉ (fun p hp => nomatch hp) (List.forall_mem_cons.mpr ⟨Nat.ne_of_gt lt8.2.2.1, List.forall_mem_cons.mpr ⟨Ne.symm hRsrc, fun p hp => (List.mem_append.mp hp).elim (hoR p) (hRt p)⟩⟩) hs₉ hR₉
    clear F₈ N₈ N₉
    (try dsimp only)
    (repeat' (first | (k_unfold; (try dsimp only)) | ((fail_if_success (with_reducible show wpAny _ _ (exec (PySem.Stmt.For _ _ _ _ _) _) _ _ _)); (fail_if_success (with_reducible show wpAny _ _ (exec (PySem.Stmt.While _ _ _ _) _) _ _ _)); (fail_if_success (with_reducible show wpAny _ _ (pyIter _) _ _ _)); (fail_if_success (with_reducible show wpAny _ _ (eval (PySem.Expr.ListComp _ _ _ _) _) _ _ _)); (fail_if_success (with_reducible show wpAny _ _ (exec (PySem.Stmt.Assign _ (PySem.Expr.ListComp _ _ _ _) _) _) _ _ _)); (fail_if_success (with_reducible show wpAny _ _ (eval (PySem.Expr.Subscript _ (PySem.Expr.Slice _ _ _ _) _) _) _ _ _)); (fail_if_success (with_reducible show wpAny _ _ (call (Value.ref _) _) _ _ _)); (fail_if_success (with_reducible show wpAny _ _ (call (Value.type "range") _) _ _ _)); (fail_if_success (with_reducible show wpAny _ _ (compareOp PySem.CmpOp.NotEq (Value.ref _) (Value.ref _)) _ _ _)); (fail_if_success (with_reducible show wpAny _ _ (call (Value.builtin "list.append") _) _ _ _)); (fail_if_success (with_reducible show wpAny _ _ (binaryOp PySem.Operator.Add (Value.ref _) (Value.ref _)) _ _ _)); (fail_if_success (with_reducible show wpAny _ _ (subscriptTail _ _ (Value.ref _) (Value.int _ _)) _ _ _)); first | walk1 | (dsimp only; walk1) | (leave1; walk_say "STEP leave1"; try dsimp only)) | fail "no step"))
    have lt9 := allLt_mem lt8.2.2.2
    refine LoopStepU.intro F₁₀ (mvN N₁₀ mvE) ?_ ⟨fun z hz => if_neg hz, _, _, _, _, _, vs ++ [.ref T₁], rows ++ [(tag, 100 + (i : Int))], (T₁, tup [.int tag tg, .int (100 + (i : Int)) _] 0) :: tl, c + 1, rfl, hRw.snoc (r := (tag, 100 + (i : Int))), by rw [List.length_append, hlen]; rfl, ?_, ?_, ?_⟩
    · intro p hp q
      have q' := List.mem_singleton.mp q
      rcases List.mem_cons.mp hp with rfl | hp
      · exact hoff _ (.head _) q'
      rcases List.mem_cons.mp hp with rfl | hp
      · exact hoff (R, lst vs c) (.tail _ (.head _)) q'
      rcases List.mem_cons.mp hp with rfl | hp
      · exact absurd q' (Nat.ne_of_gt (lt9 _ (List.mem_append_left _ hoI)))
      · exact hoff _ (.tail _ (.tail _ hp)) q'
    · exact List.forall_mem_cons.mpr ⟨rfl, htc⟩
    · exact List.forall_mem_cons.mpr ⟨hRsrc, List.forall_mem_cons.mpr ⟨Nat.ne_of_gt lt8.1, fun p hp => hsrc p (.tail _ hp)⟩⟩
    · exact List.forall_mem_cons.mpr ⟨Nat.ne_of_gt lt8.2.2.1, hRt⟩
  case done =>
    clear F₈ N₈
    rintro u nw h tk ⟨x, y, tx, ty, e, vs, rows, tl, c, rfl, hRw, hlen, htc, hsrc, hRt⟩ F N
    have hvl : vs.length = rows.length := hRw.len
    have hrl : rows.length ≤ 7 := by omega
    have hRsrc : R ≠ src := hsrc _ (.head _)
    (try dsimp only)
    (try k_fold)
    (repeat' (first | (k_unfold; (try dsimp only)) | ((fail_if_success (with_reducible show wpAny _ _ (exec (PySem.Stmt.For _ _ _ _ _) _) _ _ _)); (fail_if_success (with_reducible show wpAny _ _ (exec (PySem.Stmt.While _ _ _ _) _) _ _ _)); (fail_if_success (with_reducible show wpAny _ _ (pyIter _) _ _ _)); (fail_if_success (with_reducible show wpAny _ _ (eval (PySem.Expr.ListComp _ _ _ _) _) _ _ _)); (fail_if_success (with_reducible show wpAny _ _ (exec (PySem.Stmt.Assign _ (PySem.Expr.ListComp _ _ _ _) _) _) _ _ _)); (fail_if_success (with_reducible show wpAny _ _ (eval (PySem.Expr.Subscript _ (PySem.Expr.Slice _ _ _ _) _) _) _ _ _)); (fail_if_success (with_reducible show wpAny _ _ (call (Value.ref _) _) _ _ _)); (fail_if_success (with_reducible show wpAny _ _ (call (Value.type "range") _) _ _ _)); (fail_if_success (with_reducible show wpAny _ _ (compareOp PySem.CmpOp.NotEq (Value.ref _) (Value.ref _)) _ _ _)); (fail_if_success (with_reducible show wpAny _ _ (call (Value.builtin "list.append") _) _ _ _)); (fail_if_success (with_reducible show wpAny _ _ (binaryOp PySem.Operator.Add (Value.ref _) (Value.ref _)) _ _ _)); (fail_if_success (with_reducible show wpAny _ _ (subscriptTail _ _ (Value.ref _) (Value.int _ _)) _ _ _)); first | walk1 | (dsimp only; walk1) | (leave1; walk_say "STEP leave1"; try dsimp only)) | fail "no step"))
    k_dflt (refine list_comp F (by with_unfolding_all rfl) (by decide) rfl (by decide) ?_)
    (repeat' (first | (k_unfold; (try dsimp only)) | ((fail_if_success (with_reducible show wpAny _ _ (exec (PySem.Stmt.For _ _ _ _ _) _) _ _ _)); (fail_if_success (with_reducible show wpAny _ _ (exec (PySem.Stmt.While _ _ _ _) _) _ _ _)); (fail_if_success (with_reducible show wpAny _ _ (pyIter _) _ _ _)); (fail_if_success (with_reducible show wpAny _ _ (eval (PySem.Expr.ListComp _ _ _ _) _) _ _ _)); (fail_if_success (with_reducible show wpAny _ _ (exec (PySem.Stmt.Assign _ (PySem.Expr.ListComp _ _ _ _) _) _) _ _ _)); (fail_if_success (with_reducible show wpAny _ _ (eval (PySem.Expr.Subscript _ (PySem.Expr.Slice _ _ _ _) _) _) _ _ _)); (fail_if_success (with_reducible show wpAny _ _ (call (Value.ref _) _) _ _ _)); (fail_if_success (with_reducible show wpAny _ _ (call (Value.type "range") _) _ _ _)); (fail_if_success (with_reducible show wpAny _ _ (compareOp PySem.CmpOp.NotEq (Value.ref _) (Value.ref _)) _ _ _)); (fail_if_success (with_reducible show wpAny _ _ (call (Value.builtin "list.append") _) _ _ _)); (fail_if_success (with_reducible show wpAny _ _ (binaryOp PySem.Operator.Add (Value.ref _) (Value.ref _)) _ _ _)); (fail_if_success (with_reducible show wpAny _ _ (subscriptTail _ _ (Value.ref _) (Value.int _ _)) _ _ _)); first | walk1 | (dsimp only; walk1) | (leave1; walk_say "STEP leave1"; try dsimp only)) | fail "no step"))
    refine ⟨R, vs.toArray, _, _, fun i ys nw => ∃ en, nw = en ++ ((src, lst [.int x tx, .int y ty] e) :: (R, lst vs c) :: tl) ∧ EntriesIn w en ys (rows.take i), rfl, rfl, F, N, ?_, ?_, ?_, ⟨[], rfl, EntriesIn.nil⟩,
      casg_pair (fun i v1 v2 => ∃ (r : Int × Int) (t1 t2 : Tok), rows[i]? = some r ∧ v1 = .int r.1 t1 ∧ v2 = .int r.2 t2) rfl rfl rfl rfl (by decide) ?_, ?_, ?_⟩
    · rw [List.size_toArray, hvl, sizeLine_eq]; omega
    · rintro i ys nw ⟨en, rfl, _⟩
      exact .inr ⟨_, List.mem_append_right _ (.tail _ (.head _)), rfl, _, rfl⟩
    · rintro i ys nw ⟨en, _, hE⟩
      have := hE.len
      rw [List.length_take] at this
      omega
    · rintro i v ys nw h hv ⟨en, rfl, _⟩ F N
      have hv' : vs[i]? = some v := by simpa using hv
      have hi : i < rows.length := hvl ▸ (List.getElem?_eq_some_iff.mp hv').1
      obtain ⟨a, t1, t2, n, e1, e2⟩ := hRw.at_ i rows[i] (List.getElem?_eq_getElem hi)
      rw [e1] at hv'
      exact ⟨a, _, _, (Option.some.inj hv').symm, ⟨_, N.get (List.mem_append_right _ (.tail _ (.tail _ e2))), rfl, n, rfl⟩, rows[i], t1, t2, List.getElem?_eq_getElem hi, rfl, rfl⟩
    · rintro i v ys nw I oI C₁ oC D m₂ h tk E' hv ⟨en, rfl, hE⟩ hC ⟨v1, v2, ⟨r, t1, t2, hr, rfl, rfl⟩, hm1, hm2⟩ F N off ne
      refine wpAny_tests_nil ?_
      simp only [if_true]
      (try k_fold)
      (repeat' (first | (k_unfold; (try dsimp only)) | ((fail_if_success (with_reducible show wpAny _ _ (exec (PySem.Stmt.For _ _ _ _ _) _) _ _ _)); (fail_if_success (with_reducible show wpAny _ _ (exec (PySem.Stmt.While _ _ _ _) _) _ _ _)); (fail_if_success (with_reducible show wpAny _ _ (pyIter _) _ _ _)); (fail_if_success (with_reducible show wpAny _ _ (eval (PySem.Expr.ListComp _ _ _ _) _) _ _ _)); (fail_if_success (with_reducible show wpAny _ _ (exec (PySem.Stmt.Assign _ (PySem.Expr.ListComp _ _ _ _) _) _) _ _ _)); (fail_if_success (with_reducible show wpAny _ _ (eval (PySem.Expr.Subscript _ (PySem.Expr.Slice _ _ _ _) _) _) _ _ _)); (fail_if_success (with_reducible show wpAny _ _ (call (Value.ref _) _) _ _ _)); (fail_if_success (with_reducible show wpAny _ _ (call (Value.type "range") _) _ _ _)); (fail_if_success (with_reducible show wpAny _ _ (compareOp PySem.CmpOp.NotEq (Value.ref _) (Value.ref _)) _ _ _)); (fail_if_success (with_reducible show wpAny _ _ (call (Value.builtin "list.append") _) _ _ _)); (fail_if_success (with_reducible show wpAny _ _ (binaryOp PySem.Operator.Add (Value.ref _) (Value.ref _)) _ _ _)); (fail_if_success (with_reducible show wpAny _ _ (subscriptTail _ _ (Value.ref _) (Value.int _ _)) _ _ _)); first | walk1 | (dsimp only; walk1) | (leave1; walk_say "STEP leave1"; try dsimp only)) | fail "no step"))
      rename Fr _ _ _ _ => F₅
      rename News _ _ _ _ => N₅
      rename _ < _ ∧ _ => l5
      k_dflt (refine entry_spec (dp := callerA.depth + 1) (un := callerA.units + 3) (l := _ :: []) (Cx.inner B' X' T' F₅ rfl rfl) (by decide) (by decide) ?_)
      intro h' tk' x dx ta tb tc k nx ndx hxd e1 e2
      (repeat' (first | (k_unfold; (try dsimp only)) | ((fail_if_success (with_reducible show wpAny _ _ (exec (PySem.Stmt.For _ _ _ _ _) _) _ _ _)); (fail_if_success (with_reducible show wpAny _ _ (exec (PySem.Stmt.While _ _ _ _) _) _ _ _)); (fail_if_success (with_reducible show wpAny _ _ (pyIter _) _ _ _)); (fail_if_success (with_reducible show wpAny _ _ (eval (PySem.Expr.ListComp _ _ _ _) _) _ _ _)); (fail_if_success (with_reducible show wpAny _ _ (exec (PySem.Stmt.Assign _ (PySem.Expr.ListComp _ _ _ _) _) _) _ _ _)); (fail_if_success (with_reducible show wpAny _ _ (eval (PySem.Expr.Subscript _ (PySem.Expr.Slice _ _ _ _) _) _) _ _ _)); first | walk1 | (dsimp only; walk1) | (leave1; walk_say "STEP leave1"; try dsimp only)) | fail "no step"))
      refine ⟨h', tk', _, rfl, F₅.keeps k, news_mv (news_new F₅ (news_new F₅ (N₅.grown k) e2 ndx) e1 nx), ?_, ⟨_ :: _ :: _ :: en, rfl, take_snoc hr ▸ EntriesIn.snoc hE⟩⟩
      refine List.forall_mem_cons.mpr ⟨⟨Ne.symm (ne_of_fresh (N₅.get (.tail _ (.head _))) nx), Ne.symm (ne_of_fresh (N₅.get (.tail _ (.tail _ (.head _)))) nx), Ne.symm (ne_of_fresh (N₅.get (.tail _ (.tail _ (.tail _ (.head _))))) nx)⟩, ?_⟩
      refine List.forall_mem_cons.mpr ⟨⟨Ne.symm (ne_of_fresh (N₅.get (.tail _ (.head _))) ndx), Ne.symm (ne_of_fresh (N₅.get (.tail _ (.tail _ (.head _)))) ndx), Ne.symm (ne_of_fresh (N₅.get (.tail _ (.tail _ (.tail _ (.head _))))) ndx)⟩, ?_⟩
      exact List.forall_mem_cons.mpr ⟨⟨Nat.ne_of_gt l5.1, Nat.ne_of_gt l5.2.1, Nat.ne_of_gt l5.2.2.1⟩, off⟩
    · clear F N
      rintro D ys nw s₂ ⟨en, rfl, hE⟩ ⟨h, tk, rfl⟩ N off F
      rw [List.size_toArray, hvl, List.take_length] at hE
      (try dsimp only at N F ⊢)
      (try k_fold)
      (repeat' (first | (k_unfold; (try dsimp only)) | ((fail_if_success (with_reducible show wpAny _ _ (exec (PySem.Stmt.For _ _ _ _ _) _) _ _ _)); (fail_if_success (with_reducible show wpAny _ _ (exec (PySem.Stmt.While _ _ _ _) _) _ _ _)); (fail_if_success (with_reducible show wpAny _ _ (pyIter _) _ _ _)); (fail_if_success (with_reducible show wpAny _ _ (eval (PySem.Expr.ListComp _ _ _ _) _) _ _ _)); (fail_if_success (with_reducible show wpAny _ _ (exec (PySem.Stmt.Assign _ (PySem.Expr.ListComp _ _ _ _) _) _) _ _ _)); (fail_if_success (with_reducible show wpAny _ _ (eval (PySem.Expr.Subscript _ (PySem.Expr.Slice _ _ _ _) _) _) _ _ _)); (fail_if_success (with_reducible show wpAny _ _ (call (Value.ref _) _) _ _ _)); (fail_if_success (with_reducible show wpAny _ _ (call (Value.type "range") _) _ _ _)); (fail_if_success (with_reducible show wpAny _ _ (compareOp PySem.CmpOp.NotEq (Value.ref _) (Value.ref _)) _ _ _)); (fail_if_success (with_reducible show wpAny _ _ (call (Value.builtin "list.append") _) _ _ _)); (fail_if_success (with_reducible show wpAny _ _ (binaryOp PySem.Operator.Add (Value.ref _) (Value.ref _)) _ _ _)); (fail_if_success (with_reducible show wpAny _ _ (subscriptTail _ _ (Value.ref _) (Value.int _ _)) _ _ _)); first | walk1 | (dsimp only; walk1) | (leave1; walk_say "STEP leave1"; try dsimp only)) | fail "no step"))
      have hE' : EntriesAt w h ys rows := hE.at fun p hp => N.get (.tail _ (List.mem_append_left _ hp))
      k_dflt (refine told_spec (dp := callerA.depth + 1) (un := callerA.units + 3) (l := _ :: []) (Cx.inner B' X' T' F rfl rfl) (by decide) (by decide) ⟨_, N.get (.head _), rfl, _, rfl⟩ hE' (by omega) ?_)
      intro h₂ tk₂ tt₂ hk₂ hup₂ htold
      obtain ⟨F₂, N₂⟩ := told_keeps F (mvN N mvF) hk₂ hup₂
      clear F N hE'
      (try dsimp only)
      (repeat' (first | (k_unfold; (try dsimp only)) | ((fail_if_success (with_reducible show wpAny _ _ (exec (PySem.Stmt.For _ _ _ _ _) _) _ _ _)); (fail_if_success (with_reducible show wpAny _ _ (exec (PySem.Stmt.While _ _ _ _) _) _ _ _)); (fail_if_success (with_reducible show wpAny _ _ (pyIter _) _ _ _)); (fail_if_success (with_reducible show wpAny _ _ (eval (PySem.Expr.ListComp _ _ _ _) _) _ _ _)); (fail_if_success (with_reducible show wpAny _ _ (exec (PySem.Stmt.Assign _ (PySem.Expr.ListComp _ _ _ _) _) _) _ _ _)); (fail_if_success (with_reducible show wpAny _ _ (eval (PySem.Expr.Subscript _ (PySem.Expr.Slice _ _ _ _) _) _) _ _ _)); (fail_if_success (with_reducible show wpAny _ _ (call (Value.ref _) _) _ _ _)); (fail_if_success (with_reducible show wpAny _ _ (call (Value.type "range") _) _ _ _)); (fail_if_success (with_reducible show wpAny _ _ (compareOp PySem.CmpOp.NotEq (Value.ref _) (Value.ref _)) _ _ _)); (fail_if_success (with_reducible show wpAny _ _ (call (Value.builtin "list.append") _) _ _ _)); (fail_if_success (with_reducible show wpAny _ _ (binaryOp PySem.Operator.Add (Value.ref _) (Value.ref _)) _ _ _)); (fail_if_success (with_reducible show wpAny _ _ (subscriptTail _ _ (Value.ref _) (Value.int _ _)) _ _ _)); first | walk1 | (dsimp only; walk1) | (leave1; walk_say "STEP leave1"; try dsimp only)) | fail "no step"))
      k_dflt (refine due_spec (dp := callerA.depth + 1) (un := callerA.units + 3) (l := _ :: []) (Cx.inner B' X' T' F₂ rfl rfl) (by decide) (by decide) ⟨_, N₂.get (.tail _ (.head _)), rfl, _, rfl⟩ (fun p hp => N₂.get (.tail _ (.tail _ hp))) hRw (by omega) ?_)
      intro h₃ tk₃ tt₃ k₃ hdue
      have F₃ := F₂.keeps k₃
      have N₃ := N₂.grown k₃
      clear F₂ N₂
      obtain ⟨dat, as, bs, hra, hrb, hsh, heq⟩ : ∃ (dat : PyData) (as bs : List Addr), Reads h₃ (.ref tt₂) dat as ∧ Reads h₃ (.ref tt₃) dat bs ∧ PySem.SeqAt.shaped dat = true ∧ PyData.eqv dat dat = true := by
        rcases htold with ⟨hn1, as, h1⟩ | ⟨hn1, r1, p1, o1, as, h1⟩
        · rcases hdue with ⟨hn2, bs, h2⟩ | ⟨hn2, _⟩
          · exact ⟨_, as, bs, Reads.keeps k₃ h1, h2, rfl, rfl⟩
          · exact absurd hn2 hn1
        · rcases hdue with ⟨hn2, _⟩ | ⟨hn2, r2, p2, o2, bs, h2⟩
          · exact absurd hn1 hn2
          · have e := same_rows ((p1.map (·.1)).nodup_iff.mpr hn1) (p1.trans p2.symm) o1 o2
            subst e
            exact ⟨_, as, bs, Reads.keeps k₃ h1, h2, shaped_all _, eqv_all _⟩
      (try dsimp only)
      (repeat' (first | (k_unfold; (try dsimp only)) | ((fail_if_success (with_reducible show wpAny _ _ (exec (PySem.Stmt.For _ _ _ _ _) _) _ _ _)); (fail_if_success (with_reducible show wpAny _ _ (exec (PySem.Stmt.While _ _ _ _) _) _ _ _)); (fail_if_success (with_reducible show wpAny _ _ (pyIter _) _ _ _)); (fail_if_success (with_reducible show wpAny _ _ (eval (PySem.Expr.ListComp _ _ _ _) _) _ _ _)); (fail_if_success (with_reducible show wpAny _ _ (exec (PySem.Stmt.Assign _ (PySem.Expr.ListComp _ _ _ _) _) _) _ _ _)); (fail_if_success (with_reducible show wpAny _ _ (eval (PySem.Expr.Subscript _ (PySem.Expr.Slice _ _ _ _) _) _) _ _ _)); (fail_if_success (with_reducible show wpAny _ _ (call (Value.ref _) _) _ _ _)); (fail_if_success (with_reducible show wpAny _ _ (call (Value.type "range") _) _ _ _)); (fail_if_success (with_reducible show wpAny _ _ (compareOp PySem.CmpOp.NotEq (Value.ref _) (Value.ref _)) _ _ _)); (fail_if_success (with_reducible show wpAny _ _ (call (Value.builtin "list.append") _) _ _ _)); (fail_if_success (with_reducible show wpAny _ _ (binaryOp PySem.Operator.Add (Value.ref _) (Value.ref _)) _ _ _)); (fail_if_success (with_reducible show wpAny _ _ (subscriptTail _ _ (Value.ref _) (Value.int _ _)) _ _ _)); first | walk1 | (dsimp only; walk1) | (leave1; walk_say "STEP leave1"; try dsimp only)) | fail "no step"))
      k_dflt (refine PySem.SeqAt.compareNe_shaped hra hrb hsh hsh (by show callerA.units + 3 + 64 < cLine; decide) ?_)
      rw [heq, Bool.not_true]
      clear hra hrb hsh heq dat as bs htold hdue
      (try dsimp only)
      (repeat' (first | (k_unfold; (try dsimp only)) | ((fail_if_success (with_reducible show wpAny _ _ (exec (PySem.Stmt.For _ _ _ _ _) _) _ _ _)); (fail_if_success (with_reducible show wpAny _ _ (exec (PySem.Stmt.While _ _ _ _) _) _ _ _)); (fail_if_success (with_reducible show wpAny _ _ (pyIter _) _ _ _)); (fail_if_success (with_reducible show wpAny _ _ (eval (PySem.Expr.ListComp _ _ _ _) _) _ _ _)); (fail_if_success (with_reducible show wpAny _ _ (exec (PySem.Stmt.Assign _ (PySem.Expr.ListComp _ _ _ _) _) _) _ _ _)); (fail_if_success (with_reducible show wpAny _ _ (eval (PySem.Expr.Subscript _ (PySem.Expr.Slice _ _ _ _) _) _) _ _ _)); (fail_if_success (with_reducible show wpAny _ _ (call (Value.ref _) _) _ _ _)); (fail_if_success (with_reducible show wpAny _ _ (call (Value.type "range") _) _ _ _)); (fail_if_success (with_reducible show wpAny _ _ (compareOp PySem.CmpOp.NotEq (Value.ref _) (Value.ref _)) _ _ _)); (fail_if_success (with_reducible show wpAny _ _ (call (Value.builtin "list.append") _) _ _ _)); (fail_if_success (with_reducible show wpAny _ _ (binaryOp PySem.Operator.Add (Value.ref _) (Value.ref _)) _ _ _)); (fail_if_success (with_reducible show wpAny _ _ (subscriptTail _ _ (Value.ref _) (Value.int _ _)) _ _ _)); first | walk1 | (dsimp only; walk1) | (leave1; walk_say "STEP leave1"; try dsimp only)) | fail "no step"))
      rename Fr _ _ _ _ => F₄
      rename News _ _ _ _ => N₄
      obtain ⟨as, hrd⟩ := hRw.reads (fun p hp => N₄.get (.tail _ (.tail _ (.tail _ hp))))
      have hX : Reads _ (.ref R) _ _ := .list (N₄.get (.tail _ (.tail _ (.head _)))) rfl rfl hrd
      rcases rows with _ | ⟨r0, rest0⟩
      · k_dflt (refine PySem.SeqAt.compareNe_shaped (db := .list []) hX (.list (N₄.get (.head _)) rfl rfl .nil) (shaped_list []) rfl (by show callerA.units + 3 + 64 < cLine; decide) ?_)
        rw [show (PyData.eqv (.list (([] : List (Int × Int)).map fun r => PyData.tuple [.int r.1, .int r.2])) (.list [])) = true from rfl, Bool.not_true]
        clear hX hrd as
        have N₅ := mvN N₄ mvG
        clear N₄
        (try dsimp only)
        (repeat' (first | (k_unfold; (try dsimp only)) | ((fail_if_success (with_reducible show wpAny _ _ (exec (PySem.Stmt.For _ _ _ _ _) _) _ _ _)); (fail_if_success (with_reducible show wpAny _ _ (exec (PySem.Stmt.While _ _ _ _) _) _ _ _)); (fail_if_success (with_reducible show wpAny _ _ (pyIter _) _ _ _)); (fail_if_success (with_reducible show wpAny _ _ (eval (PySem.Expr.ListComp _ _ _ _) _) _ _ _)); (fail_if_success (with_reducible show wpAny _ _ (exec (PySem.Stmt.Assign _ (PySem.Expr.ListComp _ _ _ _) _) _) _ _ _)); (fail_if_success (with_reducible show wpAny _ _ (eval (PySem.Expr.Subscript _ (PySem.Expr.Slice _ _ _ _) _) _) _ _ _)); (fail_if_success (with_reducible show wpAny _ _ (call (Value.ref _) _) _ _ _)); (fail_if_success (with_reducible show wpAny _ _ (call (Value.type "range") _) _ _ _)); (fail_if_success (with_reducible show wpAny _ _ (compareOp PySem.CmpOp.NotEq (Value.ref _) (Value.ref _)) _ _ _)); (fail_if_success (with_reducible show wpAny _ _ (call (Value.builtin "list.append") _) _ _ _)); (fail_if_success (with_reducible show wpAny _ _ (binaryOp PySem.Operator.Add (Value.ref _) (Value.ref _)) _ _ _)); (fail_if_success (with_reducible show wpAny _ _ (subscriptTail _ _ (Value.ref _) (Value.int _ _)) _ _ _)); first | walk1 | (dsimp only; walk1) | (leave1; walk_say "STEP leave1"; try dsimp only)) | fail "no step"))
        rename Fr _ _ _ _ => F
        rename News _ _ _ _ => N
        ((rename Fr _ _ _ _ => lF'); (with_unfolding_all refine' For_invVF lF' ?k1 ?k2 ?_; (case k1 => exact rfl); (case k2 => exact rfl); k_whole))
        (repeat' (first | (k_unfold; (try dsimp only)) | ((fail_if_success (with_reducible show wpAny _ _ (exec (PySem.Stmt.For _ _ _ _ _) _) _ _ _)); (fail_if_success (with_reducible show wpAny _ _ (exec (PySem.Stmt.While _ _ _ _) _) _ _ _)); (fail_if_success (with_reducible show wpAny _ _ (pyIter _) _ _ _)); (fail_if_success (with_reducible show wpAny _ _ (eval (PySem.Expr.ListComp _ _ _ _) _) _ _ _)); (fail_if_success (with_reducible show wpAny _ _ (exec (PySem.Stmt.Assign _ (PySem.Expr.ListComp _ _ _ _) _) _) _ _ _)); (fail_if_success (with_reducible show wpAny _ _ (eval (PySem.Expr.Subscript _ (PySem.Expr.Slice _ _ _ _) _) _) _ _ _)); (fail_if_success (with_reducible show wpAny _ _ (call (Value.ref _) _) _ _ _)); (fail_if_success (with_reducible show wpAny _ _ (call (Value.type "range") _) _ _ _)); (fail_if_success (with_reducible show wpAny _ _ (compareOp PySem.CmpOp.NotEq (Value.ref _) (Value.ref _)) _ _ _)); (fail_if_success (with_reducible show wpAny _ _ (call (Value.builtin "list.append") _) _ _ _)); (fail_if_success (with_reducible show wpAny _ _ (binaryOp PySem.Operator.Add (Value.ref _) (Value.ref _)) _ _ _)); (fail_if_success (with_reducible show wpAny _ _ (subscriptTail _ _ (Value.ref _) (Value.int _ _)) _ _ _)); first | walk1 | (dsimp only; walk1) | (leave1; walk_say "STEP leave1"; try dsimp only)) | fail "no step"))
        k_dflt (refine take_spec (dp := callerA.depth + 1) (un := callerA.units + 3) (l := _ :: []) (Cx.inner B' X' T' lF' rfl rfl) (by decide) (by decide) (N.get (.head _)) (N.fresh (.head _)) (fun e he q => (N _ (.head _)).2.1 (by rw [List.mem_singleton.mp he] at q; exact (Option.some.inj q).symm)) (by decide) (by decide) ?_)
        intro hA tkA fA tfA xA yA txA tyA nA hA0 hA1 hkA hsA
        obtain ⟨FA, NA⟩ := src_step lF' N hsrc hkA hsA
        clear lF' N
        (try dsimp only)
        (repeat' (first | (k_unfold; (try dsimp only)) | ((fail_if_success (with_reducible show wpAny _ _ (exec (PySem.Stmt.For _ _ _ _ _) _) _ _ _)); (fail_if_success (with_reducible show wpAny _ _ (exec (PySem.Stmt.While _ _ _ _) _) _ _ _)); (fail_if_success (with_reducible show wpAny _ _ (pyIter _) _ _ _)); (fail_if_success (with_reducible show wpAny _ _ (eval (PySem.Expr.ListComp _ _ _ _) _) _ _ _)); (fail_if_success (with_reducible show wpAny _ _ (exec (PySem.Stmt.Assign _ (PySem.Expr.ListComp _ _ _ _) _) _) _ _ _)); (fail_if_success (with_reducible show wpAny _ _ (eval (PySem.Expr.Subscript _ (PySem.Expr.Slice _ _ _ _) _) _) _ _ _)); (fail_if_success (with_reducible show wpAny _ _ (call (Value.ref _) _) _ _ _)); (fail_if_success (with_reducible show wpAny _ _ (call (Value.type "range") _) _ _ _)); (fail_if_success (with_reducible show wpAny _ _ (compareOp PySem.CmpOp.NotEq (Value.ref _) (Value.ref _)) _ _ _)); (fail_if_success (with_reducible show wpAny _ _ (call (Value.builtin "list.append") _) _ _ _)); (fail_if_success (with_reducible show wpAny _ _ (binaryOp PySem.Operator.Add (Value.ref _) (Value.ref _)) _ _ _)); (fail_if_success (with_reducible show wpAny _ _ (subscriptTail _ _ (Value.ref _) (Value.int _ _)) _ _ _)); first | walk1 | (dsimp only; walk1) | (leave1; walk_say "STEP leave1"; try dsimp only)) | fail "no step"))
        rename_i l3 hB FU NU ltU
        k_dflt (refine list_comp FU (by with_unfolding_all rfl) (by decide) rfl (by decide) ?_)
        (repeat' (first | (k_unfold; (try dsimp only)) | ((fail_if_success (with_reducible show wpAny _ _ (exec (PySem.Stmt.For _ _ _ _ _) _) _ _ _)); (fail_if_success (with_reducible show wpAny _ _ (exec (PySem.Stmt.While _ _ _ _) _) _ _ _)); (fail_if_success (with_reducible show wpAny _ _ (pyIter _) _ _ _)); (fail_if_success (with_reducible show wpAny _ _ (eval (PySem.Expr.ListComp _ _ _ _) _) _ _ _)); (fail_if_success (with_reducible show wpAny _ _ (exec (PySem.Stmt.Assign _ (PySem.Expr.ListComp _ _ _ _) _) _) _ _ _)); (fail_if_success (with_reducible show wpAny _ _ (eval (PySem.Expr.Subscript _ (PySem.Expr.Slice _ _ _ _) _) _) _ _ _)); (fail_if_success (with_reducible show wpAny _ _ (call (Value.ref _) _) _ _ _)); (fail_if_success (with_reducible show wpAny _ _ (call (Value.type "range") _) _ _ _)); (fail_if_success (with_reducible show wpAny _ _ (compareOp PySem.CmpOp.NotEq (Value.ref _) (Value.ref _)) _ _ _)); (fail_if_success (with_reducible show wpAny _ _ (call (Value.builtin "list.append") _) _ _ _)); (fail_if_success (with_reducible show wpAny _ _ (binaryOp PySem.Operator.Add (Value.ref _) (Value.ref _)) _ _ _)); (fail_if_success (with_reducible show wpAny _ _ (subscriptTail _ _ (Value.ref _) (Value.int _ _)) _ _ _)); first | walk1 | (dsimp only; walk1) | (leave1; walk_say "STEP leave1"; try dsimp only)) | fail "no step"))
        refine ⟨R, (vs).toArray, _, _, fun i ys nw => nw = (l3, lst [.int fA tfA, .int 65535 tkA] 0) :: (src, lst [.int xA txA, .int yA tyA] nA) :: (R, lst vs c) :: tl ∧ IntsAre ys ((([] : List (Int × Int)).take i).map (·.1)), rfl, rfl, FU, NU, ?_, ?_, ?_, ⟨rfl, .nil⟩,
          casg_pair (fun i v1 v2 => ∃ (r : Int × Int) (t1 t2 : Tok), ([] : List (Int × Int))[i]? = some r ∧ v1 = .int r.1 t1 ∧ v2 = .int r.2 t2) rfl rfl rfl rfl (by decide) ?_, ?_, ?_⟩
        · rw [List.size_toArray, hvl, sizeLine_eq]; omega
        · rintro i ys nw ⟨rfl, _⟩
          exact .inr ⟨_, .tail _ (.tail _ (.head _)), rfl, _, rfl⟩
        · rintro i ys nw ⟨_, hJ⟩
          have := hJ.length
          rw [List.length_map, List.length_take] at this
          omega
        · rintro i v ys nw h hv ⟨rfl, _⟩ F N
          have hv' : (vs)[i]? = some v := by simpa using hv
          have hi : i < ([] : List (Int × Int)).length := hvl ▸ (List.getElem?_eq_some_iff.mp hv').1
          obtain ⟨a, t1, t2, n, e1, e2⟩ := (hRw).at_ i ([] : List (Int × Int))[i] (List.getElem?_eq_getElem hi)
          rw [e1] at hv'
          exact ⟨a, _, _, (Option.some.inj hv').symm, ⟨_, N.get (.tail _ (.tail _ (.tail _ e2))), rfl, n, rfl⟩, _, t1, t2, List.getElem?_eq_getElem hi, rfl, rfl⟩
        · rintro i v ys nw I oI C₁ oC D m₂ h tk E' hv ⟨rfl, hJ⟩ hC ⟨v1, v2, ⟨r, t1, t2, hr, rfl, rfl⟩, hm1, hm2⟩ F N off ne
          refine wpAny_tests_nil ?_
          simp only [if_true]
          (try k_fold)
          (repeat' (first | (k_unfold; (try dsimp only)) | ((fail_if_success (with_reducible show wpAny _ _ (exec (PySem.Stmt.For _ _ _ _ _) _) _ _ _)); (fail_if_success (with_reducible show wpAny _ _ (exec (PySem.Stmt.While _ _ _ _) _) _ _ _)); (fail_if_success (with_reducible show wpAny _ _ (pyIter _) _ _ _)); (fail_if_success (with_reducible show wpAny _ _ (eval (PySem.Expr.ListComp _ _ _ _) _) _ _ _)); (fail_if_success (with_reducible show wpAny _ _ (exec (PySem.Stmt.Assign _ (PySem.Expr.ListComp _ _ _ _) _) _) _ _ _)); (fail_if_success (with_reducible show wpAny _ _ (eval (PySem.Expr.Subscript _ (PySem.Expr.Slice _ _ _ _) _) _) _ _ _)); (fail_if_success (with_reducible show wpAny _ _ (call (Value.ref _) _) _ _ _)); (fail_if_success (with_reducible show wpAny _ _ (call (Value.type "range") _) _ _ _)); (fail_if_success (with_reducible show wpAny _ _ (compareOp PySem.CmpOp.NotEq (Value.ref _) (Value.ref _)) _ _ _)); (fail_if_success (with_reducible show wpAny _ _ (call (Value.builtin "list.append") _) _ _ _)); (fail_if_success (with_reducible show wpAny _ _ (binaryOp PySem.Operator.Add (Value.ref _) (Value.ref _)) _ _ _)); (fail_if_success (with_reducible show wpAny _ _ (subscriptTail _ _ (Value.ref _) (Value.int _ _)) _ _ _)); first | walk1 | (dsimp only; walk1) | (leave1; walk_say "STEP leave1"; try dsimp only)) | fail "no step"))
          refine ⟨h, _, _, rfl, F, N, off, rfl, ?_⟩
          rw [take_snoc hr, List.map_append]
          exact hJ.append (.cons _ _ .nil)
        · clear FU NU
          rintro D zs nw s₂ ⟨rfl, hJ⟩ ⟨h, tk, rfl⟩ N off F
          rw [List.size_toArray, hvl, List.take_length] at hJ
          have hzl : zs.length = ([] : List (Int × Int)).length := by rw [hJ.length, List.length_map]
          (try dsimp only at N F ⊢)
          (try k_fold)
          (repeat' (first | (k_unfold; (try dsimp only)) | ((fail_if_success (with_reducible show wpAny _ _ (exec (PySem.Stmt.For _ _ _ _ _) _) _ _ _)); (fail_if_success (with_reducible show wpAny _ _ (exec (PySem.Stmt.While _ _ _ _) _) _ _ _)); (fail_if_success (with_reducible show wpAny _ _ (pyIter _) _ _ _)); (fail_if_success (with_reducible show wpAny _ _ (eval (PySem.Expr.ListComp _ _ _ _) _) _ _ _)); (fail_if_success (with_reducible show wpAny _ _ (exec (PySem.Stmt.Assign _ (PySem.Expr.ListComp _ _ _ _) _) _) _ _ _)); (fail_if_success (with_reducible show wpAny _ _ (eval (PySem.Expr.Subscript _ (PySem.Expr.Slice _ _ _ _) _) _) _ _ _)); (fail_if_success (with_reducible show wpAny _ _ (call (Value.ref _) _) _ _ _)); (fail_if_success (with_reducible show wpAny _ _ (call (Value.type "range") _) _ _ _)); (fail_if_success (with_reducible show wpAny _ _ (compareOp PySem.CmpOp.NotEq (Value.ref _) (Value.ref _)) _ _ _)); (fail_if_success (with_reducible show wpAny _ _ (call (Value.builtin "list.append") _) _ _ _)); (fail_if_success (with_reducible show wpAny _ _ (binaryOp PySem.Operator.Add (Value.ref _) (Value.ref _)) _ _ _)); (fail_if_success (with_reducible show wpAny _ _ (subscriptTail _ _ (Value.ref _) (Value.int _ _)) _ _ _)); first | walk1 | (dsimp only; walk1) | (leave1; walk_say "STEP leave1"; try dsimp only)) | fail "no step"))
          k_dflt (refine add_lists F N (vs := [.int fA tfA, .int 65535 tkA]) (ws := zs) ⟨_, N.get (.tail _ (.head _)), rfl, _, rfl⟩ ⟨_, N.get (.head _), rfl, _, rfl⟩ ?_ (by rw [hzl, sizeLine_eq]; show 2 + _ ≤ _; omega))
          intro h₅ F₅ N₅
          have hl4 : ∀ p ∈ (D, cl0 zs) :: (l3, lst [.int fA tfA, .int 65535 tkA] 0) :: (src, lst [.int xA txA, .int yA tyA] nA) :: (R, lst vs c) :: tl, p.1 < h.objs.size := fun p hp => Heap.lt_size (N p hp).1
          clear F N
          (try dsimp only at N₅ F₅ ⊢)
          generalize h.objs.size = l4 at N₅ hl4 ⊢
          have hI4 : IntsAre ([.int fA tfA, .int 65535 tkA] ++ zs) ([fA, 65535] ++ ([] : List (Int × Int)).map (·.1)) := IntsAre.append (.cons _ _ (.cons _ _ .nil)) hJ
          have N₆ := mvN N₅ mvI
          clear N₅
          (try dsimp only)
          (repeat' (first | (k_unfold; (try dsimp only)) | ((fail_if_success (with_reducible show wpAny _ _ (exec (PySem.Stmt.For _ _ _ _ _) _) _ _ _)); (fail_if_success (with_reducible show wpAny _ _ (exec (PySem.Stmt.While _ _ _ _) _) _ _ _)); (fail_if_success (with_reducible show wpAny _ _ (pyIter _) _ _ _)); (fail_if_success (with_reducible show wpAny _ _ (eval (PySem.Expr.ListComp _ _ _ _) _) _ _ _)); (fail_if_success (with_reducible show wpAny _ _ (exec (PySem.Stmt.Assign _ (PySem.Expr.ListComp _ _ _ _) _) _) _ _ _)); (fail_if_success (with_reducible show wpAny _ _ (eval (PySem.Expr.Subscript _ (PySem.Expr.Slice _ _ _ _) _) _) _ _ _)); (fail_if_success (with_reducible show wpAny _ _ (call (Value.ref _) _) _ _ _)); (fail_if_success (with_reducible show wpAny _ _ (call (Value.type "range") _) _ _ _)); (fail_if_success (with_reducible show wpAny _ _ (compareOp PySem.CmpOp.NotEq (Value.ref _) (Value.ref _)) _ _ _)); (fail_if_success (with_reducible show wpAny _ _ (call (Value.builtin "list.append") _) _ _ _)); (fail_if_success (with_reducible show wpAny _ _ (binaryOp PySem.Operator.Add (Value.ref _) (Value.ref _)) _ _ _)); (fail_if_success (with_reducible show wpAny _ _ (subscriptTail _ _ (Value.ref _) (Value.int _ _)) _ _ _)); first | walk1 | (dsimp only; walk1) | (leave1; walk_say "STEP leave1"; try dsimp only)) | fail "no step"))
          have hlt : l4 ≠ (envOf (Str.ofString "law") ⟨.function, [], false, false, []⟩ (Array.size _) 0 .none).locals := (N₆ _ (.head _)).2.1
          refine (iter_stay (vs := [.int fA tfA, .int 65535 tkA] ++ zs) (fun i nw => nw = (l4, lst ([.int fA tfA, .int 65535 tkA] ++ zs) 0) :: (R, lst vs c) :: tl) rfl ⟨_, N₆.get (.head _), rfl, _, rfl⟩ (Ne.symm hlt) F₅ N₆ rfl ?turn ?done)
          case turn =>
            clear F₅ N₆
            rintro i v nw h tk own oI hv rfl hoI hoIc hoff hlL hown F N
            obtain ⟨kk, tt, hk, rfl⟩ := ints_at hI4 hv
            (try dsimp only)
            (try k_fold)
            (repeat' (first | (k_unfold; (try dsimp only)) | ((fail_if_success (with_reducible show wpAny _ _ (exec (PySem.Stmt.For _ _ _ _ _) _) _ _ _)); (fail_if_success (with_reducible show wpAny _ _ (exec (PySem.Stmt.While _ _ _ _) _) _ _ _)); (fail_if_success (with_reducible show wpAny _ _ (pyIter _) _ _ _)); (fail_if_success (with_reducible show wpAny _ _ (eval (PySem.Expr.ListComp _ _ _ _) _) _ _ _)); (fail_if_success (with_reducible show wpAny _ _ (exec (PySem.Stmt.Assign _ (PySem.Expr.ListComp _ _ _ _) _) _) _ _ _)); (fail_if_success (with_reducible show wpAny _ _ (eval (PySem.Expr.Subscript _ (PySem.Expr.Slice _ _ _ _) _) _) _ _ _)); (fail_if_success (with_reducible show wpAny _ _ (call (Value.ref _) _) _ _ _)); (fail_if_success (with_reducible show wpAny _ _ (call (Value.type "range") _) _ _ _)); (fail_if_success (with_reducible show wpAny _ _ (compareOp PySem.CmpOp.NotEq (Value.ref _) (Value.ref _)) _ _ _)); (fail_if_success (with_reducible show wpAny _ _ (call (Value.builtin "list.append") _) _ _ _)); (fail_if_success (with_reducible show wpAny _ _ (binaryOp PySem.Operator.Add (Value.ref _) (Value.ref _)) _ _ _)); (fail_if_success (with_reducible show wpAny _ _ (subscriptTail _ _ (Value.ref _) (Value.int _ _)) _ _ _)); first | walk1 | (dsimp only; walk1) | (leave1; walk_say "STEP leave1"; try dsimp only)) | fail "no step"))
            rename Fr _ _ _ _ => F₇
            k_dflt (refine found_spec (dp := callerA.depth + 1) (un := callerA.units + 3) (l := _ :: []) (Cx.inner B' X' T' F₇ rfl rfl) (by decide) (by decide) (rows := []) (tl := tl) ⟨_, N.get (List.mem_append_right _ (.tail _ (.head _))), rfl, _, rfl⟩ (hT_of N (fun p hp => List.mem_append_right _ (.tail _ (.tail _ hp))) rfl) htc hRw (by omega) ?_)
            intro h' tk' k'
            have F₈ := F₇.keeps k'
            have N₈ := N.grown k'
            clear F₇ N
            (try dsimp only)
            (repeat' (first | (k_unfold; (try dsimp only)) | ((fail_if_success (with_reducible show wpAny _ _ (exec (PySem.Stmt.For _ _ _ _ _) _) _ _ _)); (fail_if_success (with_reducible show wpAny _ _ (exec (PySem.Stmt.While _ _ _ _) _) _ _ _)); (fail_if_success (with_reducible show wpAny _ _ (pyIter _) _ _ _)); (fail_if_success (with_reducible show wpAny _ _ (eval (PySem.Expr.ListComp _ _ _ _) _) _ _ _)); (fail_if_success (with_reducible show wpAny _ _ (exec (PySem.Stmt.Assign _ (PySem.Expr.ListComp _ _ _ _) _) _) _ _ _)); (fail_if_success (with_reducible show wpAny _ _ (eval (PySem.Expr.Subscript _ (PySem.Expr.Slice _ _ _ _) _) _) _ _ _)); (fail_if_success (with_reducible show wpAny _ _ (call (Value.ref _) _) _ _ _)); (fail_if_success (with_reducible show wpAny _ _ (call (Value.type "range") _) _ _ _)); (fail_if_success (with_reducible show wpAny _ _ (compareOp PySem.CmpOp.NotEq (Value.ref _) (Value.ref _)) _ _ _)); (fail_if_success (with_reducible show wpAny _ _ (call (Value.builtin "list.append") _) _ _ _)); (fail_if_success (with_reducible show wpAny _ _ (binaryOp PySem.Operator.Add (Value.ref _) (Value.ref _)) _ _ _)); (fail_if_success (with_reducible show wpAny _ _ (subscriptTail _ _ (Value.ref _) (Value.int _ _)) _ _ _)); first | walk1 | (dsimp only; walk1) | (leave1; walk_say "STEP leave1"; try dsimp only)) | fail "no step"))
            refine LoopStepU.intro F₈ N₈ ?_ ⟨fun z hz => if_neg hz, rfl⟩
            intro p hp q
            exact hoff p hp (List.mem_singleton.mp q)
          case done =>
            clear F₅ N₆
            rintro u nw h tk rfl F N
            (try dsimp only)
            (try k_fold)
            (repeat' (first | (k_unfold; (try dsimp only)) | ((fail_if_success (with_reducible show wpAny _ _ (exec (PySem.Stmt.For _ _ _ _ _) _) _ _ _)); (fail_if_success (with_reducible show wpAny _ _ (exec (PySem.Stmt.While _ _ _ _) _) _ _ _)); (fail_if_success (with_reducible show wpAny _ _ (pyIter _) _ _ _)); (fail_if_success (with_reducible show wpAny _ _ (eval (PySem.Expr.ListComp _ _ _ _) _) _ _ _)); (fail_if_success (with_reducible show wpAny _ _ (exec (PySem.Stmt.Assign _ (PySem.Expr.ListComp _ _ _ _) _) _) _ _ _)); (fail_if_success (with_reducible show wpAny _ _ (eval (PySem.Expr.Subscript _ (PySem.Expr.Slice _ _ _ _) _) _) _ _ _)); (fail_if_success (with_reducible show wpAny _ _ (call (Value.ref _) _) _ _ _)); (fail_if_success (with_reducible show wpAny _ _ (call (Value.type "range") _) _ _ _)); (fail_if_success (with_reducible show wpAny _ _ (compareOp PySem.CmpOp.NotEq (Value.ref _) (Value.ref _)) _ _ _)); (fail_if_success (with_reducible show wpAny _ _ (call (Value.builtin "list.append") _) _ _ _)); (fail_if_success (with_reducible show wpAny _ _ (binaryOp PySem.Operator.Add (Value.ref _) (Value.ref _)) _ _ _)); (fail_if_success (with_reducible show wpAny _ _ (subscriptTail _ _ (Value.ref _) (Value.int _ _)) _ _ _)); first | walk1 | (dsimp only; walk1) | (leave1; walk_say "STEP leave1"; try dsimp only)) | fail "no step"))
            show GoodW _ _ _ _ _ (.ok (.ret (.bool true))) _
            exact goodW_bool F (by assumption) (fun _ => rfl) (law_post _)
      · k_dflt (refine PySem.SeqAt.compareNe_shaped (db := .list []) hX (.list (N₄.get (.head _)) rfl rfl .nil) (shaped_list (r0 :: rest0)) rfl (by show callerA.units + 3 + 64 < cLine; decide) ?_)
        rw [show (PyData.eqv (.list ((r0 :: rest0).map fun r => PyData.tuple [.int r.1, .int r.2])) (.list [])) = false from rfl, Bool.not_false]
        clear hX hrd as
        generalize hrest : r0 :: rest0 = rows at *
        have hlp : 0 < rows.length := by rw [← hrest]; exact Nat.succ_pos _
        clear hrest r0 rest0
        have N₅ := mvN N₄ mvG
        clear N₄
        (try dsimp only)
        (repeat' (first | (k_unfold; (try dsimp only)) | ((fail_if_success (with_reducible show wpAny _ _ (exec (PySem.Stmt.For _ _ _ _ _) _) _ _ _)); (fail_if_success (with_reducible show wpAny _ _ (exec (PySem.Stmt.While _ _ _ _) _) _ _ _)); (fail_if_success (with_reducible show wpAny _ _ (pyIter _) _ _ _)); (fail_if_success (with_reducible show wpAny _ _ (eval (PySem.Expr.ListComp _ _ _ _) _) _ _ _)); (fail_if_success (with_reducible show wpAny _ _ (exec (PySem.Stmt.Assign _ (PySem.Expr.ListComp _ _ _ _) _) _) _ _ _)); (fail_if_success (with_reducible show wpAny _ _ (eval (PySem.Expr.Subscript _ (PySem.Expr.Slice _ _ _ _) _) _) _ _ _)); (fail_if_success (with_reducible show wpAny _ _ (call (Value.ref _) _) _ _ _)); (fail_if_success (with_reducible show wpAny _ _ (call (Value.type "range") _) _ _ _)); (fail_if_success (with_reducible show wpAny _ _ (compareOp PySem.CmpOp.NotEq (Value.ref _) (Value.ref _)) _ _ _)); (fail_if_success (with_reducible show wpAny _ _ (call (Value.builtin "list.append") _) _ _ _)); (fail_if_success (with_reducible show wpAny _ _ (binaryOp PySem.Operator.Add (Value.ref _) (Value.ref _)) _ _ _)); (fail_if_success (with_reducible show wpAny _ _ (subscriptTail _ _ (Value.ref _) (Value.int _ _)) _ _ _)); first | walk1 | (dsimp only; walk1) | (leave1; walk_say "STEP leave1"; try dsimp only)) | fail "no step"))
        rename Fr _ _ _ _ => F₅
        k_dflt (refine one_spec (dp := callerA.depth + 1) (un := callerA.units + 3) (l := _ :: []) (Cx.inner B' X' T' F₅ rfl rfl) (by decide) (by decide) (N₅.get (.head _)) (N₅.fresh (.head _)) (fun e he q => (N₅ _ (.head _)).2.1 (by rw [List.mem_singleton.mp he] at q; exact (Option.some.inj q).symm)) ⟨_, N₅.get (.tail _ (.head _)), rfl, _, rfl⟩ hRsrc (vs := vs) (by omega) (by omega) ?_)
        intro h₆ tk₆ v k xd yd txd tyd nd hv hk₆ hs₆
        obtain ⟨F₆, N₆⟩ := src_step F₅ N₅ hsrc hk₆ hs₆
        clear F₅ N₅
        have hkl : k < rows.length := hvl ▸ (List.getElem?_eq_some_iff.mp hv).1
        obtain ⟨a, t1, t2, na, e1, e2⟩ := hRw.at_ k rows[k] (List.getElem?_eq_getElem hkl)
        have hkm : rows[k] ∈ rows := List.getElem_mem hkl
        generalize rows[k] = r at e1 e2 hkm
        obtain rfl : v = .ref a := Option.some.inj (hv.symm.trans e1)
        (try dsimp only)
        (repeat' (first | (k_unfold; (try dsimp only)) | ((fail_if_success (with_reducible show wpAny _ _ (exec (PySem.Stmt.For _ _ _ _ _) _) _ _ _)); (fail_if_success (with_reducible show wpAny _ _ (exec (PySem.Stmt.While _ _ _ _) _) _ _ _)); (fail_if_success (with_reducible show wpAny _ _ (pyIter _) _ _ _)); (fail_if_success (with_reducible show wpAny _ _ (eval (PySem.Expr.ListComp _ _ _ _) _) _ _ _)); (fail_if_success (with_reducible show wpAny _ _ (exec (PySem.Stmt.Assign _ (PySem.Expr.ListComp _ _ _ _) _) _) _ _ _)); (fail_if_success (with_reducible show wpAny _ _ (eval (PySem.Expr.Subscript _ (PySem.Expr.Slice _ _ _ _) _) _) _ _ _)); (fail_if_success (with_reducible show wpAny _ _ (call (Value.ref _) _) _ _ _)); (fail_if_success (with_reducible show wpAny _ _ (call (Value.type "range") _) _ _ _)); (fail_if_success (with_reducible show wpAny _ _ (compareOp PySem.CmpOp.NotEq (Value.ref _) (Value.ref _)) _ _ _)); (fail_if_success (with_reducible show wpAny _ _ (call (Value.builtin "list.append") _) _ _ _)); (fail_if_success (with_reducible show wpAny _ _ (binaryOp PySem.Operator.Add (Value.ref _) (Value.ref _)) _ _ _)); (fail_if_success (with_reducible show wpAny _ _ (subscriptTail _ _ (Value.ref _) (Value.int _ _)) _ _ _)); first | walk1 | (dsimp only; walk1) | (leave1; walk_say "STEP leave1"; try dsimp only)) | fail "no step"))
        have hta : IsTup h₆ a #[.int r.1 t1, .int r.2 t2] := ⟨_, N₆.get (.tail _ (.tail _ e2)), rfl, na, rfl⟩
        k_dflt (refine tail_any hta.typeIs slot_tuple_getitem.lookup (getItem_tuple hta (by decide) (by decide) (j := 0) rfl rfl ?_) (by with_unfolding_all rfl))
        clear hta
        (try dsimp only)
        (repeat' (first | (k_unfold; (try dsimp only)) | ((fail_if_success (with_reducible show wpAny _ _ (exec (PySem.Stmt.For _ _ _ _ _) _) _ _ _)); (fail_if_success (with_reducible show wpAny _ _ (exec (PySem.Stmt.While _ _ _ _) _) _ _ _)); (fail_if_success (with_reducible show wpAny _ _ (pyIter _) _ _ _)); (fail_if_success (with_reducible show wpAny _ _ (eval (PySem.Expr.ListComp _ _ _ _) _) _ _ _)); (fail_if_success (with_reducible show wpAny _ _ (exec (PySem.Stmt.Assign _ (PySem.Expr.ListComp _ _ _ _) _) _) _ _ _)); (fail_if_success (with_reducible show wpAny _ _ (eval (PySem.Expr.Subscript _ (PySem.Expr.Slice _ _ _ _) _) _) _ _ _)); (fail_if_success (with_reducible show wpAny _ _ (call (Value.ref _) _) _ _ _)); (fail_if_success (with_reducible show wpAny _ _ (call (Value.type "range") _) _ _ _)); (fail_if_success (with_reducible show wpAny _ _ (compareOp PySem.CmpOp.NotEq (Value.ref _) (Value.ref _)) _ _ _)); (fail_if_success (with_reducible show wpAny _ _ (call (Value.builtin "list.append") _) _ _ _)); (fail_if_success (with_reducible show wpAny _ _ (binaryOp PySem.Operator.Add (Value.ref _) (Value.ref _)) _ _ _)); (fail_if_success (with_reducible show wpAny _ _ (subscriptTail _ _ (Value.ref _) (Value.int _ _)) _ _ _)); first | walk1 | (dsimp only; walk1) | (leave1; walk_say "STEP leave1"; try dsimp only)) | fail "no step"))
        rename_i T₂ hT2 ltx P₂ hP2 F₇ N₇ lty
        k_dflt (refine add_lists F₇ N₇ (vs := vs) (ws := [.ref T₂]) ⟨_, N₇.get (.tail _ (.tail _ (.tail _ (.head _)))), rfl, _, rfl⟩ ⟨_, N₇.get (.head _), rfl, _, rfl⟩ ?_ (by rw [List.length_singleton, sizeLine_eq]; omega))
        intro h₈ F₈ N₈
        have hR2 : ∀ p ∈ (P₂, lst [.ref T₂] 0) :: (T₂, tup [.int r.1 t1, .int 200 (tk₆ + 1)] 0) :: (src, lst [.int xd txd, .int yd tyd] nd) :: (R, lst vs c) :: tl, p.1 < hP2.objs.size := fun p hp => Heap.lt_size (N₇ p hp).1
        (try dsimp only at N₈ F₈ ⊢)
        generalize hP2.objs.size = R₂ at N₈ hR2 ⊢
        obtain ⟨vs₂, hvs₂⟩ : ∃ q, q = vs ++ [.ref T₂] := ⟨_, rfl⟩
        obtain ⟨rows₂, hrows₂⟩ : ∃ q, q = rows ++ [(r.1, (200 : Int))] := ⟨_, rfl⟩
        obtain ⟨tl₂, htl₂⟩ : ∃ q : List (Addr × Obj), q = (T₂, tup [.int r.1 t1, .int 200 (tk₆ + 1)] 0) :: tl := ⟨_, rfl⟩
        obtain ⟨c₂, hc₂⟩ : ∃ q : Nat, q = 0 := ⟨_, rfl⟩
        have hRw₂ : RowsIn tl₂ vs₂ rows₂ := by rw [htl₂, hvs₂, hrows₂]; exact hRw.snoc (r := (r.1, 200))
        have hnd₂ : ¬ (rows₂.map (·.1)).Nodup := by
          rw [hrows₂, List.map_append, List.nodup_append]
          intro q
          exact q.2.2 _ (List.mem_map.mpr ⟨r, hkm, rfl⟩) _ (.head _) rfl
        have hrl₂ : rows₂.length ≤ 8 := by rw [hrows₂, List.length_append, List.length_singleton]; omega
        have hvl₂ : vs₂.length = rows₂.length := hRw₂.len
        have htc₂ : ∀ p ∈ tl₂, p.2.cls = .type "tuple" := by rw [htl₂]; exact List.forall_mem_cons.mpr ⟨rfl, htc⟩
        have hsrc₂ : ∀ p ∈ (R₂, lst vs₂ c₂) :: tl₂, p.1 ≠ src := by
          rw [htl₂]
          exact List.forall_mem_cons.mpr ⟨Nat.ne_of_gt (hR2 _ (.tail _ (.tail _ (.head _)))), List.forall_mem_cons.mpr ⟨Nat.ne_of_gt ltx.1, fun p hp => hsrc p (.tail _ hp)⟩⟩
        have N₉ := mv9 N₈ hvs₂ htl₂ hc₂
        clear N₈ hRw e2
        clear hvs₂ hrows₂ htl₂ hc₂ hR2
        (try dsimp only)
        (repeat' (first | (k_unfold; (try dsimp only)) | ((fail_if_success (with_reducible show wpAny _ _ (exec (PySem.Stmt.For _ _ _ _ _) _) _ _ _)); (fail_if_success (with_reducible show wpAny _ _ (exec (PySem.Stmt.While _ _ _ _) _) _ _ _)); (fail_if_success (with_reducible show wpAny _ _ (pyIter _) _ _ _)); (fail_if_success (with_reducible show wpAny _ _ (eval (PySem.Expr.ListComp _ _ _ _) _) _ _ _)); (fail_if_success (with_reducible show wpAny _ _ (exec (PySem.Stmt.Assign _ (PySem.Expr.ListComp _ _ _ _) _) _) _ _ _)); (fail_if_success (with_reducible show wpAny _ _ (eval (PySem.Expr.Subscript _ (PySem.Expr.Slice _ _ _ _) _) _) _ _ _)); (fail_if_success (with_reducible show wpAny _ _ (call (Value.ref _) _) _ _ _)); (fail_if_success (with_reducible show wpAny _ _ (call (Value.type "range") _) _ _ _)); (fail_if_success (with_reducible show wpAny _ _ (compareOp PySem.CmpOp.NotEq (Value.ref _) (Value.ref _)) _ _ _)); (fail_if_success (with_reducible show wpAny _ _ (call (Value.builtin "list.append") _) _ _ _)); (fail_if_success (with_reducible show wpAny _ _ (binaryOp PySem.Operator.Add (Value.ref _) (Value.ref _)) _ _ _)); (fail_if_success (with_reducible show wpAny _ _ (subscriptTail _ _ (Value.ref _) (Value.int _ _)) _ _ _)); first | walk1 | (dsimp only; walk1) | (leave1; walk_say "STEP leave1"; try dsimp only)) | fail "no step"))
        rename Fr _ _ _ _ => F₉
        rename News _ _ _ _ => N₉
        k_dflt (refine list_comp F₉ (by with_unfolding_all rfl) (by decide) rfl (by decide) ?_)
        (repeat' (first | (k_unfold; (try dsimp only)) | ((fail_if_success (with_reducible show wpAny _ _ (exec (PySem.Stmt.For _ _ _ _ _) _) _ _ _)); (fail_if_success (with_reducible show wpAny _ _ (exec (PySem.Stmt.While _ _ _ _) _) _ _ _)); (fail_if_success (with_reducible show wpAny _ _ (pyIter _) _ _ _)); (fail_if_success (with_reducible show wpAny _ _ (eval (PySem.Expr.ListComp _ _ _ _) _) _ _ _)); (fail_if_success (with_reducible show wpAny _ _ (exec (PySem.Stmt.Assign _ (PySem.Expr.ListComp _ _ _ _) _) _) _ _ _)); (fail_if_success (with_reducible show wpAny _ _ (eval (PySem.Expr.Subscript _ (PySem.Expr.Slice _ _ _ _) _) _) _ _ _)); (fail_if_success (with_reducible show wpAny _ _ (call (Value.ref _) _) _ _ _)); (fail_if_success (with_reducible show wpAny _ _ (call (Value.type "range") _) _ _ _)); (fail_if_success (with_reducible show wpAny _ _ (compareOp PySem.CmpOp.NotEq (Value.ref _) (Value.ref _)) _ _ _)); (fail_if_success (with_reducible show wpAny _ _ (call (Value.builtin "list.append") _) _ _ _)); (fail_if_success (with_reducible show wpAny _ _ (binaryOp PySem.Operator.Add (Value.ref _) (Value.ref _)) _ _ _)); (fail_if_success (with_reducible show wpAny _ _ (subscriptTail _ _ (Value.ref _) (Value.int _ _)) _ _ _)); first | walk1 | (dsimp only; walk1) | (leave1; walk_say "STEP leave1"; try dsimp only)) | fail "no step"))
        refine ⟨R₂, vs₂.toArray, _, _, fun i ys nw => ∃ en, nw = en ++ ((src, lst [.int xd txd, .int yd tyd] nd) :: (R₂, lst vs₂ c₂) :: tl₂) ∧ EntriesIn w en ys (rows₂.take i), rfl, rfl, F₉, N₉, ?_, ?_, ?_, ⟨[], rfl, EntriesIn.nil⟩,
          casg_pair (fun i v1 v2 => ∃ (r : Int × Int) (t1 t2 : Tok), rows₂[i]? = some r ∧ v1 = .int r.1 t1 ∧ v2 = .int r.2 t2) rfl rfl rfl rfl (by decide) ?_, ?_, ?_⟩
        · rw [List.size_toArray, hvl₂, sizeLine_eq]; omega
        · rintro i ys nw ⟨en, rfl, _⟩
          exact .inr ⟨_, List.mem_append_right _ (.tail _ (.head _)), rfl, _, rfl⟩
        · rintro i ys nw ⟨en, _, hE⟩
          have := hE.len
          rw [List.length_take] at this
          omega
        · rintro i v ys nw h hv ⟨en, rfl, _⟩ F N
          have hv' : vs₂[i]? = some v := by simpa using hv
          have hi : i < rows₂.length := hvl₂ ▸ (List.getElem?_eq_some_iff.mp hv').1
          obtain ⟨a, t1, t2, n, e1, e2⟩ := hRw₂.at_ i rows₂[i] (List.getElem?_eq_getElem hi)
          rw [e1] at hv'
          exact ⟨a, _, _, (Option.some.inj hv').symm, ⟨_, N.get (List.mem_append_right _ (.tail _ (.tail _ e2))), rfl, n, rfl⟩, rows₂[i], t1, t2, List.getElem?_eq_getElem hi, rfl, rfl⟩
        · rintro i v ys nw I oI C₁ oC D m₂ h tk E' hv ⟨en, rfl, hE⟩ hC ⟨v1, v2, ⟨r, t1, t2, hr, rfl, rfl⟩, hm1, hm2⟩ F N off ne
          refine wpAny_tests_nil ?_
          simp only [if_true]
          (try k_fold)
          (repeat' (first | (k_unfold; (try dsimp only)) | ((fail_if_success (with_reducible show wpAny _ _ (exec (PySem.Stmt.For _ _ _ _ _) _) _ _ _)); (fail_if_success (with_reducible show wpAny _ _ (exec (PySem.Stmt.While _ _ _ _) _) _ _ _)); (fail_if_success (with_reducible show wpAny _ _ (pyIter _) _ _ _)); (fail_if_success (with_reducible show wpAny _ _ (eval (PySem.Expr.ListComp _ _ _ _) _) _ _ _)); (fail_if_success (with_reducible show wpAny _ _ (exec (PySem.Stmt.Assign _ (PySem.Expr.ListComp _ _ _ _) _) _) _ _ _)); (fail_if_success (with_reducible show wpAny _ _ (eval (PySem.Expr.Subscript _ (PySem.Expr.Slice _ _ _ _) _) _) _ _ _)); (fail_if_success (with_reducible show wpAny _ _ (call (Value.ref _) _) _ _ _)); (fail_if_success (with_reducible show wpAny _ _ (call (Value.type "range") _) _ _ _)); (fail_if_success (with_reducible show wpAny _ _ (compareOp PySem.CmpOp.NotEq (Value.ref _) (Value.ref _)) _ _ _)); (fail_if_success (with_reducible show wpAny _ _ (call (Value.builtin "list.append") _) _ _ _)); (fail_if_success (with_reducible show wpAny _ _ (binaryOp PySem.Operator.Add (Value.ref _) (Value.ref _)) _ _ _)); (fail_if_success (with_reducible show wpAny _ _ (subscriptTail _ _ (Value.ref _) (Value.int _ _)) _ _ _)); first | walk1 | (dsimp only; walk1) | (leave1; walk_say "STEP leave1"; try dsimp only)) | fail "no step"))
          rename Fr _ _ _ _ => F₅
          rename News _ _ _ _ => N₅
          rename _ < _ ∧ _ => l5
          k_dflt (refine entry_spec (dp := callerA.depth + 1) (un := callerA.units + 3) (l := _ :: []) (Cx.inner B' X' T' F₅ rfl rfl) (by decide) (by decide) ?_)
          intro h' tk' x dx ta tb tc k nx ndx hxd e1 e2
          (repeat' (first | (k_unfold; (try dsimp only)) | ((fail_if_success (with_reducible show wpAny _ _ (exec (PySem.Stmt.For _ _ _ _ _) _) _ _ _)); (fail_if_success (with_reducible show wpAny _ _ (exec (PySem.Stmt.While _ _ _ _) _) _ _ _)); (fail_if_success (with_reducible show wpAny _ _ (pyIter _) _ _ _)); (fail_if_success (with_reducible show wpAny _ _ (eval (PySem.Expr.ListComp _ _ _ _) _) _ _ _)); (fail_if_success (with_reducible show wpAny _ _ (exec (PySem.Stmt.Assign _ (PySem.Expr.ListComp _ _ _ _) _) _) _ _ _)); (fail_if_success (with_reducible show wpAny _ _ (eval (PySem.Expr.Subscript _ (PySem.Expr.Slice _ _ _ _) _) _) _ _ _)); first | walk1 | (dsimp only; walk1) | (leave1; walk_say "STEP leave1"; try dsimp only)) | fail "no step"))
          refine ⟨h', tk', _, rfl, F₅.keeps k, news_mv (news_new F₅ (news_new F₅ (N₅.grown k) e2 ndx) e1 nx), ?_, ⟨_ :: _ :: _ :: en, rfl, take_snoc hr ▸ EntriesIn.snoc hE⟩⟩
          refine List.forall_mem_cons.mpr ⟨⟨Ne.symm (ne_of_fresh (N₅.get (.tail _ (.head _))) nx), Ne.symm (ne_of_fresh (N₅.get (.tail _ (.tail _ (.head _)))) nx), Ne.symm (ne_of_fresh (N₅.get (.tail _ (.tail _ (.tail _ (.head _))))) nx)⟩, ?_⟩
          refine List.forall_mem_cons.mpr ⟨⟨Ne.symm (ne_of_fresh (N₅.get (.tail _ (.head _))) ndx), Ne.symm (ne_of_fresh (N₅.get (.tail _ (.tail _ (.head _)))) ndx), Ne.symm (ne_of_fresh (N₅.get (.tail _ (.tail _ (.tail _ (.head _))))) ndx)⟩, ?_⟩
          exact List.forall_mem_cons.mpr ⟨⟨Nat.ne_of_gt l5.1, Nat.ne_of_gt l5.2.1, Nat.ne_of_gt l5.2.2.1⟩, off⟩
        · clear F₉ N₉
          rintro D ys nw s₂ ⟨en, rfl, hE⟩ ⟨h, tk, rfl⟩ N off F
          rw [List.size_toArray, hvl₂, List.take_length] at hE
          (try dsimp only at N F ⊢)
          (try k_fold)
          (repeat' (first | (k_unfold; (try dsimp only)) | ((fail_if_success (with_reducible show wpAny _ _ (exec (PySem.Stmt.For _ _ _ _ _) _) _ _ _)); (fail_if_success (with_reducible show wpAny _ _ (exec (PySem.Stmt.While _ _ _ _) _) _ _ _)); (fail_if_success (with_reducible show wpAny _ _ (pyIter _) _ _ _)); (fail_if_success (with_reducible show wpAny _ _ (eval (PySem.Expr.ListComp _ _ _ _) _) _ _ _)); (fail_if_success (with_reducible show wpAny _ _ (exec (PySem.Stmt.Assign _ (PySem.Expr.ListComp _ _ _ _) _) _) _ _ _)); (fail_if_success (with_reducible show wpAny _ _ (eval (PySem.Expr.Subscript _ (PySem.Expr.Slice _ _ _ _) _) _) _ _ _)); (fail_if_success (with_reducible show wpAny _ _ (call (Value.ref _) _) _ _ _)); (fail_if_success (with_reducible show wpAny _ _ (call (Value.type "range") _) _ _ _)); (fail_if_success (with_reducible show wpAny _ _ (compareOp PySem.CmpOp.NotEq (Value.ref _) (Value.ref _)) _ _ _)); (fail_if_success (with_reducible show wpAny _ _ (call (Value.builtin "list.append") _) _ _ _)); (fail_if_success (with_reducible show wpAny _ _ (binaryOp PySem.Operator.Add (Value.ref _) (Value.ref _)) _ _ _)); (fail_if_success (with_reducible show wpAny _ _ (subscriptTail _ _ (Value.ref _) (Value.int _ _)) _ _ _)); first | walk1 | (dsimp only; walk1) | (leave1; walk_say "STEP leave1"; try dsimp only)) | fail "no step"))
          have hE' : EntriesAt w h ys rows₂ := hE.at fun p hp => N.get (.tail _ (List.mem_append_left _ hp))
          k_dflt (refine told_spec (dp := callerA.depth + 1) (un := callerA.units + 3) (l := _ :: []) (Cx.inner B' X' T' F rfl rfl) (by decide) (by decide) ⟨_, N.get (.head _), rfl, _, rfl⟩ hE' (by omega) ?_)
          intro h₂ tk₂ tt₂ hk₂ hup₂ htold
          obtain ⟨F₂, N₂⟩ := told_keeps F (mvN N mvF) hk₂ hup₂
          clear F N hE'
          obtain ⟨as, hra⟩ : ∃ as, Reads h₂ (.ref tt₂) (.tuple []) as := by
            rcases htold with ⟨_, h⟩ | ⟨hn1, _⟩
            · exact h
            · exact absurd hn1 hnd₂
          (try dsimp only)
          (repeat' (first | (k_unfold; (try dsimp only)) | ((fail_if_success (with_reducible show wpAny _ _ (exec (PySem.Stmt.For _ _ _ _ _) _) _ _ _)); (fail_if_success (with_reducible show wpAny _ _ (exec (PySem.Stmt.While _ _ _ _) _) _ _ _)); (fail_if_success (with_reducible show wpAny _ _ (pyIter _) _ _ _)); (fail_if_success (with_reducible show wpAny _ _ (eval (PySem.Expr.ListComp _ _ _ _) _) _ _ _)); (fail_if_success (with_reducible show wpAny _ _ (exec (PySem.Stmt.Assign _ (PySem.Expr.ListComp _ _ _ _) _) _) _ _ _)); (fail_if_success (with_reducible show wpAny _ _ (eval (PySem.Expr.Subscript _ (PySem.Expr.Slice _ _ _ _) _) _) _ _ _)); (fail_if_success (with_reducible show wpAny _ _ (call (Value.ref _) _) _ _ _)); (fail_if_success (with_reducible show wpAny _ _ (newTuple _) _ _ _)); first | walk1 | (dsimp only; walk1) | (leave1; walk_say "STEP leave1"; try dsimp only)) | fail "no step"))
          k_dflt (refine wpAny_newTuple ?_ (by decide))
          have kp : h₂.StaysIn (h₂.push { cls := .type "tuple", data := .seq ([] : List Value).toArray }) := fun b o e => Heap.get?_push_of_some _ e
          have hE0 : (h₂.push { cls := .type "tuple", data := .seq ([] : List Value).toArray }).get? h₂.objs.size = some { cls := .type "tuple", data := .seq ([] : List Value).toArray } := Heap.get?_push_size _ rfl
          have F₃ := F₂.keeps kp
          have N₃ := N₂.grown kp
          have hra' := Reads.keeps kp hra
          clear F₂ N₂
          (try dsimp only)
          generalize h₂.push { cls := .type "tuple", data := .seq ([] : List Value).toArray } = h₃ at F₃ N₃ hra' hE0 ⊢
          (repeat' (first | (k_unfold; (try dsimp only)) | ((fail_if_success (with_reducible show wpAny _ _ (exec (PySem.Stmt.For _ _ _ _ _) _) _ _ _)); (fail_if_success (with_reducible show wpAny _ _ (exec (PySem.Stmt.While _ _ _ _) _) _ _ _)); (fail_if_success (with_reducible show wpAny _ _ (pyIter _) _ _ _)); (fail_if_success (with_reducible show wpAny _ _ (eval (PySem.Expr.ListComp _ _ _ _) _) _ _ _)); (fail_if_success (with_reducible show wpAny _ _ (exec (PySem.Stmt.Assign _ (PySem.Expr.ListComp _ _ _ _) _) _) _ _ _)); (fail_if_success (with_reducible show wpAny _ _ (eval (PySem.Expr.Subscript _ (PySem.Expr.Slice _ _ _ _) _) _) _ _ _)); (fail_if_success (with_reducible show wpAny _ _ (call (Value.ref _) _) _ _ _)); (fail_if_success (with_reducible show wpAny _ _ (call (Value.type "range") _) _ _ _)); (fail_if_success (with_reducible show wpAny _ _ (compareOp PySem.CmpOp.NotEq (Value.ref _) (Value.ref _)) _ _ _)); (fail_if_success (with_reducible show wpAny _ _ (call (Value.builtin "list.append") _) _ _ _)); (fail_if_success (with_reducible show wpAny _ _ (binaryOp PySem.Operator.Add (Value.ref _) (Value.ref _)) _ _ _)); (fail_if_success (with_reducible show wpAny _ _ (subscriptTail _ _ (Value.ref _) (Value.int _ _)) _ _ _)); first | walk1 | (dsimp only; walk1) | (leave1; walk_say "STEP leave1"; try dsimp only)) | fail "no step"))
          k_dflt (refine PySem.SeqAt.compareNe_shaped hra' (.tuple hE0 rfl rfl .nil) rfl rfl (by show callerA.units + 3 + 64 < cLine; decide) ?_)
          rw [show PyData.eqv (.tuple []) (.tuple []) = true from rfl, Bool.not_true]
          clear hra hra' hE0 htold
          (try dsimp only)
          (repeat' (first | (k_unfold; (try dsimp only)) | ((fail_if_success (with_reducible show wpAny _ _ (exec (PySem.Stmt.For _ _ _ _ _) _) _ _ _)); (fail_if_success (with_reducible show wpAny _ _ (exec (PySem.Stmt.While _ _ _ _) _) _ _ _)); (fail_if_success (with_reducible show wpAny _ _ (pyIter _) _ _ _)); (fail_if_success (with_reducible show wpAny _ _ (eval (PySem.Expr.ListComp _ _ _ _) _) _ _ _)); (fail_if_success (with_reducible show wpAny _ _ (exec (PySem.Stmt.Assign _ (PySem.Expr.ListComp _ _ _ _) _) _) _ _ _)); (fail_if_success (with_reducible show wpAny _ _ (eval (PySem.Expr.Subscript _ (PySem.Expr.Slice _ _ _ _) _) _) _ _ _)); (fail_if_success (with_reducible show wpAny _ _ (call (Value.ref _) _) _ _ _)); (fail_if_success (with_reducible show wpAny _ _ (call (Value.type "range") _) _ _ _)); (fail_if_success (with_reducible show wpAny _ _ (compareOp PySem.CmpOp.NotEq (Value.ref _) (Value.ref _)) _ _ _)); (fail_if_success (with_reducible show wpAny _ _ (call (Value.builtin "list.append") _) _ _ _)); (fail_if_success (with_reducible show wpAny _ _ (binaryOp PySem.Operator.Add (Value.ref _) (Value.ref _)) _ _ _)); (fail_if_success (with_reducible show wpAny _ _ (subscriptTail _ _ (Value.ref _) (Value.int _ _)) _ _ _)); first | walk1 | (dsimp only; walk1) | (leave1; walk_say "STEP leave1"; try dsimp only)) | fail "no step"))
          rename Fr _ _ _ _ => F
          rename News _ _ _ _ => N
          ((rename Fr _ _ _ _ => lF'); (with_unfolding_all refine' For_invVF lF' ?k1 ?k2 ?_; (case k1 => exact rfl); (case k2 => exact rfl); k_whole))
          (repeat' (first | (k_unfold; (try dsimp only)) | ((fail_if_success (with_reducible show wpAny _ _ (exec (PySem.Stmt.For _ _ _ _ _) _) _ _ _)); (fail_if_success (with_reducible show wpAny _ _ (exec (PySem.Stmt.While _ _ _ _) _) _ _ _)); (fail_if_success (with_reducible show wpAny _ _ (pyIter _) _ _ _)); (fail_if_success (with_reducible show wpAny _ _ (eval (PySem.Expr.ListComp _ _ _ _) _) _ _ _)); (fail_if_success (with_reducible show wpAny _ _ (exec (PySem.Stmt.Assign _ (PySem.Expr.ListComp _ _ _ _) _) _) _ _ _)); (fail_if_success (with_reducible show wpAny _ _ (eval (PySem.Expr.Subscript _ (PySem.Expr.Slice _ _ _ _) _) _) _ _ _)); (fail_if_success (with_reducible show wpAny _ _ (call (Value.ref _) _) _ _ _)); (fail_if_success (with_reducible show wpAny _ _ (call (Value.type "range") _) _ _ _)); (fail_if_success (with_reducible show wpAny _ _ (compareOp PySem.CmpOp.NotEq (Value.ref _) (Value.ref _)) _ _ _)); (fail_if_success (with_reducible show wpAny _ _ (call (Value.builtin "list.append") _) _ _ _)); (fail_if_success (with_reducible show wpAny _ _ (binaryOp PySem.Operator.Add (Value.ref _) (Value.ref _)) _ _ _)); (fail_if_success (with_reducible show wpAny _ _ (subscriptTail _ _ (Value.ref _) (Value.int _ _)) _ _ _)); first | walk1 | (dsimp only; walk1) | (leave1; walk_say "STEP leave1"; try dsimp only)) | fail "no step"))
          k_dflt (refine take_spec (dp := callerA.depth + 1) (un := callerA.units + 3) (l := _ :: []) (Cx.inner B' X' T' lF' rfl rfl) (by decide) (by decide) (N.get (.head _)) (N.fresh (.head _)) (fun e he q => (N _ (.head _)).2.1 (by rw [List.mem_singleton.mp he] at q; exact (Option.some.inj q).symm)) (by decide) (by decide) ?_)
          intro hA tkA fA tfA xA yA txA tyA nA hA0 hA1 hkA hsA
          obtain ⟨FA, NA⟩ := src_step lF' N hsrc₂ hkA hsA
          clear lF' N
          (try dsimp only)
          (repeat' (first | (k_unfold; (try dsimp only)) | ((fail_if_success (with_reducible show wpAny _ _ (exec (PySem.Stmt.For _ _ _ _ _) _) _ _ _)); (fail_if_success (with_reducible show wpAny _ _ (exec (PySem.Stmt.While _ _ _ _) _) _ _ _)); (fail_if_success (with_reducible show wpAny _ _ (pyIter _) _ _ _)); (fail_if_success (with_reducible show wpAny _ _ (eval (PySem.Expr.ListComp _ _ _ _) _) _ _ _)); (fail_if_success (with_reducible show wpAny _ _ (exec (PySem.Stmt.Assign _ (PySem.Expr.ListComp _ _ _ _) _) _) _ _ _)); (fail_if_success (with_reducible show wpAny _ _ (eval (PySem.Expr.Subscript _ (PySem.Expr.Slice _ _ _ _) _) _) _ _ _)); (fail_if_success (with_reducible show wpAny _ _ (call (Value.ref _) _) _ _ _)); (fail_if_success (with_reducible show wpAny _ _ (call (Value.type "range") _) _ _ _)); (fail_if_success (with_reducible show wpAny _ _ (compareOp PySem.CmpOp.NotEq (Value.ref _) (Value.ref _)) _ _ _)); (fail_if_success (with_reducible show wpAny _ _ (call (Value.builtin "list.append") _) _ _ _)); (fail_if_success (with_reducible show wpAny _ _ (binaryOp PySem.Operator.Add (Value.ref _) (Value.ref _)) _ _ _)); (fail_if_success (with_reducible show wpAny _ _ (subscriptTail _ _ (Value.ref _) (Value.int _ _)) _ _ _)); first | walk1 | (dsimp only; walk1) | (leave1; walk_say "STEP leave1"; try dsimp only)) | fail "no step"))
          rename_i l3 hB FU NU ltU
          k_dflt (refine list_comp FU (by with_unfolding_all rfl) (by decide) rfl (by decide) ?_)
          (repeat' (first | (k_unfold; (try dsimp only)) | ((fail_if_success (with_reducible show wpAny _ _ (exec (PySem.Stmt.For _ _ _ _ _) _) _ _ _)); (fail_if_success (with_reducible show wpAny _ _ (exec (PySem.Stmt.While _ _ _ _) _) _ _ _)); (fail_if_success (with_reducible show wpAny _ _ (pyIter _) _ _ _)); (fail_if_success (with_reducible show wpAny _ _ (eval (PySem.Expr.ListComp _ _ _ _) _) _ _ _)); (fail_if_success (with_reducible show wpAny _ _ (exec (PySem.Stmt.Assign _ (PySem.Expr.ListComp _ _ _ _) _) _) _ _ _)); (fail_if_success (with_reducible show wpAny _ _ (eval (PySem.Expr.Subscript _ (PySem.Expr.Slice _ _ _ _) _) _) _ _ _)); (fail_if_success (with_reducible show wpAny _ _ (call (Value.ref _) _) _ _ _)); (fail_if_success (with_reducible show wpAny _ _ (call (Value.type "range") _) _ _ _)); (fail_if_success (with_reducible show wpAny _ _ (compareOp PySem.CmpOp.NotEq (Value.ref _) (Value.ref _)) _ _ _)); (fail_if_success (with_reducible show wpAny _ _ (call (Value.builtin "list.append") _) _ _ _)); (fail_if_success (with_reducible show wpAny _ _ (binaryOp PySem.Operator.Add (Value.ref _) (Value.ref _)) _ _ _)); (fail_if_success (with_reducible show wpAny _ _ (subscriptTail _ _ (Value.ref _) (Value.int _ _)) _ _ _)); first | walk1 | (dsimp only; walk1) | (leave1; walk_say "STEP leave1"; try dsimp only)) | fail "no step"))
          refine ⟨R₂, (vs₂).toArray, _, _, fun i ys nw => nw = (l3, lst [.int fA tfA, .int 65535 tkA] 0) :: (src, lst [.int xA txA, .int yA tyA] nA) :: (R₂, lst vs₂ c₂) :: tl₂ ∧ IntsAre ys (((rows₂ : List (Int × Int)).take i).map (·.1)), rfl, rfl, FU, NU, ?_, ?_, ?_, ⟨rfl, .nil⟩,
            casg_pair (fun i v1 v2 => ∃ (r : Int × Int) (t1 t2 : Tok), (rows₂ : List (Int × Int))[i]? = some r ∧ v1 = .int r.1 t1 ∧ v2 = .int r.2 t2) rfl rfl rfl rfl (by decide) ?_, ?_, ?_⟩
          · rw [List.size_toArray, hvl₂, sizeLine_eq]; omega
          · rintro i ys nw ⟨rfl, _⟩
            exact .inr ⟨_, .tail _ (.tail _ (.head _)), rfl, _, rfl⟩
          · rintro i ys nw ⟨_, hJ⟩
            have := hJ.length
            rw [List.length_map, List.length_take] at this
            omega
          · rintro i v ys nw h hv ⟨rfl, _⟩ F N
            have hv' : (vs₂)[i]? = some v := by simpa using hv
            have hi : i < (rows₂ : List (Int × Int)).length := hvl₂ ▸ (List.getElem?_eq_some_iff.mp hv').1
            obtain ⟨a, t1, t2, n, e1, e2⟩ := (hRw₂).at_ i (rows₂ : List (Int × Int))[i] (List.getElem?_eq_getElem hi)
            rw [e1] at hv'
            exact ⟨a, _, _, (Option.some.inj hv').symm, ⟨_, N.get (.tail _ (.tail _ (.tail _ e2))), rfl, n, rfl⟩, _, t1, t2, List.getElem?_eq_getElem hi, rfl, rfl⟩
          · rintro i v ys nw I oI C₁ oC D m₂ h tk E' hv ⟨rfl, hJ⟩ hC ⟨v1, v2, ⟨r, t1, t2, hr, rfl, rfl⟩, hm1, hm2⟩ F N off ne
            refine wpAny_tests_nil ?_
            simp only [if_true]
            (try k_fold)
            (repeat' (first | (k_unfold; (try dsimp only)) | ((fail_if_success (with_reducible show wpAny _ _ (exec (PySem.Stmt.For _ _ _ _ _) _) _ _ _)); (fail_if_success (with_reducible show wpAny _ _ (exec (PySem.Stmt.While _ _ _ _) _) _ _ _)); (fail_if_success (with_reducible show wpAny _ _ (pyIter _) _ _ _)); (fail_if_success (with_reducible show wpAny _ _ (eval (PySem.Expr.ListComp _ _ _ _) _) _ _ _)); (fail_if_success (with_reducible show wpAny _ _ (exec (PySem.Stmt.Assign _ (PySem.Expr.ListComp _ _ _ _) _) _) _ _ _)); (fail_if_success (with_reducible show wpAny _ _ (eval (PySem.Expr.Subscript _ (PySem.Expr.Slice _ _ _ _) _) _) _ _ _)); (fail_if_success (with_reducible show wpAny _ _ (call (Value.ref _) _) _ _ _)); (fail_if_success (with_reducible show wpAny _ _ (call (Value.type "range") _) _ _ _)); (fail_if_success (with_reducible show wpAny _ _ (compareOp PySem.CmpOp.NotEq (Value.ref _) (Value.ref _)) _ _ _)); (fail_if_success (with_reducible show wpAny _ _ (call (Value.builtin "list.append") _) _ _ _)); (fail_if_success (with_reducible show wpAny _ _ (binaryOp PySem.Operator.Add (Value.ref _) (Value.ref _)) _ _ _)); (fail_if_success (with_reducible show wpAny _ _ (subscriptTail _ _ (Value.ref _) (Value.int _ _)) _ _ _)); first | walk1 | (dsimp only; walk1) | (leave1; walk_say "STEP leave1"; try dsimp only)) | fail "no step"))
            refine ⟨h, _, _, rfl, F, N, off, rfl, ?_⟩
            rw [take_snoc hr, List.map_append]
            exact hJ.append (.cons _ _ .nil)
          · clear FU NU
            rintro D zs nw s₂ ⟨rfl, hJ⟩ ⟨h, tk, rfl⟩ N off F
            rw [List.size_toArray, hvl₂, List.take_length] at hJ
            have hzl : zs.length = (rows₂ : List (Int × Int)).length := by rw [hJ.length, List.length_map]
            (try dsimp only at N F ⊢)
            (try k_fold)
            (repeat' (first | (k_unfold; (try dsimp only)) | ((fail_if_success (with_reducible show wpAny _ _ (exec (PySem.Stmt.For _ _ _ _ _) _) _ _ _)); (fail_if_success (with_reducible show wpAny _ _ (exec (PySem.Stmt.While _ _ _ _) _) _ _ _)); (fail_if_success (with_reducible show wpAny _ _ (pyIter _) _ _ _)); (fail_if_success (with_reducible show wpAny _ _ (eval (PySem.Expr.ListComp _ _ _ _) _) _ _ _)); (fail_if_success (with_reducible show wpAny _ _ (exec (PySem.Stmt.Assign _ (PySem.Expr.ListComp _ _ _ _) _) _) _ _ _)); (fail_if_success (with_reducible show wpAny _ _ (eval (PySem.Expr.Subscript _ (PySem.Expr.Slice _ _ _ _) _) _) _ _ _)); (fail_if_success (with_reducible show wpAny _ _ (call (Value.ref _) _) _ _ _)); (fail_if_success (with_reducible show wpAny _ _ (call (Value.type "range") _) _ _ _)); (fail_if_success (with_reducible show wpAny _ _ (compareOp PySem.CmpOp.NotEq (Value.ref _) (Value.ref _)) _ _ _)); (fail_if_success (with_reducible show wpAny _ _ (call (Value.builtin "list.append") _) _ _ _)); (fail_if_success (with_reducible show wpAny _ _ (binaryOp PySem.Operator.Add (Value.ref _) (Value.ref _)) _ _ _)); (fail_if_success (with_reducible show wpAny _ _ (subscriptTail _ _ (Value.ref _) (Value.int _ _)) _ _ _)); first | walk1 | (dsimp only; walk1) | (leave1; walk_say "STEP leave1"; try dsimp only)) | fail "no step"))
            k_dflt (refine add_lists F N (vs := [.int fA tfA, .int 65535 tkA]) (ws := zs) ⟨_, N.get (.tail _ (.head _)), rfl, _, rfl⟩ ⟨_, N.get (.head _), rfl, _, rfl⟩ ?_ (by rw [hzl, sizeLine_eq]; show 2 + _ ≤ _; omega))
            intro h₅ F₅ N₅
            have hl4 : ∀ p ∈ (D, cl0 zs) :: (l3, lst [.int fA tfA, .int 65535 tkA] 0) :: (src, lst [.int xA txA, .int yA tyA] nA) :: (R₂, lst vs₂ c₂) :: tl₂, p.1 < h.objs.size := fun p hp => Heap.lt_size (N p hp).1
            clear F N
            (try dsimp only at N₅ F₅ ⊢)
            generalize h.objs.size = l4 at N₅ hl4 ⊢
            have hI4 : IntsAre ([.int fA tfA, .int 65535 tkA] ++ zs) ([fA, 65535] ++ (rows₂ : List (Int × Int)).map (·.1)) := IntsAre.append (.cons _ _ (.cons _ _ .nil)) hJ
            have N₆ := mvN N₅ mvI
            clear N₅
            (try dsimp only)
            (repeat' (first | (k_unfold; (try dsimp only)) | ((fail_if_success (with_reducible show wpAny _ _ (exec (PySem.Stmt.For _ _ _ _ _) _) _ _ _)); (fail_if_success (with_reducible show wpAny _ _ (exec (PySem.Stmt.While _ _ _ _) _) _ _ _)); (fail_if_success (with_reducible show wpAny _ _ (pyIter _) _ _ _)); (fail_if_success (with_reducible show wpAny _ _ (eval (PySem.Expr.ListComp _ _ _ _) _) _ _ _)); (fail_if_success (with_reducible show wpAny _ _ (exec (PySem.Stmt.Assign _ (PySem.Expr.ListComp _ _ _ _) _) _) _ _ _)); (fail_if_success (with_reducible show wpAny _ _ (eval (PySem.Expr.Subscript _ (PySem.Expr.Slice _ _ _ _) _) _) _ _ _)); (fail_if_success (with_reducible show wpAny _ _ (call (Value.ref _) _) _ _ _)); (fail_if_success (with_reducible show wpAny _ _ (call (Value.type "range") _) _ _ _)); (fail_if_success (with_reducible show wpAny _ _ (compareOp PySem.CmpOp.NotEq (Value.ref _) (Value.ref _)) _ _ _)); (fail_if_success (with_reducible show wpAny _ _ (call (Value.builtin "list.append") _) _ _ _)); (fail_if_success (with_reducible show wpAny _ _ (binaryOp PySem.Operator.Add (Value.ref _) (Value.ref _)) _ _ _)); (fail_if_success (with_reducible show wpAny _ _ (subscriptTail _ _ (Value.ref _) (Value.int _ _)) _ _ _)); first | walk1 | (dsimp only; walk1) | (leave1; walk_say "STEP leave1"; try dsimp only)) | fail "no step"))
            have hlt : l4 ≠ (envOf (Str.ofString "law") ⟨.function, [], false, false, []⟩ (Array.size _) 0 .none).locals := (N₆ _ (.head _)).2.1
            refine (iter_stay (vs := [.int fA tfA, .int 65535 tkA] ++ zs) (fun i nw => nw = (l4, lst ([.int fA tfA, .int 65535 tkA] ++ zs) 0) :: (R₂, lst vs₂ c₂) :: tl₂) rfl ⟨_, N₆.get (.head _), rfl, _, rfl⟩ (Ne.symm hlt) F₅ N₆ rfl ?turn ?done)
            case turn =>
              clear F₅ N₆
              rintro i v nw h tk own oI hv rfl hoI hoIc hoff hlL hown F N
              obtain ⟨kk, tt, hk, rfl⟩ := ints_at hI4 hv
              (try dsimp only)
              (try k_fold)
              (repeat' (first | (k_unfold; (try dsimp only)) | ((fail_if_success (with_reducible show wpAny _ _ (exec (PySem.Stmt.For _ _ _ _ _) _) _ _ _)); (fail_if_success (with_reducible show wpAny _ _ (exec (PySem.Stmt.While _ _ _ _) _) _ _ _)); (fail_if_success (with_reducible show wpAny _ _ (pyIter _) _ _ _)); (fail_if_success (with_reducible show wpAny _ _ (eval (PySem.Expr.ListComp _ _ _ _) _) _ _ _)); (fail_if_success (with_reducible show wpAny _ _ (exec (PySem.Stmt.Assign _ (PySem.Expr.ListComp _ _ _ _) _) _) _ _ _)); (fail_if_success (with_reducible show wpAny _ _ (eval (PySem.Expr.Subscript _ (PySem.Expr.Slice _ _ _ _) _) _) _ _ _)); (fail_if_success (with_reducible show wpAny _ _ (call (Value.ref _) _) _ _ _)); (fail_if_success (with_reducible show wpAny _ _ (call (Value.type "range") _) _ _ _)); (fail_if_success (with_reducible show wpAny _ _ (compareOp PySem.CmpOp.NotEq (Value.ref _) (Value.ref _)) _ _ _)); (fail_if_success (with_reducible show wpAny _ _ (call (Value.builtin "list.append") _) _ _ _)); (fail_if_success (with_reducible show wpAny _ _ (binaryOp PySem.Operator.Add (Value.ref _) (Value.ref _)) _ _ _)); (fail_if_success (with_reducible show wpAny _ _ (subscriptTail _ _ (Value.ref _) (Value.int _ _)) _ _ _)); first | walk1 | (dsimp only; walk1) | (leave1; walk_say "STEP leave1"; try dsimp only)) | fail "no step"))
              rename Fr _ _ _ _ => F₇
              k_dflt (refine found_spec (dp := callerA.depth + 1) (un := callerA.units + 3) (l := _ :: []) (Cx.inner B' X' T' F₇ rfl rfl) (by decide) (by decide) (rows := rows₂) (tl := tl₂) ⟨_, N.get (List.mem_append_right _ (.tail _ (.head _))), rfl, _, rfl⟩ (hT_of N (fun p hp => List.mem_append_right _ (.tail _ (.tail _ hp))) rfl) htc₂ hRw₂ (by omega) ?_)
              intro h' tk' k'
              have F₈ := F₇.keeps k'
              have N₈ := N.grown k'
              clear F₇ N
              (try dsimp only)
              (repeat' (first | (k_unfold; (try dsimp only)) | ((fail_if_success (with_reducible show wpAny _ _ (exec (PySem.Stmt.For _ _ _ _ _) _) _ _ _)); (fail_if_success (with_reducible show wpAny _ _ (exec (PySem.Stmt.While _ _ _ _) _) _ _ _)); (fail_if_success (with_reducible show wpAny _ _ (pyIter _) _ _ _)); (fail_if_success (with_reducible show wpAny _ _ (eval (PySem.Expr.ListComp _ _ _ _) _) _ _ _)); (fail_if_success (with_reducible show wpAny _ _ (exec (PySem.Stmt.Assign _ (PySem.Expr.ListComp _ _ _ _) _) _) _ _ _)); (fail_if_success (with_reducible show wpAny _ _ (eval (PySem.Expr.Subscript _ (PySem.Expr.Slice _ _ _ _) _) _) _ _ _)); (fail_if_success (with_reducible show wpAny _ _ (call (Value.ref _) _) _ _ _)); (fail_if_success (with_reducible show wpAny _ _ (call (Value.type "range") _) _ _ _)); (fail_if_success (with_reducible show wpAny _ _ (compareOp PySem.CmpOp.NotEq (Value.ref _) (Value.ref _)) _ _ _)); (fail_if_success (with_reducible show wpAny _ _ (call (Value.builtin "list.append") _) _ _ _)); (fail_if_success (with_reducible show wpAny _ _ (binaryOp PySem.Operator.Add (Value.ref _) (Value.ref _)) _ _ _)); (fail_if_success (with_reducible show wpAny _ _ (subscriptTail _ _ (Value.ref _) (Value.int _ _)) _ _ _)); first | walk1 | (dsimp only; walk1) | (leave1; walk_say "STEP leave1"; try dsimp only)) | fail "no step"))
              refine LoopStepU.intro F₈ N₈ ?_ ⟨fun z hz => if_neg hz, rfl⟩
              intro p hp q
              exact hoff p hp (List.mem_singleton.mp q)
            case done =>
              clear F₅ N₆
              rintro u nw h tk rfl F N
              (try dsimp only)
              (try k_fold)
              (repeat' (first | (k_unfold; (try dsimp only)) | ((fail_if_success (with_reducible show wpAny _ _ (exec (PySem.Stmt.For _ _ _ _ _) _) _ _ _)); (fail_if_success (with_reducible show wpAny _ _ (exec (PySem.Stmt.While _ _ _ _) _) _ _ _)); (fail_if_success (with_reducible show wpAny _ _ (pyIter _) _ _ _)); (fail_if_success (with_reducible show wpAny _ _ (eval (PySem.Expr.ListComp _ _ _ _) _) _ _ _)); (fail_if_success (with_reducible show wpAny _ _ (exec (PySem.Stmt.Assign _ (PySem.Expr.ListComp _ _ _ _) _) _) _ _ _)); (fail_if_success (with_reducible show wpAny _ _ (eval (PySem.Expr.Subscript _ (PySem.Expr.Slice _ _ _ _) _) _) _ _ _)); (fail_if_success (with_reducible show wpAny _ _ (call (Value.ref _) _) _ _ _)); (fail_if_success (with_reducible show wpAny _ _ (call (Value.type "range") _) _ _ _)); (fail_if_success (with_reducible show wpAny _ _ (compareOp PySem.CmpOp.NotEq (Value.ref _) (Value.ref _)) _ _ _)); (fail_if_success (with_reducible show wpAny _ _ (call (Value.builtin "list.append") _) _ _ _)); (fail_if_success (with_reducible show wpAny _ _ (binaryOp PySem.Operator.Add (Value.ref _) (Value.ref _)) _ _ _)); (fail_if_success (with_reducible show wpAny _ _ (subscriptTail _ _ (Value.ref _) (Value.int _ _)) _ _ _)); first | walk1 | (dsimp only; walk1) | (leave1; walk_say "STEP leave1"; try dsimp only)) | fail "no step"))
              show GoodW _ _ _ _ _ (.ok (.ret (.bool true))) _
              exact goodW_bool F (by assumption) (fun _ => rfl) (law_post _)
          done)

end Mine

set_option maxHeartbeats 8000000 in
theorem PySem.Challenge.cw_xm0803_01_holds : PySem.Challenge.rw_xm0803_01.Holds := by
  exact Mine.law_holds
