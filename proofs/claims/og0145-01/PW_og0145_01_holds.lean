import PyProof.Rows.All
import Wide.All
import OpenK.AllK
import Wide.FinOn
import PySem.Challenge.RW_og0145_01
open PySem PySem.W PyProof.Rows
set_option Elab.async false
set_option linter.all false
namespace Og
section
open Lean in
local macro_rules
  | `(tactic| refine $e) => do
    if e.raw.getKind == ``Lean.Parser.Term.app && e.raw[0].getId.eraseMacroScopes == `PySem.W.holds_open then `(tactic| (refine' $e; focus (intro w; kernel_rfl)))
    else Macro.throwUnsupported
set_option maxRecDepth 100000 in
set_option maxHeartbeats 8000000 in
open_top hd for PySem.Challenge.rw_og0145_01
end
end Og
set_option maxRecDepth 100000
section PartBase
open PySem PySem.W PySem.Calls PyProof.Rows
namespace Og

noncomputable abbrev PR : Program := PySem.Challenge.rw_og0145_01.row.prog

noncomputable abbrev LS : List Str := looseW hd.view_39 [Str.ofString "PaperError"]
abbrev TP (mean : ExcName → Option Value) (mg mb : Str → Option Value) (h : Heap) : Prop := Top hd.view_39 LS mean mg mb h

noncomputable abbrev AX (d u : Nat) (env : Env) (outer : List Env) : Around := { handled := none, depth := d, frames := some (env :: outer), guards := none, units := u }

theorem raise {α : Type} {M : Model} {A : Around} {t : Sem α} {Q : α → Shared → Prop} {E : Value → Shared → Prop} {s : Shared} {d u : Nat} {env : Env} {outer : List Env}
    (h : wpAny M (AX d u env outer) t Q E s) (hh : A.handled = none) (hf : A.frames = some (env :: outer)) (hd : A.depth ≤ d) (hu : A.units ≤ u) : wpAny M A t Q E s :=
  fun Γ p hΓ => h Γ p ⟨hΓ.1.trans hh, Nat.le_trans hΓ.2.1 hd, fun l hl => hΓ.2.2.1 l (hf.trans hl), (fun g hg => by cases hg), Nat.le_trans hΓ.2.2.2.2 hu⟩

/-- all objects but those of a list stand as they stood -/
def Off (as : List Addr) (h h' : Heap) : Prop := ∀ b o, h.get? b = some o → b ∉ as → h'.get? b = some o
theorem Off.refl {as h} : Off as h h := fun _ _ e _ => e
theorem Off.trans {as h h' h''} (x : Off as h h') (y : Off as h' h'') : Off as h h'' := fun b o e n => y b o (x b o e n) n
theorem Off.more {as as' h h'} (x : Off as h h') (hs : ∀ a ∈ as, a ∈ as') : Off as' h h' := fun b o e n => x b o e fun q => n (hs _ q)
theorem Off.keep {h h'} (x : Off [] h h') : ∀ b o, h.get? b = some o → h'.get? b = some o := fun b o e => x b o e (fun q => nomatch q)
theorem off_of_fr {as : List Addr} {h h' : Heap} {L : Addr} {m : Str → Option Value} (F : Fr (hideAll h as) L h' m) : Off as h h' := fun _ _ e n => F.keep _ _ (hideAll_get _ e n)

section
variable {w : World} {A A₀ : Around} {base h₀ : Heap} {env : Env} {outer : List Env} {L : Addr} {m : Str → Option Value} {news : List (Addr × Obj)} {s : Shared} {d u : Nat} {mean : ExcName → Option Value} {mg mb : Str → Option Value}
  {Q : Value → Shared → Prop} {E : Value → Shared → Prop}
  {name qual : Str} {params : Arguments} {body : List Stmt} {scope : Scope} {dV kV doc pm cdv ct oc : Value} {an od : Option Addr} {osl : Array (Option Value)} {f : Addr} {pos : List Value} {kw : List (Str × Value)} {binds : List (Str × Value)}

/-- a def of the text is entered: all that is not of the ledger stands in g -/
theorem enterC {R : Result → Shared → Prop} (B : Below A₀ base outer h₀) (F : Fr h₀ L s.heap m) (X : (hd.heap_39 w.params).In h₀) (N : News h₀ L s.heap news) (T : TP mean mg mb h₀) (hA : A.frames = some (env :: outer)) (hf : env.frame = some L) (hke : env.scope.kind = .function)
    (ho : (hd.heap_39 w.params).lookup f = some ⟨oc, od, .func (fnOf name qual params body scope dV kV doc pm an cdv ct), osl⟩) (hcd : codeIn (hd.heap_39 w.params) cdv qual = true) (hroom : A.depth < recursionLimit)
    (hbind : BindsTo s (fnOf name qual params body scope dV kV doc pm an cdv ct) ⟨pos, kw⟩ binds) (hloc : ∀ y ∈ binds, scope.names.lookup y.1 = some .local)
    (h : ∀ g L' h₁, g = hideAll s.heap (news.map (·.1)) → Fr g L' h₁ (fun y => binds.reverse.lookup y) → News g L' h₁ news → Below A base (env :: outer) g → (hd.heap_39 w.params).In g → TP mean mg mb g → (∀ p ∈ news, p.1 < L') → Fr h₀ L g m →
      wpAny (model PR w) (A.deeper (envOf qual scope L' f cdv)) (execs body (envOf qual scope L' f cdv))
        (fun fl s' => R (.ok (.ret (match fl with | .ret v => v | _ => .none))) s') (fun _ _ => False)
        { s with heap := h₁, toks := s.toks + binds.length })
    (hco : scope.isCoroutine = false) (hgen : scope.isGenerator = false) (hk : scope.kind = .function)
    (hcell : ∀ x ∈ scope.names, x.2 ≠ .cell) : codeAny (model PR w) A (.call (.ref f) ⟨pos, kw⟩) R s := by
  have X' := X.keeps F.keep
  obtain ⟨FG, BG, st, lv⟩ := groundX (A := A) (R := R) B F N hA hf hke
  refine codeAny_call_def (fd := fnOf name qual params body scope dV kV doc pm an cdv ct) (body := body) (binds := binds) hroom (X' _ _ ho) rfl (T.nolimit.keeps F.keep) (codeRec_of X' hcd) rfl hbind hcell hloc (fun h₁ hns hk₁ => ?_) hco hgen hk
  exact wpAny_mono (h _ s.heap.objs.size h₁ rfl ⟨hns, fun b o e => hk₁ b o (of_hideAll _ e), Nat.le_of_eq (hideAll_size _ _)⟩
    (fun p hp => ⟨hk₁ _ _ (N p hp).1, Nat.ne_of_lt (Heap.lt_size (N p hp).1), hideAll_none _ (List.mem_map_of_mem hp)⟩) BG (X.keeps st) (T.keeps st) (fun p hp => Heap.lt_size (N p hp).1) FG) (fun fl s' hl => hl) fun _ _ y => y.elim

theorem enter (B : Below A₀ base outer h₀) (F : Fr h₀ L s.heap m) (X : (hd.heap_39 w.params).In h₀) (N : News h₀ L s.heap news) (T : TP mean mg mb h₀) (hf : env.frame = some L) (hke : env.scope.kind = .function)
    (ho : (hd.heap_39 w.params).lookup f = some ⟨oc, od, .func (fnOf name qual params body scope dV kV doc pm an cdv ct), osl⟩) (hcd : codeIn (hd.heap_39 w.params) cdv qual = true) (hroom : d < recursionLimit)
    (hbind : BindsTo s (fnOf name qual params body scope dV kV doc pm an cdv ct) ⟨pos, kw⟩ binds) (hloc : ∀ y ∈ binds, scope.names.lookup y.1 = some .local)
    (h : ∀ g L' h₁, g = hideAll s.heap (news.map (·.1)) → Fr g L' h₁ (fun y => binds.reverse.lookup y) → News g L' h₁ news → Below (AX d u env outer) base (env :: outer) g → (hd.heap_39 w.params).In g → TP mean mg mb g → (∀ p ∈ news, p.1 < L') → Fr h₀ L g m →
      wpAny (model PR w) (AX (d + 1) (u + 3) (envOf qual scope L' f cdv) (env :: outer)) (execs body (envOf qual scope L' f cdv))
        (fun fl s' => Q (match fl with | .ret v => v | _ => .none) s') (fun _ _ => False)
        { s with heap := h₁, toks := s.toks + binds.length })
    (hco : scope.isCoroutine = false) (hgen : scope.isGenerator = false) (hk : scope.kind = .function)
    (hcell : ∀ x ∈ scope.names, x.2 ≠ .cell) : wpAny (model PR w) (AX d u env outer) (call (.ref f) pos kw) Q E s :=
  wpAny_call (enterC (A := AX d u env outer) (R := fun r s' => match r with | .ok (.ret v) => Q v s' | .ok _ => False | .error e => E e s') B F X N T rfl hf hke ho hcd hroom hbind hloc h hco hgen hk hcell)
end


/-- what a call site has at hand -/
def Cx (w : World) (dm um : Nat) (A : Around) (h₀ : Heap) (L : Addr) (m : Str → Option Value) (h : Heap) : Prop :=
  ∃ env outer A₀ base mean mg mb, A.handled = none ∧ A.frames = some (env :: outer) ∧ A.depth ≤ dm ∧ A.units ≤ um ∧ env.frame = some L ∧ env.scope.kind = .function ∧ Below A₀ base outer h₀ ∧ Fr h₀ L h m ∧ (hd.heap_39 w.params).In h₀ ∧ TP mean mg mb h₀
theorem Cx.of {w : World} {dm um : Nat} {A : Around} {h₀ : Heap} {L : Addr} {m : Str → Option Value} {h : Heap} {env outer A₀ base mean mg mb} (B : Below A₀ base outer h₀) (F : Fr h₀ L h m) (X : (hd.heap_39 w.params).In h₀) (T : TP mean mg mb h₀)
    (hh : A.handled = none) (hA : A.frames = some (env :: outer)) (hf : env.frame = some L) (hk : env.scope.kind = .function) (hd : A.depth ≤ dm) (hu : A.units ≤ um) : Cx w dm um A h₀ L m h := ⟨env, outer, A₀, base, mean, mg, mb, hh, hA, hd, hu, hf, hk, B, F, X, T⟩


theorem call_new {prog : Program} {w : World} {A : Around} {K : Frag} {C fI : Addr} {s : Shared} {pos : List Value} {kw : List (Str × Value)} {Q E : Value → Shared → Prop} (X : K.In s.heap) (hm : makesIn K C = true) (hi : findIn K (.ref C) "__init__" = some (some (.ref fI))) (hf : isFn K (.ref fI) = true)
    (h : codeAny (model prog w) (A.under (.builtin "type.__call__" ⟨.ref C :: pos, kw⟩)) (.call (.ref fI) ⟨.ref (s.heap.objs.size + 1) :: pos, kw⟩) (InitBack (s.heap.objs.size + 1) fun r s' => match r with | .ok (.ret v) => Q v s' | .ok _ => False | .error e => E e s')
      { s with heap := (s.heap.push emptyDict).push (instObj C s.heap.objs.size) }) : wpAny (model prog w) A (call (.ref C) pos kw) Q E s := by
  obtain ⟨hh, g, d, t, os⟩ := s
  exact wpAny_call (make_core (makes_of X hm) (looks_findIn X hi) (fun self => bind_fn X self (beq_iff_eq.mp hf)) (.inl rfl) h)

/-- a Decimal that is a whole number -/
def IsDec (h : Heap) (x : Addr) (n : Int) : Prop :=
  ∃ dx h1 h2 t1 t2 t3 t4, h.get? x = some (instObj 143 dx) ∧ h.get? dx = some (dictOf [⟨h1, .str (Str.ofString "top") t1, .int n t2⟩, ⟨h2, .str (Str.ofString "places") t3, .int 0 t4⟩] 2)
theorem IsDec.keeps {h h' : Heap} {x : Addr} {n : Int} (D : IsDec h x n) (k : ∀ b o, h.get? b = some o → h'.get? b = some o) : IsDec h' x n := by
  obtain ⟨dx, h1, h2, t1, t2, t3, t4, a, b⟩ := D
  exact ⟨dx, h1, h2, t1, t2, t3, t4, k _ _ a, k _ _ b⟩
/-- a value that stands for a number: an int, or a Decimal -/
def WV (h : Heap) (v : Value) (n : Int) : Prop := (∃ t, v = .int n t) ∨ ∃ x, v = .ref x ∧ IsDec h x n
theorem WV.keeps {h h' : Heap} {v : Value} {n : Int} (D : WV h v n) (k : ∀ b o, h.get? b = some o → h'.get? b = some o) : WV h' v n := by
  rcases D with D | ⟨x, e, D⟩
  · exact .inl D
  · exact .inr ⟨x, e, D.keeps k⟩


theorem news_new {g h h' : Heap} {L a : Addr} {o : Obj} {m : Str → Option Value} {news : List (Addr × Obj)} (N : News g L h' news) (F : Fr g L h m) (e : h.get? a = none) (e' : h'.get? a = some o) : News g L h' ((a, o) :: news) := by
  intro p hp
  rcases List.mem_cons.mp hp with rfl | hp
  · refine ⟨e', ?_, ?_⟩
    · rintro rfl
      obtain ⟨oL, _, _, hL, _⟩ := F.ns
      rw [e] at hL; cases hL
    · cases q : g.get? a with
      | none => rfl
      | some o' => have := F.keep _ _ q; rw [e] at this; cases this
  · exact N p hp
theorem instAt_base {h₀ h : Heap} {L x C dx : Addr} {m : Str → Option Value} {od : Obj} {sl : Array (Option Value)} (F : Fr h₀ L h m) (h1 : h₀.get? x = some (⟨.ref C, some dx, .plain, sl⟩ : Obj)) (h2 : h₀.get? dx = some od) :
    InstAt h x ⟨.ref C, some dx, .plain, sl⟩ C (some od) := ⟨F.keep _ _ h1, rfl, rfl, F.keep _ _ h2⟩
abbrev decDict (h1 h2 : Int) (t1 t2 t3 t4 : Tok) (n : Int) : Obj := dictOf [⟨h1, .str (Str.ofString "top") t1, .int n t2⟩, ⟨h2, .str (Str.ofString "places") t3, .int 0 t4⟩] 2


theorem off_g {as : List Addr} {g h h' : Heap} {L : Addr} {m : Str → Option Value} (hg : g = hideAll h as) (F : Fr g L h' m) : Off as h h' := off_of_fr (hg ▸ F)
theorem g_get {g h : Heap} (hg : g = hideAll h (([] : List (Addr × Obj)).map (·.1))) {a : Addr} {o : Obj} (e : h.get? a = some o) : g.get? a = some o := by rw [hg]; exact e
theorem g_none {g h H : Heap} {L : Addr} {m : Str → Option Value} (hg : g = hideAll h (([] : List (Addr × Obj)).map (·.1))) (F : Fr g L H m) {a : Addr} (e : H.get? a = none) : h.get? a = none := by
  cases q : h.get? a with
  | none => rfl
  | some o => have := F.keep _ _ (g_get hg q); rw [e] at this; cases this


theorem fresh_g {g h h' : Heap} {L : Addr} {a : Addr} {o : Obj} {news : List (Addr × Obj)} (hg : g = hideAll h (([] : List (Addr × Obj)).map (·.1))) (N : News g L h' news) (hm : (a, o) ∈ news) : h.get? a = none := by
  have := (N _ hm).2.2; rw [hg] at this; exact this

section
variable {α : Type} {P : α → Prop} {a : α} {l l' l1 l2 : List α}
theorem lsub_nil : ∀ p ∈ ([] : List α), p ∈ l := fun _ h => nomatch h
theorem lsub_rfl : ∀ p ∈ l, p ∈ l := fun _ h => h
theorem lsub_cons (h : a ∈ l) (t : ∀ p ∈ l', p ∈ l) : ∀ p ∈ a :: l', p ∈ l := List.forall_mem_cons.mpr ⟨h, t⟩
theorem lsub_tail (t : ∀ p ∈ l', p ∈ l) : ∀ p ∈ l', p ∈ a :: l := fun p h => .tail _ (t p h)
theorem lsub_app (h : ∀ p ∈ l1, p ∈ l) (t : ∀ p ∈ l2, p ∈ l) : ∀ p ∈ l1 ++ l2, p ∈ l := fun p q => (List.mem_append.mp q).elim (h p) (t p)
theorem lsub_inl : ∀ p ∈ l1, p ∈ l1 ++ l2 := fun _ h => List.mem_append_left _ h
theorem lsub_inr (t : ∀ p ∈ l', p ∈ l2) : ∀ p ∈ l', p ∈ l1 ++ l2 := fun p h => List.mem_append_right _ (t p h)
theorem lsub_inl' (t : ∀ p ∈ l', p ∈ l1) : ∀ p ∈ l', p ∈ l1 ++ l2 := fun p h => List.mem_append_left _ (t p h)
theorem lall_nil : ∀ p ∈ ([] : List α), P p := fun _ h => nomatch h
theorem lall_cons (h : P a) (t : ∀ p ∈ l, P p) : ∀ p ∈ a :: l, P p := List.forall_mem_cons.mpr ⟨h, t⟩
theorem lne_nil {β : Type} {D : Addr} : ∀ q ∈ ([] : List (Addr × β)), q.1 ≠ D := fun _ h => nomatch h
theorem lne_cons {β : Type} {b D : Addr} {o : β} {r : List (Addr × β)} (h : b ≠ D) (t : ∀ q ∈ r, q.1 ≠ D) : ∀ q ∈ (b, o) :: r, q.1 ≠ D := List.forall_mem_cons.mpr ⟨h, t⟩
theorem lne_app {β : Type} {D : Addr} {r1 r2 : List (Addr × β)} (h : ∀ q ∈ r1, q.1 ≠ D) (t : ∀ q ∈ r2, q.1 ≠ D) : ∀ q ∈ r1 ++ r2, q.1 ≠ D := fun p q => (List.mem_append.mp q).elim (h p) (t p)
theorem lnp_cons {β : Type} {b X Y : Addr} {o : β} {r : List (Addr × β)} (h : b ≠ X ∧ b ≠ Y) (t : ∀ q ∈ r, q.1 ≠ X ∧ q.1 ≠ Y) : ∀ q ∈ (b, o) :: r, q.1 ≠ X ∧ q.1 ≠ Y := List.forall_mem_cons.mpr ⟨h, t⟩
theorem lnp_nil {β : Type} {X Y : Addr} : ∀ q ∈ ([] : List (Addr × β)), q.1 ≠ X ∧ q.1 ≠ Y := fun _ h => nomatch h
theorem lall_app (h : ∀ p ∈ l1, P p) (t : ∀ p ∈ l2, P p) : ∀ p ∈ l1 ++ l2, P p := fun p q => (List.mem_append.mp q).elim (h p) (t p)
end
end Og

end PartBase
section PartData
open PySem PySem.W PySem.Calls PyProof.Rows
namespace Og
def Stop (p : Prop) : Prop := p
theorem stop {p : Prop} (h : Stop p) : p := h
theorem go {p : Prop} (h : p) : Stop p := h

theorem upd2 (x : Str) (a b : Option Value) (f : Str → Option Value) (y : Str) : (if y = x then a else if y = x then b else f y) = if y = x then a else f y := by
  by_cases h : y = x
  · rw [if_pos h, if_pos h]
  · rw [if_neg h, if_neg h, if_neg h]
def All2 {α β : Type} (R : α → β → Prop) (vs : List α) (xs : List β) : Prop := vs.length = xs.length ∧ ∀ (i : Nat) v x, vs[i]? = some v → xs[i]? = some x → R v x
section
variable {α β : Type} {R R' : α → β → Prop}
theorem All2.nil : All2 R [] [] := ⟨rfl, fun i v x h => by simp at h⟩
theorem All2.mono {vs xs} (h : All2 R vs xs) (k : ∀ v x, R v x → R' v x) : All2 R' vs xs := ⟨h.1, fun i v x a b => k _ _ (h.2 i v x a b)⟩
theorem All2.append {vs ws : List α} {xs ys : List β} (h : All2 R vs xs) (k : All2 R ws ys) : All2 R (vs ++ ws) (xs ++ ys) := by
  refine ⟨by rw [List.length_append, List.length_append, h.1, k.1], fun i v x a b => ?_⟩
  by_cases hi : i < vs.length
  · rw [List.getElem?_append_left hi] at a
    rw [List.getElem?_append_left (h.1 ▸ hi)] at b
    exact h.2 i v x a b
  · rw [List.getElem?_append_right (Nat.not_lt.mp hi)] at a
    rw [List.getElem?_append_right (h.1 ▸ Nat.not_lt.mp hi), ← h.1] at b
    exact k.2 _ v x a b
theorem All2.one {v : α} {x : β} (h : R v x) : All2 R [v] [x] := by
  refine ⟨rfl, fun i v' x' a b => ?_⟩
  cases i with
  | zero => simp at a b; subst a; subst b; exact h
  | succ i => simp at a
theorem All2.snoc {vs : List α} {xs : List β} {v : α} {x : β} (h : All2 R vs xs) (k : R v x) : All2 R (vs ++ [v]) (xs ++ [x]) := h.append (.one k)
theorem All2.get {vs : List α} {xs : List β} (h : All2 R vs xs) {i : Nat} (hi : i < xs.length) : ∃ v, vs[i]? = some v ∧ R v xs[i] := by
  have hv : i < vs.length := h.1 ▸ hi
  exact ⟨vs[i], List.getElem?_eq_getElem hv, h.2 i _ _ (List.getElem?_eq_getElem hv) (List.getElem?_eq_getElem hi)⟩
theorem All2.drop {vs : List α} {xs : List β} (h : All2 R vs xs) (n : Nat) : All2 R (vs.drop n) (xs.drop n) := by
  refine ⟨by rw [List.length_drop, List.length_drop, h.1], fun i v x a b => ?_⟩
  rw [List.getElem?_drop] at a b
  exact h.2 _ v x a b
theorem All2.take {vs : List α} {xs : List β} (h : All2 R vs xs) (n : Nat) : All2 R (vs.take n) (xs.take n) := by
  refine ⟨by rw [List.length_take, List.length_take, h.1], fun i v x a b => ?_⟩
  rw [List.getElem?_take] at a b
  split at a
  · rw [if_pos (by assumption)] at b
    exact h.2 _ v x a b
  · cases a
end

/-- a tuple of a code and a width -/
def PairAt (h : Heap) (a : Addr) (x : Int × Int) : Prop := ∃ tk wv, IsTup h a #[.int x.1 tk, wv] ∧ WV h wv x.2
theorem PairAt.keeps {h h' : Heap} {a : Addr} {x : Int × Int} (P : PairAt h a x) (k : ∀ b o, h.get? b = some o → h'.get? b = some o) : PairAt h' a x := by
  obtain ⟨tk, wv, t, v⟩ := P
  exact ⟨tk, wv, t.keeps k, v.keeps k⟩
def PairV (h : Heap) (v : Value) (x : Int × Int) : Prop := ∃ a, v = .ref a ∧ PairAt h a x
theorem PairV.keeps {h h' : Heap} {v : Value} {x : Int × Int} (P : PairV h v x) (k : ∀ b o, h.get? b = some o → h'.get? b = some o) : PairV h' v x := by
  obtain ⟨a, e, p⟩ := P
  exact ⟨a, e, p.keeps k⟩
def RunL (h : Heap) (l : Addr) (xs : List (Int × Int)) : Prop := ∃ vs : List Value, h.IsList l vs.toArray ∧ All2 (PairV h) vs xs
theorem RunL.keeps {h h' : Heap} {l : Addr} {xs : List (Int × Int)} (P : RunL h l xs) (k : ∀ b o, h.get? b = some o → h'.get? b = some o) : RunL h' l xs := by
  obtain ⟨vs, ⟨o, e, r⟩, p⟩ := P
  exact ⟨vs, ⟨o, k _ _ e, r⟩, p.mono fun _ _ q => q.keeps k⟩

section
variable {prog : Program} {w : World} {A : Around} {E : Value → Shared → Prop} {s : Shared} {Q : Value → Shared → Prop}
theorem run_item {value slice : PySem.Expr} {l : Addr} {i : Int} {u : Tok} {xs : List (Int × Int)} (R : RunL s.heap l xs) (h0 : 0 ≤ i) (hi : i.toNat < xs.length) (hhi : i < 2 ^ 63) (h : ∀ a, PairAt s.heap a xs[i.toNat] → Q (.ref a) s)
    (hs : subscripted slice false (.ref l) (.int i u) = operate [.ref l, .int i u] (getItem (.ref l) (.int i u)) := by with_unfolding_all rfl) :
    wpAny (model prog w) A (subscriptTail value slice (.ref l) (.int i u)) Q E s := by
  obtain ⟨vs, hl, p⟩ := R
  obtain ⟨v, hv, a, e, P⟩ := p.get hi
  subst e
  exact item_litK hl h0 hhi hv (h a P) hs
theorem pair_fst {value slice : PySem.Expr} {a : Addr} {u : Tok} {x : Int × Int} (P : PairAt s.heap a x) (h : ∀ tk, Q (.int x.1 tk) s)
    (hs : subscripted slice false (.ref a) (.int 0 u) = operate [.ref a, .int 0 u] (getItem (.ref a) (.int 0 u)) := by with_unfolding_all rfl) :
    wpAny (model prog w) A (subscriptTail value slice (.ref a) (.int 0 u)) Q E s := by
  obtain ⟨tk, wv, t, v⟩ := P
  exact item_tupleT (l := [.int x.1 tk, wv]) (j := 0) t (by decide) (by decide) rfl rfl (h tk) hs
theorem pair_snd {value slice : PySem.Expr} {a : Addr} {u : Tok} {x : Int × Int} (P : PairAt s.heap a x) (h : ∀ wv, WV s.heap wv x.2 → Q wv s)
    (hs : subscripted slice false (.ref a) (.int 1 u) = operate [.ref a, .int 1 u] (getItem (.ref a) (.int 1 u)) := by with_unfolding_all rfl) :
    wpAny (model prog w) A (subscriptTail value slice (.ref a) (.int 1 u)) Q E s := by
  obtain ⟨tk, wv, t, v⟩ := P
  exact item_tupleT (l := [.int x.1 tk, wv]) (j := 1) t (by decide) (by decide) rfl rfl (h wv v) hs
theorem run_len {l : Addr} {xs : List (Int × Int)} (R : RunL s.heap l xs) (hz : xs.length ≤ 1000) (h : ∀ t tk, Q (.int (xs.length : Nat) t) { s with toks := tk }) : wpAny (model prog w) A (call (.builtin "len") [.ref l]) Q E s := by
  obtain ⟨vs, hl, p⟩ := R
  have e : vs.toArray.size = xs.length := by rw [List.size_toArray]; exact p.1
  refine len_list hl (by rw [e]; omega) ?_
  rw [e]; exact h _ _
theorem truthy_nil {l : Addr} {k : Nat} {Q : Bool → Shared → Prop} (e : s.heap.get? l = some (listOf ([] : List Value).toArray k)) (h : Q false { s with toks := s.toks + 1 + 1 }) : wpAny (model prog w) A (truthy (.ref l)) Q E s :=
  wpAny_truthy_list ⟨_, e, rfl, _, rfl⟩ (by simp) h
theorem truthy_cons {l : Addr} {k : Nat} {v : Value} {vs : List Value} {Q : Bool → Shared → Prop} (e : s.heap.get? l = some (listOf (v :: vs).toArray k)) (hz : (v :: vs).length ≤ 1000000) (h : Q true { s with toks := s.toks + 1 + 1 }) : wpAny (model prog w) A (truthy (.ref l)) Q E s :=
  wpAny_truthy_list ⟨_, e, rfl, _, rfl⟩ (by rw [List.size_toArray]; omega) h
end
theorem offN {news news' : List (Addr × Obj)} {g h H h₀ : Heap} {L L' : Addr} {m : Str → Option Value} (hg : g = hideAll h (news.map (·.1))) (N : News h₀ L h news) (F : Fr g L' H m) (N' : News g L' H news') (hs : ∀ p ∈ news, p ∈ news') : Off [] h H := by
  intro b o e _
  by_cases hb : b ∈ news.map (·.1)
  · obtain ⟨p, hp, rfl⟩ := List.mem_map.mp hb
    have h1 := (N p hp).1
    rw [e] at h1
    rw [Option.some.inj h1]
    exact (N' p (hs p hp)).1
  · exact F.keep b o (hg ▸ hideAll_get _ e hb)
theorem freshN {news news' : List (Addr × Obj)} {g h H : Heap} {L' : Addr} {r : Addr} {o : Obj} (hg : g = hideAll h (news.map (·.1))) (N' : News g L' H news') (hm : (r, o) ∈ news') (hne : ∀ p ∈ news, p.1 ≠ r) : h.get? r = none := by
  cases q : h.get? r with
  | none => rfl
  | some o' =>
    have := (N' _ hm).2.2
    rw [hg, hideAll_get _ q (fun hb => by obtain ⟨p, hp, e⟩ := List.mem_map.mp hb; exact hne p hp e)] at this
    cases this
end Og

end PartData
section PartData2
open PySem PySem.W PySem.Calls PyProof.Rows PyProof.Rows.LCg PyProof.Rows.LCp
namespace Og
/-- a ledger's tuple of a code and a value -/
def TupE (news : List (Addr × Obj)) (v : Value) (t : Int × Value) : Prop := ∃ a tk n, v = .ref a ∧ (a, ({ cls := .type "tuple", data := .seq #[.int t.1 tk, t.2] n } : Obj)) ∈ news
theorem TupE.mono {news news' : List (Addr × Obj)} {v : Value} {t : Int × Value} (x : TupE news v t) (h : ∀ p ∈ news, p ∈ news') : TupE news' v t := by
  obtain ⟨a, tk, n, e, m⟩ := x
  exact ⟨a, tk, n, e, h _ m⟩
theorem off1_mem {D : Addr} {l : List (Addr × Obj)} (x : Off1 D l) : ∀ p ∈ l, p.1 ≠ D := by
  induction l with
  | nil => intro p h; exact (List.not_mem_nil h).elim
  | cons q r ih =>
    intro p h
    rcases List.mem_cons.mp h with e | h
    · rw [e]; exact x.1
    · exact ih x.2 p h
section
variable {prog : Program} {w : World} {A : Around} {h₀ : Heap} {L : Addr} {m : Str → Option Value} {env : Env} {scope : Scope} {cl : List (Str × Addr)} {s : Shared} {S : List (Addr × Obj) → Prop} {Fin : List Value → List (Addr × Obj) → Prop} {news : List (Addr × Obj)}

theorem comp_second {x x₂ : Str} {px : Pos} {vs : List Value} {ts : List (Int × Value)} (T : All2 (TupE news) vs ts) (hk : ∀ C, (compEnvC scope cl C env).scope.kind = .function) (hl : ∀ C, (compEnvC scope cl C env).kindOf x₂ = some .local) (hd : (x₂ == ("__debug__" : Str)) = false)
    (hS : S news) : ∀ (k i : Nat) (ys : List Value), k + i = vs.length → ys = (ts.take i).map (·.2) → (∀ ys', ys' = ts.map (·.2) → Fin ys' news) →
    CompRestP prog w A h₀ L m env (.Name x₂ px) x x₂ scope cl s S (fun i v => vs.toArray[i]? = some v) Fin k i ys news
  | 0, i, ys, hki, hys, hf => CompRestP.zero (hf ys (by rw [hys, List.take_of_length_le (by rw [← T.1]; omega)]))
  | k + 1, i, ys, hki, hys, hf => by
    refine CompRestP.succ fun v hv => ?_
    have hv' : vs[i]? = some v := by simpa using hv
    have hi : i < ts.length := by rw [← T.1]; omega
    obtain ⟨v', hv'', a, tk, n, e, hm⟩ := T.get hi
    rw [hv''] at hv'; cases hv'
    refine ⟨a, _, _, _, n, e, hm, rfl, rfl, ?_⟩
    intro I oI C oC D m₂ h tk' E' hoC h1 h2 F N off ne
    refine wpAny_Name (wpAny_loadName_local (hk C) (hl C) (hoC.ns (News.get N (.tail _ (.head _)))) h2 ?_) hd
    refine CompEnd.intro F N news (fun p hp => hp) off hS ?_
    refine comp_second T hk hl hd hS k (i + 1) _ (by omega) ?_ hf
    rw [hys, List.take_add_one, List.getElem?_eq_getElem hi, List.map_append]
    rfl
end
end Og

end PartData2
section PartPure
open PySem PySem.W PySem.Calls PyProof.Rows
namespace Og
/-- a code, its width as a value, the number that it stands for -/
structure Item where
  c : Int
  v : Value
  n : Int
def alikeN : List Item → Nat
  | [] => 0
  | z :: r => 1 + (r.takeWhile fun y => decide (y.n = z.n)).length
inductive PP where
  | code (c : Int)
  | val (z : Item)
  | lst (zs : List Item)
def listedP : List Item → List PP
  | [] => []
  | z :: r => [.code z.c, .lst (z :: r)]
theorem listedP_len (l : List Item) : (listedP l).length ≤ 2 := by cases l <;> simp [listedP]
def codeAt (l : List Item) (i : Nat) : Int := (l[i]?.map (·.c)).getD 0
def runGo : Nat → List Item → List Item → List PP
  | 0, _, lz => listedP lz
  | _ + 1, [], lz => listedP lz
  | f + 1, z :: r, lz =>
    if 4 ≤ alikeN (z :: r) then listedP lz ++ [.code z.c, .code (codeAt (z :: r) (alikeN (z :: r) - 1)), .val z] ++ runGo f ((z :: r).drop (alikeN (z :: r))) []
    else runGo f ((z :: r).drop (alikeN (z :: r))) (lz ++ (z :: r).take (alikeN (z :: r)))
def runP (zs : List Item) : List PP := runGo zs.length zs []
theorem runGo_nil (f : Nat) (lz : List Item) : runGo f [] lz = listedP lz := by cases f <;> rfl

theorem takeWhile_len {α : Type} (p : α → Bool) : ∀ (l : List α) (c : Nat), c ≤ l.length → (∀ j (q : j < l.length), j < c → p l[j] = true) → (∀ q : c < l.length, p l[c] = false) → (l.takeWhile p).length = c
  | [], c, hc, _, _ => by simp at hc; simp [hc]
  | a :: r, 0, _, _, h => by
    have := h (by simp)
    simp only [List.getElem_cons_zero] at this
    simp [List.takeWhile_cons, this]
  | a :: r, c + 1, hc, h1, h2 => by
    have ha := h1 0 (by simp) (by omega)
    simp only [List.getElem_cons_zero] at ha
    rw [List.takeWhile_cons, ha]
    simp only [if_true, List.length_cons]
    rw [takeWhile_len p r c (by simpa using hc) (fun j q hj => by have := h1 (j + 1) (by simpa using q) (by omega); simpa using this) (fun q => by have := h2 (by simpa using q); simpa using this)]
theorem alikeN_eq {z : Item} {r : List Item} {c : Nat} (h1 : 1 ≤ c) (hc : c ≤ (z :: r).length) (h2 : ∀ j (q : j < (z :: r).length), j < c → ((z :: r)[j]).n = z.n) (h3 : ∀ q : c < (z :: r).length, ((z :: r)[c]).n ≠ z.n) : alikeN (z :: r) = c := by
  obtain ⟨d, rfl⟩ : ∃ d, c = d + 1 := ⟨c - 1, by omega⟩
  show 1 + _ = d + 1
  rw [takeWhile_len _ r d (by simpa using hc) (fun j q hj => ?_) (fun q => ?_)]
  · omega
  · have := h2 (j + 1) (by simpa using q) (by omega)
    simpa using this
  · have := h3 (by simpa using q)
    simpa using this
theorem alike_pure {zs : List Item} {p c : Nat} {i : Int} (hi : i = (p : Int)) (hp : p < zs.length) (h1 : 1 ≤ c) (h2 : i.toNat + c ≤ (zs.map fun z => (z.c, z.n)).length) (hp' : i.toNat < (zs.map fun z => (z.c, z.n)).length)
    (h3 : ∀ j (q : j < (zs.map fun z => (z.c, z.n)).length), i.toNat ≤ j → j < i.toNat + c → ((zs.map fun z => (z.c, z.n))[j]).2 = ((zs.map fun z => (z.c, z.n))[i.toNat]).2)
    (h4 : ∀ q : i.toNat + c < (zs.map fun z => (z.c, z.n)).length, ((zs.map fun z => (z.c, z.n))[i.toNat + c]).2 ≠ ((zs.map fun z => (z.c, z.n))[i.toNat]).2) :
    c = alikeN (zs.drop p) ∧ 1 ≤ c ∧ p + c ≤ zs.length := by
  have ei : i.toNat = p := by omega
  simp only [ei, List.length_map, List.getElem_map] at h2 h3 h4
  have hd : zs.drop p = zs[p] :: zs.drop (p + 1) := List.drop_eq_getElem_cons hp
  refine ⟨?_, h1, h2⟩
  rw [hd]
  symm
  have get : ∀ j (q : j < (zs[p] :: zs.drop (p + 1)).length), (zs[p] :: zs.drop (p + 1))[j] = zs[p + j]'(by simp at q; omega) := by
    intro j q
    have : (zs.drop p)[j]'(by rw [hd]; exact q) = zs[p + j]'(by simp at q; omega) := List.getElem_drop ..
    simpa only [hd] using this
  refine alikeN_eq h1 (by simp; omega) (fun j q hj => ?_) (fun q => ?_)
  · rw [get]
    exact h3 (p + j) (by simp at q; omega) (by omega) (by omega)
  · rw [get]
    exact h4 (by simp at q; omega)
theorem alikeN_pos (z : Item) (r : List Item) : 1 ≤ alikeN (z :: r) := by show 1 ≤ 1 + _; omega
theorem runGo_long {zs lz : List Item} {p c f : Nat} {z1 z2 : Item} (hp : p < zs.length) (hc : c = alikeN (zs.drop p)) (h4 : 4 ≤ c) (hf : (zs.drop p).length ≤ f) (e1 : zs[p]? = some z1) (e2 : zs[p + c - 1]? = some z2) :
    ∃ f', (zs.drop (p + c)).length ≤ f' ∧ runGo f (zs.drop p) lz = listedP lz ++ [.code z1.c, .code z2.c, .val z1] ++ runGo f' (zs.drop (p + c)) [] := by
  have hd : zs.drop p = zs[p] :: zs.drop (p + 1) := List.drop_eq_getElem_cons hp
  obtain rfl : zs[p] = z1 := by rw [List.getElem?_eq_getElem hp] at e1; exact Option.some.inj e1
  have hl : (zs.drop p).length = zs.length - p := List.length_drop
  obtain ⟨f', rfl⟩ : ∃ f', f = f' + 1 := ⟨f - 1, by omega⟩
  refine ⟨f', by rw [List.length_drop]; omega, ?_⟩
  have hdd : (zs[p] :: zs.drop (p + 1)).drop (alikeN (zs[p] :: zs.drop (p + 1))) = zs.drop (p + c) := by rw [← hd, ← hc, List.drop_drop]
  have hca : codeAt (zs[p] :: zs.drop (p + 1)) (alikeN (zs[p] :: zs.drop (p + 1)) - 1) = z2.c := by
    rw [← hd, ← hc]
    unfold codeAt
    rw [List.getElem?_drop, show p + (c - 1) = p + c - 1 by omega, e2]
    rfl
  rw [hd]
  show (if 4 ≤ alikeN (zs[p] :: zs.drop (p + 1)) then _ else _) = _
  rw [if_pos (by rw [← hd, ← hc]; exact h4), hdd, hca]
theorem runGo_short {zs lz : List Item} {p c f : Nat} (hp : p < zs.length) (hc : c = alikeN (zs.drop p)) (h4 : ¬ 4 ≤ c) (h1 : 1 ≤ c) (hf : (zs.drop p).length ≤ f) :
    ∃ f', (zs.drop (p + c)).length ≤ f' ∧ runGo f (zs.drop p) lz = runGo f' (zs.drop (p + c)) (lz ++ (zs.drop p).take c) := by
  have hd : zs.drop p = zs[p] :: zs.drop (p + 1) := List.drop_eq_getElem_cons hp
  have hl : (zs.drop p).length = zs.length - p := List.length_drop
  obtain ⟨f', rfl⟩ : ∃ f', f = f' + 1 := ⟨f - 1, by omega⟩
  refine ⟨f', by rw [List.length_drop]; omega, ?_⟩
  have hdd : (zs[p] :: zs.drop (p + 1)).drop (alikeN (zs[p] :: zs.drop (p + 1))) = zs.drop (p + c) := by rw [← hd, ← hc, List.drop_drop]
  rw [hd]
  show (if 4 ≤ alikeN (zs[p] :: zs.drop (p + 1)) then _ else _) = _
  rw [if_neg (by rw [← hd, ← hc]; exact h4), hdd, ← hd, ← hc]
theorem alikeN_le (l : List Item) : alikeN l ≤ l.length := by
  cases l with
  | nil => exact Nat.le_refl _
  | cons z r =>
    show 1 + _ ≤ r.length + 1
    have : (r.takeWhile fun y => decide (y.n = z.n)).length ≤ r.length := (List.takeWhile_sublist _).length_le
    omega

theorem runGo_len : ∀ (f : Nat) (l lz : List Item), (runGo f l lz).length ≤ 5 * l.length + 2
  | 0, l, lz => by have := listedP_len lz; show (listedP lz).length ≤ _; omega
  | f + 1, [], lz => by have := listedP_len lz; show (listedP lz).length ≤ _; omega
  | f + 1, z :: r, lz => by
    have h1 := alikeN_pos z r
    have h2 := alikeN_le (z :: r)
    have h3 := listedP_len lz
    show (if 4 ≤ alikeN (z :: r) then _ else _ : List PP).length ≤ _
    split
    · have h4 := runGo_len f ((z :: r).drop (alikeN (z :: r))) []
      simp only [List.length_append, List.length_cons, List.length_nil, List.length_drop] at h2 h4 ⊢
      omega
    · have h4 := runGo_len f ((z :: r).drop (alikeN (z :: r))) (lz ++ (z :: r).take (alikeN (z :: r)))
      simp only [List.length_cons, List.length_drop] at h2 h4 ⊢
      omega
theorem runP_len (zs : List Item) : (runP zs).length ≤ 7 * zs.length := by
  cases zs with
  | nil => exact Nat.le_refl _
  | cons z r =>
    have := runGo_len (z :: r).length (z :: r) []
    show (runGo _ _ _).length ≤ _
    simp only [List.length_cons] at this ⊢
    omega
def lastC (l : List Item) : Int := (l.getLast?.map (·.c)).getD 0
def wideGo (dn : Int) : List Item → List Item → List PP
  | [], run => runP run
  | y :: r, run => if y.n = dn then wideGo dn r run else if run ≠ [] ∧ lastC run ≠ y.c - 1 then runP run ++ wideGo dn r [y] else wideGo dn r (run ++ [y])
def wideP (dn : Int) (ys : List Item) : List PP := wideGo dn ys []
theorem wideGo_skip {dn : Int} {y : Item} {r run : List Item} (h : y.n = dn) : wideGo dn (y :: r) run = wideGo dn r run := by show (if _ then _ else _) = _; rw [if_pos h]
theorem wideGo_flush {dn : Int} {y : Item} {r run : List Item} (h : ¬ y.n = dn) (h1 : run ≠ []) (h2 : lastC run ≠ y.c - 1) : wideGo dn (y :: r) run = runP run ++ wideGo dn r [y] := by show (if _ then _ else _) = _; rw [if_neg h, if_pos ⟨h1, h2⟩]
theorem wideGo_more {dn : Int} {y : Item} {r run : List Item} (h : ¬ y.n = dn) (h1 : ¬ (run ≠ [] ∧ lastC run ≠ y.c - 1)) : wideGo dn (y :: r) run = wideGo dn r (run ++ [y]) := by show (if _ then _ else _) = _; rw [if_neg h, if_neg h1]

def PVe (ext : List (Addr × Obj)) (v : Value) : PP → Prop
  | .code c => ∃ t, v = .int c t
  | .val z => v = z.v
  | .lst zs => ∃ a k, v = .ref a ∧ (a, listOf (zs.map (·.v)).toArray k) ∈ ext
theorem PVe.mono {ext ext' : List (Addr × Obj)} {v : Value} {p : PP} (x : PVe ext v p) (h : ∀ q ∈ ext, q ∈ ext') : PVe ext' v p := by
  cases p with
  | code c => exact x
  | val z => exact x
  | lst zs => obtain ⟨a, k, e, hm⟩ := x; exact ⟨a, k, e, h _ hm⟩
def NewOf (h h' : Heap) (l : List (Addr × Obj)) : Prop := ∀ p ∈ l, h.get? p.1 = none ∧ h'.get? p.1 = some p.2
theorem NewOf.news {h h' g : Heap} {L : Addr} {m : Str → Option Value} {l news : List (Addr × Obj)} (x : NewOf h h' l) (F : Fr g L h m) (N : News g L h' news) : News g L h' (l ++ news) := by
  intro p hp
  rcases List.mem_append.mp hp with hp | hp
  · obtain ⟨e, e'⟩ := x p hp
    exact news_new N F e e' _ (List.Mem.head _)
  · exact N p hp
theorem NewOf.back {h h1 h' : Heap} {l : List (Addr × Obj)} (x : NewOf h1 h' l) (k : ∀ b o, h.get? b = some o → h1.get? b = some o) : NewOf h h' l := by
  intro p hp
  obtain ⟨e, e'⟩ := x p hp
  refine ⟨?_, e'⟩
  cases q : h.get? p.1 with
  | none => rfl
  | some o => have := k _ _ q; rw [e] at this; cases this

theorem fr4 {g h : Heap} {L : Addr} {m : Str → Option Value} {x1 x2 x3 x4 : Str} {v1 v2 v3 v4 : Value} (F : Fr g L h m) (h1 : m x1 = some v1) (h2 : m x2 = some v2) (h3 : m x3 = some v3) (h4 : m x4 = some v4) :
    Fr g L h (fun y => if y = x1 then some v1 else if y = x2 then some v2 else if y = x3 then some v3 else if y = x4 then some v4 else m y) := by
  have e : (fun y => if y = x1 then some v1 else if y = x2 then some v2 else if y = x3 then some v3 else if y = x4 then some v4 else m y) = m := by
    funext y
    by_cases e1 : y = x1
    · rw [if_pos e1, e1, h1]
    · rw [if_neg e1]
      by_cases e2 : y = x2
      · rw [if_pos e2, e2, h2]
      · rw [if_neg e2]
        by_cases e3 : y = x3
        · rw [if_pos e3, e3, h3]
        · rw [if_neg e3]
          by_cases e4 : y = x4
          · rw [if_pos e4, e4, h4]
          · rw [if_neg e4]
  rw [e]; exact F

section
variable {prog : Program} {w : World} {A : Around} {E : Value → Shared → Prop} {s : Shared} {h₀ : Heap} {L : Addr} {m : Str → Option Value} {Q : Value → Shared → Prop}
theorem head_of {g h : Heap} {L a : Addr} {o : Obj} {l : List (Addr × Obj)} (_ : News g L h ((a, o) :: l)) : ∃ a', a' = a := ⟨a, rfl⟩
theorem news_sub {g h : Heap} {L : Addr} {l l' : List (Addr × Obj)} (N : News g L h l) (hs : ∀ p ∈ l', p ∈ l) : News g L h l' := fun p hp => N p (hs p hp)
theorem extend_my {D b : Addr} {ys zs : List Value} {n k : Nat} {rest : List (Addr × Obj)} (F : Fr h₀ L s.heap m) (N : News h₀ L s.heap ((D, listOf ys.toArray n) :: rest)) (hap : ∀ p ∈ rest, p.1 ≠ D) (hb : s.heap.get? b = some (listOf zs.toArray k)) (hsz : ys.length + zs.length ≤ 1000000)
    (h : ∀ h' n' ws, ws = ys ++ zs → Fr h₀ L h' m → News h₀ L h' ((D, listOf ws.toArray n') :: rest) → Q .none { s with heap := h' }) : wpAny (model prog w) A (call (.builtin "list.extend") [.ref D, .ref b]) Q E s :=
  extend_in (own := []) (its2 := zs.toArray) F N (fun _ h => nomatch h) hap hb (fun h' n' F' N' => h h' n' _ rfl F' (by simpa using N')) (by rw [List.size_toArray, sizeLine_eq]; omega)
theorem NewOf.ne {h h' : Heap} {l : List (Addr × Obj)} {a : Addr} {o : Obj} (x : NewOf h h' l) (e : h.get? a = some o) : ∀ p ∈ l, p.1 ≠ a := fun p hp q => by
  have := (x p hp).1; rw [q, e] at this; cases this
theorem item_T {value slice : PySem.Expr} {l : Addr} {vs : List Value} {k : Nat} {zs : List Item} {i : Int} {u : Tok} {news nn : List (Addr × Obj)} (N : News h₀ L s.heap nn) (hl : (l, listOf vs.toArray k) ∈ news) (sub : ∀ q ∈ news, q ∈ nn) (TT : All2 (TupE news) vs (zs.map fun z => (z.c, z.v)))
    (h0 : 0 ≤ i) (hi : i.toNat < zs.length) (hhi : i < 2 ^ 63) (h : ∀ a tk n z, zs[i.toNat]? = some z → (a, ({ cls := .type "tuple", data := .seq #[.int z.c tk, z.v] n } : Obj)) ∈ news → Q (.ref a) s)
    (hs : subscripted slice false (.ref l) (.int i u) = operate [.ref l, .int i u] (getItem (.ref l) (.int i u)) := by with_unfolding_all rfl) :
    wpAny (model prog w) A (subscriptTail value slice (.ref l) (.int i u)) Q E s := by
  have hi' : i.toNat < (zs.map fun z => (z.c, z.v)).length := by rw [List.length_map]; exact hi
  obtain ⟨v, hv, a, tk, n, e, hm⟩ := TT.get hi'
  subst e
  rw [List.getElem_map] at hm
  exact item_litK ⟨_, News.get N (sub _ hl), rfl, _, rfl⟩ h0 hhi hv (h a tk n _ (List.getElem?_eq_getElem hi) hm) hs
theorem tup0_T {value slice : PySem.Expr} {a : Addr} {u : Tok} {n : Nat} {v0 v1 : Value} {news nn : List (Addr × Obj)} (N : News h₀ L s.heap nn) (hm : (a, ({ cls := .type "tuple", data := .seq #[v0, v1] n } : Obj)) ∈ news) (sub : ∀ q ∈ news, q ∈ nn) (h : Q v0 s)
    (hs : subscripted slice false (.ref a) (.int 0 u) = operate [.ref a, .int 0 u] (getItem (.ref a) (.int 0 u)) := by with_unfolding_all rfl) :
    wpAny (model prog w) A (subscriptTail value slice (.ref a) (.int 0 u)) Q E s :=
  item_tupleT (l := [v0, v1]) (j := 0) ⟨_, News.get N (sub _ hm), rfl, _, rfl⟩ (by decide) (by decide) rfl rfl h hs
theorem tup1_T {value slice : PySem.Expr} {a : Addr} {u : Tok} {n : Nat} {v0 v1 : Value} {news nn : List (Addr × Obj)} (N : News h₀ L s.heap nn) (hm : (a, ({ cls := .type "tuple", data := .seq #[v0, v1] n } : Obj)) ∈ news) (sub : ∀ q ∈ news, q ∈ nn) (h : Q v1 s)
    (hs : subscripted slice false (.ref a) (.int 1 u) = operate [.ref a, .int 1 u] (getItem (.ref a) (.int 1 u)) := by with_unfolding_all rfl) :
    wpAny (model prog w) A (subscriptTail value slice (.ref a) (.int 1 u)) Q E s :=
  item_tupleT (l := [v0, v1]) (j := 1) ⟨_, News.get N (sub _ hm), rfl, _, rfl⟩ (by decide) (by decide) rfl rfl h hs
theorem slice_my {value slice : PySem.Expr} {l : Addr} {vs : List Value} {news : List (Addr × Obj)} (p c : Nat) {i j : Int} {ti tj : Tok} (F : Fr h₀ L s.heap m) (N : News h₀ L s.heap news) {k : Nat} (hl : s.heap.get? l = some (listOf vs.toArray k)) (hi : i = (p : Int)) (hj : j = (p : Int) + (c : Int)) (hpc : p + c ≤ vs.length) (hz : vs.length ≤ 1000000)
    (h : ∀ D h' ws, ws = (vs.drop p).take c → Fr h₀ L h' m → News h₀ L h' ((D, listOf ws.toArray 0) :: news) → (∀ q ∈ news, q.1 < D) → Q (.ref D) { s with heap := h' })
    (hs : subscripted slice false (.ref l) (.ref s.heap.objs.size) = operate [.ref s.heap.objs.size, .ref l] (getItem (.ref l) (.ref s.heap.objs.size))) (ht : ∀ r, letTemporaryGo value (.ref l) r = pure ()) :
    wpAny (model prog w) A (subscriptTail value slice (.ref l) (.ref s.heap.objs.size)) Q E { s with heap := s.heap.push { cls := .type "slice", data := .fields #[.int i ti, .int j tj, .none] } } := by
  refine kmk_slice F N ⟨_, hl, rfl, _, rfl⟩ (IsPart.int _ _) (IsPart.int _ _) (fun D h' F' N' l1 => h D h' _ rfl F' ?_ l1) hs ht (by rw [List.size_toArray, sizeLine_eq]; omega)
  rw [kms_pick_eq] at N'
  have e : kms_pick vs.toArray.toList (some i) (some j) = (vs.drop p).take c := by
    unfold kms_pick kms_lo kms_hi
    dsimp only
    rw [if_neg (by omega), if_neg (by omega)]
    rw [show min i.toNat vs.length = p by omega, show min j.toNat vs.length - p = c by omega]
  rw [e] at N'
  exact N'
end
end Og

end PartPure
section PartDict
open PySem PySem.W PySem.Calls PyProof.Rows
namespace Og
theorem intsAre_of : ∀ {vs : List Value} {ns : List Int}, vs.length = ns.length → (∀ (j : Nat) v, vs[j]? = some v → ∃ n t, ns[j]? = some n ∧ v = .int n t) → IntsAre vs ns
  | [], [], _, _ => .nil
  | v :: vs, n :: ns, hl, h => by
    obtain ⟨n', t, e, rfl⟩ := h 0 v rfl
    simp only [List.getElem?_cons_zero, Option.some.injEq] at e
    subst e
    exact .cons _ _ (intsAre_of (by simpa using hl) fun j v hv => by simpa using h (j + 1) v (by simpa using hv))
theorem intsAre_get {vs : List Value} {ns : List Int} (h : IntsAre vs ns) : ∀ {i : Nat} {v : Value}, vs[i]? = some v → ∃ n t, ns[i]? = some n ∧ v = .int n t := by
  induction h with
  | nil => intro i v e; simp at e
  | cons n t _ ih =>
    intro i v e
    cases i with
    | zero => simp at e; exact ⟨n, t, rfl, e.symm⟩
    | succ i => simpa using ih (by simpa using e)
theorem intsAre_snoc {vs : List Value} {ns : List Int} (h : IntsAre vs ns) (n : Int) (t : Tok) : IntsAre (vs ++ [.int n t]) (ns ++ [n]) := by
  induction h with
  | nil => exact .cons n t .nil
  | cons a b _ ih => exact .cons a b ih
theorem fr_upd {g h H : Heap} {L B : Addr} {o : Obj} {m : Str → Option Value} {news : List (Addr × Obj)} (F : Fr g L h m) (N : News g L h ((B, o) :: news)) (old : ∀ b o, b ≠ B → h.get? b = some o → H.get? b = some o) : Fr g L H m := by
  obtain ⟨e1, e2, e3⟩ := N _ (List.Mem.head _)
  refine ⟨?_, fun b o e => old b o (fun q => by rw [q, e3] at e; cases e) (F.keep b o e), F.above⟩
  exact F.ns.at' fun o e => old L o (Ne.symm e2) e
theorem news_upd' {g h H : Heap} {L B : Addr} {o o' : Obj} {news : List (Addr × Obj)} (N : News g L h ((B, o) :: news)) (hne : ∀ q ∈ news, q.1 ≠ B) (old : ∀ b o, b ≠ B → h.get? b = some o → H.get? b = some o) (hB : H.get? B = some o') : News g L H ((B, o') :: news) := by
  obtain ⟨e1, e2, e3⟩ := N _ (List.Mem.head _)
  intro p hp
  rcases List.mem_cons.mp hp with rfl | hp
  · exact ⟨hB, e2, e3⟩
  · have z := N p (.tail _ hp)
    exact ⟨old _ _ (hne p hp) z.1, z.2⟩
section
variable {prog : Program} {w : World} {A : Around} {E : Value → Shared → Prop} {s : Shared} {h₀ : Heap} {L d : Addr} {m : Str → Option Value} {Q : Value → Shared → Prop} {news : List (Addr × Obj)} {kvs : List (Int × Value)}
theorem sort_ints_my {B : Addr} {vs : List Value} {ns : List Int} {n : Nat} (F : Fr h₀ L s.heap m) (N : News h₀ L s.heap ((B, listOf vs.toArray n) :: news)) (hne : ∀ q ∈ news, q.1 ≠ B) (hI : IntsAre vs ns) (h64 : vs.length < 64)
    (h : ∀ h' k vs' ns', Fr h₀ L h' m → News h₀ L h' ((B, listOf vs'.toArray k) :: news) → IntsAre vs' ns' → ns'.Perm ns → ns'.Pairwise (· ≤ ·) → Q .none { s with heap := h' }) : wpAny (model prog w) A (call (.builtin "list.sort") [.ref B]) Q E s := by
  have hB := N.get (.head _)
  refine wpAny_call_entry slot_list_sort ⟨_, hB, rfl⟩ entry_list_sort (list_sort_tree (n := n) hB hI h64 fun out ns' a1 a2 a3 => ⟨.none, rfl, ?_⟩) (args_list_sort _)
  have old : ∀ b o, b ≠ B → s.heap.get? b = some o → (sortedHeap s.heap B vs out).get? b = some o := fun b o hb e => (sortedHeap_old hb (Heap.lt_size e)).trans e
  obtain ⟨k, hk⟩ := sortedHeap_at (out := out) hB
  refine h _ k out.toList ns' (fr_upd F N old) (news_upd' N hne old ?_) a1 a2 a3
  rw [hk, Array.toArray_toList]
theorem sorted_dict (hh : A.handled = none) (F : Fr h₀ L s.heap m) (N : News h₀ L s.heap news) (hd : s.heap.DictOf (intKind prog w) d kvs) (lo : (d == sysModules) = false) (hn : kvs.length < 64)
    (h : ∀ B h' tk k vs ns, Fr h₀ L h' m → News h₀ L h' ((B, listOf vs.toArray k) :: news) → (∀ q ∈ news, q.1 < B) → IntsAre vs ns → ns.Perm (kvs.map (·.1)) → ns.Pairwise (· ≤ ·) → Q (.ref B) { s with heap := h', toks := tk }) :
    wpAny (model prog w) A (call (.builtin "sorted") [.ref d]) Q E s := by
  obtain ⟨ep, hat⟩ := hd.dictAt
  refine kdu_sorted (kdl_dict (knd := intKind prog w) (kvs := kvs) (ep := ep) lo) hh F N hat (by rw [sizeLine_eq]; omega) fun B h' tk vs F' N' l1 hl hv => ?_
  have hI : IntsAre vs (kvs.map (·.1)) := by
    refine intsAre_of (by rw [hl, List.length_map]) fun j v e => ?_
    obtain ⟨k, x, hx, hk⟩ := hv j v e
    obtain ⟨t, rfl⟩ : ∃ t, v = .int k t := by
      cases v <;> simp [intKind, Value.isInt] at hk
      subst hk
      exact ⟨_, rfl⟩
    exact ⟨k, t, by rw [List.getElem?_map, hx]; rfl, rfl⟩
  exact sort_ints_my F' N' (fun q hq => Nat.ne_of_lt (l1 q hq)) hI (by omega) fun h2 k vs' ns' F2 N2 a1 a2 a3 => h B h2 tk k vs' ns' F2 N2 l1 a1 a2 a3
theorem dict_item {value slice : PySem.Expr} {k : Int} {t : Tok} {v : Value} (hd : s.heap.DictOf (intKind prog w) d kvs) (hv : valueAt kvs k = some v) (h : Q v { s with toks := s.toks + 1 })
    (hs : subscripted slice false (.ref d) (.int k t) = operate [.ref d, .int k t] (getItem (.ref d) (.int k t)) := by with_unfolding_all rfl) :
    wpAny (model prog w) A (subscriptTail value slice (.ref d) (.int k t)) Q E s := tail_any hd.typeIs slot_dict_getitem.lookup (wpAny_getItem_of (intKind_is prog w k t) hd.mapOf hv h) hs
end

section
variable {prog : Program} {w : World} {A : Around} {E : Value → Shared → Prop} {s : Shared} {env : Env} {h₀ : Heap} {x : Str} {body : List Stmt} {Q : Flow → Shared → Prop}
def ForEnd (g : Heap) (L I : Addr) (oI : Obj) (J : (Str → Option Value) → List (Addr × Obj) → Prop) (Q : Flow → Shared → Prop) (s : Shared) (f : Flow) (s₂ : Shared) : Prop :=
  match f with
  | .ret v => Q (.ret v) s₂
  | .brk => Q .next s₂
  | _ => ∃ h' tk m₂ news₂, s₂ = { s with heap := h', toks := tk } ∧ Fr g L h' m₂ ∧ News g L h' ((I, oI) :: news₂) ∧ (∀ q ∈ news₂, q.1 ≠ I) ∧ J m₂ news₂
theorem forEnd_next {g : Heap} {L I : Addr} {oI : Obj} {J : (Str → Option Value) → List (Addr × Obj) → Prop} {h' : Heap} {tk : Nat} {m₂ : Str → Option Value} {news₂ : List (Addr × Obj)} (F : Fr g L h' m₂) (N : News g L h' ((I, oI) :: news₂)) (hn : ∀ q ∈ news₂, q.1 ≠ I) (hJ : J m₂ news₂) :
    ForEnd g L I oI J Q s .next { s with heap := h', toks := tk } := ⟨h', tk, m₂, news₂, rfl, F, N, hn, hJ⟩
theorem forEnd_cont {g : Heap} {L I : Addr} {oI : Obj} {J : (Str → Option Value) → List (Addr × Obj) → Prop} {h' : Heap} {tk : Nat} {m₂ : Str → Option Value} {news₂ : List (Addr × Obj)} (F : Fr g L h' m₂) (N : News g L h' ((I, oI) :: news₂)) (hn : ∀ q ∈ news₂, q.1 ≠ I) (hJ : J m₂ news₂) :
    ForEnd g L I oI J Q s .cont { s with heap := h', toks := tk } := ⟨h', tk, m₂, news₂, rfl, F, N, hn, hJ⟩
theorem for_walk {I : Addr} {fp : List Addr} {n : Nat} {P : Nat → Value → Prop} {St : Nat → Heap → Prop} {m₀ : Str → Option Value} {news src : List (Addr × Obj)} (J : Nat → (Str → Option Value) → List (Addr × Obj) → Prop)
    (W : Walks prog w A I fp [I] n P St) (hLf : env.locals ∉ fp) (hI : h₀.get? I = none) (hst : St 0 s.heap) (F : Fr h₀ env.locals s.heap m₀) (N : News h₀ env.locals s.heap news) (hne : ∀ q ∈ news, q.1 ≠ I)
    (hfp : ∀ b ∈ fp, b = I ∨ (∃ o, h₀.get? b = some o) ∨ ∃ o, (b, o) ∈ src) (hsrc : ∀ i m nw, J i m nw → ∀ p ∈ src, p ∈ nw) (hex : ∀ i h, St i h → ∃ o, h.get? I = some o) (hIf : I ∈ fp) (hj : J 0 m₀ news)
    (turn : ∀ i v m₁ news₁ oI h tk, i < n → P i v → J i m₁ news₁ → (∀ q ∈ news₁, q.1 ≠ I) → Fr h₀ env.locals h (fun y => if y = x then some v else m₁ y) → News h₀ env.locals h ((I, oI) :: news₁) →
      wpAny (model prog w) A (execs body env) (ForEnd h₀ env.locals I oI (J (i + 1)) Q s) E { s with heap := h, toks := tk })
    (done : ∀ m₁ news₁ h tk, J n m₁ news₁ → Fr h₀ env.locals h m₁ → News h₀ env.locals h news₁ → Q .next { s with heap := h, toks := tk }) :
    LoopAtV prog w A h₀ env x body Q E (.ref I) s := by
  refine ⟨I, fp, [I], n, P, St, m₀, news, J, rfl, W, hLf, (fun b hb => by rw [List.mem_singleton.mp hb]; exact hI), (fun p hp q => hne p hp (List.mem_singleton.mp q)), hst, F, N, hj, ?_, ?_⟩
  · rintro i v m₁ news₁ s₁ own ⟨hh', tk', rfl⟩ hin hP hJ hnw hown hget hall hst' F₁ N₁
    obtain ⟨oI, eI⟩ := hex _ _ hst'
    have hIo : (I, oI) ∈ own := hall I hIf hI oI eI
    have N₂ : News h₀ env.locals hh' ((I, oI) :: news₁) := fun p hp => by
      rcases List.mem_cons.mp hp with rfl | hp
      · exact N₁ _ (List.mem_append_left _ hIo)
      · exact N₁ p (List.mem_append_right _ hp)
    refine wpAny_mono (turn i v m₁ news₁ oI hh' tk' hin hP hJ (fun q hq e => hnw q hq (by rw [e]; exact List.mem_singleton.mpr rfl)) F₁ N₂) (fun f s₂ p => ?_) fun _ _ e => e
    have fin : (∃ h' tk m₂ news₂, s₂ = { s with heap := h', toks := tk } ∧ Fr h₀ env.locals h' m₂ ∧ News h₀ env.locals h' ((I, oI) :: news₂) ∧ (∀ q ∈ news₂, q.1 ≠ I) ∧ J (i + 1) m₂ news₂) →
        LoopStepU h₀ env.locals [I] own (J (i + 1)) { s with heap := hh', toks := tk' } .next s₂ := by
      rintro ⟨h', tk, m₂, news₂, rfl, F', N', hn', hJ'⟩
      refine ⟨rfl, h', tk, m₂, news₂, rfl, F', fun p hp => ?_, fun p hp q => hn' p hp (List.mem_singleton.mp q), hJ'⟩
      rcases List.mem_append.mp hp with hp | hp
      · have e0 := hget p hp
        have e1 := (N₁ p (List.mem_append_left _ hp)).2
        rcases hfp _ (hown p hp) with q | ⟨o, q⟩ | ⟨o, q⟩
        · have z := N' (I, oI) (.head _)
          obtain ⟨a, o⟩ := p
          obtain rfl : a = I := q
          have : oI = o := by have e0' : hh'.get? a = some o := e0; rw [eI] at e0'; exact Option.some.inj e0'
          rw [← this]; exact z
        · rw [e1.2] at q; cases q
        · have z1 := N₂ _ (.tail _ (hsrc _ _ _ hJ _ q))
          have z2 := N' _ (.tail _ (hsrc _ _ _ hJ' _ q))
          have : o = p.2 := by have := z1.1; rw [e0] at this; exact (Option.some.inj this).symm
          exact ⟨by rw [← this]; exact z2.1, e1⟩
      · exact N' p (.tail _ hp)
    cases f with
    | ret v => exact .ret p
    | brk => exact .brk p
    | next => exact .next (fin p)
    | cont => exact .cont (fin p)
  · rintro h' tk m' news' F' N' _ hJ
    exact done m' news' h' tk hJ F' N'
theorem iter_list_my {B : Addr} {vs : List Value} {k : Nat} {m₀ : Str → Option Value} {news : List (Addr × Obj)} (J : Nat → (Str → Option Value) → List (Addr × Obj) → Prop) (hh : A.handled = none)
    (F : Fr h₀ env.locals s.heap m₀) (N : News h₀ env.locals s.heap news) (hsrc : ∀ i m nw, J i m nw → (B, listOf vs.toArray k) ∈ nw) (hj : J 0 m₀ news)
    (turn : ∀ i v m₁ news₁ I oI h tk s', s' = { s with heap := h, toks := tk } → vs[i]? = some v → J i m₁ news₁ → (∀ q ∈ news₁, q.1 ≠ I) → Fr h₀ env.locals h (fun y => if y = x then some v else m₁ y) → News h₀ env.locals h ((I, oI) :: news₁) →
      wpAny (model prog w) A (execs body env) (ForEnd h₀ env.locals I oI (J (i + 1)) Q s) E s')
    (done : ∀ m₁ news₁ h tk, J vs.length m₁ news₁ → Fr h₀ env.locals h m₁ → News h₀ env.locals h news₁ → Q .next { s with heap := h, toks := tk }) :
    wpAny (model prog w) A (pyIter (.ref B)) (fun it s₂ => LoopAtV prog w A h₀ env x body Q E it s₂) E s := by
  have hB := hsrc _ _ _ hj
  have hl : s.heap.IsList B vs.toArray := ⟨_, N.get hB, rfl, _, rfl⟩
  have hlt : B < s.heap.objs.size := Heap.lt_size (N.get hB)
  refine wpAny_pyIter_list hl ?_
  have up : ∀ b o, s.heap.get? b = some o → (s.heap.push { cls := .type "list_iterator", data := .fields #[.ref B, .int 0 0] }).get? b = some o := fun b o e => Heap.get?_push_of_some _ e
  have hst : (s.heap.push { cls := .type "list_iterator", data := .fields #[.ref B, .int 0 0] }).IsListIter s.heap.objs.size B 0 := ⟨_, Heap.get?_push_size _ rfl, rfl, rfl⟩
  refine for_walk (src := [(B, listOf vs.toArray k)]) J (Walks.list hh s.heap.objs.size B (Nat.ne_of_lt hlt) vs.toArray) ?_ (next_is_new F) ⟨hst, hl.push _⟩ (F.keeps up) (N.grown up) (fun q hq => Nat.ne_of_lt (Heap.lt_size (N q hq).1)) ?_
    (fun i m nw hJ p hp => by rw [List.mem_singleton.mp hp]; exact hsrc _ _ _ hJ) (fun i h st => by obtain ⟨o, e, _⟩ := st.1; exact ⟨o, e⟩) (.head _) hj ?_ ?_
  · intro hm
    rcases List.mem_cons.mp hm with e | hm
    · exact absurd F.ns.lt (e ▸ Nat.lt_irrefl _)
    · exact (N _ hB).2.1 (List.mem_singleton.mp hm).symm
  · intro b hb
    rcases List.mem_cons.mp hb with e | hb
    · exact .inl e
    · rw [List.mem_singleton.mp hb]; exact .inr (.inr ⟨_, .head _⟩)
  · intro i v m₁ news₁ oI h tk _ hP hJ hn F₁ N₁
    exact turn i v m₁ news₁ _ oI h tk _ rfl (by simpa using hP) hJ hn F₁ N₁
  · intro m₁ news₁ h tk hJ F₁ N₁
    rw [List.size_toArray] at hJ
    exact done m₁ news₁ h tk hJ F₁ N₁
end
section
variable {prog : Program} {w : World} {A : Around} {E : Value → Shared → Prop} {s : Shared} {h₀ : Heap} {L : Addr} {m : Str → Option Value} {Q : Value → Shared → Prop} {news : List (Addr × Obj)}
theorem append_my {D : Addr} {ys : List Value} {n : Nat} {x : Value} {rest : List (Addr × Obj)} (F : Fr h₀ L s.heap m) (N : News h₀ L s.heap ((D, listOf ys.toArray n) :: rest)) (hap : ∀ p ∈ rest, p.1 ≠ D) (hsz : ys.length ≤ 1000000)
    (h : ∀ h' ws, ws = ys ++ [x] → Fr h₀ L h' m → News h₀ L h' ((D, listOf ws.toArray (n + 1)) :: rest) → Q .none { s with heap := h' }) : wpAny (model prog w) A (call (.builtin "list.append") [.ref D, x]) Q E s := by
  have z := N _ (List.Mem.head _)
  refine append_at (hsz := by rw [List.size_toArray, sizeLine_eq]; omega) z.1 fun h' hs ho' => h h' _ rfl (F.change hs z.2.1 z.2.2) ?_
  refine news_upd' N hap (fun b o hb e => hs.extBut b o hb e) ?_
  rw [ho']
  simp
theorem len_my {l : Addr} {k : Nat} {vs : List Value} (e : s.heap.get? l = some (listOf vs.toArray k)) (hz : vs.length ≤ 1000000) (h : ∀ t tk, Q (.int (vs.length : Nat) t) { s with toks := tk }) : wpAny (model prog w) A (call (.builtin "len") [.ref l]) Q E s := by
  have e' : vs.toArray.size = vs.length := List.size_toArray
  refine len_list ⟨_, e, rfl, _, rfl⟩ (by rw [e']; omega) ?_
  rw [e']; exact h _ _
theorem item_my {value slice : PySem.Expr} {l : Addr} {vs : List Value} {k : Nat} {i : Int} {u : Tok} {v : Value} (e : s.heap.get? l = some (listOf vs.toArray k)) (h0 : 0 ≤ i) (hhi : i < 2 ^ 63) (hx : vs[i.toNat]? = some v) (h : Q v s)
    (hs : subscripted slice false (.ref l) (.int i u) = operate [.ref l, .int i u] (getItem (.ref l) (.int i u)) := by with_unfolding_all rfl) :
    wpAny (model prog w) A (subscriptTail value slice (.ref l) (.int i u)) Q E s := item_litK ⟨_, e, rfl, _, rfl⟩ h0 hhi hx h hs
theorem fmod_rng (a : Int) {b : Int} (h : 0 < b) : 0 ≤ a.fmod b ∧ a.fmod b < b := by
  rw [Int.fmod_eq_emod_of_nonneg a (Int.le_of_lt h)]
  exact ⟨Int.emod_nonneg _ (by omega), Int.emod_lt_of_pos _ h⟩
theorem truthy_ne {l : Addr} {k : Nat} {vs : List Value} {Q : Bool → Shared → Prop} (e : s.heap.get? l = some (listOf vs.toArray k)) (hne : vs ≠ []) (hz : vs.length ≤ 1000000) (h : Q true { s with toks := s.toks + 1 + 1 }) : wpAny (model prog w) A (truthy (.ref l)) Q E s := by
  cases vs with
  | nil => exact absurd rfl hne
  | cons v r => exact truthy_cons e hz h
theorem last_item {value slice : PySem.Expr} {l : Addr} {vs : List Value} {v : Value} {k : Nat} {u : Tok} (e : s.heap.get? l = some (listOf (vs ++ [v]).toArray k)) (hz : vs.length ≤ 1000000) (h : Q v s)
    (hs : subscripted slice false (.ref l) (.int (-1) u) = operate [.ref l, .int (-1) u] (getItem (.ref l) (.int (-1) u)) := by with_unfolding_all rfl) :
    wpAny (model prog w) A (subscriptTail value slice (.ref l) (.int (-1) u)) Q E s := by
  have hl : s.heap.IsList l (vs ++ [v]).toArray := ⟨_, e, rfl, _, rfl⟩
  refine tail_any hl.typeIs slot_list_getitem.lookup (wpAny_getItem_list_neg (x := v) hl (by decide) (by simp; omega) (by decide) ?_ h) hs
  have e1 : ((-1 : Int) + ((vs ++ [v]).toArray.size : Nat)).toNat = vs.length := by simp only [List.size_toArray, List.length_append, List.length_cons, List.length_nil]; omega
  rw [e1]
  simp
theorem fr4u {g h : Heap} {L : Addr} {m : Str → Option Value} {x x1 x2 x3 x4 : Str} {v v1 v2 v3 v4 : Value} (F : Fr g L h (fun y => if y = x then some v else m y)) (h1 : m x1 = some v1) (h2 : m x2 = some v2) (h3 : m x3 = some v3) (h4 : m x4 = some v4) :
    Fr g L h (fun y => if y = x then some v else if y = x1 then some v1 else if y = x2 then some v2 else if y = x3 then some v3 else if y = x4 then some v4 else m y) := by
  have e : (fun y => if y = x then some v else if y = x1 then some v1 else if y = x2 then some v2 else if y = x3 then some v3 else if y = x4 then some v4 else m y) = fun y => if y = x then some v else m y := by
    funext y
    by_cases e0 : y = x
    · rw [if_pos e0, if_pos e0]
    rw [if_neg e0, if_neg e0]
    by_cases e1 : y = x1
    · rw [if_pos e1, e1, h1]
    rw [if_neg e1]
    by_cases e2 : y = x2
    · rw [if_pos e2, e2, h2]
    rw [if_neg e2]
    by_cases e3 : y = x3
    · rw [if_pos e3, e3, h3]
    rw [if_neg e3]
    by_cases e4 : y = x4
    · rw [if_pos e4, e4, h4]
    rw [if_neg e4]
  rw [e]; exact F
theorem head_obj {g h : Heap} {L a : Addr} {o : Obj} {l : List (Addr × Obj)} (_ : News g L h ((a, o) :: l)) : ∃ o', o' = o := ⟨o, rfl⟩
theorem fr_for {g h : Heap} {L : Addr} {m : Str → Option Value} {l : List (Addr × Obj)} (_ : News g L h l) (F : Fr g L h m) : Fr g L h m := F
theorem head_of2 {g h : Heap} {L a b : Addr} {o o' : Obj} {l : List (Addr × Obj)} (_ : News g L h ((a, o) :: (b, o') :: l)) : ∃ a', a' = b := ⟨b, rfl⟩
end
end Og

end PartDict
section PartComp
open PySem PySem.W PySem.Calls PyProof.Rows PyProof.Rows.LCg
namespace Og
section
variable {prog : Program} {w : World} {A : Around} {h₀ : Heap} {L : Addr} {m : Str → Option Value} {env : Env} {elt : PySem.Expr} {x : Str} {scope : Scope} {cl : List (Str × Addr)} {s : Shared} {S : List (Addr × Obj) → Prop} {P : Nat → Value → Prop} {Fin : List Value → List (Addr × Obj) → Prop}
theorem comp_inv {n : Nat} {news : List (Addr × Obj)} (J : Nat → List Value → List (Addr × Obj) → Prop)
    (turn : ∀ i v I oI C oC D m₂ ys nw h tk (E' : Value → Shared → Prop), i < n → P i v → J i ys nw → NsObj oC m₂ → m₂ x = some v → Fr h₀ L h m → News h₀ L h ((I, oI) :: (C, oC) :: (D, lst ys) :: nw) → (∀ q ∈ nw, q.1 ≠ I) → (∀ q ∈ nw, q.1 ≠ C) → (∀ q ∈ nw, q.1 ≠ D) → I ≠ C → I ≠ D → C ≠ D →
      wpAny (model prog w) A (eval elt (compEnvC scope cl C env)) (CompEnd h₀ L m { s with heap := h, toks := tk } I oI C oC D (lst ys) S (fun y nw' => J (i + 1) (ys ++ [y]) nw')) E' { s with heap := h, toks := tk })
    (h0 : J 0 [] news) (fin : ∀ ys nw, J n ys nw → Fin ys nw) : CompRest prog w A h₀ L m env elt x scope cl s S P Fin n 0 [] news := by
  have all : ∀ k i ys nw, k + i = n → J i ys nw → CompRest prog w A h₀ L m env elt x scope cl s S P Fin k i ys nw := by
    intro k
    induction k with
    | zero =>
      intro i ys nw e hJ
      obtain rfl : i = n := by omega
      exact CompRest.zero (fin ys nw hJ)
    | succ k ih =>
      intro i ys nw e hJ
      refine CompRest.succ fun v I oI C oC D m₂ h tk E' hP hoC hm F N off ne => ?_
      have o3 := off.mem
      refine wpAny_mono (turn i v I oI C oC D m₂ ys nw h tk E' (by omega) hP hJ hoC hm F N (fun q hq => (o3 q hq).1) (fun q hq => (o3 q hq).2.1) (fun q hq => (o3 q hq).2.2) ne.1 ne.2.1 ne.2.2) (fun y s₂ he => ?_) fun _ _ e => e
      obtain ⟨h', tk', nw', e1, F', N', off', hS, hJ'⟩ := he
      exact ⟨h', tk', nw', e1, F', N', off', hS, ih (i + 1) _ _ (by omega) hJ'⟩
  exact all n 0 [] news rfl h0
theorem off3_of {I C D : Addr} {nw : List (Addr × Obj)} (h1 : ∀ q ∈ nw, q.1 ≠ I) (h2 : ∀ q ∈ nw, q.1 ≠ C) (h3 : ∀ q ∈ nw, q.1 ≠ D) : Off3 I C D nw := Off3.of fun p hp => ⟨h1 p hp, h2 p hp, h3 p hp⟩
/-- the end of an element -/
theorem compEnd_mk {s₁ : Shared} {I C D : Addr} {oI oC oD : Obj} {rest : Value → List (Addr × Obj) → Prop} {y : Value} {h' : Heap} {tk : Nat} {nw : List (Addr × Obj)} (F : Fr h₀ L h' m) (N : News h₀ L h' ((I, oI) :: (C, oC) :: (D, oD) :: nw))
    (h1 : ∀ q ∈ nw, q.1 ≠ I) (h2 : ∀ q ∈ nw, q.1 ≠ C) (h3 : ∀ q ∈ nw, q.1 ≠ D) (hS : S nw) (r : rest y nw) : CompEnd h₀ L m s₁ I oI C oC D oD S rest y { s₁ with heap := h', toks := tk } := ⟨h', tk, nw, rfl, F, N, off3_of h1 h2 h3, hS, r⟩
end
section
variable {M : Model} {A : Around} {E : Value → Shared → Prop} {s : Shared} {g : Heap} {L C : Addr} {env : Env} {scope : Scope} {cl : List (Str × Addr)} {y : Str} {pos : Pos} {v : Value} {Q : Value → Shared → Prop} {m₂ : Str → Option Value} {oC : Obj} {nn : List (Addr × Obj)}
theorem cname_local (N : News g L s.heap nn) (hm : (C, oC) ∈ nn) (ho : NsObj oC m₂) (hv : m₂ y = some v) (h : Q v s) (hk : (compEnvC scope cl C env).scope.kind = .function) (hl : (compEnvC scope cl C env).kindOf y = some .local) (hd : (y == ("__debug__" : Str)) = false) :
    wpAny M A (eval (.Name y pos) (compEnvC scope cl C env)) Q E s := wpAny_Name (wpAny_loadName_local hk hl (ho.ns (News.get N hm)) hv h) hd
end
end Og

end PartComp
section PartF1
open PySem PySem.W PySem.Calls PyProof.Rows
namespace Og
theorem fill0 : (fun (_ : OpenLaw) (_ : Params → Frag) => True) PySem.Challenge.rw_og0145_01 hd.heap_39 := by
  k_fill; trivial

section
variable {w : World} {A : Around} {h₀ : Heap} {L : Addr} {m : Str → Option Value} {s : Shared} {Q : Value → Shared → Prop} {E : Value → Shared → Prop}

set_option maxHeartbeats 4000000 in
theorem sign_of_spec {n : Int} {t : Tok} (C : Cx w 800 500 A h₀ L m s.heap)
    (h : ∀ k t' h' tk, (k = 0 ↔ n = 0) → Off [] s.heap h' → Q (.int k t') { s with heap := h', toks := tk }) :
    wpAny (model PR w) A (call (.ref 154) [.int n t] []) Q E s := by
  obtain ⟨env, outer, A₀, base, mean, mg, mb, hh, hA, hd', hu', hf, hke, B, F, X, T⟩ := C
  refine raise ?_ hh hA hd' hu'
  clear hh hA hd' hu'
  (refine' enter (by assumption) (by assumption) (by assumption) News.nil (by assumption) (by assumption) (by assumption) ?k6 ?k7 ?k8 ?k9 ?kB ?_ ?c2 ?c3 ?c4 ?c5; (case k6 => k_is); (case k7 => k_is); (case k8 => decide); (case k9 => exact BindsTo.of_eq rfl); (case kB => exact locs rfl); (case c2 => exact rfl); (case c3 => exact rfl); (case c4 => exact rfl); (case c5 => decide); intro g L' h₁ hg F' N' B' X' T' hl FG')
  subst hg
  k_steps
  all_goals (refine h _ _ _ _ ?_ (off_of_fr F'); omega)

set_option maxHeartbeats 4000000 in
theorem decimal_new {n : Int} {t t' : Tok} (C : Cx w 700 400 A h₀ L m s.heap)
    (h : ∀ x dx h' tk h1 h2 t1 t2 t3 t4, s.heap.get? x = none → s.heap.get? dx = none → dx < x → h'.get? x = some (instObj 143 dx) → h'.get? dx = some (decDict h1 h2 t1 t2 t3 t4 n) → Off [] s.heap h' → Q (.ref x) { s with heap := h', toks := tk }) :
    wpAny (model PR w) A (call (.ref 143) [.int n t, .int 0 t'] []) Q E s := by
  obtain ⟨env, outer, A₀, base, mean, mg, mb, hh, hA, hd', hu', hf, hke, B, F, X, T⟩ := C
  refine raise ?_ hh hA hd' hu'
  clear hh hA hd' hu'
  refine' call_new (X.keeps F.keep) ?k4 ?k5 ?k6 ?_
  case k4 => k_is
  case k5 => k_is
  case k6 => k_is
  have F1 := (F.push emptyDict).push (instObj 143 s.heap.objs.size)
  have N1 := ((News.nil (h₀ := h₀) (L := L)).push F emptyDict).push (F.push emptyDict) (instObj 143 s.heap.objs.size)
  rw [Heap.size_push] at N1
  have old : ∀ b o, s.heap.get? b = some o → ((s.heap.push emptyDict).push (instObj 143 s.heap.objs.size)).get? b = some o := fun b o e => Heap.get?_push_of_some _ (Heap.get?_push_of_some _ e)
  have hx : s.heap.get? (s.heap.objs.size + 1) = none := Heap.get?_none_of_le (Nat.le_succ _)
  have hdx : s.heap.get? s.heap.objs.size = none := Heap.get?_none_of_le (Nat.le_refl _)
  have hlt : s.heap.objs.size < s.heap.objs.size + 1 := Nat.lt_succ_self _
  generalize s.heap.objs.size + 1 = x at *
  generalize s.heap.objs.size = dx at *
  generalize (s.heap.push emptyDict).push (instObj 143 dx) = h' at *
  replace hlt := ltN hlt
  refine' enterC B F1 X N1 T ?kA hf hke ?k6 ?k7 ?k8 ?k9 ?kB ?_ ?c2 ?c3 ?c4 ?c5
  case kA => exact rfl
  case k6 => k_is
  case k7 => k_is
  case k8 => k_room
  case k9 => exact BindsTo.of_eq rfl
  case kB => exact locs rfl
  case c2 => exact rfl
  case c3 => exact rfl
  case c4 => exact rfl
  case c5 => decide
  intro g L' h₁ hg F' N' B' X' T' hl FG'
  k_steps
  refine ⟨rfl, h x dx _ _ _ _ _ _ _ _ hx hdx hlt (News.get (by assumption) (by k_mem)) (News.get (by assumption) (by k_mem)) ?_⟩
  intro b o e _
  refine Fr.keep (by assumption) b o ?_
  rw [hg]
  refine hideAll_get _ (old b o e) ?_
  intro q
  simp only [List.map_cons, List.map_nil, List.mem_cons, List.not_mem_nil, or_false] at q
  rcases q with rfl | rfl
  · rw [hx] at e; cases e
  · rw [hdx] at e; cases e
end
end Og

end PartF1
section PartF2
open PySem PySem.W PySem.Calls PyProof.Rows
namespace Og

local macro_rules | `(tactic| k_inst) => `(tactic| exact instAt_base (by assumption) (by assumption) (by assumption))
local macro_rules | `(tactic| walk_at "call ref") => `(tactic| k_dflt (refine decimal_new (Cx.of (by assumption) (by assumption) (by assumption) (by assumption) rfl rfl rfl rfl (Nat.le_of_ble_eq_true rfl) (Nat.le_of_ble_eq_true rfl)) ?_; intro x' dx' h' tk' q1' q2' q3' q4' q5' q6' e1' e2' hlt' e3' e4' ho'; replace hlt' := ltN hlt'; (have F9 := Fr.keeps (by assumption) (Off.keep ho')); (have N8 := News.grown (by assumption) (Off.keep ho')); (have N7 := news_new N8 (by assumption) e2' e4'); (have N9 := news_new N7 (by assumption) e1' e3'); clear N8 N7; (try k_sweep)))
section
variable {w : World} {A : Around} {h₀ : Heap} {L : Addr} {m : Str → Option Value} {s : Shared} {Q : Value → Shared → Prop} {E : Value → Shared → Prop}

set_option maxHeartbeats 4000000 in
theorem decimal_of_int {n : Int} {t : Tok} (C : Cx w 600 300 A h₀ L m s.heap)
    (h : ∀ x dx h' tk h1 h2 t1 t2 t3 t4, s.heap.get? x = none → s.heap.get? dx = none → dx < x → h'.get? x = some (instObj 143 dx) → h'.get? dx = some (decDict h1 h2 t1 t2 t3 t4 n) → Off [] s.heap h' → Q (.ref x) { s with heap := h', toks := tk }) :
    wpAny (model PR w) A (call (.ref 161) [.int n t] []) Q E s := by
  obtain ⟨env, outer, A₀, base, mean, mg, mb, hh, hA, hd', hu', hf, hke, B, F, X, T⟩ := C
  refine raise ?_ hh hA hd' hu'
  clear hh hA hd' hu'
  (refine' enter (by assumption) (by assumption) (by assumption) News.nil (by assumption) (by assumption) (by assumption) ?k6 ?k7 ?k8 ?k9 ?kB ?_ ?c2 ?c3 ?c4 ?c5; (case k6 => k_is); (case k7 => k_is); (case k8 => decide); (case k9 => exact BindsTo.of_eq rfl); (case kB => exact locs rfl); (case c2 => exact rfl); (case c3 => exact rfl); (case c4 => exact rfl); (case c5 => decide); intro g L' h₁ hg F' N' B' X' T' hl FG')
  subst hg
  have kp : ∀ b, h₁.get? b = none → s.heap.get? b = none := fun b e => by
    cases q : s.heap.get? b with
    | none => rfl
    | some o => have := F'.keep b o q; rw [e] at this; cases this
  k_steps
  refine h _ _ _ _ _ _ _ _ _ _ (kp _ (by assumption)) (kp _ (by assumption)) (by assumption) (News.get (by assumption) (by k_mem)) (News.get (by assumption) (by k_mem)) (off_of_fr (by assumption))

set_option maxHeartbeats 4000000 in
theorem decimal_of_ref {x dx : Addr} {od : Obj} (C : Cx w 600 300 A h₀ L m s.heap) (hx : s.heap.get? x = some (instObj 143 dx)) (hdx : s.heap.get? dx = some od)
    (h : ∀ h' tk, Off [] s.heap h' → Q (.ref x) { s with heap := h', toks := tk }) :
    wpAny (model PR w) A (call (.ref 161) [.ref x] []) Q E s := by
  obtain ⟨env, outer, A₀, base, mean, mg, mb, hh, hA, hd', hu', hf, hke, B, F, X, T⟩ := C
  refine raise ?_ hh hA hd' hu'
  clear hh hA hd' hu'
  (refine' enter (by assumption) (by assumption) (by assumption) News.nil (by assumption) (by assumption) (by assumption) ?k6 ?k7 ?k8 ?k9 ?kB ?_ ?c2 ?c3 ?c4 ?c5; (case k6 => k_is); (case k7 => k_is); (case k8 => decide); (case k9 => exact BindsTo.of_eq rfl); (case kB => exact locs rfl); (case c2 => exact rfl); (case c3 => exact rfl); (case c4 => exact rfl); (case c5 => decide); intro g L' h₁ hg F' N' B' X' T' hl FG')
  subst hg
  replace hx : (hideAll s.heap (List.map (fun x => x.fst) ([] : List (Addr × Obj)))).get? x = some (instObj 143 dx) := hx
  replace hdx : (hideAll s.heap (List.map (fun x => x.fst) ([] : List (Addr × Obj)))).get? dx = some od := hdx
  k_steps
  exact h _ _ (off_of_fr (by assumption))
end
end Og

end PartF2
section PartF3
open PySem PySem.W PySem.Calls PyProof.Rows
namespace Og

local macro_rules | `(tactic| k_inst) => `(tactic| exact instAt_base (by assumption) (by assumption) (by assumption))
local macro_rules | `(tactic| walk_at "call ref") => `(tactic| k_dflt (refine decimal_of_int (Cx.of (by assumption) (by assumption) (by assumption) (by assumption) rfl rfl rfl rfl (Nat.le_of_ble_eq_true rfl) (Nat.le_of_ble_eq_true rfl)) ?_; intro x' dx' h' tk' q1' q2' q3' q4' q5' q6' e1' e2' hlt' e3' e4' ho'; replace hlt' := ltN hlt'; (have F9 := Fr.keeps (by assumption) (Off.keep ho')); (have N8 := News.grown (by assumption) (Off.keep ho')); (have N7 := news_new N8 (by assumption) e2' e4'); (have N9 := news_new N7 (by assumption) e1' e3'); clear N8 N7; (try k_sweep)))
local macro_rules | `(tactic| walk_at "call ref") => `(tactic| k_dflt (refine decimal_of_ref (Cx.of (by assumption) (by assumption) (by assumption) (by assumption) rfl rfl rfl rfl (Nat.le_of_ble_eq_true rfl) (Nat.le_of_ble_eq_true rfl)) (Fr.keep (by assumption) _ _ (by assumption)) (Fr.keep (by assumption) _ _ (by assumption)) ?_; intro h' tk' ho'; (have F9 := Fr.keeps (by assumption) (Off.keep ho')); (have N9 := News.grown (by assumption) (Off.keep ho')); (try k_sweep)))
local macro_rules | `(tactic| walk_at "binaryOp Pow int int") => `(tactic| (with_reducible refine pow_int_small (by decide) (by decide) (by decide) ?_))
section
variable {w : World} {A : Around} {h₀ : Heap} {L : Addr} {m : Str → Option Value} {s : Shared} {Q : Value → Shared → Prop} {E : Value → Shared → Prop}

set_option maxHeartbeats 8000000 in
theorem at_one_scale_spec {v1 v2 : Value} {n1 n2 : Int} (C : Cx w 550 250 A h₀ L m s.heap) (V1 : WV s.heap v1 n1) (V2 : WV s.heap v2 n2)
    (h : ∀ x h' tk n t1 t2 t3, s.heap.get? x = none → h'.get? x = some { cls := .type "tuple", data := .seq #[.int n1 t1, .int n2 t2, .int 0 t3] n } → Off [] s.heap h' → Q (.ref x) { s with heap := h', toks := tk }) :
    wpAny (model PR w) A (call (.ref 168) [v1, v2] []) Q E s := by
  obtain ⟨env, outer, A₀, base, mean, mg, mb, hh, hA, hd', hu', hf, hke, B, F, X, T⟩ := C
  refine raise ?_ hh hA hd' hu'
  clear hh hA hd' hu'
  rcases V1 with ⟨t, rfl⟩ | ⟨x, rfl, dx, q1, q2, q3, q4, q5, q6, hx, hdx⟩
  · rcases V2 with ⟨t', rfl⟩ | ⟨x', rfl, dx', q1', q2', q3', q4', q5', q6', hx', hdx'⟩
    · (refine' enter (by assumption) (by assumption) (by assumption) News.nil (by assumption) (by assumption) (by assumption) ?k6 ?k7 ?k8 ?k9 ?kB ?_ ?c2 ?c3 ?c4 ?c5; (case k6 => k_is); (case k7 => k_is); (case k8 => decide); (case k9 => exact BindsTo.of_eq rfl); (case kB => exact locs rfl); (case c2 => exact rfl); (case c3 => exact rfl); (case c4 => exact rfl); (case c5 => decide); intro g L' h₁ hg F' N' B' X' T' hl FG')
      k_steps
      rename News _ _ _ _ => NZ
      simp only [gt_iff_lt, Int.lt_irrefl, if_false, Int.sub_self, Int.toNat_zero, Int.pow_zero, Int.mul_one] at NZ
      exact h _ _ _ _ _ _ _ (fresh_g hg NZ (List.Mem.head _)) (News.get NZ (List.Mem.head _)) (off_g hg (by assumption))
    · (refine' enter (by assumption) (by assumption) (by assumption) News.nil (by assumption) (by assumption) (by assumption) ?k6 ?k7 ?k8 ?k9 ?kB ?_ ?c2 ?c3 ?c4 ?c5; (case k6 => k_is); (case k7 => k_is); (case k8 => decide); (case k9 => exact BindsTo.of_eq rfl); (case kB => exact locs rfl); (case c2 => exact rfl); (case c3 => exact rfl); (case c4 => exact rfl); (case c5 => decide); intro g L' h₁ hg F' N' B' X' T' hl FG')
      replace hx' := g_get hg hx'
      replace hdx' := g_get hg hdx'
      k_steps
      rename News _ _ _ _ => NZ
      simp only [gt_iff_lt, Int.lt_irrefl, if_false, Int.sub_self, Int.toNat_zero, Int.pow_zero, Int.mul_one] at NZ
      exact h _ _ _ _ _ _ _ (fresh_g hg NZ (List.Mem.head _)) (News.get NZ (List.Mem.head _)) (off_g hg (by assumption))
  · rcases V2 with ⟨t', rfl⟩ | ⟨x', rfl, dx', q1', q2', q3', q4', q5', q6', hx', hdx'⟩
    · (refine' enter (by assumption) (by assumption) (by assumption) News.nil (by assumption) (by assumption) (by assumption) ?k6 ?k7 ?k8 ?k9 ?kB ?_ ?c2 ?c3 ?c4 ?c5; (case k6 => k_is); (case k7 => k_is); (case k8 => decide); (case k9 => exact BindsTo.of_eq rfl); (case kB => exact locs rfl); (case c2 => exact rfl); (case c3 => exact rfl); (case c4 => exact rfl); (case c5 => decide); intro g L' h₁ hg F' N' B' X' T' hl FG')
      replace hx := g_get hg hx
      replace hdx := g_get hg hdx
      k_steps
      rename News _ _ _ _ => NZ
      simp only [gt_iff_lt, Int.lt_irrefl, if_false, Int.sub_self, Int.toNat_zero, Int.pow_zero, Int.mul_one] at NZ
      exact h _ _ _ _ _ _ _ (fresh_g hg NZ (List.Mem.head _)) (News.get NZ (List.Mem.head _)) (off_g hg (by assumption))
    · (refine' enter (by assumption) (by assumption) (by assumption) News.nil (by assumption) (by assumption) (by assumption) ?k6 ?k7 ?k8 ?k9 ?kB ?_ ?c2 ?c3 ?c4 ?c5; (case k6 => k_is); (case k7 => k_is); (case k8 => decide); (case k9 => exact BindsTo.of_eq rfl); (case kB => exact locs rfl); (case c2 => exact rfl); (case c3 => exact rfl); (case c4 => exact rfl); (case c5 => decide); intro g L' h₁ hg F' N' B' X' T' hl FG')
      replace hx := g_get hg hx
      replace hdx := g_get hg hdx
      replace hx' := g_get hg hx'
      replace hdx' := g_get hg hdx'
      k_steps
      rename News _ _ _ _ => NZ
      simp only [gt_iff_lt, Int.lt_irrefl, if_false, Int.sub_self, Int.toNat_zero, Int.pow_zero, Int.mul_one] at NZ
      exact h _ _ _ _ _ _ _ (fresh_g hg NZ (List.Mem.head _)) (News.get NZ (List.Mem.head _)) (off_g hg (by assumption))
end
end Og

end PartF3
section PartF4
open PySem PySem.W PySem.Calls PyProof.Rows
namespace Og

section
local macro_rules | `(tactic| walk_at "zzz0") => `(tactic| skip)
local macro_rules | `(tactic| walk_at "zzz1") => `(tactic| skip)
local macro_rules | `(tactic| walk_at "call ref") => `(tactic| k_dflt (refine sign_of_spec (Cx.of (by assumption) (by assumption) (by assumption) (by assumption) rfl rfl rfl rfl (Nat.le_of_ble_eq_true rfl) (Nat.le_of_ble_eq_true rfl)) ?_; intro k' t' h' tk' hk' ho'; (have F9 := Fr.keeps (by assumption) (Off.keep ho')); (have N9 := News.grown (by assumption) (Off.keep ho')); (try k_sweep)))
local macro_rules | `(tactic| walk_at "call ref") => `(tactic| k_dflt (refine at_one_scale_spec (Cx.of (by assumption) (by assumption) (by assumption) (by assumption) rfl rfl rfl rfl (Nat.le_of_ble_eq_true rfl) (Nat.le_of_ble_eq_true rfl)) (WV.keeps (by assumption) (Fr.keep (by assumption))) (WV.keeps (by assumption) (Fr.keep (by assumption))) ?_; intro x' h' tk' n' t1' t2' t3' e1' e3' ho'; (have F9 := Fr.keeps (by assumption) (Off.keep ho')); (have N8 := News.grown (by assumption) (Off.keep ho')); (have N9 := news_new N8 (by assumption) e1' e3'); clear N8; (try k_sweep)))
variable {w : World} {A : Around} {h₀ : Heap} {L : Addr} {m : Str → Option Value} {s : Shared} {Q : Value → Shared → Prop} {E : Value → Shared → Prop}

set_option maxHeartbeats 8000000 in
theorem compared_spec {v1 v2 : Value} {n1 n2 : Int} (C : Cx w 500 200 A h₀ L m s.heap) (V1 : WV s.heap v1 n1) (V2 : WV s.heap v2 n2)
    (h : ∀ k t h' tk, (k = 0 ↔ n1 = n2) → Off [] s.heap h' → Q (.int k t) { s with heap := h', toks := tk }) :
    wpAny (model PR w) A (call (.ref 98) [v1, v2] []) Q E s := by
  obtain ⟨env, outer, A₀, base, mean, mg, mb, hh, hA, hd', hu', hf, hke, B, F, X, T⟩ := C
  refine raise ?_ hh hA hd' hu'
  clear hh hA hd' hu'
  (refine' enter (by assumption) (by assumption) (by assumption) News.nil (by assumption) (by assumption) (by assumption) ?k6 ?k7 ?k8 ?k9 ?kB ?_ ?c2 ?c3 ?c4 ?c5; (case k6 => k_is); (case k7 => k_is); (case k8 => decide); (case k9 => exact BindsTo.of_eq rfl); (case kB => exact locs rfl); (case c2 => exact rfl); (case c3 => exact rfl); (case c4 => exact rfl); (case c5 => decide); intro g L' h₁ hg F' N' B' X' T' hl FG')
  replace V1 := V1.keeps (fun _ _ => g_get hg)
  replace V2 := V2.keeps (fun _ _ => g_get hg)
  k_steps
  refine h _ _ _ _ ?_ (off_g hg (by assumption))
  omega
end
theorem beq_dec {k n1 n2 : Int} (h : k = 0 ↔ n1 = n2) : (k == 0) = decide (n1 = n2) := by
  by_cases e : n1 = n2
  · have := h.mpr e; subst this; simp [e]
  · have : k ≠ 0 := fun q => e (h.mp q)
    simp [e, this]
section
local macro_rules | `(tactic| walk_at "zzz0") => `(tactic| skip)
local macro_rules | `(tactic| k_inst) => `(tactic| exact instAt_base (by assumption) (by assumption) (by assumption))
local macro_rules | `(tactic| walk_at "call ref") => `(tactic| k_dflt (refine decimal_of_int (Cx.of (by assumption) (by assumption) (by assumption) (by assumption) rfl rfl rfl rfl (Nat.le_of_ble_eq_true rfl) (Nat.le_of_ble_eq_true rfl)) ?_; intro x' dx' h' tk' q1' q2' q3' q4' q5' q6' e1' e2' hlt' e3' e4' ho'; replace hlt' := ltN hlt'; (have F9 := Fr.keeps (by assumption) (Off.keep ho')); (have N8 := News.grown (by assumption) (Off.keep ho')); (have N7 := news_new N8 (by assumption) e2' e4'); (have N9 := news_new N7 (by assumption) e1' e3'); clear N8 N7; (try k_sweep)))
local macro_rules | `(tactic| walk_at "call ref") => `(tactic| k_dflt (refine decimal_of_ref (Cx.of (by assumption) (by assumption) (by assumption) (by assumption) rfl rfl rfl rfl (Nat.le_of_ble_eq_true rfl) (Nat.le_of_ble_eq_true rfl)) (Fr.keep (by assumption) _ _ (by assumption)) (Fr.keep (by assumption) _ _ (by assumption)) ?_; intro h' tk' ho'; (have F9 := Fr.keeps (by assumption) (Off.keep ho')); (have N9 := News.grown (by assumption) (Off.keep ho')); (try k_sweep)))
local macro_rules | `(tactic| walk_at "call ref") => `(tactic| k_dflt (refine compared_spec (Cx.of (by assumption) (by assumption) (by assumption) (by assumption) rfl rfl rfl rfl (Nat.le_of_ble_eq_true rfl) (Nat.le_of_ble_eq_true rfl)) (Or.inr ⟨_, rfl, _, _, _, _, _, _, _, News.get (by assumption) (List.Mem.head _), News.get (by assumption) (List.Mem.tail _ (List.Mem.head _))⟩) (WV.keeps (by assumption) (Fr.keep (by assumption))) ?_; intro k' t' h' tk' hk' ho'; (have F9 := Fr.keeps (by assumption) (Off.keep ho')); (have N9 := News.grown (by assumption) (Off.keep ho')); (try k_sweep)))
local macro_rules | `(tactic| walk_at "call ref") => `(tactic| k_dflt (refine compared_spec (Cx.of (by assumption) (by assumption) (by assumption) (by assumption) rfl rfl rfl rfl (Nat.le_of_ble_eq_true rfl) (Nat.le_of_ble_eq_true rfl)) (Or.inr ⟨_, rfl, _, _, _, _, _, _, _, Fr.keep (by assumption) _ _ (by assumption), Fr.keep (by assumption) _ _ (by assumption)⟩) (WV.keeps (by assumption) (Fr.keep (by assumption))) ?_; intro k' t' h' tk' hk' ho'; (have F9 := Fr.keeps (by assumption) (Off.keep ho')); (have N9 := News.grown (by assumption) (Off.keep ho')); (try k_sweep)))
variable {w : World} {A : Around} {h₀ : Heap} {L : Addr} {m : Str → Option Value} {s : Shared} {Q : Value → Shared → Prop} {E : Value → Shared → Prop}
set_option maxHeartbeats 8000000 in
theorem same_number_spec {v1 v2 : Value} {n1 n2 : Int} (C : Cx w 480 180 A h₀ L m s.heap) (V1 : WV s.heap v1 n1) (V2 : WV s.heap v2 n2)
    (h : ∀ h' tk, Off [] s.heap h' → Q (.bool (decide (n1 = n2))) { s with heap := h', toks := tk }) :
    wpAny (model PR w) A (call (.ref 175) [v1, v2] []) Q E s := by
  obtain ⟨env, outer, A₀, base, mean, mg, mb, hh, hA, hd', hu', hf, hke, B, F, X, T⟩ := C
  refine raise ?_ hh hA hd' hu'
  clear hh hA hd' hu'
  rcases V1 with ⟨t, rfl⟩ | ⟨x, rfl, dx, q1, q2, q3, q4, q5, q6, hx, hdx⟩
  · (refine' enter (by assumption) (by assumption) (by assumption) News.nil (by assumption) (by assumption) (by assumption) ?k6 ?k7 ?k8 ?k9 ?kB ?_ ?c2 ?c3 ?c4 ?c5; (case k6 => k_is); (case k7 => k_is); (case k8 => decide); (case k9 => exact BindsTo.of_eq rfl); (case kB => exact locs rfl); (case c2 => exact rfl); (case c3 => exact rfl); (case c4 => exact rfl); (case c5 => decide); intro g L' h₁ hg F' N' B' X' T' hl FG')
    replace V2 := V2.keeps (fun _ _ => g_get hg)
    k_steps
    rename (_ = 0 ↔ _ = _) => HK
    rw [beq_dec HK]
    exact h _ _ (off_g hg (by assumption))
  · (refine' enter (by assumption) (by assumption) (by assumption) News.nil (by assumption) (by assumption) (by assumption) ?k6 ?k7 ?k8 ?k9 ?kB ?_ ?c2 ?c3 ?c4 ?c5; (case k6 => k_is); (case k7 => k_is); (case k8 => decide); (case k9 => exact BindsTo.of_eq rfl); (case kB => exact locs rfl); (case c2 => exact rfl); (case c3 => exact rfl); (case c4 => exact rfl); (case c5 => decide); intro g L' h₁ hg F' N' B' X' T' hl FG')
    replace V2 := V2.keeps (fun _ _ => g_get hg)
    replace hx := g_get hg hx
    replace hdx := g_get hg hdx
    k_steps
    rename (_ = 0 ↔ _ = _) => HK
    rw [beq_dec HK]
    exact h _ _ (off_g hg (by assumption))
end
end Og

end PartF4
section PartF5
open PySem PySem.W PySem.Calls PyProof.Rows
namespace Og

def JAl (l : Addr) (xs : List (Int × Int)) (i : Int) (t : Tok) (hi : i.toNat < xs.length) (n : Nat) (m₁ : Str → Option Value) (news₁ : List (Addr × Obj)) : Prop :=
  news₁ = [] ∧ ∃ (c : Nat) (tc : Tok), (∀ y, m₁ y = if y = Str.ofString "count" then some (.int c tc) else List.lookup y [(Str.ofString "place", .int i t), (Str.ofString "run", .ref l)]) ∧
    1 ≤ c ∧ i.toNat + c ≤ xs.length ∧ (∀ j (q : j < xs.length), i.toNat ≤ j → j < i.toNat + c → xs[j].2 = xs[i.toNat].2) ∧ n = xs.length - i.toNat - c
theorem JAl.mk {l : Addr} {xs : List (Int × Int)} {i : Int} {t : Tok} {hi : i.toNat < xs.length} {k : Int} {tk : Tok} {b : Option Value} (c : Nat) (hk : k = (c : Int)) (h1 : 1 ≤ c) (h2 : i.toNat + c ≤ xs.length) (h3 : ∀ j (q : j < xs.length), i.toNat ≤ j → j < i.toNat + c → xs[j].2 = xs[i.toNat].2) :
    JAl l xs i t hi (xs.length - i.toNat - c) (fun y => if y = Str.ofString "count" then some (.int k tk) else if y = Str.ofString "count" then b else List.lookup y [(Str.ofString "place", .int i t), (Str.ofString "run", .ref l)]) [] := by
  subst hk
  refine ⟨rfl, c, tk, fun y => ?_, h1, h2, h3, rfl⟩
  by_cases hy : y = Str.ofString "count"
  · simp only [if_pos hy]
  · simp only [if_neg hy]
section
local macro_rules | `(tactic| walk_at "call ref") => `(tactic| k_dflt (refine same_number_spec (Cx.of (by assumption) (by assumption) (by assumption) (by assumption) rfl rfl rfl rfl (Nat.le_of_ble_eq_true rfl) (Nat.le_of_ble_eq_true rfl)) (by assumption) (by assumption) ?_; intro h' tk' ho'; (have F9 := Fr.keeps (by assumption) (Off.keep ho')); (have N9 := News.grown (by assumption) (Off.keep ho')); (try k_sweep)))
local macro_rules | `(tactic| walk_at "call builtin:len") => `(tactic| k_dflt (refine run_len (RunL.keeps (by assumption) (Fr.keep (by assumption))) (by omega) ?_; intro t' tk'))
local macro_rules | `(tactic| walk_at "exec While") => `(tactic| (refine stop ?_))
local macro_rules | `(tactic| walk_at "exec While BoolOp cons nil") => `(tactic| (refine stop ?_))
local macro_rules | `(tactic| walk_at "subscriptTail Name BinOp ref int") => `(tactic| k_dflt (refine' run_item ?R ?a ?b ?c ?_ ?d; (case R => exact RunL.keeps (by assumption) (Fr.keep (by assumption))); (case a => omega); (case b => omega) ; (case c => omega); (case d => with_unfolding_all rfl); intro a' P'))
local macro_rules | `(tactic| walk_at "subscriptTail Name Name ref int") => `(tactic| k_dflt (refine' run_item ?R ?a ?b ?c ?_ ?d; (case R => exact RunL.keeps (by assumption) (Fr.keep (by assumption))); (case a => omega); (case b => omega) ; (case c => omega); (case d => with_unfolding_all rfl); intro a' P'))
local macro_rules | `(tactic| walk_at "subscriptTail") => `(tactic| k_dflt (refine' pair_snd ?R ?_ ?d; (case R => assumption); (case d => with_unfolding_all rfl); intro w' W'))
variable {w : World} {A : Around} {h₀ : Heap} {L : Addr} {m : Str → Option Value} {s : Shared} {Q : Value → Shared → Prop} {E : Value → Shared → Prop}

set_option maxHeartbeats 400000 in
theorem alike_count_spec {l : Addr} {xs : List (Int × Int)} {i : Int} {t : Tok} (C : Cx w 460 160 A h₀ L m s.heap) (R : RunL s.heap l xs) (h0 : 0 ≤ i) (hi : i.toNat < xs.length) (hsz : xs.length ≤ 1000)
    (h : ∀ (c : Nat) t h' tk, 1 ≤ c → i.toNat + c ≤ xs.length → (∀ j (q : j < xs.length), i.toNat ≤ j → j < i.toNat + c → xs[j].2 = xs[i.toNat].2) → (∀ q : i.toNat + c < xs.length, xs[i.toNat + c].2 ≠ xs[i.toNat].2) → Off [] s.heap h' → Q (.int c t) { s with heap := h', toks := tk }) :
    wpAny (model PR w) A (call (.ref 182) [.ref l, .int i t] []) Q E s := by
  obtain ⟨env, outer, A₀, base, mean, mg, mb, hh, hA, hd', hu', hf, hke, B, F, X, T⟩ := C
  refine raise ?_ hh hA hd' hu'
  clear hh hA hd' hu'
  (refine' enter (by assumption) (by assumption) (by assumption) News.nil (by assumption) (by assumption) (by assumption) ?k6 ?k7 ?k8 ?k9 ?kB ?_ ?c2 ?c3 ?c4 ?c5; (case k6 => k_is); (case k7 => k_is); (case k8 => decide); (case k9 => exact BindsTo.of_eq rfl); (case kB => exact locs rfl); (case c2 => exact rfl); (case c3 => exact rfl); (case c4 => exact rfl); (case c5 => decide); intro g L' h₁ hg F' N' B' X' T' hl FG')
  replace R := R.keeps (fun _ _ => g_get hg)
  k_steps
  refine' go (While_inv2 (JAl l xs i t hi) (n₀ := xs.length - i.toNat - 1) (by assumption) (by assumption) ?hJ ?turn)
  case hJ => exact ⟨rfl, 1, _, fun y => rfl, Nat.le_refl _, hi, fun j q a b => by simp only [show j = i.toNat by omega], rfl⟩
  rintro n m₁ news₁ h₂ tk₂ F₂ N₂ ⟨rfl, c, tc, hm, h1, h2, h3, rfl⟩
  rw [funext hm] at F₂
  clear hm
  k_steps
  · rename _ = _ => HE
    refine ⟨_, _, _, _, xs.length - i.toNat - (c + 1), rfl, by assumption, by assumption, by omega, JAl.mk (c + 1) (by omega) (by omega) (by omega) fun j q a b => ?_⟩
    by_cases hj : j < i.toNat + c
    · exact h3 j q a hj
    · have e : j = (i + (c : Int)).toNat := by omega
      subst e
      exact HE
  · rename ¬ _ = _ => HE
    refine h c _ _ _ h1 h2 h3 (fun q e => HE ?_) (off_g hg (by assumption))
    have e' : (i + (c : Int)).toNat = i.toNat + c := by omega
    simp only [e']
    exact e
  · exact h c _ _ _ h1 h2 h3 (fun q => absurd q (by omega)) (off_g hg (by assumption))
end
end Og

end PartF5
section PartF6
open PySem PySem.W PySem.Calls PyProof.Rows
namespace Og

section
local macro_rules | `(tactic| walk_at "zzz0") => `(tactic| skip)
local macro_rules | `(tactic| walk_at "zzz1") => `(tactic| skip)
local macro_rules | `(tactic| walk_at "zzz2") => `(tactic| skip)
local macro_rules | `(tactic| walk_at "zzz3") => `(tactic| skip)
local macro_rules | `(tactic| walk_at "zzz4") => `(tactic| skip)
local macro_rules | `(tactic| walk_at "SrcLP") => `(tactic| (refine stop ?_))
local macro_rules | `(tactic| walk_at "truthy ref") => `(tactic| k_dflt (first | refine truthy_nil (News.get (by assumption) (by assumption)) ?_ | refine truthy_cons (News.get (by assumption) (by assumption)) (by omega) ?_))
local macro_rules | `(tactic| walk_at "subscriptTail Name Constant ref int") => `(tactic| k_dflt (refine' item_litK ⟨_, News.get (by assumption) (by assumption), rfl, _, rfl⟩ (by decide) (by decide) rfl ?_ ?hs; (case hs => with_unfolding_all rfl)))
variable {w : World} {A : Around} {h₀ : Heap} {L : Addr} {m : Str → Option Value} {s : Shared} {Q : Value → Shared → Prop} {E : Value → Shared → Prop} {news : List (Addr × Obj)}

set_option maxHeartbeats 800000 in
theorem listed_parts_spec {l : Addr} {vs : List Value} {k : Nat} {ts : List (Int × Value)} (C : Cx w 460 160 A h₀ L m s.heap) (N : News h₀ L s.heap news) (hl : (l, listOf vs.toArray k) ∈ news) (TT : All2 (TupE news) vs ts) (hsz : ts.length ≤ 1000)
    (h : ∀ r h' tk, Off [] s.heap h' → s.heap.get? r = none → ts = [] → h'.get? r = some (listOf [].toArray 0) → Q (.ref r) { s with heap := h', toks := tk })
    (h' : ∀ r r2 h' tk t0 tk' k1 k2 t1, Off [] s.heap h' → s.heap.get? r = none → s.heap.get? r2 = none → r ≠ r2 → ts = t0 :: t1 → h'.get? r = some (listOf [.int t0.1 tk', .ref r2].toArray k1) → h'.get? r2 = some (listOf (ts.map (·.2)).toArray k2) → Q (.ref r) { s with heap := h', toks := tk }) :
    wpAny (model PR w) A (call (.ref 187) [.ref l] []) Q E s := by
  obtain ⟨env, outer, A₀, base, mean, mg, mb, hh, hA, hd', hu', hf, hke, B, F, X, T⟩ := C
  refine raise ?_ hh hA hd' hu'
  clear hh hA hd' hu'
  have hlen : vs.length ≤ 1000 := by rw [TT.1]; exact hsz
  cases ts with
  | nil =>
    obtain rfl : vs = [] := List.eq_nil_of_length_eq_zero TT.1
    (refine' enter (by assumption) (by assumption) (by assumption) (by assumption) (by assumption) (by assumption) (by assumption) ?k6 ?k7 ?k8 ?k9 ?kB ?_ ?c2 ?c3 ?c4 ?c5; (case k6 => k_is); (case k7 => k_is); (case k8 => decide); (case k9 => exact BindsTo.of_eq rfl); (case kB => exact locs rfl); (case c2 => exact rfl); (case c3 => exact rfl); (case c4 => exact rfl); (case c5 => decide); intro g L' h₁ hg F' N' B' X' T' hl FG')
    k_steps
    rename ∀ p ∈ news, p.1 < _ => hlt
    exact h _ _ _ (offN hg N (by assumption) (by assumption) fun p hp => .tail _ hp) (freshN hg (by assumption) (.head _) fun p hp => Nat.ne_of_lt (hlt p hp)) rfl (News.get (by assumption) (.head _))
  | cons t0 t1 =>
    obtain ⟨v0, vs', rfl⟩ : ∃ v0 vs', vs = v0 :: vs' := by
      cases vs with
      | nil => exact absurd TT.1 (by simp)
      | cons a b => exact ⟨a, b, rfl⟩
    obtain ⟨a0, tk0, n0, rfl, hm0⟩ := TT.2 0 v0 t0 rfl rfl
    rename (l, _) ∈ news => hml
    (refine' enter (by assumption) (by assumption) (by assumption) (by assumption) (by assumption) (by assumption) (by assumption) ?k6 ?k7 ?k8 ?k9 ?kB ?_ ?c2 ?c3 ?c4 ?c5; (case k6 => k_is); (case k7 => k_is); (case k8 => decide); (case k9 => exact BindsTo.of_eq rfl); (case kB => exact locs rfl); (case c2 => exact rfl); (case c3 => exact rfl); (case c4 => exact rfl); (case c5 => decide); intro g L' h₁ hg F' N' B' X' T' hl FG')
    k_steps
    refine go (LCp.SrcLP.ledger rfl (by assumption) (by assumption) hml (by rw [List.size_toArray, sizeLine_eq]; omega) fun g' => ?_)
    refine comp_second TT (fun _ => rfl) (fun _ => rfl) (by decide) (Or.inr ⟨_, hml, rfl, _, rfl⟩) _ 0 [] (by simp) rfl fun ys hys => ?_
    subst hys
    intro D h2 tk2 F2 N2 o2
    k_steps
    rename _ ∧ AllLt _ _ => hlt
    refine h' _ D _ _ t0 tk0 0 _ t1 (offN hg N (by assumption) (by assumption) fun p hp => .tail _ (.tail _ hp)) (freshN hg (by assumption) (.head _) fun p hp => Nat.ne_of_lt (ktn_ltOf hlt.2 p hp)) (freshN hg (by assumption) (.tail _ (.head _)) (off1_mem o2)) (Nat.ne_of_gt hlt.1) rfl (News.get (by assumption) (.head _)) (News.get (by assumption) (.tail _ (.head _)))
end
end Og

end PartF6
section PartF7
open PySem PySem.W PySem.Calls PyProof.Rows
namespace Og

section
variable {w : World} {A : Around} {h₀ : Heap} {L : Addr} {m : Str → Option Value} {s : Shared} {Q : Value → Shared → Prop} {E : Value → Shared → Prop} {news : List (Addr × Obj)}
theorem listed_spec {l : Addr} {vs : List Value} {k : Nat} {zs : List Item} (C : Cx w 460 160 A h₀ L m s.heap) (N : News h₀ L s.heap news) (hl : (l, listOf vs.toArray k) ∈ news) (TT : All2 (TupE news) vs (zs.map fun z => (z.c, z.v))) (hsz : zs.length ≤ 1000)
    (h : ∀ r h' tk outs k ext, Off [] s.heap h' → NewOf s.heap h' ((r, listOf outs.toArray k) :: ext) → (∀ p ∈ ext, p.1 ≠ r) → All2 (PVe ext) outs (listedP zs) → Q (.ref r) { s with heap := h', toks := tk }) :
    wpAny (model PR w) A (call (.ref 187) [.ref l] []) Q E s := by
  refine listed_parts_spec C N hl TT (by rw [List.length_map]; exact hsz) (fun r h' tk ho e1 e2 e3 => ?_) (fun r r2 h' tk t0 tk' k1 k2 t1 ho e1 e2 ne e3 e4 e5 => ?_)
  · obtain rfl : zs = [] := List.map_eq_nil_iff.mp e2
    refine h r h' tk [] 0 [] ho (fun p hp => ?_) (fun p hp => nomatch hp) All2.nil
    rw [List.mem_singleton.mp hp]; exact ⟨e1, e3⟩
  · cases zs with
    | nil => cases e3
    | cons z zs' =>
      obtain rfl : t0 = (z.c, z.v) := by simp only [List.map_cons, List.cons.injEq] at e3; exact e3.1.symm
      refine h r h' tk _ k1 [(r2, listOf (((z :: zs').map fun z => (z.c, z.v)).map (·.2)).toArray k2)] ho (fun p hp => ?_) (fun p hp => ?_) ((All2.one ⟨tk', rfl⟩).append (All2.one ⟨r2, k2, rfl, ?_⟩))
      · rcases List.mem_cons.mp hp with rfl | hp
        · exact ⟨e1, e4⟩
        · rw [List.mem_singleton.mp hp]; exact ⟨e2, e5⟩
      · rw [List.mem_singleton.mp hp]; exact Ne.symm ne
      · rw [List.map_map]; exact List.mem_singleton.mpr rfl
end

def JRun (hs : Heap) (news : List (Addr × Obj)) (l : Addr) (zs : List Item) (n : Nat) (m₁ : Str → Option Value) (news₁ : List (Addr × Obj)) : Prop :=
  ∃ (p : Nat) (pi : Int) (tp : Tok) (lz : List Item) (dn : List PP) (outs lvs : List Value) (pa la : Addr) (k1 k2 : Nat) (ext : List (Addr × Obj)) (f : Nat),
    news₁ = (pa, listOf outs.toArray k1) :: (la, listOf lvs.toArray k2) :: (ext ++ news) ∧ pa ≠ la ∧ (∀ q ∈ ext ++ news, q.1 ≠ pa) ∧ (∀ q ∈ ext ++ news, q.1 ≠ la) ∧
    m₁ (Str.ofString "run") = some (.ref l) ∧ m₁ (Str.ofString "parts") = some (.ref pa) ∧ m₁ (Str.ofString "listed") = some (.ref la) ∧ m₁ (Str.ofString "place") = some (.int pi tp) ∧ pi = (p : Int) ∧
    p ≤ zs.length ∧ n = zs.length - p ∧ All2 (PVe ext) outs dn ∧ All2 (TupE news) lvs (lz.map fun z => (z.c, z.v)) ∧ (zs.drop p).length ≤ f ∧ dn ++ runGo f (zs.drop p) lz = runP zs ∧ dn.length ≤ 5 * p ∧ lz.length ≤ p ∧ ∀ q ∈ ext, hs.get? q.1 = none

section
local macro_rules | `(tactic| walk_at "zzz0") => `(tactic| skip)
local macro_rules | `(tactic| walk_at "zzz1") => `(tactic| skip)
local macro_rules | `(tactic| walk_at "zzz2") => `(tactic| skip)
local macro_rules | `(tactic| walk_at "zzz3") => `(tactic| skip)
set_option hygiene false in
local macro_rules | `(tactic| walk_at "call ref") => `(tactic| k_dflt (refine alike_count_spec (Cx.of (by assumption) (by assumption) (by assumption) (by assumption) rfl rfl rfl rfl (Nat.le_of_ble_eq_true rfl) (Nat.le_of_ble_eq_true rfl)) (by assumption) (by omega) (by omega) (by omega) ?_; intro c9 t9 h9 tk9 hc1' hc2' hc3' hc4' ho'; (have F9 := Fr.keeps (by assumption) (Off.keep ho')); (have N9 := News.grown (by assumption) (Off.keep ho')); (try k_sweep); (have hal := alike_pure rfl (by omega) hc1' hc2' (by omega) hc3' hc4'); clear hc3' hc4' hc2' hc1'))
local macro_rules | `(tactic| walk_at "call ref") => `(tactic| ((with_reducible show wpAny _ _ (call (Value.ref 187) _ _) _ _ _); refine stop ?_))
local macro_rules | `(tactic| walk_at "subscriptTail Name BinOp ref int") => `(tactic| k_dflt (refine' item_T ?N ?m ?sb ?T ?a ?b ?c ?_ ?d; (case N => assumption); (case m => assumption); (case sb => exact fun q hq => by simp [hq]); (case T => assumption); (case a => omega); (case b => omega) ; (case c => omega); (case d => with_unfolding_all rfl); intro a' t' n' z' hz' hm'))
local macro_rules | `(tactic| walk_at "subscriptTail Name Name ref int") => `(tactic| k_dflt (refine' item_T ?N ?m ?sb ?T ?a ?b ?c ?_ ?d; (case N => assumption); (case m => assumption); (case sb => exact fun q hq => by simp [hq]); (case T => assumption); (case a => omega); (case b => omega) ; (case c => omega); (case d => with_unfolding_all rfl); intro a' t' n' z' hz' hm'))
local macro_rules | `(tactic| walk_at "subscriptTail Subscript") => `(tactic| (first | ((with_reducible show wpAny _ _ (subscriptTail _ _ _ (Value.int 0 _)) _ _ _); k_dflt (refine' tup0_T ?N ?m ?sb ?_ ?d; (case N => assumption); (case m => assumption); (case sb => exact fun q hq => by simp [hq]); (case d => with_unfolding_all rfl))) | ((with_reducible show wpAny _ _ (subscriptTail _ _ _ (Value.int 1 _)) _ _ _); k_dflt (refine' tup1_T ?N ?m ?sb ?_ ?d; (case N => assumption); (case m => assumption); (case sb => exact fun q hq => by simp [hq]); (case d => with_unfolding_all rfl)))))
set_option hygiene false in
local macro_rules | `(tactic| walk_at "subscriptTail Name Slice ref ref") => `(tactic| k_dflt (refine' slice_my p c9 (vs := vs) (k := k) ?qF ?qN ?qL ?qI ?qJ ?qP ?qZ ?_ ?qS ?qT; (case qF => assumption); (case qN => assumption); (case qL => exact News.get (by assumption) (by simp [hml])); (case qI => rfl); (case qJ => rfl); (case qP => omega); (case qZ => omega); (case qS => with_unfolding_all rfl); (case qT => kmk_pure); intro D9 h9 ws9 hw9 F9 N9 l9; (try k_lt l9); (try k_sweep)))
local macro_rules | `(tactic| walk_at "call builtin:list.extend") => `(tactic| (refine stop ?_))
local macro_rules | `(tactic| walk_at "call builtin:len") => `(tactic| k_dflt (refine run_len (by assumption) (by omega) ?_; intro t' tk'))
local macro_rules | `(tactic| walk_at "exec While") => `(tactic| (refine stop ?_))
local macro_rules | `(tactic| walk_at "exec While Compare cons nil") => `(tactic| (refine stop ?_))
variable {w : World} {A : Around} {h₀ : Heap} {L : Addr} {m : Str → Option Value} {s : Shared} {Q : Value → Shared → Prop} {E : Value → Shared → Prop} {news : List (Addr × Obj)}

set_option maxHeartbeats 8000000 in
theorem run_parts_spec {l : Addr} {vs : List Value} {k : Nat} {zs : List Item} (C : Cx w 440 140 A h₀ L m s.heap) (N : News h₀ L s.heap news) (hml : (l, listOf vs.toArray k) ∈ news) (TT : All2 (TupE news) vs (zs.map fun z => (z.c, z.v))) (W : ∀ z ∈ zs, WV s.heap z.v z.n) (hsz : zs.length ≤ 1000)
    (h : ∀ r h' tk outs k ext, Off [] s.heap h' → NewOf s.heap h' ((r, listOf outs.toArray k) :: ext) → (∀ p ∈ ext, p.1 ≠ r) → All2 (PVe ext) outs (runP zs) → Q (.ref r) { s with heap := h', toks := tk }) :
    wpAny (model PR w) A (call (.ref 194) [.ref l] []) Q E s := by
  obtain ⟨env, outer, A₀, base, mean, mg, mb, hh, hA, hd', hu', hf, hke, B, F, X, T⟩ := C
  refine raise ?_ hh hA hd' hu'
  clear hh hA hd' hu'
  have R0 : RunL s.heap l (zs.map fun z => (z.c, z.n)) := by
    refine ⟨vs, ⟨_, News.get N hml, rfl, _, rfl⟩, by rw [List.length_map, TT.1, List.length_map], fun i v x e1 e2 => ?_⟩
    rw [List.getElem?_map] at e2
    obtain ⟨z, e3, rfl⟩ := Option.map_eq_some_iff.mp e2
    obtain ⟨a, tk, n, rfl, hm⟩ := TT.2 i v (z.c, z.v) e1 (by rw [List.getElem?_map, e3]; rfl)
    exact ⟨a, rfl, tk, z.v, ⟨_, News.get N hm, rfl, _, rfl⟩, W z (List.mem_of_getElem? e3)⟩
  have hvl : vs.length = zs.length := by rw [TT.1, List.length_map]
  have hLm : (zs.map fun z => (z.c, z.n)).length = zs.length := List.length_map ..
  (refine' enter (by assumption) (by assumption) (by assumption) (by assumption) (by assumption) (by assumption) (by assumption) ?k6 ?k7 ?k8 ?k9 ?kB ?_ ?c2 ?c3 ?c4 ?c5; (case k6 => k_is); (case k7 => k_is); (case k8 => decide); (case k9 => exact BindsTo.of_eq rfl); (case kB => exact locs rfl); (case c2 => exact rfl); (case c3 => exact rfl); (case c4 => exact rfl); (case c5 => decide); intro g L' h₁ hg F' N' B' X' T' hl FG')
  k_steps
  rename ∀ p ∈ news, p.1 < _ => hA
  rename _ ∧ AllLt _ _ => hB
  rename News g L' _ _ => NZ
  refine' go (While_inv2 (JRun s.heap news l zs) (n₀ := zs.length) (by assumption) (news_sub NZ ?hs) ⟨0, 0, _, [], [], [], [], _, _, 0, 0, [], zs.length, rfl, Nat.ne_of_lt hB.1, (fun q hq => Nat.ne_of_lt (hA q hq)), (fun q hq => Nat.ne_of_lt (ktn_ltOf hB.2 q hq)), rfl, rfl, rfl, rfl, rfl, Nat.zero_le _, rfl, All2.nil, All2.nil, Nat.le_refl _, rfl, Nat.le_refl _, Nat.le_refl _, fun q hq => nomatch hq⟩ ?turn)
  case hs =>
    intro p hp
    rcases List.mem_cons.mp hp with rfl | hp
    · exact .tail _ (.head _)
    · rcases List.mem_cons.mp hp with rfl | hp
      · exact .head _
      · exact .tail _ (.tail _ hp)
  rintro n m₁ news₁ h₂ tk₂ F₂ N₂ ⟨p, _, tp, lz, dn, outs, lvs, pa, la, k1, k2, ext, f, rfl, hpl, hpa, hla, e1, e2, e3, e4, rfl, hp, rfl, hO, hL, hf, hgo, hdn, hlz, hfr⟩
  replace F₂ := fr4 F₂ e4 e3 e2 e1
  have hk2 := (offN hg N F₂ N₂ (fun q hq => .tail _ (.tail _ (List.mem_append_right _ hq)))).keep
  have R := R0.keeps hk2
  clear hA hB NZ
  k_steps
  · rename News g L' _ _ => NZ
    refine go (listed_spec (Cx.of (by assumption) (by assumption) (by assumption) (by assumption) rfl rfl rfl rfl (Nat.le_of_ble_eq_true rfl) (Nat.le_of_ble_eq_true rfl)) NZ (.tail _ (.head _)) (hL.mono fun _ _ x => x.mono fun q hq => .tail _ (.tail _ (List.mem_append_right _ hq))) (by omega) ?_)
    intro r h3 tk3 outs3 k3 ext3 ho3 hN3 hne3 hO3
    have F9 := Fr.keeps (by assumption) ho3.keep
    have N8 := NZ.grown ho3.keep
    have hfr3 := fun q hq => (hN3.back (offN hg N (by assumption) NZ (fun q hq => .tail _ (.tail _ (List.mem_append_right _ hq)))).keep q hq).1
    have q1 := hN3.ne (NZ.get (.head _))
    have q2 := hN3.ne (NZ.get (.tail _ (.head _)))
    have N9 := news_sub (l' := (pa, listOf outs.toArray k1) :: (la, listOf lvs.toArray k2) :: (r, listOf outs3.toArray k3) :: (ext3 ++ (ext ++ news))) (hN3.news (by assumption) N8) (by first | ((repeat' (first | exact lsub_nil | exact lsub_rfl | refine lsub_cons ?_ ?_ | exact List.Mem.head _ | refine List.Mem.tail _ ?_ | refine lsub_tail ?_ | exact lsub_inl | refine lsub_app ?_ ?_ | refine lsub_inr ?_ | refine List.mem_append_right _ ?_)); done) | (trace "GRIND"; intro q hq; simp only [List.mem_cons, List.mem_append, List.cons_append, List.not_mem_nil, or_false] at hq ⊢; grind))
    clear N8 NZ
    k_sweep
    k_steps
    have hl3 : outs3.length ≤ 2 := by rw [hO3.1]; exact listedP_len lz
    have hl0 : outs.length ≤ 5 * p := by rw [hO.1]; exact hdn
    have hr9 : ∀ q ∈ (la, PySem.W.listOf lvs.toArray k2) :: (r, PySem.W.listOf outs3.toArray k3) :: (ext3 ++ (ext ++ news)), q.1 ≠ pa := by
      intro q hq
      rcases List.mem_cons.mp hq with rfl | hq
      · exact Ne.symm hpl
      · rcases List.mem_cons.mp hq with rfl | hq
        · exact q1 _ (.head _)
        · rcases List.mem_append.mp hq with hq | hq
          · exact q1 _ (.tail _ hq)
          · exact hpa _ hq
    refine go (extend_my (by assumption) N9 hr9 (N9.get (.tail _ (.tail _ (.head _)))) (by omega) ?_)
    intro h4 n4 os4 ho4 F4 N4
    clear N9
    k_sweep
    k_steps
    rename _ ∧ _ ∧ _ ∧ AllLt _ _ => hlt
    rename News g L' _ _ => NY
    obtain ⟨l3, rfl⟩ := head_of NY
    have NX := news_sub (l' := (pa, PySem.W.listOf os4.toArray n4) :: (l3, _) :: (la, PySem.W.listOf lvs.toArray k2) :: (r, PySem.W.listOf outs3.toArray k3) :: (ext3 ++ (ext ++ news))) NY (lsub_cons (.tail _ (.head _)) (lsub_cons (.head _) (fun q hq => .tail _ (.tail _ hq))))
    refine go (extend_my (by assumption) NX (fun q hq => ?_) (NX.get (.tail _ (.head _))) (by simp only [ho4, List.length_append, List.length_cons, List.length_nil]; omega) ?_)
    · exact (lne_cons (Nat.ne_of_gt hlt.1) (fun q hq => hr9 _ hq)) q hq
    intro h5 n5 os5 ho5 F5 N5
    clear NX NY
    k_sweep
    k_steps
    rename zs[_]? = some _ => g3
    revert g3
    rename zs[_]? = some _ => g2
    revert g2
    rename zs[_]? = some _ => g1
    intro g2 g3
    obtain ⟨hc, hc1, hc2⟩ := hal
    rw [Int.toNat_natCast] at g1 g3
    rw [show ((p : Int) + (c9 : Int) - 1).toNat = p + c9 - 1 by omega] at g2
    obtain ⟨z1, g1'⟩ : ∃ z, zs[p]? = some z := ⟨_, g1⟩
    obtain ⟨z2, g2'⟩ : ∃ z, zs[p + c9 - 1]? = some z := ⟨_, g2⟩
    obtain rfl := Option.some.inj (g1'.symm.trans g1)
    obtain rfl := Option.some.inj (g1.symm.trans g3)
    obtain rfl := Option.some.inj (g2'.symm.trans g2)
    obtain ⟨f', hf', hgo'⟩ := runGo_long (lz := lz) (by omega) hc (by omega) hf g1 g2
    rename _ ∧ _ ∧ _ ∧ _ ∧ AllLt _ _ => hlt2
    rename News g L' _ _ => NV
    obtain ⟨la2, rfl⟩ := head_of NV
    refine ⟨_, _, _, (pa, PySem.W.listOf os5.toArray n5) :: (la2, PySem.W.listOf [].toArray 0) :: ((ext3 ++ ext) ++ news), zs.length - (p + c9), rfl, by assumption, news_sub NV (by first | ((repeat' (first | exact lsub_nil | exact lsub_rfl | refine lsub_cons ?_ ?_ | exact List.Mem.head _ | refine List.Mem.tail _ ?_ | refine lsub_tail ?_ | exact lsub_inl | refine lsub_app ?_ ?_ | refine lsub_inr ?_ | refine List.mem_append_right _ ?_)); done) | (trace "GRIND"; intro q hq; simp only [List.mem_cons, List.mem_append, List.cons_append, List.not_mem_nil, or_false] at hq ⊢; grind)), by omega,
      p + c9, _, _, [], dn ++ (listedP lz ++ [.code z1.c, .code z2.c, .val z1]), os5, [], pa, la2, n5, 0, ext3 ++ ext, f', rfl, ?_, ?_, ?_, rfl, rfl, rfl, rfl, by omega, hc2, rfl, ?_, All2.nil, hf', ?_, ?_, Nat.zero_le _, ?_⟩
    · exact Nat.ne_of_lt hlt2.1
    · intro q hq
      rcases List.mem_append.mp hq with hq | hq
      · rcases List.mem_append.mp hq with hq | hq
        · exact q1 _ (.tail _ hq)
        · exact hpa _ (List.mem_append_left _ hq)
      · exact hpa _ (List.mem_append_right _ hq)
    · intro q hq
      exact Nat.ne_of_lt (ktn_ltOf hlt2.2.2.2.2 q (by simpa only [List.append_assoc] using hq))
    · rw [ho5, ho4, List.append_assoc]
      refine (hO.mono fun _ _ x => x.mono fun q hq => List.mem_append_right _ hq).append (All2.append (hO3.mono fun _ _ x => x.mono fun q hq => List.mem_append_left _ hq) ?_)
      exact All2.append (All2.one ⟨_, rfl⟩) (All2.append (All2.one ⟨_, rfl⟩) (All2.one rfl))
    · rw [← hgo, hgo']
      simp only [List.append_assoc]
    · have := listedP_len lz
      simp only [List.length_append, List.length_cons, List.length_nil]
      omega
    · intro q hq
      rcases List.mem_append.mp hq with hq | hq
      · exact hfr3 q (.tail _ hq)
      · exact hfr q hq
  · obtain ⟨hc, hc1, hc2⟩ := hal
    have hwl : ws9.length ≤ 1000 := by rw [hw9, List.length_take, List.length_drop]; omega
    have hll : lvs.length ≤ 1000 := by rw [hL.1, List.length_map]; omega
    rename News g L' _ _ => NZ
    have NX := news_sub (l' := (la, PySem.W.listOf lvs.toArray k2) :: (D9, PySem.W.listOf ws9.toArray 0) :: (pa, PySem.W.listOf outs.toArray k1) :: (ext ++ news)) NZ (by first | ((repeat' (first | exact lsub_nil | exact lsub_rfl | refine lsub_cons ?_ ?_ | exact List.Mem.head _ | refine List.Mem.tail _ ?_ | refine lsub_tail ?_ | exact lsub_inl | refine lsub_app ?_ ?_ | refine lsub_inr ?_ | refine List.mem_append_right _ ?_)); done) | (trace "GRIND"; intro q hq; simp only [List.mem_cons, List.mem_append, List.cons_append, List.not_mem_nil, or_false] at hq ⊢; grind))
    refine go (extend_my (by assumption) NX (fun q hq => ?_) (NX.get (.tail _ (.head _))) (by omega) ?_)
    · rcases List.mem_cons.mp hq with rfl | hq
      · exact Nat.ne_of_gt l9.2.1
      · exact (lne_cons (hpl) (fun q hq => hla q hq)) q hq
    intro h5 n5 os5 ho5 F5 N5
    clear NX NZ
    k_sweep
    k_steps
    obtain ⟨f', hf', hgo'⟩ := runGo_short (lz := lz) (by omega) hc (by omega) hc1 hf
    rename News g L' _ _ => NV
    refine ⟨_, _, _, (pa, PySem.W.listOf outs.toArray k1) :: (la, PySem.W.listOf os5.toArray n5) :: (ext ++ news), zs.length - (p + c9), rfl, by assumption, news_sub NV (by first | ((repeat' (first | exact lsub_nil | exact lsub_rfl | refine lsub_cons ?_ ?_ | exact List.Mem.head _ | refine List.Mem.tail _ ?_ | refine lsub_tail ?_ | exact lsub_inl | refine lsub_app ?_ ?_ | refine lsub_inr ?_ | refine List.mem_append_right _ ?_)); done) | (trace "GRIND"; intro q hq; simp only [List.mem_cons, List.mem_append, List.cons_append, List.not_mem_nil, or_false] at hq ⊢; grind)), by omega,
      p + c9, _, _, lz ++ (zs.drop p).take c9, dn, outs, os5, pa, la, k1, n5, ext, f', rfl, hpl, hpa, hla, rfl, rfl, rfl, rfl, by omega, hc2, rfl, hO, ?_, hf', ?_, by omega, ?_, hfr⟩
    · rw [ho5, hw9, List.map_append, List.map_take, List.map_drop]
      exact hL.append ((TT.drop p).take c9)
    · rw [← hgo, hgo']
    · rw [List.length_append, List.length_take]; omega
  · have ep : p = zs.length := by omega
    have hd : zs.drop p = [] := List.drop_eq_nil_of_le (by omega)
    rw [hd, runGo_nil] at hgo
    rename News g L' _ _ => NZ
    refine go (listed_spec (Cx.of (by assumption) (by assumption) (by assumption) (by assumption) rfl rfl rfl rfl (Nat.le_of_ble_eq_true rfl) (Nat.le_of_ble_eq_true rfl)) NZ (.tail _ (.head _)) (hL.mono fun _ _ x => x.mono fun q hq => .tail _ (.tail _ (List.mem_append_right _ hq))) (by omega) ?_)
    intro r h3 tk3 outs3 k3 ext3 ho3 hN3 hne3 hO3
    have F9 := Fr.keeps (by assumption) ho3.keep
    have N8 := NZ.grown ho3.keep
    have hfr3 := fun q hq => (hN3.back (offN hg N (by assumption) NZ (fun q hq => .tail _ (.tail _ (List.mem_append_right _ hq)))).keep q hq).1
    have q1 := hN3.ne (NZ.get (.head _))
    have N9 := news_sub (l' := (pa, listOf outs.toArray k1) :: (r, listOf outs3.toArray k3) :: (ext3 ++ (ext ++ news))) (hN3.news (by assumption) N8) (by first | ((repeat' (first | exact lsub_nil | exact lsub_rfl | refine lsub_cons ?_ ?_ | exact List.Mem.head _ | refine List.Mem.tail _ ?_ | refine lsub_tail ?_ | exact lsub_inl | refine lsub_app ?_ ?_ | refine lsub_inr ?_ | refine List.mem_append_right _ ?_)); done) | (trace "GRIND"; intro q hq; simp only [List.mem_cons, List.mem_append, List.cons_append, List.not_mem_nil, or_false] at hq ⊢; grind))
    clear N8 NZ
    k_sweep
    k_steps
    have hl3 : outs3.length ≤ 2 := by rw [hO3.1]; exact listedP_len lz
    have hl0 : outs.length ≤ 5 * p := by rw [hO.1]; exact hdn
    refine kmk_add_lit (by assumption) N9 ⟨_, N9.get (.head _), rfl, _, rfl⟩ ⟨_, N9.get (.tail _ (.head _)), rfl, _, rfl⟩ rfl (fun D h' F' N' lD => ?_) (by simp only [List.size_toArray, sizeLine_eq]; omega)
    have sub : ∀ q ∈ (D, listOf (outs ++ outs3).toArray 0) :: (ext3 ++ ext), q ∈ (D, listOf (outs ++ outs3).toArray 0) :: (pa, listOf outs.toArray k1) :: (r, listOf outs3.toArray k3) :: (ext3 ++ (ext ++ news)) := (by first | ((repeat' (first | exact lsub_nil | exact lsub_rfl | refine lsub_cons ?_ ?_ | exact List.Mem.head _ | refine List.Mem.tail _ ?_ | refine lsub_tail ?_ | exact lsub_inl | refine lsub_app ?_ ?_ | refine lsub_inr ?_ | refine List.mem_append_right _ ?_)); done) | (trace "GRIND"; intro q hq; simp only [List.mem_cons, List.mem_append, List.cons_append, List.not_mem_nil, or_false] at hq ⊢; grind))
    have fre : ∀ q ∈ ext3 ++ ext, s.heap.get? q.1 = none := fun q hq => (List.mem_append.mp hq).elim (fun hq => hfr3 q (.tail _ hq)) (hfr q)
    have hD : s.heap.get? D = none := freshN hg N' (.head _) fun q hq => Nat.ne_of_lt (lD q (by simp [hq]))
    refine h D h' _ (outs ++ outs3) 0 (ext3 ++ ext) (offN hg N F' N' fun q hq => by simp [hq]) (fun q hq => ⟨?_, (N' q (sub q hq)).1⟩) (fun q hq => Nat.ne_of_lt (lD q ?_)) ?_
    · exact lall_cons (P := fun q => s.heap.get? q.1 = none) hD (fun q hq => fre q hq) q hq
    · simp only [List.mem_cons, List.mem_append] at hq ⊢; grind
    · rw [← hgo]
      exact (hO.mono fun _ _ x => x.mono fun q hq => List.mem_append_right _ hq).append (hO3.mono fun _ _ x => x.mono fun q hq => List.mem_append_left _ hq)
end
end Og

end PartF7
section PartF8
open PySem PySem.W PySem.Calls PyProof.Rows
namespace Og

def JWide (d B : Addr) (dv : Value) (dn : Int) (ys : List Item) (keys : List Value) (kB : Nat) (i : Nat) (m₁ : Str → Option Value) (news₁ : List (Addr × Obj)) : Prop :=
  ∃ (run : List Item) (dl : List PP) (outs rvs : List Value) (pa ra : Addr) (k1 k2 : Nat) (ext : List (Addr × Obj)),
    news₁ = (B, listOf keys.toArray kB) :: (pa, listOf outs.toArray k1) :: (ra, listOf rvs.toArray k2) :: ext ∧ pa ≠ ra ∧ B ≠ pa ∧ B ≠ ra ∧ (∀ q ∈ ext, q.1 ≠ pa) ∧ (∀ q ∈ ext, q.1 ≠ ra) ∧ (∀ q ∈ ext, q.1 ≠ B) ∧
    m₁ (Str.ofString "widths") = some (.ref d) ∧ m₁ (Str.ofString "default") = some dv ∧ m₁ (Str.ofString "parts") = some (.ref pa) ∧ m₁ (Str.ofString "run") = some (.ref ra) ∧
    All2 (PVe ext) outs dl ∧ All2 (TupE ext) rvs (run.map fun z => (z.c, z.v)) ∧ (∀ z ∈ run, z ∈ ys) ∧ dl ++ wideGo dn (ys.drop i) run = wideP dn ys ∧ dl.length + 7 * run.length ≤ 7 * i ∧ i ≤ ys.length

section
local macro_rules | `(tactic| walk_at "zzz0") => `(tactic| skip)
local macro_rules | `(tactic| walk_at "zzz1") => `(tactic| skip)
local macro_rules | `(tactic| walk_at "zzz2") => `(tactic| skip)
local macro_rules | `(tactic| walk_at "zzz3") => `(tactic| skip)
local macro_rules | `(tactic| walk_at "zzz4") => `(tactic| skip)
local macro_rules | `(tactic| walk_at "zzz5") => `(tactic| skip)
local macro_rules | `(tactic| walk_at "call builtin:list.extend") => `(tactic| (refine stop ?_))
local macro_rules | `(tactic| walk_at "call builtin:list.append") => `(tactic| (refine stop ?_))
local macro_rules | `(tactic| walk_at "call builtin:sorted") => `(tactic| (refine stop ?_))
local macro_rules | `(tactic| walk_at "pyIter ref") => `(tactic| (refine stop ?_))
local macro_rules | `(tactic| walk_at "truthy ref") => `(tactic| (refine stop ?_))
local macro_rules | `(tactic| walk_at "subscriptTail Name Name ref int") => `(tactic| k_dflt (refine' dict_item (Heap.DictOf.keep (by assumption) (Fr.keep (by assumption))) (by assumption) ?_ ?qs; (case qs => with_unfolding_all rfl)))
local macro_rules | `(tactic| walk_at "subscriptTail Name UnaryOp ref int") => `(tactic| (refine stop ?_))
local macro_rules | `(tactic| walk_at "call ref") => `(tactic| ((with_reducible show wpAny _ _ (call (Value.ref 194) _ _) _ _ _); refine stop ?_))
local macro_rules | `(tactic| walk_at "call ref") => `(tactic| ((with_reducible show wpAny _ _ (call (Value.ref 175) _ _) _ _ _); k_dflt (refine same_number_spec (Cx.of (by assumption) (by assumption) (by assumption) (by assumption) rfl rfl rfl rfl (Nat.le_of_ble_eq_true rfl) (Nat.le_of_ble_eq_true rfl)) (WV.keeps (by assumption) (Fr.keep (by assumption))) (WV.keeps (by assumption) (Fr.keep (by assumption))) ?_; intro h' tk' ho'; (have F9 := Fr.keeps (by assumption) (Off.keep ho')); (have N9 := News.grown (by assumption) (Off.keep ho')); (try k_sweep))))
variable {w : World} {A : Around} {h₀ : Heap} {L : Addr} {m : Str → Option Value} {s : Shared} {Q : Value → Shared → Prop} {E : Value → Shared → Prop} {news : List (Addr × Obj)}

set_option maxHeartbeats 8000000 in
theorem wide_written_spec {d : Addr} {dv : Value} {dn : Int} {ys : List Item} {kvs : List (Int × Value)} (C : Cx w 400 100 A h₀ L m s.heap) (D : s.heap.DictOf (intKind PR w) d kvs) (lo : (d == sysModules) = false)
    (hk : (kvs.map (·.1)).Perm (ys.map (·.c))) (hy : (ys.map (·.c)).Pairwise (· ≤ ·)) (hv : ∀ y ∈ ys, valueAt kvs y.c = some y.v) (W : ∀ y ∈ ys, WV s.heap y.v y.n) (WD : WV s.heap dv dn) (hlen : ys.length < 64)
    (h : ∀ r h' tk outs k ext, Off [] s.heap h' → NewOf s.heap h' ((r, listOf outs.toArray k) :: ext) → (∀ p ∈ ext, p.1 ≠ r) → All2 (PVe ext) outs (wideP dn ys) → Q (.ref r) { s with heap := h', toks := tk }) :
    wpAny (model PR w) A (call (.ref 201) [.ref d, dv] []) Q E s := by
  obtain ⟨env, outer, A₀, base, mean, mg, mb, hh, hA, hd', hu', hf, hke, B, F, X, T⟩ := C
  refine raise ?_ hh hA hd' hu'
  clear hh hA hd' hu'
  have hkl : kvs.length = ys.length := by have := hk.length_eq; simpa using this
  (refine' enter (by assumption) (by assumption) (by assumption) News.nil (by assumption) (by assumption) (by assumption) ?k6 ?k7 ?k8 ?k9 ?kB ?_ ?c2 ?c3 ?c4 ?c5; (case k6 => k_is); (case k7 => k_is); (case k8 => decide); (case k9 => exact BindsTo.of_eq rfl); (case kB => exact locs rfl); (case c2 => exact rfl); (case c3 => exact rfl); (case c4 => exact rfl); (case c5 => decide); intro g L' h₁ hg F' N' B' X' T' hl FG')
  have Dg := Heap.DictOf.keep D (fun _ _ => g_get hg)
  have Wg : ∀ y ∈ ys, WV g y.v y.n := fun y q => (W y q).keeps (fun _ _ => g_get hg)
  have WDg := WD.keeps (fun _ _ => g_get hg)
  clear D W WD
  k_steps
  rename News g L' _ _ => NZ
  obtain ⟨ra, rfl⟩ := head_of NZ
  obtain ⟨pa, rfl⟩ := head_of2 NZ
  have hpr : pa < ra := by assumption
  refine go (sorted_dict rfl (by assumption) NZ (Heap.DictOf.keep Dg (Fr.keep (by assumption))) lo (by omega) ?_)
  intro B h1 tk1 kB keys ns F1 N1 l1 hI hp hpw
  obtain rfl : ns = ys.map (·.c) := ksm_same (hp.trans hk) hpw hy
  k_steps
  rename News g L' _ _ => N2
  have q1 := l1 _ (.head _)
  have q2 := l1 _ (.tail _ (.head _))
  clear NZ
  refine' go (iter_list_my (JWide d B dv dn ys keys kB) rfl (by assumption) (news_sub N2 ?qs) ?qsrc ⟨[], [], [], [], pa, ra, 0, 0, [], rfl, Nat.ne_of_lt hpr, Nat.ne_of_gt q2, Nat.ne_of_gt q1, (fun _ q => nomatch q), (fun _ q => nomatch q), (fun _ q => nomatch q), rfl, rfl, rfl, rfl, All2.nil, All2.nil, (fun _ q => nomatch q), rfl, Nat.le_refl _, Nat.zero_le _⟩ ?qturn ?qdone)
  case qs =>
    exact (by first | ((repeat' (first | exact lsub_nil | exact lsub_rfl | refine lsub_cons ?_ ?_ | exact List.Mem.head _ | refine List.Mem.tail _ ?_ | refine lsub_tail ?_ | exact lsub_inl | refine lsub_app ?_ ?_ | refine lsub_inr ?_ | refine List.mem_append_right _ ?_)); done) | (trace "GRIND"; intro q hq; simp only [List.mem_cons, List.mem_append, List.cons_append, List.not_mem_nil, or_false] at hq ⊢; grind))
  case qsrc =>
    rintro i m nw ⟨run, dl, outs, rvs, pa', ra', k1, k2, ext, rfl, _⟩
    exact .head _
  case qturn =>
    rintro i v m₁ news₁ I oI h2 tk2 s2 rfl hvi ⟨run, dl, outs, rvs, pa', ra', k1, k2, ext, rfl, hpr', hBp, hBr, hep, her, heB, e1, e2, e3, e4, hO, hT, hrun, hgo, hsz, hile⟩ hnI F2 N3
    obtain ⟨c, tc, hc, rfl⟩ := intsAre_get hI hvi
    rw [List.getElem?_map] at hc
    obtain ⟨y, hyi, rfl⟩ := Option.map_eq_some_iff.mp hc
    have hym : y ∈ ys := List.mem_of_getElem? hyi
    replace F2 := fr4u F2 e4 e3 e2 e1
    clear N2 F1
    have hIB : B ≠ I := hnI _ (.head _)
    have hIp : pa' ≠ I := hnI _ (.tail _ (.head _))
    have hIr : ra' ≠ I := hnI _ (.tail _ (.tail _ (.head _)))
    have hIe : ∀ q ∈ ext, q.1 ≠ I := fun q hq => hnI _ (.tail _ (.tail _ (.tail _ hq)))
    have hvy := hv y hym
    have Wy := Wg y hym
    have hil : i < ys.length := (List.getElem?_eq_some_iff.mp hyi).1
    have hdr : ys.drop i = y :: ys.drop (i + 1) := by
      rw [List.drop_eq_getElem_cons hil]
      congr 1
      rw [List.getElem?_eq_getElem hil] at hyi
      exact Option.some.inj hyi
    k_steps
    · rename y.n = dn => HE
      rename News g L' _ _ => NZ
      rename Fr g L' _ _ => FZ
      refine forEnd_cont FZ NZ hnI ⟨run, dl, outs, rvs, pa', ra', k1, k2, ext, rfl, hpr', hBp, hBr, hep, her, heB, rfl, rfl, rfl, rfl, hO, hT, hrun, ?_, by omega, hil⟩
      rw [← hgo, hdr, wideGo_skip HE]
    · rename ¬ y.n = dn => HE
      rename News g L' _ _ => NZ
      have hrl : rvs.length = run.length := by rw [hT.1, List.length_map]
      rcases List.eq_nil_or_concat run with rfl | ⟨run', z, rfl⟩
      · obtain rfl : rvs = [] := List.eq_nil_of_length_eq_zero hT.1
        refine go (truthy_nil (NZ.get (.tail _ (.tail _ (.tail _ (.head _))))) ?_)
        k_steps
        rename _ ∧ _ => hlt
        rename News g L' _ _ => NY
        obtain ⟨D, rfl⟩ := head_of NY
        obtain ⟨oD, hoD⟩ := head_obj NY
        rw [← hoD] at NY
        rename Fr g L' _ _ => FZ
        refine go (append_my FZ (news_sub (l' := (ra', W.listOf ([] : List Value).toArray k2) :: (D, oD) :: (I, oI) :: (B, W.listOf keys.toArray kB) :: (pa', W.listOf outs.toArray k1) :: ext) NY (by first | ((repeat' (first | exact lsub_nil | exact lsub_rfl | refine lsub_cons ?_ ?_ | exact List.Mem.head _ | refine List.Mem.tail _ ?_ | refine lsub_tail ?_ | exact lsub_inl | refine lsub_app ?_ ?_ | refine lsub_inr ?_ | refine List.mem_append_right _ ?_)); done) | (trace "GRIND"; intro q hq; simp only [List.mem_cons, List.mem_append, List.cons_append, List.not_mem_nil, or_false] at hq ⊢; grind))) (fun q hq => ?_) (by omega) ?_)
        · exact (lne_cons (Nat.ne_of_gt hlt.2.2.2.1) (lne_cons (Ne.symm hIr) (lne_cons (hBr) (lne_cons (hpr') (fun q hq => her q hq))))) q hq
        intro h4 ws4 hw4 F4 N4
        k_sweep
        k_steps
        refine forEnd_next F4 (news_sub (l' := (I, oI) :: (B, W.listOf keys.toArray kB) :: (pa', W.listOf outs.toArray k1) :: (ra', W.listOf ws4.toArray (k2 + 1)) :: (D, oD) :: ext) N4 (by first | ((repeat' (first | exact lsub_nil | exact lsub_rfl | refine lsub_cons ?_ ?_ | exact List.Mem.head _ | refine List.Mem.tail _ ?_ | refine lsub_tail ?_ | exact lsub_inl | refine lsub_app ?_ ?_ | refine lsub_inr ?_ | refine List.mem_append_right _ ?_)); done) | (trace "GRIND"; intro q hq; simp only [List.mem_cons, List.mem_append, List.cons_append, List.not_mem_nil, or_false] at hq ⊢; grind))) (fun q hq => ?_) ⟨[y], dl, outs, ws4, pa', ra', k1, k2 + 1, (D, oD) :: ext, rfl, hpr', hBp, hBr, (fun q hq => ?_), (fun q hq => ?_), (fun q hq => ?_), rfl, rfl, rfl, rfl, hO.mono fun _ _ x => x.mono fun q hq => .tail _ hq, ?_, ?_, ?_, ?_, hil⟩
        · exact (lne_cons (hIB) (lne_cons (hIp) (lne_cons (hIr) (lne_cons (Nat.ne_of_gt hlt.1) (fun q hq => hIe q hq))))) q hq
        · exact (lne_cons (Nat.ne_of_gt hlt.2.2.1) (fun q hq => hep q hq)) q hq
        · exact (lne_cons (Nat.ne_of_gt hlt.2.2.2.1) (fun q hq => her q hq)) q hq
        · exact (lne_cons (Nat.ne_of_gt hlt.2.1) (fun q hq => heB q hq)) q hq
        · rw [hw4]
          exact All2.one ⟨D, tc, 0, rfl, by rw [hoD]; exact .head _⟩
        · intro z hz
          rw [List.mem_singleton.mp hz]; exact hym
        · rw [← hgo, hdr, wideGo_more HE (fun q => q.1 rfl)]
          rfl
        · simp only [List.length_cons, List.length_nil] at hsz ⊢
          omega
      · obtain ⟨rvs', v9, rfl⟩ : ∃ rvs' v9, rvs = rvs' ++ [v9] := by
          rcases List.eq_nil_or_concat rvs with rfl | ⟨a, b, e⟩
          · simp at hrl
          · exact ⟨a, b, by simpa using e⟩
        simp only [List.concat_eq_append] at *
        have hT9 := hT.2 run'.length v9 (z.c, z.v) (by
          have : rvs'.length = run'.length := by simpa using hrl
          rw [← this]; simp) (by simp)
        obtain ⟨az, tz, nz, rfl, hmz⟩ := hT9
        have hlc : lastC (run' ++ [z]) = z.c := by simp [lastC]
        have hrz : (rvs' ++ [Value.ref az]).length ≤ 64 := by rw [hrl]; simp only [List.length_append, List.length_cons, List.length_nil] at hsz ⊢; omega
        refine go (truthy_ne (NZ.get (.tail _ (.tail _ (.tail _ (.head _))))) (by simp) (by omega) ?_)
        k_steps
        refine go (last_item (NZ.get (.tail _ (.tail _ (.tail _ (.head _))))) (by simp only [List.length_append, List.length_cons, List.length_nil] at hrz; omega) ?_)
        k_steps
        refine tup0_T NZ hmz (fun q hq => by simp [hq]) ?_ (by with_unfolding_all rfl)
        k_steps
        · rename _ ≠ _ => HL
          have FZ := fr_for NZ (by assumption)
          have hrl2 : (run' ++ [z]).length ≤ 64 := by rw [hrl] at hrz; exact hrz
          refine go (run_parts_spec (zs := run' ++ [z]) (Cx.of (by assumption) (by assumption) (by assumption) (by assumption) rfl rfl rfl rfl (Nat.le_of_ble_eq_true rfl) (Nat.le_of_ble_eq_true rfl)) NZ (.tail _ (.tail _ (.tail _ (.head _)))) (hT.mono fun _ _ x => x.mono fun q hq => .tail _ (.tail _ (.tail _ (.tail _ hq)))) (fun q hq => (Wg q (hrun q hq)).keeps FZ.keep) (by omega) ?_)
          intro r h3 tk3 outs3 k3 ext3 ho3 hN3 hne3 hO3
          have F9 := FZ.keeps ho3.keep
          have N8 := NZ.grown ho3.keep
          have qI := hN3.ne (NZ.get (.head _))
          have qB := hN3.ne (NZ.get (.tail _ (.head _)))
          have qp := hN3.ne (NZ.get (.tail _ (.tail _ (.head _))))
          have qr := hN3.ne (NZ.get (.tail _ (.tail _ (.tail _ (.head _)))))
          have N9 := news_sub (l' := (pa', W.listOf outs.toArray k1) :: (r, W.listOf outs3.toArray k3) :: (I, oI) :: (B, W.listOf keys.toArray kB) :: (ra', W.listOf (rvs' ++ [Value.ref az]).toArray k2) :: (ext3 ++ ext)) (hN3.news FZ N8) (by first | ((repeat' (first | exact lsub_nil | exact lsub_rfl | refine lsub_cons ?_ ?_ | exact List.Mem.head _ | refine List.Mem.tail _ ?_ | refine lsub_tail ?_ | exact lsub_inl | refine lsub_app ?_ ?_ | refine lsub_inr ?_ | refine List.mem_append_right _ ?_)); done) | (trace "GRIND"; intro q hq; simp only [List.mem_cons, List.mem_append, List.cons_append, List.not_mem_nil, or_false] at hq ⊢; grind))
          clear N8 NZ
          k_sweep
          k_steps
          have hl3 : outs3.length ≤ 500 := by rw [hO3.1]; have := runP_len (run' ++ [z]); omega
          have hl0 : outs.length ≤ 500 := by rw [hO.1]; omega
          refine go (extend_my (by assumption) N9 (fun q hq => ?_) (N9.get (.tail _ (.head _))) (by omega) ?_)
          · exact (lne_cons (qp _ (.head _)) (lne_cons (Ne.symm hIp) (lne_cons (hBp) (lne_cons (Ne.symm hpr') (lne_app (fun q hq => qp _ (.tail _ hq)) (fun q hq => hep q hq)))))) q hq
          intro h4 n4 os4 ho4 F4 N4
          clear N9
          k_sweep
          k_steps
          rename _ ∧ _ ∧ _ ∧ _ ∧ _ ∧ _ ∧ AllLt _ _ => hD
          rename _ ∧ _ ∧ _ ∧ _ ∧ _ ∧ AllLt _ _ => hR2
          rename News g L' _ _ => NY
          obtain ⟨D, rfl⟩ := head_of NY
          obtain ⟨oD, hoD⟩ := head_obj NY
          obtain ⟨l2, rfl⟩ := head_of2 NY
          rw [← hoD] at NY
          have FY := fr_for NY (by assumption)
          refine go (append_my (ys := []) FY (news_sub (l' := (l2, W.listOf #[] 0) :: (D, oD) :: (pa', W.listOf os4.toArray n4) :: (r, W.listOf outs3.toArray k3) :: (I, oI) :: (B, W.listOf keys.toArray kB) :: (ra', W.listOf (rvs' ++ [Value.ref az]).toArray k2) :: (ext3 ++ ext)) NY (by first | ((repeat' (first | exact lsub_nil | exact lsub_rfl | refine lsub_cons ?_ ?_ | exact List.Mem.head _ | refine List.Mem.tail _ ?_ | refine lsub_tail ?_ | exact lsub_inl | refine lsub_app ?_ ?_ | refine lsub_inr ?_ | refine List.mem_append_right _ ?_)); done) | (trace "GRIND"; intro q hq; simp only [List.mem_cons, List.mem_append, List.cons_append, List.not_mem_nil, or_false] at hq ⊢; grind))) (fun q hq => ?_) (Nat.zero_le _) ?_)
          · exact (lne_cons (Nat.ne_of_gt hD.1) (lne_cons (Nat.ne_of_lt hR2.1) (lne_cons (Nat.ne_of_lt hR2.2.1) (lne_cons (Nat.ne_of_lt hR2.2.2.1) (lne_cons (Nat.ne_of_lt hR2.2.2.2.1) (lne_cons (Nat.ne_of_lt hR2.2.2.2.2.1) (fun q hq => Nat.ne_of_lt (ktn_ltOf hR2.2.2.2.2.2 q hq)))))))) q hq
          intro h5 ws5 hw5 F5 N5
          k_sweep
          k_steps
          have hlD := ktn_ltOf hD.2.2.2.2.2.2
          have hlR := ktn_ltOf hR2.2.2.2.2.2
          refine forEnd_next F5 (news_sub (l' := (I, oI) :: (B, W.listOf keys.toArray kB) :: (pa', W.listOf os4.toArray n4) :: (l2, W.listOf ws5.toArray (0 + 1)) :: (D, oD) :: (ext3 ++ ext)) N5 (by first | ((repeat' (first | exact lsub_nil | exact lsub_rfl | refine lsub_cons ?_ ?_ | exact List.Mem.head _ | refine List.Mem.tail _ ?_ | refine lsub_tail ?_ | exact lsub_inl | refine lsub_app ?_ ?_ | refine lsub_inr ?_ | refine List.mem_append_right _ ?_)); done) | (trace "GRIND"; intro q hq; simp only [List.mem_cons, List.mem_append, List.cons_append, List.not_mem_nil, or_false] at hq ⊢; grind))) (fun q hq => ?_) ⟨[y], dl ++ runP (run' ++ [z]), os4, ws5, pa', l2, n4, 0 + 1, (D, oD) :: (ext3 ++ ext), rfl, Nat.ne_of_lt hR2.1, hBp, Nat.ne_of_lt hR2.2.2.2.1, (fun q hq => ?_), (fun q hq => ?_), (fun q hq => ?_), rfl, rfl, rfl, rfl, ?_, ?_, ?_, ?_, ?_, hil⟩
          · exact (lne_cons (hIB) (lne_cons (hIp) (lne_cons (Nat.ne_of_gt hR2.2.2.1) (lne_cons (Nat.ne_of_gt hD.2.2.2.1) (lne_app (fun q hq => qI _ (.tail _ hq)) (fun q hq => hIe q hq)))))) q hq
          · exact (lne_cons (Nat.ne_of_gt hD.2.1) (lne_app (fun q hq => qp _ (.tail _ hq)) (fun q hq => hep q hq))) q hq
          · exact (lne_cons (Nat.ne_of_gt hD.1) (fun q hq => Nat.ne_of_lt (hlR q hq))) q hq
          · exact (lne_cons (Nat.ne_of_gt hD.2.2.2.2.1) (lne_app (fun q hq => qB _ (.tail _ hq)) (fun q hq => heB q hq))) q hq
          · rw [ho4]
            exact (hO.mono fun _ _ x => x.mono fun q hq => .tail _ (List.mem_append_right _ hq)).append (hO3.mono fun _ _ x => x.mono fun q hq => .tail _ (List.mem_append_left _ hq))
          · rw [hw5]
            exact All2.one ⟨D, tc, 0, rfl, by rw [hoD]; exact .head _⟩
          · intro q hq
            rw [List.mem_singleton.mp hq]; exact hym
          · rw [← hgo, hdr, wideGo_flush HE (by simp) (by rw [hlc]; exact HL), List.append_assoc]
          · have := runP_len (run' ++ [z])
            simp only [List.length_append, List.length_cons, List.length_nil] at hsz this ⊢
            omega
        · have HL : lastC (run' ++ [z]) = y.c - 1 := by rw [hlc]; omega
          rename _ ∧ _ => hlt
          rename News g L' _ _ => NY
          obtain ⟨D, rfl⟩ := head_of NY
          obtain ⟨oD, hoD⟩ := head_obj NY
          rw [← hoD] at NY
          rename Fr g L' _ _ => FZ
          refine go (append_my FZ (news_sub (l' := (ra', W.listOf (rvs' ++ [Value.ref az]).toArray k2) :: (D, oD) :: (I, oI) :: (B, W.listOf keys.toArray kB) :: (pa', W.listOf outs.toArray k1) :: ext) NY (by first | ((repeat' (first | exact lsub_nil | exact lsub_rfl | refine lsub_cons ?_ ?_ | exact List.Mem.head _ | refine List.Mem.tail _ ?_ | refine lsub_tail ?_ | exact lsub_inl | refine lsub_app ?_ ?_ | refine lsub_inr ?_ | refine List.mem_append_right _ ?_)); done) | (trace "GRIND"; intro q hq; simp only [List.mem_cons, List.mem_append, List.cons_append, List.not_mem_nil, or_false] at hq ⊢; grind))) (fun q hq => ?_) (by omega) ?_)
          · exact (lne_cons (Nat.ne_of_gt hlt.2.2.2.1) (lne_cons (Ne.symm hIr) (lne_cons (hBr) (lne_cons (hpr') (fun q hq => her q hq))))) q hq
          intro h4 ws4 hw4 F4 N4
          k_sweep
          k_steps
          refine forEnd_next F4 (news_sub (l' := (I, oI) :: (B, W.listOf keys.toArray kB) :: (pa', W.listOf outs.toArray k1) :: (ra', W.listOf ws4.toArray (k2 + 1)) :: (D, oD) :: ext) N4 (by first | ((repeat' (first | exact lsub_nil | exact lsub_rfl | refine lsub_cons ?_ ?_ | exact List.Mem.head _ | refine List.Mem.tail _ ?_ | refine lsub_tail ?_ | exact lsub_inl | refine lsub_app ?_ ?_ | refine lsub_inr ?_ | refine List.mem_append_right _ ?_)); done) | (trace "GRIND"; intro q hq; simp only [List.mem_cons, List.mem_append, List.cons_append, List.not_mem_nil, or_false] at hq ⊢; grind))) (fun q hq => ?_) ⟨(run' ++ [z]) ++ [y], dl, outs, ws4, pa', ra', k1, k2 + 1, (D, oD) :: ext, rfl, hpr', hBp, hBr, (fun q hq => ?_), (fun q hq => ?_), (fun q hq => ?_), rfl, rfl, rfl, rfl, hO.mono fun _ _ x => x.mono fun q hq => .tail _ hq, ?_, ?_, ?_, ?_, hil⟩
          · exact (lne_cons (hIB) (lne_cons (hIp) (lne_cons (hIr) (lne_cons (Nat.ne_of_gt hlt.1) (fun q hq => hIe q hq))))) q hq
          · exact (lne_cons (Nat.ne_of_gt hlt.2.2.1) (fun q hq => hep q hq)) q hq
          · exact (lne_cons (Nat.ne_of_gt hlt.2.2.2.1) (fun q hq => her q hq)) q hq
          · exact (lne_cons (Nat.ne_of_gt hlt.2.1) (fun q hq => heB q hq)) q hq
          · rw [hw4, List.map_append]
            exact All2.snoc (hT.mono fun _ _ x => x.mono fun q hq => .tail _ hq) ⟨D, tc, 0, rfl, by rw [hoD]; exact .head _⟩
          · intro q hq
            rcases List.mem_append.mp hq with hq | hq
            · exact hrun q hq
            · rw [List.mem_singleton.mp hq]; exact hym
          · rw [← hgo, hdr, wideGo_more HE (fun q => q.2 HL)]
          · simp only [List.length_append, List.length_cons, List.length_nil] at hsz ⊢
            omega
  case qdone =>
    rintro m₁ news₁ h2 tk2 ⟨run, dl, outs, rvs, pa', ra', k1, k2, ext, rfl, hpr', hBp, hBr, hep, her, heB, e1, e2, e3, e4, hO, hT, hrun, hgo, hsz, hile⟩ F2 N3
    have hkl2 : keys.length = ys.length := by rw [hI.length, List.length_map]
    rw [hkl2, List.drop_length] at hgo
    replace F2 := fr4 F2 e4 e3 e2 e1
    clear N2 F1
    have hrl : rvs.length = run.length := by rw [hT.1, List.length_map]
    k_steps
    refine go (run_parts_spec (zs := run) (Cx.of (by assumption) (by assumption) (by assumption) (by assumption) rfl rfl rfl rfl (Nat.le_of_ble_eq_true rfl) (Nat.le_of_ble_eq_true rfl)) N3 (.tail _ (.tail _ (.head _))) (hT.mono fun _ _ x => x.mono fun q hq => .tail _ (.tail _ (.tail _ hq))) (fun q hq => (Wg q (hrun q hq)).keeps F2.keep) (by omega) ?_)
    intro r h3 tk3 outs3 k3 ext3 ho3 hN3 hne3 hO3
    have F9 := F2.keeps ho3.keep
    have N8 := N3.grown ho3.keep
    have N9 := news_sub (l' := (pa', W.listOf outs.toArray k1) :: (r, W.listOf outs3.toArray k3) :: (ext3 ++ ext)) (hN3.news F2 N8) (by first | ((repeat' (first | exact lsub_nil | exact lsub_rfl | refine lsub_cons ?_ ?_ | exact List.Mem.head _ | refine List.Mem.tail _ ?_ | refine lsub_tail ?_ | exact lsub_inl | refine lsub_app ?_ ?_ | refine lsub_inr ?_ | refine List.mem_append_right _ ?_)); done) | (trace "GRIND"; intro q hq; simp only [List.mem_cons, List.mem_append, List.cons_append, List.not_mem_nil, or_false] at hq ⊢; grind))
    clear N8
    k_sweep
    k_steps
    have hl3 : outs3.length ≤ 500 := by rw [hO3.1]; have := runP_len run; omega
    have hl0 : outs.length ≤ 500 := by rw [hO.1]; omega
    refine kmk_add_lit (by assumption) N9 ⟨_, N9.get (.head _), rfl, _, rfl⟩ ⟨_, N9.get (.tail _ (.head _)), rfl, _, rfl⟩ rfl (fun D h' F' N' lD => ?_) (by simp only [sizeLine_eq]; omega)
    have sub : ∀ q ∈ (D, W.listOf (outs ++ outs3).toArray 0) :: (ext3 ++ ext), q ∈ (D, W.listOf (outs ++ outs3).toArray 0) :: (pa', W.listOf outs.toArray k1) :: (r, W.listOf outs3.toArray k3) :: (ext3 ++ ext) := (by first | ((repeat' (first | exact lsub_nil | exact lsub_rfl | refine lsub_cons ?_ ?_ | exact List.Mem.head _ | refine List.Mem.tail _ ?_ | refine lsub_tail ?_ | exact lsub_inl | refine lsub_app ?_ ?_ | refine lsub_inr ?_ | refine List.mem_append_right _ ?_)); done) | (trace "GRIND"; intro q hq; simp only [List.mem_cons, List.mem_append, List.cons_append, List.not_mem_nil, or_false] at hq ⊢; grind))
    refine h D h' _ (outs ++ outs3) 0 (ext3 ++ ext) (off_g hg F') (fun q hq => ⟨fresh_g hg N' (sub q hq), (N' q (sub q hq)).1⟩) (fun q hq => Nat.ne_of_lt (lD q ?_)) ?_
    · simp only [List.mem_cons, List.mem_append] at hq ⊢; grind
    · rw [← hgo]
      exact (hO.mono fun _ _ x => x.mono fun q hq => List.mem_append_right _ hq).append (hO3.mono fun _ _ x => x.mono fun q hq => List.mem_append_left _ hq)
end
end Og

end PartF8
section PartF9
open PySem PySem.W PySem.Calls PyProof.Rows
namespace Og

section
local macro_rules | `(tactic| k_inst) => `(tactic| exact instAt_base (by assumption) (by assumption) (by assumption))
variable {w : World} {A : Around} {h₀ : Heap} {L : Addr} {m : Str → Option Value} {s : Shared} {Q : Value → Shared → Prop} {E : Value → Shared → Prop} {news : List (Addr × Obj)}
set_option maxHeartbeats 8000000 in
theorem told_spec {x dx : Addr} {q1 q2 : Int} {q3 q4 q5 q6 : Tok} {n : Int} (C : Cx w 550 250 A h₀ L m s.heap) (hx : s.heap.get? x = some (instObj 143 dx)) (hdx : s.heap.get? dx = some (decDict q1 q2 q3 q4 q5 q6 n))
    (h : ∀ r h' tk k t1 t2, s.heap.get? r = none → h'.get? r = some { cls := .type "tuple", data := .seq #[.int n t1, .int 0 t2] k } → Off [] s.heap h' → Q (.ref r) { s with heap := h', toks := tk }) :
    wpAny (model PR w) A (call (.ref 126) [.ref x] []) Q E s := by
  obtain ⟨env, outer, A₀, base, mean, mg, mb, hh, hA, hd', hu', hf, hke, B, F, X, T⟩ := C
  refine raise ?_ hh hA hd' hu'
  clear hh hA hd' hu'
  (refine' enter (by assumption) (by assumption) (by assumption) News.nil (by assumption) (by assumption) (by assumption) ?k6 ?k7 ?k8 ?k9 ?kB ?_ ?c2 ?c3 ?c4 ?c5; (case k6 => k_is); (case k7 => k_is); (case k8 => decide); (case k9 => exact BindsTo.of_eq rfl); (case kB => exact locs rfl); (case c2 => exact rfl); (case c3 => exact rfl); (case c4 => exact rfl); (case c5 => decide); intro g L' h₁ hg F' N' B' X' T' hl FG')
  replace hx := g_get hg hx
  replace hdx := g_get hg hdx
  k_steps
  rename News _ _ _ _ => NZ
  exact h _ _ _ _ _ _ (fresh_g hg NZ (List.Mem.head _)) (News.get NZ (List.Mem.head _)) (off_g hg (by assumption))
end
section
local macro_rules | `(tactic| walk_at "zzz0") => `(tactic| skip)
local macro_rules | `(tactic| walk_at "zzz1") => `(tactic| skip)
local macro_rules | `(tactic| walk_at "zzz2") => `(tactic| skip)
local macro_rules | `(tactic| walk_at "zzz3") => `(tactic| skip)
local macro_rules | `(tactic| walk_at "zzz4") => `(tactic| skip)
local macro_rules | `(tactic| walk_at "zzz5") => `(tactic| skip)
local macro_rules | `(tactic| walk_at "zzz6") => `(tactic| skip)
local macro_rules | `(tactic| walk_at "zzz7") => `(tactic| skip)
local macro_rules | `(tactic| walk_at "zzz8") => `(tactic| skip)
local macro_rules | `(tactic| walk_at "zzz9") => `(tactic| skip)
local macro_rules | `(tactic| walk_at "zzz10") => `(tactic| skip)
local macro_rules | `(tactic| walk_at "zzz11") => `(tactic| skip)
local macro_rules | `(tactic| walk_at "zzz12") => `(tactic| skip)
local macro_rules | `(tactic| walk_at "zzz13") => `(tactic| skip)
local macro_rules | `(tactic| walk_at "call ref") => `(tactic| k_dflt (refine told_spec (Cx.of (by assumption) (by assumption) (by assumption) (by assumption) rfl rfl rfl rfl (Nat.le_of_ble_eq_true rfl) (Nat.le_of_ble_eq_true rfl)) (Fr.keep (by assumption) _ _ (by assumption)) (Fr.keep (by assumption) _ _ (by assumption)) ?_; intro x' h' tk' n' t1' t2' e1' e3' ho'; (have F9 := Fr.keeps (by assumption) (Off.keep ho')); (have N8 := News.grown (by assumption) (Off.keep ho')); (have N9 := news_new N8 (by assumption) e1' e3'); clear N8; (try k_sweep)))
local macro_rules | `(tactic| k_inst) => `(tactic| exact instAt_base (by assumption) (by assumption) (by assumption))
local macro_rules | `(tactic| walk_at "binaryOp Pow int int") => `(tactic| (with_reducible refine pow_int_small (by decide) (by decide) (by decide) ?_))
variable {w : World} {A : Around} {h₀ : Heap} {L : Addr} {m : Str → Option Value} {s : Shared} {Q : Value → Shared → Prop} {E : Value → Shared → Prop} {news : List (Addr × Obj)}

set_option maxHeartbeats 8000000 in
theorem plain_num_spec {v : Value} {n : Int} (C : Cx w 500 200 A h₀ L m s.heap) (V : WV s.heap v n)
    (h : ∀ t h' tk, Off [] s.heap h' → Q (.int n t) { s with heap := h', toks := tk }) :
    wpAny (model PR w) A (call (.ref 235) [v] []) Q E s := by
  obtain ⟨env, outer, A₀, base, mean, mg, mb, hh, hA, hd', hu', hf, hke, B, F, X, T⟩ := C
  refine raise ?_ hh hA hd' hu'
  clear hh hA hd' hu'
  rcases V with ⟨t, rfl⟩ | ⟨x, rfl, dx, q1, q2, q3, q4, q5, q6, hx, hdx⟩
  · (refine' enter (by assumption) (by assumption) (by assumption) News.nil (by assumption) (by assumption) (by assumption) ?k6 ?k7 ?k8 ?k9 ?kB ?_ ?c2 ?c3 ?c4 ?c5; (case k6 => k_is); (case k7 => k_is); (case k8 => decide); (case k9 => exact BindsTo.of_eq rfl); (case kB => exact locs rfl); (case c2 => exact rfl); (case c3 => exact rfl); (case c4 => exact rfl); (case c5 => decide); intro g L' h₁ hg F' N' B' X' T' hl FG')
    k_steps
    exact h _ _ _ (off_g hg (by assumption))
  · (refine' enter (by assumption) (by assumption) (by assumption) News.nil (by assumption) (by assumption) (by assumption) ?k6 ?k7 ?k8 ?k9 ?kB ?_ ?c2 ?c3 ?c4 ?c5; (case k6 => k_is); (case k7 => k_is); (case k8 => decide); (case k9 => exact BindsTo.of_eq rfl); (case kB => exact locs rfl); (case c2 => exact rfl); (case c3 => exact rfl); (case c4 => exact rfl); (case c5 => decide); intro g L' h₁ hg F' N' B' X' T' hl FG')
    replace hx := g_get hg hx
    replace hdx := g_get hg hdx
    k_steps
    rw [show n.fdiv (10 ^ Int.toNat 0) = n by simp]
    exact h _ _ _ (off_g hg (by assumption))
end
section
local macro_rules | `(tactic| walk_at "zzz0") => `(tactic| skip)
local macro_rules | `(tactic| walk_at "zzz1") => `(tactic| skip)
local macro_rules | `(tactic| walk_at "zzz2") => `(tactic| skip)
local macro_rules | `(tactic| walk_at "zzz3") => `(tactic| skip)
local macro_rules | `(tactic| walk_at "zzz4") => `(tactic| skip)
local macro_rules | `(tactic| walk_at "zzz5") => `(tactic| skip)
local macro_rules | `(tactic| walk_at "zzz6") => `(tactic| skip)
local macro_rules | `(tactic| walk_at "zzz7") => `(tactic| skip)
local macro_rules | `(tactic| walk_at "zzz8") => `(tactic| skip)
local macro_rules | `(tactic| walk_at "zzz9") => `(tactic| skip)
local macro_rules | `(tactic| walk_at "zzz10") => `(tactic| skip)
local macro_rules | `(tactic| walk_at "zzz11") => `(tactic| skip)
local macro_rules | `(tactic| walk_at "zzz12") => `(tactic| skip)
local macro_rules | `(tactic| walk_at "zzz13") => `(tactic| skip)
local macro_rules | `(tactic| walk_at "zz1") => `(tactic| skip)
local macro_rules | `(tactic| walk_at "call ref") => `(tactic| k_dflt (refine plain_num_spec (Cx.of (by assumption) (by assumption) (by assumption) (by assumption) rfl rfl rfl rfl (Nat.le_of_ble_eq_true rfl) (Nat.le_of_ble_eq_true rfl)) (by assumption) ?_; intro t' h' tk' ho'; (have F9 := Fr.keeps (by assumption) (Off.keep ho')); (have N9 := News.grown (by assumption) (Off.keep ho')); (try k_sweep)))
local macro_rules | `(tactic| walk_at "CompSrc") => `(tactic| (refine stop ?_))
variable {w : World} {A : Around} {h₀ : Heap} {L : Addr} {m : Str → Option Value} {s : Shared} {Q : Value → Shared → Prop} {E : Value → Shared → Prop} {news : List (Addr × Obj)}
set_option maxHeartbeats 8000000 in
theorem plain_list_spec {l : Addr} {vs : List Value} {k : Nat} {ns : List Int} (C : Cx w 470 170 A h₀ L m s.heap) (N : News h₀ L s.heap news) (hml : (l, W.listOf vs.toArray k) ∈ news) (V : All2 (WV s.heap) vs ns) (hz : vs.length ≤ 1000)
    (h : ∀ r h' tk ws k, Off [] s.heap h' → s.heap.get? r = none → h'.get? r = some (W.listOf ws.toArray k) → IntsAre ws ns → Q (.ref r) { s with heap := h', toks := tk }) :
    wpAny (model PR w) A (call (.ref 235) [.ref l] []) Q E s := by
  obtain ⟨env, outer, A₀, base, mean, mg, mb, hh, hA, hd', hu', hf, hke, B, F, X, T⟩ := C
  refine raise ?_ hh hA hd' hu'
  clear hh hA hd' hu'
  (refine' enter (by assumption) (by assumption) (by assumption) (by assumption) (by assumption) (by assumption) (by assumption) ?k6 ?k7 ?k8 ?k9 ?kB ?_ ?c2 ?c3 ?c4 ?c5; (case k6 => k_is); (case k7 => k_is); (case k8 => decide); (case k9 => exact BindsTo.of_eq rfl); (case kB => exact locs rfl); (case c2 => exact rfl); (case c3 => exact rfl); (case c4 => exact rfl); (case c5 => decide); intro g L' h₁ hg F' N' B' X' T' hl FG')
  k_steps
  rename News g L' _ _ => NZ
  refine go (LCg.CompSrc.ledger rfl (by assumption) NZ hml (by rw [List.size_toArray, sizeLine_eq]; omega) fun g' => ?_)
  refine comp_inv (fun i ys nw => nw = news ∧ IntsAre ys (ns.take i)) ?_ ⟨rfl, .nil⟩ ?_
  · rintro i v I oI C oC D m₂ ys nw h2 tk2 E' hi hvi ⟨rfl, hys⟩ hoC hm F2 N2 o1 o2 o3 n1 n2 n3
    have hvi' : vs[i]? = some v := by simpa using hvi
    have hin : i < ns.length := by rw [← V.1]; simpa using hi
    have Wv : WV h2 v ns[i] := (V.2 i v _ hvi' (List.getElem?_eq_getElem hin)).keeps (offN hg N F2 N2 (fun q hq => .tail _ (.tail _ (.tail _ hq)))).keep
    clear NZ
    k_steps
    rename News g L' _ _ => NZ
    refine compEnd_mk (by assumption) NZ o1 o2 o3 (Or.inr ⟨_, hml, rfl, _, rfl⟩) ⟨rfl, ?_⟩
    rw [List.take_add_one, List.getElem?_eq_getElem hin]
    exact intsAre_snoc hys _ _
  · rintro ys nw ⟨rfl, hys⟩
    rw [List.size_toArray, V.1, List.take_length] at hys
    intro D h2 tk2 F2 N2 o2
    have o3 := off1_mem o2
    refine h D h2 _ ys _ (offN hg N F2 N2 fun q hq => .tail _ hq) (freshN hg N2 (.head _) o3) (N2.get (.head _)) hys
end
end Og

end PartF9
section PartDP
open PySem PySem.W PySem.Calls PyProof.Rows
namespace Og
theorem miss_keys_list : typeLookup (.type "list") (Str.ofString "keys") = pure none := by rw [typeLookup_type, builtinLookup_eq_fast]; kernel_rfl
theorem getAttr_keys_list {prog : Program} {w : World} {A : Around} {E : Value → Shared → Prop} {s : Shared} {a : Addr} {o : Obj} {xs : Array Value} {k : Nat} {Q : Option Value → Shared → Prop}
    (hx : s.heap.get? a = some o) (hc : o.cls = .type "list") (hdat : o.data = .seq xs k) (hd : o.dict = none) (hA : A.handled = none)
    (h : ∀ h' tk, (∀ b o, s.heap.get? b = some o → h'.get? b = some o) → Q none { s with heap := h', toks := tk }) :
    wpAny (model prog w) A (getAttr? (.ref a) "keys") Q E s := by
  obtain ⟨c, dct, dat, sl⟩ := o
  simp only at hc hdat hd
  subst hc hdat hd
  obtain ⟨hp, g, d, tk, os⟩ := s
  have hT : ∀ tk', (⟨hp, g, d, tk', os⟩ : Shared).TypeIs (.ref a) "list" := fun _ => ⟨_, hx, rfl⟩
  have f1 := sub_AttributeError
  have f3 := F.slot_list_getattribute.lookup
  have f4 := F.slot_list_getattribute.bind (.ref a)
  have f5 := am_list_getattr_none
  unfold getAttr? getAttrBy? getAttrBy
  repeat (any_goals (first | assumption | exact hT _ | ((with_reducible show wpAny _ _ (call (Value.builtin "list.__getattribute__") _ _) _ _ _); refine call_meets F.slot_list_getattribute (hT _) am_entry_list_getattribute (F.args_list_getattribute_2 _ _) (meets_getattribute_miss_list a xs k sl (Str.ofString "keys") _ miss_keys_list (by decide) (by size_fits)) ⟨hx, hA, fun h' tk' e hx' => ?_⟩) | wp_step))
  · obtain ⟨t', u', he⟩ := hx'.there
    show wpAny _ _ (getattributeRaised _ _ _ _ _ _ _) _ _ _
    unfold getattributeRaised
    repeat (any_goals (first | assumption | wp_step))
    exact h _ _ hx'.keeps
theorem entry_dict_loop : entryFor table "dict.update.loop" = some Builtin.«dict.update.loop» := entryFor_of_tree (by kernel_rfl)
theorem plain_dict_loop : plainId "dict.update.loop" = true := by decide +kernel
theorem stored_snoc {kvs : List (Int × Value)} {k : Int} {v : Value} (h : ∀ p ∈ kvs, p.1 ≠ k) : stored kvs k v = kvs ++ [(k, v)] := by
  unfold stored
  rw [if_neg]
  intro hh
  obtain ⟨p, hp, e⟩ := List.any_eq_true.mp hh
  exact h p hp (by simpa using e)
theorem nodup_take_succ {xs : List (Int × Value)} (hn : (xs.map (·.1)).Nodup) {i : Nat} {x : Int × Value} (hx : xs[i]? = some x) : stored (xs.take i) x.1 x.2 = xs.take (i + 1) := by
  rw [stored_snoc, List.take_add_one, hx]
  · rfl
  · intro p hp e
    have hi : i < xs.length := (List.getElem?_eq_some_iff.mp hx).1
    obtain ⟨j, hj, rfl⟩ := List.mem_iff_getElem.mp hp
    rw [List.length_take] at hj
    have hj' : j < i := by omega
    rw [List.getElem_take] at e
    rw [List.getElem?_eq_getElem hi] at hx
    cases hx
    have h1 := List.pairwise_iff_getElem.mp hn j i (by simp; omega) (by simpa using hi) hj'
    simp only [List.getElem_map] at h1
    exact h1 e
def TupAt (h : Heap) (v : Value) (t : Int × Value) : Prop := ∃ a tk n, v = .ref a ∧ h.get? a = some ({ cls := .type "tuple", data := .seq #[.int t.1 tk, t.2] n } : Obj)
theorem dict_loop {prog : Program} {w : World} {A : Around} {I d ax : Addr} {n : Nat} {P : Nat → Value → Prop} {St : Nat → Heap → Prop} {R : Result → Shared → Prop} {hb : Heap} {xs : List (Int × Value)}
    (W : Walks prog w A.in1 I [I, ax] [I] n P St) (hdI : d ≠ I) (hdx : d ≠ ax) (hbI : hb.get? I = none) (hbd : hb.get? d = none) (hl : xs.length = n) (hn : (xs.map (·.1)).Nodup) (hz : xs.length ≤ sizeLine)
    (hP : ∀ i v, P i v → ∃ x, xs[i]? = some x ∧ TupAt hb v x) :
    ∀ (k i : Nat) (j : Int) (s : Shared) (t : Tok), j = (i : Int) → k + i = n → St i s.heap → (∀ b o, hb.get? b = some o → s.heap.get? b = some o) → s.heap.DictOf (intKind prog w) d (xs.take i) →
      (∀ h' tk, (∀ b o, hb.get? b = some o → h'.get? b = some o) → h'.DictOf (intKind prog w) d xs → R (.ok (.ret .none)) { s with heap := h', toks := tk }) →
      codeAny (model prog w) A (.builtin "dict.update.loop" ⟨[.ref d, .ref I, .int j t, .none], []⟩) R s := by
  intro k
  induction k with
  | zero =>
    intro i j s t hj hk hst hK hD hR
    obtain rfl : i = n := by omega
    refine codeAny_builtin entry_dict_loop ?_
    rw [Around.under_plainId plain_dict_loop _]
    show wpAny _ A.in1 (pyNext (.ref I) >>= _) _ _ s
    refine wpAny_bind (W.done s _ _ hst fun h' tk hm => ?_)
    rw [← hl, List.take_length] at hD
    show wpAny _ A.in1 (Builtin.Dict.addKeywords d [] >>= _) _ _ _
    refine wpAny_bind (wpAny_pure (wpAny_pure (hR h' tk (fun b o e => hm b o (fun q => ?_) (hK b o e)) ?_)))
    · rw [List.mem_singleton.mp q, hbI] at e; cases e
    · obtain ⟨o, es, ep, e, r⟩ := hD
      exact ⟨o, es, ep, hm d o (fun q => hdI (List.mem_singleton.mp q)) e, r⟩
  | succ k ih =>
    intro i j s t hj hk hst hK hD hR
    refine codeAny_builtin entry_dict_loop ?_
    rw [Around.under_plainId plain_dict_loop _]
    show wpAny _ A.in1 (pyNext (.ref I) >>= _) _ _ s
    refine wpAny_bind (W.item i s _ _ (by omega) hst fun v h' tk hv hst' hm => ?_)
    obtain ⟨x, hx, a, tx, nx, rfl, ha⟩ := hP i v hv
    have hK' : ∀ b o, hb.get? b = some o → h'.get? b = some o := fun b o e => hm b o (fun q => by rw [List.mem_singleton.mp q, hbI] at e; cases e) (hK b o e)
    have hD' : h'.DictOf (intKind prog w) d (xs.take i) := by
      obtain ⟨o, es, ep, e, r⟩ := hD
      exact ⟨o, es, ep, hm d o (fun q => hdI (List.mem_singleton.mp q)) e, r⟩
    have ha' := hK' _ _ ha
    have hT : Shared.TypeIs { s with heap := h', toks := tk } (.ref a) "tuple" := ⟨_, ha', rfl⟩
    show wpAny _ A.in1 (holding [Value.ref a] _ >>= _) _ _ _
    refine wpAny_bind (wpAny_holding ?_)
    unfold Builtin.Dict.pairItems
    refine wpAny_bind (wpAny_tryCatch ?_)
    refine wpAny_bind (wpAny_typeOf hT ?_)
    show wpAny _ _ (seqItems? (.ref a) >>= _) _ _ _
    refine wpAny_bind (wpAny_seqItems ha' rfl ?_)
    refine wpAny_pure ?_
    show wpAny _ _ (holding [Value.int x.1 tx, x.2] (dictSet d (.int x.1 tx) x.2)) _ _ _
    have hle : (xs.take i).length ≤ sizeLine := by rw [List.length_take]; omega
    refine wpAny_holding (wpAny_dictSet_pairs (hsz := hle) (intKind_is prog w x.1 tx) hD' fun h2 hd2 hs2 => ?_)
    rw [nodup_take_succ hn hx] at hd2
    refine wpAny_pure ⟨plainId_quiet plain_dict_loop _, ih (i + 1) _ _ _ (by omega) (by omega) (W.frame _ _ _ hst' fun b hb' o e => ?_) (fun b o e => ?_) hd2 fun h3 tk3 hk3 hd3 => hR h3 tk3 hk3 hd3⟩
    · refine hs2.extBut b o (fun q => ?_) e
      simp only [List.mem_cons, List.not_mem_nil, or_false] at hb'
      rcases hb' with h | h
      · exact hdI (by rw [← q, h])
      · exact hdx (by rw [← q, h])
    · exact hs2.extBut b o (fun q => by rw [q, hbd] at e; cases e) (hK' b o e)
section
variable {prog : Program} {w : World} {A : Around} {E : Value → Shared → Prop} {s : Shared}
theorem call_dict_pairs {l : Addr} {vs : List Value} {kl : Nat} {xs : List (Int × Value)} {Q : Value → Shared → Prop} (hh : A.handled = none) (hl : s.heap.get? l = some (listOf vs.toArray kl)) (hT : All2 (TupAt s.heap) vs xs) (hn : (xs.map (·.1)).Nodup) (hz : xs.length ≤ 1000)
    (h : ∀ h' tk, h'.DictOf (intKind prog w) s.heap.objs.size xs → (∀ b o, s.heap.get? b = some o → h'.get? b = some o) → Q (.ref s.heap.objs.size) { s with heap := h', toks := tk }) :
    wpAny (model prog w) A (call (.type "dict") [.ref l]) Q E s := by
  refine callType_codes (Q₁ := fun obj s₁ => obj = .ref s.heap.objs.size ∧ s₁ = { s with heap := s.heap.push { cls := .type "dict", data := .dict #[] } }) F.kt_called_dict (F.kt_typeCall_dict_1 _) F.entry_dict_init (kt_code_dict_new _ ⟨rfl, rfl⟩) ?_
  rintro obj s₁ ⟨rfl, rfl⟩
  have hnew : (s.heap.push { cls := .type "dict", data := .dict #[] }).DictOf (intKind prog w) s.heap.objs.size [] := Heap.DictOf.new s.heap
  have hl1 : (s.heap.push { cls := .type "dict", data := .dict #[] }).get? l = some (listOf vs.toArray kl) := Heap.get?_push_of_some _ hl
  have hls : l < s.heap.objs.size := Heap.lt_size hl
  refine ⟨hnew.typeIs, F.args_dict_init_2 _ _, ?_⟩
  unfold Builtin.«dict.__init__»
  refine wpAny_bind ?_
  unfold Builtin.Dict.selfAndRest
  refine wpAny_bind (wpAny_notOrdered_dict hnew.typeIs ?_)
  show wpAny _ _ (pure (s.heap.objs.size, [Value.ref l])) _ _ _
  refine wpAny_pure ?_
  show wpAny _ _ (Builtin.Dict.updateFrom "dict.__init__" s.heap.objs.size (.ref l) [] .none) _ _ _
  unfold Builtin.Dict.updateFrom
  have hTl : Shared.TypeIs { s with heap := s.heap.push { cls := .type "dict", data := .dict #[] } } (.ref l) "list" := ⟨_, hl1, rfl⟩
  refine wpAny_bind (wpAny_typeOf hTl ?_)
  rw [if_pos (by decide)]
  refine wpAny_bind (getAttr_keys_list (A := A.in1.in1) hl1 rfl rfl rfl hh fun h2 tk2 hk2 => ?_)
  show wpAny _ _ (pyIter (.ref l) >>= _) _ _ _
  have hl2 := hk2 _ _ hl1
  have hl2' : h2.IsList l vs.toArray := ⟨_, hl2, rfl, _, rfl⟩
  refine wpAny_bind (wpAny_pyIter_list hl2' ?_)
  have hls2 : l < h2.objs.size := Heap.lt_size hl2
  have hup : ∀ b o, s.heap.get? b = some o → (s.heap.push { cls := .type "dict", data := .dict #[] }).get? b = some o := fun b o e => Heap.get?_push_of_some _ e
  have hup2 : ∀ b o, h2.get? b = some o → (h2.push { cls := .type "list_iterator", data := .fields #[.ref l, .int 0 0] }).get? b = some o := fun b o e => Heap.get?_push_of_some _ e
  have hd2 : s.heap.objs.size < h2.objs.size := by
    obtain ⟨o, es, ep, e, r⟩ := hnew
    exact Heap.lt_size (hk2 _ _ e)
  have hD2 : h2.DictOf (intKind prog w) s.heap.objs.size [] := by
    obtain ⟨o, es, ep, e, r⟩ := hnew
    exact ⟨o, es, ep, hk2 _ _ e, r⟩
  have hD3 : (h2.push { cls := .type "list_iterator", data := .fields #[.ref l, .int 0 0] }).DictOf (intKind prog w) s.heap.objs.size (xs.take 0) := by
    obtain ⟨o, es, ep, e, r⟩ := hD2
    exact ⟨o, es, ep, hup2 _ _ e, r⟩
  refine wpAny_pure ⟨plainId_quiet plain_dict_loop _, ?_⟩
  refine' dict_loop (hb := s.heap) (xs := xs) (A := A.in1) (Walks.list (A := A.in1.in1) hh h2.objs.size l (Nat.ne_of_lt hls2) vs.toArray) (Nat.ne_of_lt hd2) (Nat.ne_of_gt hls) (Heap.get?_none_of_le (Nat.le_of_lt hd2)) (Heap.get?_none_of_le (Nat.le_refl _)) (by rw [List.size_toArray]; exact hT.1.symm) hn (by rw [sizeLine_eq]; omega) ?qP
    _ 0 _ _ _ rfl (Nat.add_zero _) ?qst ?qK ?qD ?qR
  case qP =>
    intro i v hv
    have hv' : vs[i]? = some v := by simpa using hv
    have hi : i < xs.length := by rw [← hT.1]; exact (List.getElem?_eq_some_iff.mp hv').1
    exact ⟨xs[i], List.getElem?_eq_getElem hi, hT.2 i v _ hv' (List.getElem?_eq_getElem hi)⟩
  case qst => exact ⟨⟨_, Heap.get?_push_size _ rfl, rfl, rfl⟩, ⟨_, hup2 _ _ hl2, rfl, _, rfl⟩⟩
  case qK => exact fun b o e => hup2 _ _ (hk2 _ _ (hup _ _ e))
  case qD => exact hD3
  case qR => exact fun h' tk hk3 hd3 => ⟨rfl, h h' tk hd3 hk3⟩
end
end Og

end PartDP
section PartF10
open PySem PySem.W PySem.Calls PyProof.Rows
namespace Og

def CellsO (oc : Obj) : Prop := ∃ (cvs : List Value) (cns : List Int) (k2 : Nat), oc = W.listOf cvs.toArray k2 ∧ IntsAre cvs cns ∧ cvs.length ≤ 40
def PotO (op : Obj) (cells : Addr) (pl : Int) : Prop := ∃ (st : Int) (t1 t2 : Tok) (k1 : Nat), op = W.listOf [Value.ref cells, .int st t1, .int pl t2].toArray k1 ∧ 0 ≤ st ∧ st < 2147483647

section
local macro_rules | `(tactic| walk_at "zzz0") => `(tactic| skip)
local macro_rules | `(tactic| walk_at "zzz1") => `(tactic| skip)
local macro_rules | `(tactic| walk_at "zzz2") => `(tactic| skip)
local macro_rules | `(tactic| walk_at "zzz3") => `(tactic| skip)
local macro_rules | `(tactic| walk_at "zzz4") => `(tactic| skip)
local macro_rules | `(tactic| walk_at "zzz5") => `(tactic| skip)
local macro_rules | `(tactic| walk_at "zzz6") => `(tactic| skip)
local macro_rules | `(tactic| walk_at "zzz7") => `(tactic| skip)
local macro_rules | `(tactic| walk_at "zzz8") => `(tactic| skip)
local macro_rules | `(tactic| walk_at "zzz9") => `(tactic| skip)
local macro_rules | `(tactic| walk_at "zzz10") => `(tactic| skip)
local macro_rules | `(tactic| walk_at "zzz11") => `(tactic| skip)
local macro_rules | `(tactic| walk_at "zzz12") => `(tactic| skip)
local macro_rules | `(tactic| walk_at "zzz13") => `(tactic| skip)
local macro_rules | `(tactic| walk_at "zzz14") => `(tactic| skip)
local macro_rules | `(tactic| walk_at "zzz15") => `(tactic| skip)
local macro_rules | `(tactic| walk_at "zzz16") => `(tactic| skip)
local macro_rules | `(tactic| walk_at "truthy ref") => `(tactic| (refine stop ?_))
variable {w : World} {A : Around} {h₀ : Heap} {L : Addr} {m : Str → Option Value} {s : Shared} {Q : Value → Shared → Prop} {E : Value → Shared → Prop} {news : List (Addr × Obj)}
set_option maxHeartbeats 8000000 in
theorem draw_core {pot cells : Addr} {op oc : Obj} {pl lim : Int} {tl : Tok} (C : Cx w 600 300 A h₀ L m s.heap) (N : News h₀ L s.heap [(pot, op), (cells, oc)]) (hne : pot ≠ cells) (hO : PotO op cells pl) (hC : CellsO oc) (hp0 : 0 ≤ pl) (hp1 : pl < 1000) (hl1 : 1 ≤ lim) (hl2 : lim ≤ 60)
    (h : ∀ kk t h' tk op' oc', 0 ≤ kk → kk < lim → PotO op' cells (pl + 1) → CellsO oc' → Off [pot, cells] s.heap h' → h'.get? pot = some op' → h'.get? cells = some oc' → Q (.int kk t) { s with heap := h', toks := tk }) :
    wpAny (model PR w) A (call (.ref 213) [.ref pot, .int lim tl] []) Q E s := by
  obtain ⟨env, outer, A₀, base, mean, mg, mb, hh, hA, hd', hu', hf, hke, B, F, X, T⟩ := C
  refine raise ?_ hh hA hd' hu'
  clear hh hA hd' hu'
  obtain ⟨st, t1, t2, k1, rfl, hs0, hs1⟩ := hO
  obtain ⟨cvs, cns, k2, rfl, hI, hcl⟩ := hC
  replace hne := neN hne
  have hne2 := neN (Ne.symm hne)
  (refine' enter (by assumption) (by assumption) (by assumption) (by assumption) (by assumption) (by assumption) (by assumption) ?k6 ?k7 ?k8 ?k9 ?kB ?_ ?c2 ?c3 ?c4 ?c5; (case k6 => k_is); (case k7 => k_is); (case k8 => decide); (case k9 => exact BindsTo.of_eq rfl); (case kB => exact locs rfl); (case c2 => exact rfl); (case c3 => exact rfl); (case c4 => exact rfl); (case c5 => decide); intro g L' h₁ hg F' N' B' X' T' hl FG')
  k_lt hl
  k_steps
  rename News g L' _ _ => NZ
  cases hI with
  | nil =>
    refine go (truthy_nil (NZ.get (.tail _ (.head _))) ?_)
    k_steps
    rename News g L' _ _ => NY
    have r1 := fmod_rng ((st * 16807 + pl * pl + 7).fmod 2147483647 |>.fdiv 5) (b := lim) (by omega)
    have r2 := fmod_rng (st * 16807 + pl * pl + 7) (b := 2147483647) (by decide)
    exact h _ _ _ _ _ _ r1.1 r1.2 ⟨_, _, _, _, rfl, r2.1, r2.2⟩ ⟨[], [], k2, rfl, .nil, by simp⟩ (off_g hg (by assumption)) (NY.get (.head _)) (NY.get (.tail _ (.head _)))
  | @cons c0 tc0 cvs' cns' hI' =>
    have hcl' : cvs'.length ≤ 39 := by simp only [List.length_cons] at hcl; omega
    refine go (truthy_cons (NZ.get (.tail _ (.head _))) (by simp only [List.length_cons] at hcl ⊢; omega) ?_)
    k_steps
    refine len_my (NZ.get (.tail _ (.head _))) (by simp only [List.length_cons] at hcl ⊢; omega) fun t9 tk9 => ?_
    rw [show ((Value.int c0 tc0 :: cvs').length : Int) = (cvs'.length : Int) + 1 by simp]
    have rj := fmod_rng pl (b := (cvs'.length : Int) + 1) (by omega)
    have hll := hI'.length
    k_steps
    · rename News g L' _ _ => NX
      refine ksa_set (vs := .int c0 tc0 :: cvs') (ns := c0 :: cns') (by assumption) NX (.tail hne (.head (fun _ q => nomatch q))) (.cons c0 tc0 hI') rj.1 (by simp only [List.length_cons]; omega) (by omega) ?_
      intro h5 F5 N5 hI5 _ _
      k_steps
      rename News g L' _ _ => NY
      have r1 := fmod_rng ((c0 :: cns').getD (pl.fmod ((cvs'.length : Int) + 1)).toNat 0) (b := lim) (by omega)
      exact h _ _ _ _ _ _ r1.1 r1.2 ⟨_, _, _, _, rfl, hs0, hs1⟩ ⟨_, _, _, rfl, hI5, by simp only [List.length_set]; exact hcl⟩ (off_g hg (by assumption)) (NY.get (.head _)) (NY.get (.tail _ (.head _)))
    · rename News g L' _ _ => NY
      have r1 := fmod_rng ((st * 16807 + pl * pl + 7).fmod 2147483647 |>.fdiv 5) (b := lim) (by omega)
      have r2 := fmod_rng (st * 16807 + pl * pl + 7) (b := 2147483647) (by decide)
      exact h _ _ _ _ _ _ r1.1 r1.2 ⟨_, _, _, _, rfl, r2.1, r2.2⟩ ⟨_, _, k2, rfl, .cons c0 tc0 hI', hcl⟩ (off_g hg (by assumption)) (NY.get (.head _)) (NY.get (.tail _ (.head _)))
end
end Og

end PartF10
section PartF11
open PySem PySem.W PySem.Calls PyProof.Rows
namespace Og

section
variable {w : World} {A : Around} {h₀ : Heap} {L : Addr} {m : Str → Option Value} {s : Shared} {Q : Value → Shared → Prop} {E : Value → Shared → Prop} {news rest : List (Addr × Obj)}
theorem off2_fr {as : List Addr} {g h h' : Heap} {L : Addr} {news : List (Addr × Obj)} (F : Fr g L h m) (N : News g L h news) (O : Off as h h') (ha : ∀ a ∈ as, ∃ o, (a, o) ∈ news) : Fr g L h' m := by
  refine ⟨?_, fun b o e => O b o (F.keep b o e) ?_, F.above⟩
  · refine F.ns.at' fun o e => O L o e fun q => ?_
    obtain ⟨o', hm⟩ := ha _ q
    exact (N _ hm).2.1 rfl
  · intro q
    obtain ⟨o', hm⟩ := ha _ q
    have := (N _ hm).2.2
    rw [e] at this; cases this
theorem draw_spec {pot cells : Addr} {op oc : Obj} {pl lim : Int} {tl : Tok} (C : Cx w 600 300 A h₀ L m s.heap) (N : News h₀ L s.heap ((pot, op) :: (cells, oc) :: rest)) (hr : ∀ q ∈ rest, q.1 ≠ pot ∧ q.1 ≠ cells) (hne : pot ≠ cells) (hO : PotO op cells pl) (hC : CellsO oc) (hp0 : 0 ≤ pl) (hp1 : pl < 1000) (hl1 : 1 ≤ lim) (hl2 : lim ≤ 60)
    (h : ∀ kk t h' tk op' oc', 0 ≤ kk → kk < lim → PotO op' cells (pl + 1) → CellsO oc' → Fr h₀ L h' m → News h₀ L h' ((pot, op') :: (cells, oc') :: rest) → Off [pot, cells] s.heap h' → Q (.int kk t) { s with heap := h', toks := tk }) :
    wpAny (model PR w) A (call (.ref 213) [.ref pot, .int lim tl] []) Q E s := by
  have F : Fr h₀ L s.heap m := by
    obtain ⟨env, outer, A₀, base, mean, mg, mb, hh, hA, hd', hu', hf, hke, B, F, X, T⟩ := C
    exact F
  refine draw_core C (news_sub N (by first | ((repeat' (first | exact lsub_nil | exact lsub_rfl | refine lsub_cons ?_ ?_ | exact List.Mem.head _ | refine List.Mem.tail _ ?_ | refine lsub_tail ?_ | exact lsub_inl | refine lsub_app ?_ ?_ | refine lsub_inr ?_ | refine List.mem_append_right _ ?_)); done) | (trace "GRIND"; intro q hq; simp only [List.mem_cons, List.mem_append, List.cons_append, List.not_mem_nil, or_false] at hq ⊢; grind))) hne hO hC hp0 hp1 hl1 hl2 ?_
  intro kk t h' tk op' oc' a1 a2 a3 a4 a5 a6 a7
  refine h kk t h' tk op' oc' a1 a2 a3 a4 ?_ ?_ a5
  · exact off2_fr F N a5 fun a ha => by
      rcases List.mem_cons.mp ha with rfl | ha
      · exact ⟨_, .head _⟩
      · rw [List.mem_singleton.mp ha]; exact ⟨_, .tail _ (.head _)⟩
  · intro p hp
    rcases List.mem_cons.mp hp with rfl | hp
    · exact ⟨a6, (N _ (.head _)).2⟩
    rcases List.mem_cons.mp hp with rfl | hp
    · exact ⟨a7, (N _ (.tail _ (.head _))).2⟩
    · have z := N p (.tail _ (.tail _ hp))
      refine ⟨a5 _ _ z.1 ?_, z.2⟩
      intro q
      simp only [List.mem_cons, List.not_mem_nil, or_false] at q
      have := hr p hp
      grind
set_option maxHeartbeats 4000000 in
theorem decimal_ten {n : Int} {t t' : Tok} (C : Cx w 700 400 A h₀ L m s.heap)
    (h : ∀ x dx h' tk h1 h2 t1 t2 t3 t4, s.heap.get? x = none → s.heap.get? dx = none → dx < x → h'.get? x = some (instObj 143 dx) → h'.get? dx = some (decDict h1 h2 t1 t2 t3 t4 n) → Off [] s.heap h' → Q (.ref x) { s with heap := h', toks := tk }) :
    wpAny (model PR w) A (call (.ref 143) [.int (10 * n) t, .int 1 t'] []) Q E s := by
  obtain ⟨env, outer, A₀, base, mean, mg, mb, hh, hA, hd', hu', hf, hke, B, F, X, T⟩ := C
  refine raise ?_ hh hA hd' hu'
  clear hh hA hd' hu'
  refine' call_new (X.keeps F.keep) ?k4 ?k5 ?k6 ?_
  case k4 => k_is
  case k5 => k_is
  case k6 => k_is
  have F1 := (F.push emptyDict).push (instObj 143 s.heap.objs.size)
  have N1 := ((News.nil (h₀ := h₀) (L := L)).push F emptyDict).push (F.push emptyDict) (instObj 143 s.heap.objs.size)
  rw [Heap.size_push] at N1
  have old : ∀ b o, s.heap.get? b = some o → ((s.heap.push emptyDict).push (instObj 143 s.heap.objs.size)).get? b = some o := fun b o e => Heap.get?_push_of_some _ (Heap.get?_push_of_some _ e)
  have hx : s.heap.get? (s.heap.objs.size + 1) = none := Heap.get?_none_of_le (Nat.le_succ _)
  have hdx : s.heap.get? s.heap.objs.size = none := Heap.get?_none_of_le (Nat.le_refl _)
  have hlt : s.heap.objs.size < s.heap.objs.size + 1 := Nat.lt_succ_self _
  generalize s.heap.objs.size + 1 = x at *
  generalize s.heap.objs.size = dx at *
  generalize (s.heap.push emptyDict).push (instObj 143 dx) = h' at *
  replace hlt := ltN hlt
  refine' enterC B F1 X N1 T ?kA hf hke ?k6 ?k7 ?k8 ?k9 ?kB ?_ ?c2 ?c3 ?c4 ?c5
  case kA => exact rfl
  case k6 => k_is
  case k7 => k_is
  case k8 => k_room
  case k9 => exact BindsTo.of_eq rfl
  case kB => exact locs rfl
  case c2 => exact rfl
  case c3 => exact rfl
  case c4 => exact rfl
  case c5 => decide
  intro g L' h₁ hg F' N' B' X' T' hl FG'
  k_steps
  · have e10 : (10 * n).fdiv 10 = n := by rw [Int.fdiv_eq_ediv_of_nonneg _ (by decide)]; omega
    rename News _ _ _ _ => NZ
    rw [e10, show (1 - 1 : Int) = 0 from rfl] at NZ
    refine ⟨rfl, h x dx _ _ _ _ _ _ _ _ hx hdx hlt (News.get NZ (.head _)) (News.get NZ (.tail _ (.head _))) ?_⟩
    intro b o e _
    refine Fr.keep (by assumption) b o ?_
    rw [hg]
    refine hideAll_get _ (old b o e) ?_
    intro q
    simp only [List.map_cons, List.map_nil, List.mem_cons, List.not_mem_nil, or_false] at q
    rcases q with rfl | rfl
    · rw [hx] at e; cases e
    · rw [hdx] at e; cases e
  · exfalso
    have e11 : (10 * n).fmod 10 = 0 := by rw [Int.fmod_eq_emod_of_nonneg _ (by decide)]; omega
    simp_all
end
end Og

end PartF11
section PartF12
open PySem PySem.W PySem.Calls PyProof.Rows
namespace Og
/-- a value that stands for a number, its object in the ledger -/
def WVL (ext : List (Addr × Obj)) (v : Value) (n : Int) : Prop := (∃ t, v = .int n t) ∨ ∃ x dx h1 h2 t1 t2 t3 t4, v = .ref x ∧ (x, instObj 143 dx) ∈ ext ∧ (dx, decDict h1 h2 t1 t2 t3 t4 n) ∈ ext
theorem WVL.mono {ext ext' : List (Addr × Obj)} {v : Value} {n : Int} (x : WVL ext v n) (h : ∀ q ∈ ext, q ∈ ext') : WVL ext' v n := by
  rcases x with x | ⟨x, dx, h1, h2, t1, t2, t3, t4, e, a, b⟩
  · exact .inl x
  · exact .inr ⟨x, dx, h1, h2, t1, t2, t3, t4, e, h _ a, h _ b⟩
theorem WVL.wv {ext : List (Addr × Obj)} {g h : Heap} {L : Addr} {v : Value} {n : Int} (x : WVL ext v n) (N : News g L h ext) : WV h v n := by
  rcases x with x | ⟨x, dx, h1, h2, t1, t2, t3, t4, e, a, b⟩
  · exact .inl x
  · exact .inr ⟨x, e, dx, h1, h2, t1, t2, t3, t4, (N _ a).1, (N _ b).1⟩

theorem ne_of_none {g h : Heap} {L a b : Addr} {o : Obj} {news : List (Addr × Obj)} (N : News g L h news) (hm : (b, o) ∈ news) (e : h.get? a = none) : a ≠ b := by
  rintro rfl
  rw [N.get hm] at e; cases e
theorem two_ne {a b r : Addr} {o1 o2 : Obj} (h1 : a ≠ r) (h2 : b ≠ r) : ∀ p ∈ [(a, o1), (b, o2)], p.1 ≠ r := by
  intro p hp
  simp only [List.mem_cons, List.not_mem_nil, or_false] at hp
  rcases hp with rfl | rfl
  · exact h1
  · exact h2
section
local macro_rules | `(tactic| walk_at "zzz0") => `(tactic| skip)
local macro_rules | `(tactic| walk_at "zzz1") => `(tactic| skip)
local macro_rules | `(tactic| walk_at "zzz2") => `(tactic| skip)
local macro_rules | `(tactic| walk_at "zzz3") => `(tactic| skip)
local macro_rules | `(tactic| walk_at "zzz4") => `(tactic| skip)
local macro_rules | `(tactic| walk_at "zzz5") => `(tactic| skip)
local macro_rules | `(tactic| walk_at "zzz6") => `(tactic| skip)
local macro_rules | `(tactic| walk_at "zzz7") => `(tactic| skip)
local macro_rules | `(tactic| walk_at "zzz8") => `(tactic| skip)
local macro_rules | `(tactic| walk_at "zzz9") => `(tactic| skip)
local macro_rules | `(tactic| walk_at "zzz10") => `(tactic| skip)
local macro_rules | `(tactic| walk_at "zzz11") => `(tactic| skip)
local macro_rules | `(tactic| walk_at "zzz12") => `(tactic| skip)
local macro_rules | `(tactic| walk_at "zzz13") => `(tactic| skip)
local macro_rules | `(tactic| walk_at "zzz14") => `(tactic| skip)
local macro_rules | `(tactic| walk_at "zzz15") => `(tactic| skip)
local macro_rules | `(tactic| walk_at "zzz16") => `(tactic| skip)
local macro_rules | `(tactic| walk_at "zzz17") => `(tactic| skip)
local macro_rules | `(tactic| walk_at "call ref") => `(tactic| (refine stop ?_))
variable {w : World} {A : Around} {h₀ : Heap} {L : Addr} {m : Str → Option Value} {s : Shared} {Q : Value → Shared → Prop} {E : Value → Shared → Prop} {news rest : List (Addr × Obj)}
set_option maxHeartbeats 8000000 in
theorem width_core {pot cells : Addr} {op oc : Obj} {pl n : Int} {tl : Tok} (C : Cx w 550 250 A h₀ L m s.heap) (N : News h₀ L s.heap [(pot, op), (cells, oc)]) (hne : pot ≠ cells) (hO : PotO op cells pl) (hC : CellsO oc) (hp0 : 0 ≤ pl) (hp1 : pl < 1000)
    (h : ∀ v h' tk op' oc' ext, PotO op' cells (pl + 1) → CellsO oc' → Off [pot, cells] s.heap h' → h'.get? pot = some op' → h'.get? cells = some oc' → NewOf s.heap h' ext → WVL ext v n → Q v { s with heap := h', toks := tk }) :
    wpAny (model PR w) A (call (.ref 220) [.ref pot, .int n tl] []) Q E s := by
  obtain ⟨env, outer, A₀, base, mean, mg, mb, hh, hA, hd', hu', hf, hke, B, F, X, T⟩ := C
  refine raise ?_ hh hA hd' hu'
  clear hh hA hd' hu'
  replace hne := neN hne
  have hne2 := neN (Ne.symm hne)
  (refine' enter (by assumption) (by assumption) (by assumption) (by assumption) (by assumption) (by assumption) (by assumption) ?k6 ?k7 ?k8 ?k9 ?kB ?_ ?c2 ?c3 ?c4 ?c5; (case k6 => k_is); (case k7 => k_is); (case k8 => decide); (case k9 => exact BindsTo.of_eq rfl); (case kB => exact locs rfl); (case c2 => exact rfl); (case c3 => exact rfl); (case c4 => exact rfl); (case c5 => decide); intro g L' h₁ hg F' N' B' X' T' hl FG')
  k_lt hl
  k_steps
  rename News g L' _ _ => NZ
  refine go (draw_spec (rest := []) (Cx.of (by assumption) (by assumption) (by assumption) (by assumption) rfl rfl rfl rfl (Nat.le_of_ble_eq_true rfl) (Nat.le_of_ble_eq_true rfl)) NZ (fun q hq => nomatch hq) hne hO hC hp0 hp1 (by decide) (by decide) ?_)
  intro kk tkk h2 tk2 op2 oc2 hk0 hk1 hO2 hC2 F2 N2 ho2
  clear NZ
  k_sweep
  k_steps
  refine go (decimal_new (Cx.of (by assumption) (by assumption) (by assumption) (by assumption) rfl rfl rfl rfl (Nat.le_of_ble_eq_true rfl) (Nat.le_of_ble_eq_true rfl)) ?_)
  intro x1 dx1 h3 tk3 p1 p2 p3 p4 p5 p6 a1 a2 hlt1 a3 a4 ho3
  replace hlt1 := ltN hlt1
  (have F9 := Fr.keeps (by assumption) (Off.keep ho3))
  rename News g L' _ _ => NZ
  have n1 := ne_of_none NZ (.head _) a1
  have n2 := ne_of_none NZ (.tail _ (.head _)) a1
  have n3 := ne_of_none NZ (.head _) a2
  have n4 := ne_of_none NZ (.tail _ (.head _)) a2
  (have N8 := News.grown NZ (Off.keep ho3)); (have N7 := news_new N8 (by assumption) a2 a4); (have N9 := news_new N7 (by assumption) a1 a3); clear N8 N7 NZ; (try k_sweep)
  k_steps
  refine go (decimal_ten (Cx.of (by assumption) (by assumption) (by assumption) (by assumption) rfl rfl rfl rfl (Nat.le_of_ble_eq_true rfl) (Nat.le_of_ble_eq_true rfl)) ?_)
  intro x2 dx2 h4 tk4 q1 q2 q3 q4 q5 q6 b1 b2 hlt2 b3 b4 ho4
  replace hlt2 := ltN hlt2
  (have F9 := Fr.keeps (by assumption) (Off.keep ho4))
  rename News g L' _ _ => NZ
  have n5 := ne_of_none NZ (.tail _ (.tail _ (.head _))) b1
  have n6 := ne_of_none NZ (.tail _ (.tail _ (.tail _ (.head _)))) b1
  have n7 := ne_of_none NZ (.tail _ (.tail _ (.head _))) b2
  have n8 := ne_of_none NZ (.tail _ (.tail _ (.tail _ (.head _)))) b2
  (have N8 := News.grown NZ (Off.keep ho4)); (have N7 := news_new N8 (by assumption) b2 b4); (have N9 := news_new N7 (by assumption) b1 b3); clear N8 N7 NZ; (try k_sweep)
  k_steps
  all_goals
    rename News g L' _ _ => NZ
    refine h _ _ _ op2 oc2 [(x2, instObj 143 dx2), (dx2, decDict q1 q2 q3 q4 q5 q6 n), (x1, instObj 143 dx1), (dx1, decDict p1 p2 p3 p4 p5 p6 n)] hO2 hC2 (off_g hg (by assumption)) (NZ.get (.tail _ (.tail _ (.tail _ (.tail _ (.tail _ (.head _))))))) (NZ.get (.tail _ (.tail _ (.tail _ (.tail _ (.tail _ (.tail _ (.head _)))))))) (fun q hq => ?_) ?_
    · simp only [List.mem_cons, List.not_mem_nil, or_false] at hq
      rcases hq with rfl | rfl | rfl | rfl
      · exact ⟨freshN hg NZ (.tail _ (.head _)) (two_ne (Ne.symm n5) (Ne.symm n6)), NZ.get (.tail _ (.head _))⟩
      · exact ⟨freshN hg NZ (.tail _ (.tail _ (.head _))) (two_ne (Ne.symm n7) (Ne.symm n8)), NZ.get (.tail _ (.tail _ (.head _)))⟩
      · exact ⟨freshN hg NZ (.tail _ (.tail _ (.tail _ (.head _)))) (two_ne (Ne.symm n1) (Ne.symm n2)), NZ.get (.tail _ (.tail _ (.tail _ (.head _))))⟩
      · exact ⟨freshN hg NZ (.tail _ (.tail _ (.tail _ (.tail _ (.head _))))) (two_ne (Ne.symm n3) (Ne.symm n4)), NZ.get (.tail _ (.tail _ (.tail _ (.tail _ (.head _)))))⟩
    · first
      | exact .inl ⟨_, rfl⟩
      | exact .inr ⟨_, _, _, _, _, _, _, _, rfl, .tail _ (.tail _ (.head _)), .tail _ (.tail _ (.tail _ (.head _)))⟩
      | exact .inr ⟨_, _, _, _, _, _, _, _, rfl, .head _, .tail _ (.head _)⟩
theorem width_spec {pot cells : Addr} {op oc : Obj} {pl n : Int} {tl : Tok} (C : Cx w 550 250 A h₀ L m s.heap) (N : News h₀ L s.heap ((pot, op) :: (cells, oc) :: rest)) (hr : ∀ q ∈ rest, q.1 ≠ pot ∧ q.1 ≠ cells) (hne : pot ≠ cells) (hO : PotO op cells pl) (hC : CellsO oc) (hp0 : 0 ≤ pl) (hp1 : pl < 1000)
    (h : ∀ v h' tk op' oc' ext, PotO op' cells (pl + 1) → CellsO oc' → Fr h₀ L h' m → News h₀ L h' ((pot, op') :: (cells, oc') :: (ext ++ rest)) → (∀ q ∈ ext ++ rest, q.1 ≠ pot ∧ q.1 ≠ cells) → Off [pot, cells] s.heap h' → NewOf s.heap h' ext → WVL ext v n → Q v { s with heap := h', toks := tk }) :
    wpAny (model PR w) A (call (.ref 220) [.ref pot, .int n tl] []) Q E s := by
  have F : Fr h₀ L s.heap m := by
    obtain ⟨env, outer, A₀, base, mean, mg, mb, hh, hA, hd', hu', hf, hke, B, F, X, T⟩ := C
    exact F
  refine width_core C (news_sub N (by first | ((repeat' (first | exact lsub_nil | exact lsub_rfl | refine lsub_cons ?_ ?_ | exact List.Mem.head _ | refine List.Mem.tail _ ?_ | refine lsub_tail ?_ | exact lsub_inl | refine lsub_app ?_ ?_ | refine lsub_inr ?_ | refine List.mem_append_right _ ?_)); done) | (trace "GRIND"; intro q hq; simp only [List.mem_cons, List.mem_append, List.cons_append, List.not_mem_nil, or_false] at hq ⊢; grind))) hne hO hC hp0 hp1 ?_
  intro v h' tk op' oc' ext a3 a4 a5 a6 a7 a8 a9
  have F2 := off2_fr F N a5 fun a ha => by
      rcases List.mem_cons.mp ha with rfl | ha
      · exact ⟨_, .head _⟩
      · rw [List.mem_singleton.mp ha]; exact ⟨_, .tail _ (.head _)⟩
  have N2 : News h₀ L h' ((pot, op') :: (cells, oc') :: rest) := by
    intro p hp
    rcases List.mem_cons.mp hp with rfl | hp
    · exact ⟨a6, (N _ (.head _)).2⟩
    rcases List.mem_cons.mp hp with rfl | hp
    · exact ⟨a7, (N _ (.tail _ (.head _))).2⟩
    · have z := N p (.tail _ (.tail _ hp))
      refine ⟨a5 _ _ z.1 ?_, z.2⟩
      intro q
      simp only [List.mem_cons, List.not_mem_nil, or_false] at q
      have := hr p hp
      grind
  have N3 : News h₀ L h' (ext ++ ((pot, op') :: (cells, oc') :: rest)) := by
    intro p hp
    rcases List.mem_append.mp hp with hp | hp
    · obtain ⟨c1, c2⟩ := a8 p hp
      refine ⟨c2, ?_, ?_⟩
      · intro q
        obtain ⟨oL, _, _, hL, _⟩ := F.ns
        rw [q, hL] at c1; cases c1
      · cases q : h₀.get? p.1 with
        | none => rfl
        | some o' => have := F.keep _ _ q; rw [c1] at this; cases this
    · exact N2 p hp
  refine h v h' tk op' oc' ext a3 a4 F2 (news_sub N3 fun q hq => ?_) ?_ a5 a8 a9
  · simp only [List.mem_cons, List.mem_append] at hq ⊢; grind
  · intro q hq
    rcases List.mem_append.mp hq with hq | hq
    · exact ⟨a8.ne (N.get (.head _)) q hq, a8.ne (N.get (.tail _ (.head _))) q hq⟩
    · exact hr q hq
end
end Og

end PartF12
section PartE1
open PySem PySem.W PySem.Calls PyProof.Rows
namespace Og
section
variable {prog : Program} {w : World} {A : Around} {E : Value → Shared → Prop} {s : Shared} {env : Env} {h₀ : Heap} {x : Str} {body : List Stmt} {Q : Flow → Shared → Prop}
theorem iter_range_my {r : Addr} {b : Int} {t u v : Tok} {n : Nat} {m₀ : Str → Option Value} {news : List (Addr × Obj)} (J : Nat → (Str → Option Value) → List (Addr × Obj) → Prop) (hh : A.handled = none)
    (hr : IsRange s.heap r 0 b 1 t u v) (hsmall : Builtin.Range.small 0 b 1 = true) (hn : Builtin.Range.rangeSize 0 b 1 = (n : Int)) (F : Fr h₀ env.locals s.heap m₀) (N : News h₀ env.locals s.heap news) (hj : J 0 m₀ news)
    (turn : ∀ i v m₁ news₁ I oI h tk s', s' = { s with heap := h, toks := tk } → i < n → (∃ t, v = .int (i : Int) t) → J i m₁ news₁ → (∀ q ∈ news₁, q.1 ≠ I) → Fr h₀ env.locals h (fun y => if y = x then some v else m₁ y) → News h₀ env.locals h ((I, oI) :: news₁) →
      wpAny (model prog w) A (execs body env) (ForEnd h₀ env.locals I oI (J (i + 1)) Q s) E s')
    (done : ∀ m₁ news₁ h tk, J n m₁ news₁ → Fr h₀ env.locals h m₁ → News h₀ env.locals h news₁ → Q .next { s with heap := h, toks := tk }) :
    wpAny (model prog w) A (pyIter (.ref r)) (fun it s₂ => LoopAtV prog w A h₀ env x body Q E it s₂) E s := by
  refine wpAny_pyIter_range hr hsmall ?_
  have up : ∀ (o' : Obj) b o, s.heap.get? b = some o → (s.heap.push o').get? b = some o := fun _ b o e => Heap.get?_push_of_some _ e
  refine for_walk (src := []) J (LCg.range_walks (I := s.heap.objs.size) hh 0 n) ?_ (next_is_new F) (by show IsRangeIter _ _ _ _ _; rw [hn]; simpa using Heap.get?_push_size _ rfl) (F.keeps (up _)) (N.grown (up _)) (fun q hq => Nat.ne_of_lt (Heap.lt_size (N q hq).1)) ?_
    (fun i m nw hJ p hp => nomatch hp) (fun i h st => ⟨_, st⟩) (.head _) hj ?_ ?_
  · intro hm
    exact absurd F.ns.lt ((List.mem_singleton.mp hm) ▸ Nat.lt_irrefl _)
  · intro b hb
    exact .inl (List.mem_singleton.mp hb)
  · intro i v m₁ news₁ oI h tk hi hP hJ hn F₁ N₁
    obtain ⟨t, rfl⟩ := hP
    exact turn i _ m₁ news₁ _ oI h tk _ rfl hi ⟨t, by rw [Int.zero_add]⟩ hJ hn F₁ N₁
  · intro m₁ news₁ h tk hJ F₁ N₁
    exact done m₁ news₁ h tk hJ F₁ N₁
end
section
variable {prog : Program} {w : World} {A : Around} {E : Value → Shared → Prop} {s : Shared} {h₀ : Heap} {L : Addr} {m : Str → Option Value} {news : List (Addr × Obj)}
theorem set_my {D : Addr} {od : Obj} {rest : List (Addr × Obj)} {kvs : List (Int × Value)} {k : Int} {t : Tok} {v : Value} {Q : Unit → Shared → Prop} (F : Fr h₀ L s.heap m) (N : News h₀ L s.heap ((D, od) :: rest)) (hne : ∀ q ∈ rest, q.1 ≠ D) (hd : od.IsDictOf (intKind prog w) kvs) (hz : kvs.length ≤ 1000)
    (hk : ∀ p ∈ kvs, p.1 ≠ k) (h : ∀ h' od', Fr h₀ L h' m → News h₀ L h' ((D, od') :: rest) → od'.IsDictOf (intKind prog w) (kvs ++ [(k, v)]) → Q () { s with heap := h', toks := s.toks + 1 }) :
    wpAny (model prog w) A (setItem (.ref D) (.int k t) v) Q E s := by
  have hm := N _ (List.Mem.head _)
  refine wpAny_setItem_pairs (hsz := by rw [sizeLine_eq]; omega) (intKind_is prog w k t) (Heap.dictOf_iff.mpr ⟨od, hm.1, hd⟩) fun h' hmm hs => ?_
  rw [stored_snoc hk] at hmm
  obtain ⟨o', ho', hd'⟩ := Heap.dictOf_iff.mp hmm
  exact h h' o' (F.change hs hm.2.1 hm.2.2) (news_upd' N hne (fun b o hb e => hs.extBut b o hb e) ho') hd'
theorem dict_pairs_my {l : Addr} {vs : List Value} {kl : Nat} {xs : List (Int × Value)} {Q : Value → Shared → Prop} (hh : A.handled = none) (F : Fr h₀ L s.heap m) (N : News h₀ L s.heap news) (hbig : h₀.NoLimit) (hm : (l, listOf vs.toArray kl) ∈ news) (hT : All2 (TupE news) vs xs) (hn : (xs.map (·.1)).Nodup) (hz : xs.length ≤ 1000)
    (h : ∀ D h' tk od, Fr h₀ L h' m → News h₀ L h' ((D, od) :: news) → (∀ q ∈ news, q.1 < D) → (D == sysModules) = false → od.IsDictOf (intKind prog w) xs → Q (.ref D) { s with heap := h', toks := tk }) :
    wpAny (model prog w) A (call (.type "dict") [.ref l]) Q E s := by
  refine call_dict_pairs hh (N.get hm) ⟨hT.1, fun i v x e1 e2 => ?_⟩ hn hz fun h' tk hd hk => ?_
  · obtain ⟨a, tk, n, e, hm'⟩ := hT.2 i v x e1 e2
    exact ⟨a, tk, n, e, N.get hm'⟩
  · obtain ⟨o', ho', hd'⟩ := Heap.dictOf_iff.mp hd
    exact h _ h' tk o' (F.keeps hk) (news_new (N.grown hk) F (Heap.get?_none_of_le (Nat.le_refl _)) ho') (fun q hq => Heap.lt_size (N q hq).1) (F.notModules (modules_low hbig)) hd'
end
end Og

end PartE1
section PartE2
open PySem PySem.W PySem.Calls PyProof.Rows
namespace Og
section
variable {w : World} {A A₀ : Around} {base h₀ : Heap} {env : Env} {outer : List Env} {L : Addr} {m : Str → Option Value} {news : List (Addr × Obj)} {s : Shared} {d u : Nat} {mean : ExcName → Option Value} {mg mb : Str → Option Value}
  {Q : Value → Shared → Prop} {E : Value → Shared → Prop}
  {name qual : Str} {params : Arguments} {body : List Stmt} {scope : Scope} {dV kV doc pm cdv ct oc : Value} {an od : Option Addr} {osl : Array (Option Value)} {f : Addr} {pos : List Value} {kw : List (Str × Value)} {binds : List (Str × Value)}

theorem enterCellsC {R : Result → Shared → Prop} (B : Below A₀ base outer h₀) (F : Fr h₀ L s.heap m) (X : (hd.heap_39 w.params).In h₀) (N : News h₀ L s.heap news) (T : TP mean mg mb h₀) (hA : A.frames = some (env :: outer)) (hf : env.frame = some L) (hke : env.scope.kind = .function)
    (ho : (hd.heap_39 w.params).lookup f = some ⟨oc, od, .func (fnOf name qual params body scope dV kV doc pm an cdv ct), osl⟩) (hcd : codeIn (hd.heap_39 w.params) cdv qual = true) (hroom : A.depth < recursionLimit)
    (hbind : BindsTo s (fnOf name qual params body scope dV kV doc pm an cdv ct) ⟨pos, kw⟩ binds) (hkind : (binds.all fun y => scope.names.lookup y.1 == some .local || scope.names.lookup y.1 == some .cell) = true)
    (hnd : ((cellsFrom 0 scope.names []).map (·.1)).Nodup)
    (h : ∀ g L' h₁ tk cells, g = hideAll s.heap (news.map (·.1)) → Fr g L' h₁ (bindL (envOfC qual scope L' f cdv).kindOf binds fun _ => none) → News g L' h₁ (cells ++ news) → CellsAre (bindC (envOfC qual scope L' f cdv).kindOf binds fun _ => none) (cellsFrom (L' + 1) scope.names []) cells → (∀ p ∈ cells, s.heap.get? p.1 = none) →
      Below A base (env :: outer) g → (hd.heap_39 w.params).In g → TP mean mg mb g → (∀ p ∈ news, p.1 < L') → Fr h₀ L g m →
      wpAny (model PR w) (A.deeper (envOfC qual scope L' f cdv)) (execs body (envOfC qual scope L' f cdv))
        (fun fl s' => R (.ok (.ret (match fl with | .ret v => v | _ => .none))) s') (fun _ _ => False)
        { s with heap := h₁, toks := tk })
    (hco : scope.isCoroutine = false) (hgen : scope.isGenerator = false) (hk : scope.kind = .function) : codeAny (model PR w) A (.call (.ref f) ⟨pos, kw⟩) R s := by
  have X' := X.keeps F.keep
  obtain ⟨FG, BG, st, lv⟩ := groundX (A := A) (R := R) B F N hA hf hke
  refine codeAny_call_function hroom (X' _ _ ho) rfl hco hgen rfl (codeRec_of X' hcd) (hbind _ _ _ _ ?_)
  refine wpAny_newFunctionEnv_cells hk (kindsX hkind _) fun env' he s' x => ?_
  subst he
  refine ⟨(T.nolimit.keeps F.keep).keeps x.toInCall.keep, codeAny_func ?_⟩
  obtain ⟨h₁, tk, rfl, _⟩ := x.done
  have hk₁ := x.toInCall.keep
  obtain ⟨cells, NC, Y⟩ := Cl.news (h₀ := s.heap) (Nat.le_refl _) fun n c hm => ⟨x.cell n c (lookup_of_mem_nodup (cellsFrom_names scope.names 0 (s.heap.objs.size + 1) [] [] rfl ▸ hnd) hm), x.above n c hm⟩
  refine wpAny_mono (h _ s.heap.objs.size h₁ tk cells rfl ⟨x.toInCall.ns, fun b o e => hk₁ b o (of_hideAll _ e), Nat.le_of_eq (hideAll_size _ _)⟩ (fun p hp => ?_) Y (fun p hp => (NC p hp).2.2) BG (X.keeps st) (T.keeps st) (fun p hp => Heap.lt_size (N p hp).1) FG) (fun fl s' hl => hl) fun _ _ y => y.elim
  rcases List.mem_append.mp hp with hp | hp
  · refine ⟨(NC p hp).1, (NC p hp).2.1, ?_⟩
    cases q : (hideAll s.heap (news.map (·.1))).get? p.1 with
    | none => rfl
    | some o => have := of_hideAll _ q; rw [(NC p hp).2.2] at this; cases this
  · exact ⟨hk₁ _ _ (N p hp).1, Nat.ne_of_lt (Heap.lt_size (N p hp).1), hideAll_none _ (List.mem_map_of_mem hp)⟩

theorem enterCells (B : Below A₀ base outer h₀) (F : Fr h₀ L s.heap m) (X : (hd.heap_39 w.params).In h₀) (N : News h₀ L s.heap news) (T : TP mean mg mb h₀) (hf : env.frame = some L) (hke : env.scope.kind = .function)
    (ho : (hd.heap_39 w.params).lookup f = some ⟨oc, od, .func (fnOf name qual params body scope dV kV doc pm an cdv ct), osl⟩) (hcd : codeIn (hd.heap_39 w.params) cdv qual = true) (hroom : d < recursionLimit)
    (hbind : BindsTo s (fnOf name qual params body scope dV kV doc pm an cdv ct) ⟨pos, kw⟩ binds) (hkind : (binds.all fun y => scope.names.lookup y.1 == some .local || scope.names.lookup y.1 == some .cell) = true)
    (hnd : ((cellsFrom 0 scope.names []).map (·.1)).Nodup)
    (h : ∀ g L' h₁ tk cells, g = hideAll s.heap (news.map (·.1)) → Fr g L' h₁ (bindL (envOfC qual scope L' f cdv).kindOf binds fun _ => none) → News g L' h₁ (cells ++ news) → CellsAre (bindC (envOfC qual scope L' f cdv).kindOf binds fun _ => none) (cellsFrom (L' + 1) scope.names []) cells → (∀ p ∈ cells, s.heap.get? p.1 = none) →
      Below (AX d u env outer) base (env :: outer) g → (hd.heap_39 w.params).In g → TP mean mg mb g → (∀ p ∈ news, p.1 < L') → Fr h₀ L g m →
      wpAny (model PR w) (AX (d + 1) (u + 3) (envOfC qual scope L' f cdv) (env :: outer)) (execs body (envOfC qual scope L' f cdv))
        (fun fl s' => Q (match fl with | .ret v => v | _ => .none) s') (fun _ _ => False)
        { s with heap := h₁, toks := tk })
    (hco : scope.isCoroutine = false) (hgen : scope.isGenerator = false) (hk : scope.kind = .function) : wpAny (model PR w) (AX d u env outer) (call (.ref f) pos kw) Q E s :=
  wpAny_call (enterCellsC (A := AX d u env outer) (R := fun r s' => match r with | .ok (.ret v) => Q v s' | .ok _ => False | .error e => E e s') B F X N T rfl hf hke ho hcd hroom hbind hkind hnd h hco hgen hk)
end
end Og

end PartE2
section PartF13
open PySem PySem.W PySem.Calls PyProof.Rows
namespace Og
theorem intsAre_take {vs : List Value} {ns : List Int} (h : IntsAre vs ns) : ∀ k, IntsAre (vs.take k) (ns.take k) := by
  induction h with
  | nil => intro k; simp; exact .nil
  | cons n t _ ih =>
    intro k
    cases k with
    | zero => exact .nil
    | succ k => exact .cons n t (ih k)
theorem fr1_ {g h : Heap} {L : Addr} {m : Str → Option Value} {x1 : Str} {v1 : Value} (F : Fr g L h m) (h1 : m x1 = some v1) : Fr g L h (fun y => if y = x1 then some v1 else m y) := by
  have e : (fun y => if y = x1 then some v1 else m y) = m := by
    funext y
    by_cases e1 : y = x1
    · rw [if_pos e1, e1, h1]
    rw [if_neg e1]
  rw [e]; exact F
theorem fr1u_ {g h : Heap} {L : Addr} {m : Str → Option Value} {x x1 : Str} {v v1 : Value} (F : Fr g L h (fun y => if y = x then some v else m y)) (h1 : m x1 = some v1) : Fr g L h (fun y => if y = x then some v else if y = x1 then some v1 else m y) := by
  have e : (fun y => if y = x then some v else if y = x1 then some v1 else m y) = fun y => if y = x then some v else m y := by
    funext y
    by_cases e0 : y = x
    · rw [if_pos e0, if_pos e0]
    rw [if_neg e0, if_neg e0]
    by_cases e1 : y = x1
    · rw [if_pos e1, e1, h1]
    rw [if_neg e1]
  rw [e]; exact F
theorem fr2_ {g h : Heap} {L : Addr} {m : Str → Option Value} {x1 x2 : Str} {v1 v2 : Value} (F : Fr g L h m) (h1 : m x1 = some v1) (h2 : m x2 = some v2) : Fr g L h (fun y => if y = x1 then some v1 else if y = x2 then some v2 else m y) := by
  have e : (fun y => if y = x1 then some v1 else if y = x2 then some v2 else m y) = m := by
    funext y
    by_cases e1 : y = x1
    · rw [if_pos e1, e1, h1]
    rw [if_neg e1]
    by_cases e2 : y = x2
    · rw [if_pos e2, e2, h2]
    rw [if_neg e2]
  rw [e]; exact F
theorem fr2u_ {g h : Heap} {L : Addr} {m : Str → Option Value} {x x1 x2 : Str} {v v1 v2 : Value} (F : Fr g L h (fun y => if y = x then some v else m y)) (h1 : m x1 = some v1) (h2 : m x2 = some v2) : Fr g L h (fun y => if y = x then some v else if y = x1 then some v1 else if y = x2 then some v2 else m y) := by
  have e : (fun y => if y = x then some v else if y = x1 then some v1 else if y = x2 then some v2 else m y) = fun y => if y = x then some v else m y := by
    funext y
    by_cases e0 : y = x
    · rw [if_pos e0, if_pos e0]
    rw [if_neg e0, if_neg e0]
    by_cases e1 : y = x1
    · rw [if_pos e1, e1, h1]
    rw [if_neg e1]
    by_cases e2 : y = x2
    · rw [if_pos e2, e2, h2]
    rw [if_neg e2]
  rw [e]; exact F
theorem fr3_ {g h : Heap} {L : Addr} {m : Str → Option Value} {x1 x2 x3 : Str} {v1 v2 v3 : Value} (F : Fr g L h m) (h1 : m x1 = some v1) (h2 : m x2 = some v2) (h3 : m x3 = some v3) : Fr g L h (fun y => if y = x1 then some v1 else if y = x2 then some v2 else if y = x3 then some v3 else m y) := by
  have e : (fun y => if y = x1 then some v1 else if y = x2 then some v2 else if y = x3 then some v3 else m y) = m := by
    funext y
    by_cases e1 : y = x1
    · rw [if_pos e1, e1, h1]
    rw [if_neg e1]
    by_cases e2 : y = x2
    · rw [if_pos e2, e2, h2]
    rw [if_neg e2]
    by_cases e3 : y = x3
    · rw [if_pos e3, e3, h3]
    rw [if_neg e3]
  rw [e]; exact F
theorem fr3u_ {g h : Heap} {L : Addr} {m : Str → Option Value} {x x1 x2 x3 : Str} {v v1 v2 v3 : Value} (F : Fr g L h (fun y => if y = x then some v else m y)) (h1 : m x1 = some v1) (h2 : m x2 = some v2) (h3 : m x3 = some v3) : Fr g L h (fun y => if y = x then some v else if y = x1 then some v1 else if y = x2 then some v2 else if y = x3 then some v3 else m y) := by
  have e : (fun y => if y = x then some v else if y = x1 then some v1 else if y = x2 then some v2 else if y = x3 then some v3 else m y) = fun y => if y = x then some v else m y := by
    funext y
    by_cases e0 : y = x
    · rw [if_pos e0, if_pos e0]
    rw [if_neg e0, if_neg e0]
    by_cases e1 : y = x1
    · rw [if_pos e1, e1, h1]
    rw [if_neg e1]
    by_cases e2 : y = x2
    · rw [if_pos e2, e2, h2]
    rw [if_neg e2]
    by_cases e3 : y = x3
    · rw [if_pos e3, e3, h3]
    rw [if_neg e3]
  rw [e]; exact F
theorem fr4_ {g h : Heap} {L : Addr} {m : Str → Option Value} {x1 x2 x3 x4 : Str} {v1 v2 v3 v4 : Value} (F : Fr g L h m) (h1 : m x1 = some v1) (h2 : m x2 = some v2) (h3 : m x3 = some v3) (h4 : m x4 = some v4) : Fr g L h (fun y => if y = x1 then some v1 else if y = x2 then some v2 else if y = x3 then some v3 else if y = x4 then some v4 else m y) := by
  have e : (fun y => if y = x1 then some v1 else if y = x2 then some v2 else if y = x3 then some v3 else if y = x4 then some v4 else m y) = m := by
    funext y
    by_cases e1 : y = x1
    · rw [if_pos e1, e1, h1]
    rw [if_neg e1]
    by_cases e2 : y = x2
    · rw [if_pos e2, e2, h2]
    rw [if_neg e2]
    by_cases e3 : y = x3
    · rw [if_pos e3, e3, h3]
    rw [if_neg e3]
    by_cases e4 : y = x4
    · rw [if_pos e4, e4, h4]
    rw [if_neg e4]
  rw [e]; exact F
theorem fr4u_ {g h : Heap} {L : Addr} {m : Str → Option Value} {x x1 x2 x3 x4 : Str} {v v1 v2 v3 v4 : Value} (F : Fr g L h (fun y => if y = x then some v else m y)) (h1 : m x1 = some v1) (h2 : m x2 = some v2) (h3 : m x3 = some v3) (h4 : m x4 = some v4) : Fr g L h (fun y => if y = x then some v else if y = x1 then some v1 else if y = x2 then some v2 else if y = x3 then some v3 else if y = x4 then some v4 else m y) := by
  have e : (fun y => if y = x then some v else if y = x1 then some v1 else if y = x2 then some v2 else if y = x3 then some v3 else if y = x4 then some v4 else m y) = fun y => if y = x then some v else m y := by
    funext y
    by_cases e0 : y = x
    · rw [if_pos e0, if_pos e0]
    rw [if_neg e0, if_neg e0]
    by_cases e1 : y = x1
    · rw [if_pos e1, e1, h1]
    rw [if_neg e1]
    by_cases e2 : y = x2
    · rw [if_pos e2, e2, h2]
    rw [if_neg e2]
    by_cases e3 : y = x3
    · rw [if_pos e3, e3, h3]
    rw [if_neg e3]
    by_cases e4 : y = x4
    · rw [if_pos e4, e4, h4]
    rw [if_neg e4]
  rw [e]; exact F
theorem fr5_ {g h : Heap} {L : Addr} {m : Str → Option Value} {x1 x2 x3 x4 x5 : Str} {v1 v2 v3 v4 v5 : Value} (F : Fr g L h m) (h1 : m x1 = some v1) (h2 : m x2 = some v2) (h3 : m x3 = some v3) (h4 : m x4 = some v4) (h5 : m x5 = some v5) : Fr g L h (fun y => if y = x1 then some v1 else if y = x2 then some v2 else if y = x3 then some v3 else if y = x4 then some v4 else if y = x5 then some v5 else m y) := by
  have e : (fun y => if y = x1 then some v1 else if y = x2 then some v2 else if y = x3 then some v3 else if y = x4 then some v4 else if y = x5 then some v5 else m y) = m := by
    funext y
    by_cases e1 : y = x1
    · rw [if_pos e1, e1, h1]
    rw [if_neg e1]
    by_cases e2 : y = x2
    · rw [if_pos e2, e2, h2]
    rw [if_neg e2]
    by_cases e3 : y = x3
    · rw [if_pos e3, e3, h3]
    rw [if_neg e3]
    by_cases e4 : y = x4
    · rw [if_pos e4, e4, h4]
    rw [if_neg e4]
    by_cases e5 : y = x5
    · rw [if_pos e5, e5, h5]
    rw [if_neg e5]
  rw [e]; exact F
theorem fr5u_ {g h : Heap} {L : Addr} {m : Str → Option Value} {x x1 x2 x3 x4 x5 : Str} {v v1 v2 v3 v4 v5 : Value} (F : Fr g L h (fun y => if y = x then some v else m y)) (h1 : m x1 = some v1) (h2 : m x2 = some v2) (h3 : m x3 = some v3) (h4 : m x4 = some v4) (h5 : m x5 = some v5) : Fr g L h (fun y => if y = x then some v else if y = x1 then some v1 else if y = x2 then some v2 else if y = x3 then some v3 else if y = x4 then some v4 else if y = x5 then some v5 else m y) := by
  have e : (fun y => if y = x then some v else if y = x1 then some v1 else if y = x2 then some v2 else if y = x3 then some v3 else if y = x4 then some v4 else if y = x5 then some v5 else m y) = fun y => if y = x then some v else m y := by
    funext y
    by_cases e0 : y = x
    · rw [if_pos e0, if_pos e0]
    rw [if_neg e0, if_neg e0]
    by_cases e1 : y = x1
    · rw [if_pos e1, e1, h1]
    rw [if_neg e1]
    by_cases e2 : y = x2
    · rw [if_pos e2, e2, h2]
    rw [if_neg e2]
    by_cases e3 : y = x3
    · rw [if_pos e3, e3, h3]
    rw [if_neg e3]
    by_cases e4 : y = x4
    · rw [if_pos e4, e4, h4]
    rw [if_neg e4]
    by_cases e5 : y = x5
    · rw [if_pos e5, e5, h5]
    rw [if_neg e5]
  rw [e]; exact F
def JPot (script : Value) (A : Addr) (oA : Obj) (D : Addr) (oD : Obj) (_ : Nat) (m : Str → Option Value) (nw : List (Addr × Obj)) : Prop :=
  ∃ (st : Int) (t : Tok), nw = [(A, oA), (D, oD)] ∧ m (Str.ofString "script") = some script ∧ m (Str.ofString "cells") = some (.ref A) ∧ m (Str.ofString "state") = some (.int st t) ∧ 0 ≤ st ∧ st < 2147483647
section
variable {w : World} {A : Around} {h₀ : Heap} {L : Addr} {m : Str → Option Value} {s : Shared} {Q : Value → Shared → Prop} {E : Value → Shared → Prop} {news rest : List (Addr × Obj)}
local macro_rules | `(tactic| walk_at "zzz0") => `(tactic| skip)
local macro_rules | `(tactic| walk_at "zzz1") => `(tactic| skip)
local macro_rules | `(tactic| walk_at "zzz2") => `(tactic| skip)
local macro_rules | `(tactic| walk_at "zzz3") => `(tactic| skip)
local macro_rules | `(tactic| walk_at "zzz4") => `(tactic| skip)
local macro_rules | `(tactic| walk_at "zzz5") => `(tactic| skip)
local macro_rules | `(tactic| walk_at "zzz6") => `(tactic| skip)
local macro_rules | `(tactic| walk_at "zzz7") => `(tactic| skip)
local macro_rules | `(tactic| walk_at "zzz8") => `(tactic| skip)
local macro_rules | `(tactic| walk_at "zzz9") => `(tactic| skip)
local macro_rules | `(tactic| walk_at "zzz10") => `(tactic| skip)
local macro_rules | `(tactic| walk_at "zzz11") => `(tactic| skip)
local macro_rules | `(tactic| walk_at "zzz12") => `(tactic| skip)
local macro_rules | `(tactic| walk_at "zzz13") => `(tactic| skip)
local macro_rules | `(tactic| walk_at "zzz14") => `(tactic| skip)
local macro_rules | `(tactic| walk_at "zzz15") => `(tactic| skip)
local macro_rules | `(tactic| walk_at "exec Assign cons ListComp") => `(tactic| k_dflt (refine LCg.Assign_ListComp_U (F₀ := by assumption) (by rfl) (by with_unfolding_all rfl) (by with_unfolding_all rfl) (by decide) (by rfl) (by decide) (by rfl) (by rfl) (by rfl) ?_))
local macro_rules | `(tactic| walk_at "CompSrc") => `(tactic| (refine stop ?_))
local macro_rules | `(tactic| walk_at "pyIter ref") => `(tactic| (refine stop ?_))
local macro_rules | `(tactic| walk_at "binaryOp Pow int int") => `(tactic| (refine stop ?_))
set_option maxHeartbeats 8000000 in
theorem pot_spec {l : Addr} {vs : List Value} {ns : List Int} (C : Cx w 500 250 A h₀ L m s.heap) (hls : s.heap.IsList l vs.toArray) (hI : IntsAre vs ns) (hz : vs.length ≤ 63)
    (h : ∀ pot cells op oc h' tk, s.heap.get? pot = none → s.heap.get? cells = none → pot ≠ cells → h'.get? pot = some op → h'.get? cells = some oc → PotO op cells 0 → CellsO oc → Off [] s.heap h' → Q (.ref pot) { s with heap := h', toks := tk }) :
    wpAny (model PR w) A (call (.ref 206) [.ref l] []) Q E s := by
  obtain ⟨env, outer, A₀, base, mean, mg, mb, hh, hA, hd', hu', hf, hke, B, F, X, T⟩ := C
  refine raise ?_ hh hA hd' hu'
  clear hh hA hd' hu'
  (refine' enter (by assumption) (by assumption) (by assumption) News.nil (by assumption) (by assumption) (by assumption) ?k6 ?k7 ?k8 ?k9 ?kB ?_ ?c2 ?c3 ?c4 ?c5; (case k6 => k_is); (case k7 => k_is); (case k8 => decide); (case k9 => exact BindsTo.of_eq rfl); (case kB => exact locs rfl); (case c2 => exact rfl); (case c3 => exact rfl); (case c4 => exact rfl); (case c5 => decide); intro g L' h₁ hg F' N' B' X' T' hl FG')
  obtain ⟨ol, hol, hls⟩ := hls
  replace hol := g_get hg hol
  k_steps

  rename News g L' _ _ => NZ
  refine' kmk_slice (by assumption) NZ ⟨_, Fr.keep (by assumption) _ _ hol, hls⟩ IsPart.none (IsPart.int _ _) (fun D h2 F2 N2 l1 => ?_) (by with_unfolding_all rfl) (fun _ => by with_unfolding_all rfl) (by rw [List.size_toArray, sizeLine_eq]; omega)
  rw [kms_pick_eq] at N2
  have e40 : kms_pick vs.toArray.toList none (some 40) = vs.take 40 := by
    unfold kms_pick kms_lo kms_hi
    dsimp only
    simp
  rw [e40] at N2
  have hI2 := intsAre_take hI 40
  have hz2 : (vs.take 40).length ≤ 40 := by rw [List.length_take]; omega
  generalize vs.take 40 = ws at *
  generalize ns.take 40 = ms at *
  clear NZ
  k_sweep
  k_steps
  rename News g L' _ _ => NZ
  refine go (LCg.CompSrc.ledger rfl (by assumption) NZ (.head _) (by rw [List.size_toArray, sizeLine_eq]; omega) fun g' => ?_)
  refine comp_inv (fun i ys nw => nw = [(D, W.listOf ws.toArray 0)] ∧ IntsAre ys (ms.take i)) ?_ ⟨rfl, .nil⟩ ?_
  · rintro i v I oI C oC D2 m₂ ys nw h2 tk2 E' hi hvi ⟨rfl, hys⟩ hoC hm F2 N2 o1 o2 o3 n1 n2 n3
    obtain ⟨c, tc, hc, rfl⟩ := intsAre_get hI2 (by simpa using hvi)
    clear NZ
    k_steps
    rename News g L' _ _ => NZ
    refine compEnd_mk (by assumption) NZ o1 o2 o3 (Or.inr ⟨_, .head _, rfl, _, rfl⟩) ⟨rfl, ?_⟩
    rw [List.take_add_one, hc]
    exact intsAre_snoc hys _ _
  rintro ys nw ⟨rfl, hys⟩
  rw [List.size_toArray, hI2.length, List.take_length] at hys
  intro D2 h3 tk3 F3 N3 o3
  have o4 := off1_mem o3 _ (.head _)
  have hyl : ys.length ≤ 40 := by rw [hys.length, ← hI2.length]; exact hz2
  clear NZ
  k_sweep
  k_steps
  rename News g L' _ _ => NZ
  refine' go (iter_list_my (JPot (.ref l) D2 _ D (W.listOf ws.toArray 0)) rfl (by assumption) NZ ?qsrc ⟨1, _, rfl, rfl, rfl, rfl, by decide, by decide⟩ ?qturn ?qdone)
  case qsrc =>
    rintro i m nw ⟨st, t, rfl, _⟩
    exact .head _
  case qturn =>
    rintro i v m₁ news₁ I oI h2 tk2 s2 rfl hvi ⟨st, t, rfl, e1, e2, e3, hs0, hs1⟩ hnI F2 N3
    obtain ⟨c, tc, hc, rfl⟩ := intsAre_get hys hvi
    replace F2 := fr3u_ F2 e3 e2 e1
    clear NZ
    k_sweep
    k_steps
    rename News g L' _ _ => NZ
    exact forEnd_next (fr_for NZ (by assumption)) NZ hnI ⟨_, _, rfl, rfl, rfl, rfl, (fmod_rng _ (by decide)).1, (fmod_rng _ (by decide)).2⟩
  case qdone =>
    rintro m₁ news₁ h2 tk2 ⟨st, t, rfl, e1, e2, e3, hs0, hs1⟩ F2 N3
    replace F2 := fr3_ F2 e3 e2 e1
    clear NZ
    k_sweep
    k_steps
    rename News g L' _ _ => NZ
    refine go (LCg.CompSrc.ledger rfl (by assumption) NZ (.head _) (by rw [List.size_toArray, sizeLine_eq]; omega) fun g' => ?_)
    refine comp_inv (fun i us nw => nw = [(D2, LCg.lst ys), (D, W.listOf ws.toArray 0)] ∧ ∃ ks, us.length = i ∧ IntsAre us ks) ?_ ⟨rfl, [], rfl, .nil⟩ ?_
    · rintro i v I oI C oC D3 m₂ us nw h2 tk2 E' hi hvi ⟨rfl, ks, hul, hus⟩ hoC hm F2 N2 o1 o2 o3 n1 n2 n3
      obtain ⟨c, tc, hc, rfl⟩ := intsAre_get hys (by simpa using hvi)
      clear NZ
      k_steps
      refine go (pow_int_small (by decide) (by decide) (by decide) ?_)
      k_steps
      rename News g L' _ _ => NZ
      refine compEnd_mk (by assumption) NZ o1 o2 o3 (Or.inr ⟨_, .head _, rfl, _, rfl⟩) ⟨rfl, _, by simp [hul], intsAre_snoc hus _ _⟩
    rintro us nw ⟨rfl, ks, hul, hus⟩
    intro D3 h3 tk3 F3 N3 o3
    have o5 := off1_mem o3 _ (.head _)
    clear NZ
    k_sweep
    k_steps
    rename News g L' _ _ => NZ
    rename D3 < _ ∧ _ => hlt
    have hul2 : us.length ≤ 40 := by rw [hul, List.size_toArray]; exact hyl
    exact h _ D3 _ _ _ _ (fresh_g hg NZ (.head _)) (fresh_g hg NZ (.tail _ (.head _))) (Nat.ne_of_gt hlt.1) (NZ.get (.head _)) (NZ.get (.tail _ (.head _))) ⟨st, _, _, 0, rfl, hs0, hs1⟩ ⟨us, ks, _, rfl, hus, hul2⟩ (off_g hg (by assumption))
end
end Og

end PartF13
section PartF14
open PySem PySem.W PySem.Calls PyProof.Rows
namespace Og
theorem ne_list {l l' : List (Addr × Obj)} {I : Addr} (h : ∀ q ∈ l, q.1 ≠ I) (e : l'.map (·.1) = l.map (·.1)) : ∀ q ∈ l', q.1 ≠ I := by
  intro q hq
  have : q.1 ∈ l'.map (·.1) := List.mem_map_of_mem hq
  rw [e] at this
  obtain ⟨q', hq', e'⟩ := List.mem_map.mp this
  rw [← e']; exact h q' hq'
theorem valueAt_of_mem {kvs : List (Int × Value)} {c : Int} (h : c ∈ kvs.map (·.1)) : ∃ v, valueAt kvs c = some v ∧ (c, v) ∈ kvs := by
  unfold valueAt
  obtain ⟨p, hp, rfl⟩ := List.mem_map.mp h
  cases e : kvs.find? (fun kv => decide (kv.1 = p.1)) with
  | none =>
    have := List.find?_eq_none.mp e p hp
    simp at this
  | some q =>
    have h1 := List.find?_some e
    have h2 := List.mem_of_find?_eq_some e
    simp only [decide_eq_true_eq] at h1
    exact ⟨q.2, rfl, by rw [← h1]; exact h2⟩
theorem intsAre_rev {vs : List Value} {ns : List Int} (h : IntsAre vs ns) : IntsAre vs.reverse ns.reverse := by
  induction h with
  | nil => exact .nil
  | cons n t _ ih => simp only [List.reverse_cons]; exact intsAre_snoc ih n t
theorem map_fst_self {f : Int → Value} : ∀ cs : List Int, (cs.map fun c => (c, f c)).map (·.1) = cs
  | [] => rfl
  | c :: cs => by simp only [List.map_cons, map_fst_self cs]
theorem all2_kN {kvs : List (Int × Value)} {zs : List Item} (h : ∀ z ∈ zs, ∃ t, valueAt kvs z.c = some (.int z.n t)) : All2 (fun (kv : Int × Value) (z : Item) => kv.1 = z.c ∧ ∃ t, kv.2 = .int z.n t) ((zs.map (·.c)).map fun c => (c, (valueAt kvs c).getD .none)) zs := by
  refine ⟨by simp, fun i a b e1 e2 => ?_⟩
  simp only [List.getElem?_map, e2, Option.map_some, Option.some.injEq] at e1
  subst e1
  obtain ⟨t, ht⟩ := h b (List.mem_of_getElem? e2)
  exact ⟨rfl, t, by simp only [ht, Option.getD_some]⟩
theorem third_obj {g h : Heap} {L a1 a2 a3 : Addr} {o1 o2 o3 : Obj} {l : List (Addr × Obj)} (_ : News g L h ((a1, o1) :: (a2, o2) :: (a3, o3) :: l)) : ∃ o', o' = o3 := ⟨o3, rfl⟩
def KeysBelow (kvs : List (Int × Value)) (code : Int) : Prop := ∀ p ∈ kvs, p.1 < code ∧ ∃ n t, p.2 = Value.int n t
theorem KeysBelow.snoc {kvs : List (Int × Value)} {code n : Int} {t : Tok} (h : KeysBelow kvs code) : KeysBelow (kvs ++ [(code, .int n t)]) (code + 1) := by
  intro p hp
  rcases List.mem_append.mp hp with hp | hp
  · exact ⟨by have := (h p hp).1; omega, (h p hp).2⟩
  · rw [List.mem_singleton.mp hp]; exact ⟨Int.lt_succ code, _, _, rfl⟩
theorem KeysBelow.up {kvs : List (Int × Value)} {code c : Int} (h : KeysBelow kvs code) (hc : code ≤ c) : KeysBelow kvs c := fun p hp => ⟨Int.lt_of_lt_of_le (h p hp).1 hc, (h p hp).2⟩
def JOut (w : World) (pot cells d cf cp : Addr) (ocf ocp : Obj) (i : Nat) (m : Str → Option Value) (nw : List (Addr × Obj)) : Prop :=
  ∃ (code pl : Int) (tc : Tok) (kvs : List (Int × Value)) (op oc od : Obj), nw = [(pot, op), (cells, oc), (d, od), (cf, ocf), (cp, ocp)] ∧ m (Str.ofString "code") = some (.int code tc) ∧
    PotO op cells pl ∧ 0 ≤ pl ∧ pl ≤ 2 + 4 * i ∧ CellsO oc ∧ od.IsDictOf (intKind PR w) kvs ∧ kvs.length ≤ 6 * i ∧ KeysBelow kvs code
def JIn (w : World) (pot cells d cf cp I : Addr) (ocf ocp op oc oI : Obj) (num : Int) (tn : Tok) (base : Nat) (i : Nat) (m : Str → Option Value) (nw : List (Addr × Obj)) : Prop :=
  ∃ (code : Int) (tc : Tok) (kvs : List (Int × Value)) (od : Obj), nw = [(pot, op), (cells, oc), (d, od), (cf, ocf), (cp, ocp), (I, oI)] ∧ m (Str.ofString "code") = some (.int code tc) ∧ m (Str.ofString "number") = some (.int num tn) ∧
    od.IsDictOf (intKind PR w) kvs ∧ kvs.length ≤ base + i ∧ KeysBelow kvs code

section
local macro_rules | `(tactic| walk_at "zzz0") => `(tactic| skip)
local macro_rules | `(tactic| walk_at "zzz1") => `(tactic| skip)
local macro_rules | `(tactic| walk_at "zzz2") => `(tactic| skip)
local macro_rules | `(tactic| walk_at "zzz3") => `(tactic| skip)
local macro_rules | `(tactic| walk_at "zzz4") => `(tactic| skip)
local macro_rules | `(tactic| walk_at "zzz5") => `(tactic| skip)
local macro_rules | `(tactic| walk_at "zzz6") => `(tactic| skip)
local macro_rules | `(tactic| walk_at "zzz7") => `(tactic| skip)
local macro_rules | `(tactic| walk_at "zzz8") => `(tactic| skip)
local macro_rules | `(tactic| walk_at "zzz9") => `(tactic| skip)
local macro_rules | `(tactic| walk_at "zzz10") => `(tactic| skip)
local macro_rules | `(tactic| walk_at "zzz11") => `(tactic| skip)
local macro_rules | `(tactic| walk_at "zzz12") => `(tactic| skip)
local macro_rules | `(tactic| walk_at "call ref") => `(tactic| (refine stop ?_))
local macro_rules | `(tactic| walk_at "pyIter ref") => `(tactic| ((with_reducible show wpAny _ _ (pyIter (Value.ref _)) (fun it s₂ => LoopAtV _ _ _ _ _ _ _ _ _ it s₂) _ _); refine stop ?_))
local macro_rules | `(tactic| walk_at "setItem ref int") => `(tactic| (refine stop ?_))
local macro_rules | `(tactic| walk_at "call builtin:sorted") => `(tactic| (refine stop ?_))
local macro_rules | `(tactic| walk_at "call type:dict") => `(tactic| (refine stop ?_))
local macro_rules | `(tactic| walk_at "subscriptTail Name Slice ref ref") => `(tactic| (refine stop ?_))
local macro_rules | `(tactic| walk_at "subscriptTail Name Name ref int") => `(tactic| (refine stop ?_))
local macro_rules | `(tactic| walk_at "CompSrc") => `(tactic| (refine stop ?_))
variable {w : World} {A : Around} {h₀ : Heap} {L : Addr} {m : Str → Option Value} {s : Shared} {Q : Value → Shared → Prop} {E : Value → Shared → Prop} {news rest : List (Addr × Obj)}
set_option maxHeartbeats 16000000 in
theorem widths_spec {pot cells : Addr} {op oc : Obj} (C : Cx w 500 200 A h₀ L m s.heap) (N : News h₀ L s.heap [(pot, op), (cells, oc)]) (hne : pot ≠ cells) (hO : PotO op cells 0) (hC : CellsO oc)
    (h : ∀ (r nd wd : Addr) h' tk op' oc' kr on ow kN (zs : List Item) ext pl', s.heap.get? r = none → h'.get? r = some ({ cls := .type "tuple", data := .seq #[.ref nd, .ref wd] kr } : Obj) → 0 ≤ pl' → pl' ≤ 100 → PotO op' cells pl' → CellsO oc' → Off [pot, cells] s.heap h' → h'.get? pot = some op' → h'.get? cells = some oc' →
      NewOf s.heap h' ((nd, on) :: (wd, ow) :: ext) → (nd == sysModules) = false → (wd == sysModules) = false → on.IsDictOf (intKind PR w) kN → ow.IsDictOf (intKind PR w) (zs.map fun z => (z.c, z.v)) → All2 (fun kv z => kv.1 = z.c ∧ ∃ t, kv.2 = .int z.n t) kN zs →
      (∀ z ∈ zs, WVL ext z.v z.n) → (zs.map (·.c)).Nodup → zs.length < 64 → Q (.ref r) { s with heap := h', toks := tk }) :
    wpAny (model PR w) A (call (.ref 225) [.ref pot] []) Q E s := by
  obtain ⟨env, outer, A₀, base, mean, mg, mb, hh, hA, hd', hu', hf, hke, B, F, X, T⟩ := C
  refine raise ?_ hh hA hd' hu'
  clear hh hA hd' hu'
  replace hne := neN hne
  have hne2 := neN (Ne.symm hne)
  (refine' enterCells (by assumption) (by assumption) (by assumption) (by assumption) (by assumption) (by assumption) (by assumption) ?k6 ?k7 ?k8 ?k9 ?kB ?kD ?_ ?c2 ?c3 ?c4; (case k6 => k_is); (case k7 => k_is); (case k8 => decide); (case k9 => exact BindsTo.of_eq rfl); (case kB => exact rfl); (case kD => decide +kernel); (case c2 => exact rfl); (case c3 => exact rfl); (case c4 => exact rfl); intro g L' h₁ tk' cells' hg F' N' Y' hcn B' X' T' hl FG'; k_cells Y'; (try simp only [List.cons_append, List.nil_append] at N'))
  k_lt hl
  k_steps
  rename News g L' _ _ => NZ
  rename _ ∧ _ ∧ _ ∧ _ => hlt
  obtain ⟨d, rfl⟩ := head_of NZ
  have hdp : d ≠ pot := Nat.ne_of_gt hlt.2.2.1
  have hdc : d ≠ cells := Nat.ne_of_gt hlt.2.2.2
  have hfp : L' + 1 + 1 ≠ pot := Nat.ne_of_gt (Nat.lt_succ_of_lt (Nat.lt_succ_of_lt hl.1))
  have hfc : L' + 1 + 1 ≠ cells := Nat.ne_of_gt (Nat.lt_succ_of_lt (Nat.lt_succ_of_lt hl.2))
  have hpp : L' + 1 ≠ pot := Nat.ne_of_gt (Nat.lt_succ_of_lt hl.1)
  have hpc : L' + 1 ≠ cells := Nat.ne_of_gt (Nat.lt_succ_of_lt hl.2)
  have hdf : d ≠ L' + 1 + 1 := Nat.ne_of_gt hlt.1
  have hdp' : d ≠ L' + 1 := Nat.ne_of_gt hlt.2.1
  rename Obj.IsDictOf (intKind PR w) _ [] => hd0
  rename (d == sysModules) = false => hlo
  rename Obj.data _ = Data.cell (some (Value.ref d)) => dcf
  rename Obj.data _ = Data.cell (bindC _ _ _ (Str.ofString "pot")) => dcp
  rename Obj.data _ = Data.cell (bindC _ _ _ (Str.ofString "found")) => dcf0
  clear dcf0
  rename Obj => ocf
  obtain ⟨od0, rfl⟩ := head_obj NZ
  obtain ⟨ocp, rfl⟩ := third_obj NZ
  replace dcp : ocp.data = Data.cell (some (Value.ref pot)) := dcp
  have hrest : ∀ od : Obj, ∀ q ∈ [(d, od), (L' + 1 + 1, ocf), (L' + 1, ocp)], q.1 ≠ pot ∧ q.1 ≠ cells := by
    intro od q hq
    simp only [List.mem_cons, List.not_mem_nil, or_false] at hq
    rcases hq with rfl | rfl | rfl
    · exact ⟨hdp, hdc⟩
    · exact ⟨hfp, hfc⟩
    · exact ⟨hpp, hpc⟩
  refine go (draw_spec (rest := [(d, od0), (L' + 1 + 1, ocf), (L' + 1, ocp)]) (Cx.of (by assumption) (by assumption) (by assumption) (by assumption) rfl rfl rfl rfl (Nat.le_of_ble_eq_true rfl) (Nat.le_of_ble_eq_true rfl)) (news_sub NZ (by first | ((repeat' (first | exact lsub_nil | exact lsub_rfl | refine lsub_cons ?_ ?_ | exact List.Mem.head _ | refine List.Mem.tail _ ?_ | refine lsub_tail ?_ | exact lsub_inl | refine lsub_app ?_ ?_ | refine lsub_inr ?_ | refine List.mem_append_right _ ?_)); done) | (trace "GRIND"; intro q hq; simp only [List.mem_cons, List.mem_append, List.cons_append, List.not_mem_nil, or_false] at hq ⊢; grind))) (hrest od0) hne hO hC (by decide) (by decide) (by decide) (by decide) ?_)
  intro code0 tc0 h2 tk2 op2 oc2 hk0 hk1 hO2 hC2 F2 N2 ho2
  clear NZ
  k_sweep
  k_steps
  rename News g L' _ _ => NZ
  refine go (draw_spec (rest := [(d, od0), (L' + 1 + 1, ocf), (L' + 1, ocp)]) (Cx.of (by assumption) (by assumption) (by assumption) (by assumption) rfl rfl rfl rfl (Nat.le_of_ble_eq_true rfl) (Nat.le_of_ble_eq_true rfl)) NZ (hrest od0) hne hO2 hC2 (by decide) (by decide) (by decide) (by decide) ?_)
  intro n0 tn0 h3 tk3 op3 oc3 hn0 hn1 hO3 hC3 F3 N3 ho3
  obtain ⟨n0, rfl⟩ := Int.eq_ofNat_of_zero_le hn0
  clear NZ
  k_sweep
  k_steps
  rename News g L' _ _ => NZ
  rename IsRange _ _ _ _ _ _ _ _ => hr0
  refine' go (iter_range_my (n := n0) (JOut w pot cells d (L' + 1 + 1) (L' + 1) ocf ocp) rfl hr0 (small_one (by decide) (by decide) (by omega) (by omega)) (by rw [rangeSize_nat]; omega) (by assumption) (news_sub NZ ?qs) ⟨code0, 2, _, [], op3, oc3, od0, rfl, rfl, hO3, by decide, by decide, hC3, hd0, by decide, fun p hp => nomatch hp⟩ ?qturn ?qdone)
  case qs => exact (by first | ((repeat' (first | exact lsub_nil | exact lsub_rfl | refine lsub_cons ?_ ?_ | exact List.Mem.head _ | refine List.Mem.tail _ ?_ | refine lsub_tail ?_ | exact lsub_inl | refine lsub_app ?_ ?_ | refine lsub_inr ?_ | refine List.mem_append_right _ ?_)); done) | (trace "GRIND"; intro q hq; simp only [List.mem_cons, List.mem_append, List.cons_append, List.not_mem_nil, or_false] at hq ⊢; grind))
  case qturn =>
    rintro i v m₁ news₁ I oI h4 tk4 s4 rfl hi ⟨tv, rfl⟩ ⟨code, pl, tc, kvs, op4, oc4, od4, rfl, e1, hO4, hp4, hp4', hC4, hd4, hkl, hkb⟩ hnI F4 N4
    have hi6 : i ≤ 4 := by omega
    have hIp : I ≠ pot := Ne.symm (hnI _ (.head _))
    have hIc : I ≠ cells := Ne.symm (hnI _ (.tail _ (.head _)))
    replace F4 := fr1u_ F4 e1
    clear NZ
    k_sweep
    k_steps
    rename News g L' _ _ => NZ
    have hrestI : ∀ od : Obj, ∀ q ∈ [(d, od), (L' + 1 + 1, ocf), (L' + 1, ocp), (I, oI)], q.1 ≠ pot ∧ q.1 ≠ cells := by
      intro od q hq
      simp only [List.mem_cons, List.not_mem_nil, or_false] at hq
      rcases hq with rfl | rfl | rfl | rfl
      · exact ⟨hdp, hdc⟩
      · exact ⟨hfp, hfc⟩
      · exact ⟨hpp, hpc⟩
      · exact ⟨hIp, hIc⟩
    refine go (draw_spec (rest := [(d, od4), (L' + 1 + 1, ocf), (L' + 1, ocp), (I, oI)]) (Cx.of (by assumption) (by assumption) (by assumption) (by assumption) rfl rfl rfl rfl (Nat.le_of_ble_eq_true rfl) (Nat.le_of_ble_eq_true rfl)) (news_sub NZ (by first | ((repeat' (first | exact lsub_nil | exact lsub_rfl | refine lsub_cons ?_ ?_ | exact List.Mem.head _ | refine List.Mem.tail _ ?_ | refine lsub_tail ?_ | exact lsub_inl | refine lsub_app ?_ ?_ | refine lsub_inr ?_ | refine List.mem_append_right _ ?_)); done) | (trace "GRIND"; intro q hq; simp only [List.mem_cons, List.mem_append, List.cons_append, List.not_mem_nil, or_false] at hq ⊢; grind))) (hrestI od4) hne hO4 hC4 hp4 (by omega) (by decide) (by decide) ?_)
    intro k5 tk5 h5 tkk5 op5 oc5 hk50 hk51 hO5 hC5 F5 N5 ho5
    clear NZ
    k_sweep
    k_steps
    rename News g L' _ _ => NZ
    refine go (draw_spec (rest := [(d, od4), (L' + 1 + 1, ocf), (L' + 1, ocp), (I, oI)]) (Cx.of (by assumption) (by assumption) (by assumption) (by assumption) rfl rfl rfl rfl (Nat.le_of_ble_eq_true rfl) (Nat.le_of_ble_eq_true rfl)) NZ (hrestI od4) hne hO5 hC5 (by omega) (by omega) (by decide) (by decide) ?_)
    intro n1 tn1 h6 tk6 op6 oc6 hn10 hn11 hO6 hC6 F6 N6 ho6
    obtain ⟨n1, rfl⟩ := Int.eq_ofNat_of_zero_le hn10
    clear NZ
    k_sweep
    k_steps
    rename News g L' _ _ => NZ
    rename IsRange _ _ _ _ _ _ _ _ => hr1
    refine' go (iter_range_my (n := 1 + n1) (JIn w pot cells d (L' + 1 + 1) (L' + 1) I ocf ocp op6 oc6 oI (250 * (1 + k5)) _ kvs.length) rfl hr1 (small_one (by decide) (by decide) (by omega) (by omega)) (by rw [rangeSize_nat]; omega) (by assumption) (news_sub NZ ?qs2) ⟨code, _, kvs, od4, rfl, rfl, rfl, hd4, Nat.le_refl _, hkb⟩ ?qturn2 ?qdone2)
    case qs2 => exact (by first | ((repeat' (first | exact lsub_nil | exact lsub_rfl | refine lsub_cons ?_ ?_ | exact List.Mem.head _ | refine List.Mem.tail _ ?_ | refine lsub_tail ?_ | exact lsub_inl | refine lsub_app ?_ ?_ | refine lsub_inr ?_ | refine List.mem_append_right _ ?_)); done) | (trace "GRIND"; intro q hq; simp only [List.mem_cons, List.mem_append, List.cons_append, List.not_mem_nil, or_false] at hq ⊢; grind))
    case qturn2 =>
      rintro i' v' m₂ news₂ I2 oI2 h7 tk7 s7 rfl hi' ⟨tv', rfl⟩ ⟨code7, tc7, kvs7, od7, rfl, e71, e72, hd7, hkl7, hkb7⟩ hnI2 F7 N7
      replace F7 := fr2u_ F7 e71 e72
      clear NZ
      k_sweep
      k_steps
      rename News g L' _ _ => NZ
      refine go (set_my (rest := [(I2, oI2), (pot, op6), (cells, oc6), (L' + 1 + 1, ocf), (L' + 1, ocp), (I, oI)]) (od := od7) (by assumption) (news_sub NZ (by first | ((repeat' (first | exact lsub_nil | exact lsub_rfl | refine lsub_cons ?_ ?_ | exact List.Mem.head _ | refine List.Mem.tail _ ?_ | refine lsub_tail ?_ | exact lsub_inl | refine lsub_app ?_ ?_ | refine lsub_inr ?_ | refine List.mem_append_right _ ?_)); done) | (trace "GRIND"; intro q hq; simp only [List.mem_cons, List.mem_append, List.cons_append, List.not_mem_nil, or_false] at hq ⊢; grind))) ?_ hd7 (by omega) (fun p hp => Int.ne_of_lt (hkb7 p hp).1) ?_)
      · have n1 := hnI2 _ (.tail _ (.tail _ (.head _)))
        have n2 := hnI _ (.tail _ (.tail _ (.head _)))
        exact (lne_cons (Ne.symm n1) (lne_cons (Ne.symm hdp) (lne_cons (Ne.symm hdc) (lne_cons (Ne.symm hdf) (lne_cons (Ne.symm hdp') (lne_cons (Ne.symm n2) lne_nil))))))
      intro h8 od8 F8 N8 hd8
      clear NZ
      k_sweep
      k_steps
      rename News g L' _ _ => NZ
      have hnI2' : ∀ q ∈ [(pot, op6), (cells, oc6), (d, od8), (L' + 1 + 1, ocf), (L' + 1, ocp), (I, oI)], q.1 ≠ I2 := ne_list hnI2 rfl
      refine forEnd_next (fr_for NZ (by assumption)) (news_sub NZ (by first | ((repeat' (first | exact lsub_nil | exact lsub_rfl | refine lsub_cons ?_ ?_ | exact List.Mem.head _ | refine List.Mem.tail _ ?_ | refine lsub_tail ?_ | exact lsub_inl | refine lsub_app ?_ ?_ | refine lsub_inr ?_ | refine List.mem_append_right _ ?_)); done) | (trace "GRIND"; intro q hq; simp only [List.mem_cons, List.mem_append, List.cons_append, List.not_mem_nil, or_false] at hq ⊢; grind))) hnI2' ⟨code7 + 1, _, _, od8, rfl, rfl, rfl, hd8, by simp only [List.length_append, List.length_cons, List.length_nil]; omega, hkb7.snoc⟩
    case qdone2 =>
      rintro m₂ news₂ h7 tk7 ⟨code7, tc7, kvs7, od7, rfl, e71, e72, hd7, hkl7, hkb7⟩ F7 N7
      replace F7 := fr2_ F7 e71 e72
      clear NZ
      k_sweep
      k_steps
      rename News g L' _ _ => NZ
      refine go (draw_spec (rest := [(d, od7), (L' + 1 + 1, ocf), (L' + 1, ocp), (I, oI)]) (Cx.of (by assumption) (by assumption) (by assumption) (by assumption) rfl rfl rfl rfl (Nat.le_of_ble_eq_true rfl) (Nat.le_of_ble_eq_true rfl)) NZ (hrestI od7) hne hO6 hC6 (by omega) (by omega) (by decide) (by decide) ?_)
      intro k8 tk8 h8 tkk8 op8 oc8 hk80 hk81 hO8 hC8 F8 N8 ho8
      clear NZ
      k_sweep
      k_steps
      rename News g L' _ _ => NZ
      refine go (draw_spec (rest := [(d, od7), (L' + 1 + 1, ocf), (L' + 1, ocp), (I, oI)]) (Cx.of (by assumption) (by assumption) (by assumption) (by assumption) rfl rfl rfl rfl (Nat.le_of_ble_eq_true rfl) (Nat.le_of_ble_eq_true rfl)) NZ (hrestI od7) hne hO8 hC8 (by omega) (by omega) (by decide) (by decide) ?_)
      intro k9 tk9 h9 tkk9 op9 oc9 hk90 hk91 hO9 hC9 F9 N9 ho9
      clear NZ
      k_sweep
      k_steps
      rename News g L' _ _ => NZ
      have hnI' : ∀ q ∈ [(pot, op9), (cells, oc9), (d, od7), (L' + 1 + 1, ocf), (L' + 1, ocp)], q.1 ≠ I := ne_list hnI rfl
      have hge : 0 ≤ k8.fdiv 2 * (1 + k9) := Int.mul_nonneg (by rw [Int.fdiv_eq_ediv_of_nonneg _ (by decide)]; omega) (by omega)
      refine forEnd_next (fr_for NZ (by assumption)) (news_sub NZ (by first | ((repeat' (first | exact lsub_nil | exact lsub_rfl | refine lsub_cons ?_ ?_ | exact List.Mem.head _ | refine List.Mem.tail _ ?_ | refine lsub_tail ?_ | exact lsub_inl | refine lsub_app ?_ ?_ | refine lsub_inr ?_ | refine List.mem_append_right _ ?_)); done) | (trace "GRIND"; intro q hq; simp only [List.mem_cons, List.mem_append, List.cons_append, List.not_mem_nil, or_false] at hq ⊢; grind))) hnI' ⟨_, _, _, kvs7, op9, oc9, od7, rfl, rfl, hO9, by omega, by omega, hC9, hd7, by omega, hkb7.up (by omega)⟩
  case qdone =>
    rintro m₁ news₁ h4 tk4 ⟨code, pl, tc, kvs, op4, oc4, od4, rfl, e1, hO4, hp4, hp4', hC4, hd4, hkl, hkb⟩ F4 N4
    replace F4 := fr1_ F4 e1
    clear NZ
    k_sweep
    k_steps
    rename News g L' _ _ => NZ
    refine go (sorted_dict rfl (by assumption) NZ (kda_dict NZ (.tail _ (.tail _ (.head _))) hd4) hlo (by omega) ?_)
    intro B h5 tk5 kB vs ns F5 N5 l5 hI5 hpm hsr
    have hBp := l5 _ (.head _)
    have hBc := l5 _ (.tail _ (.head _))
    clear NZ
    k_sweep
    k_steps
    rename News g L' _ _ => NZ
    have hrestB : ∀ q ∈ [(B, W.listOf vs.toArray kB), (d, od4), (L' + 1 + 1, ocf), (L' + 1, ocp)], q.1 ≠ pot ∧ q.1 ≠ cells := by
      intro q hq
      exact (lnp_cons (⟨Nat.ne_of_gt hBp, Nat.ne_of_gt hBc⟩) (fun q hq => hrest od4 q hq)) q hq
    refine go (draw_spec (rest := [(B, W.listOf vs.toArray kB), (d, od4), (L' + 1 + 1, ocf), (L' + 1, ocp)]) (Cx.of (by assumption) (by assumption) (by assumption) (by assumption) rfl rfl rfl rfl (Nat.le_of_ble_eq_true rfl) (Nat.le_of_ble_eq_true rfl)) (news_sub NZ (by first | ((repeat' (first | exact lsub_nil | exact lsub_rfl | refine lsub_cons ?_ ?_ | exact List.Mem.head _ | refine List.Mem.tail _ ?_ | refine lsub_tail ?_ | exact lsub_inl | refine lsub_app ?_ ?_ | refine lsub_inr ?_ | refine List.mem_append_right _ ?_)); done) | (trace "GRIND"; intro q hq; simp only [List.mem_cons, List.mem_append, List.cons_append, List.not_mem_nil, or_false] at hq ⊢; grind))) hrestB hne hO4 hC4 (by omega) (by omega) (by decide) (by decide) ?_)
    intro k6 tk6 h6 tkk6 op6 oc6 hk60 hk61 hO6 hC6 F6 N6 ho6
    clear NZ
    k_sweep
    k_steps
    rename News g L' _ _ => NZ
    refine go (krv_lit (by assumption) NZ ⟨_, NZ.get (.tail _ (.tail _ (.head _))), rfl, _, rfl⟩ (IsPart.int _ _) rfl (fun B0 h7 F7 N7 l7 => ?_) (by with_unfolding_all rfl) (fun _ => by with_unfolding_all rfl) (by rw [List.size_toArray, sizeLine_eq, hI5.length, hpm.length_eq, List.length_map]; omega))
    clear NZ
    k_sweep
    k_steps
    rename News g L' _ _ => NZ
    have hIw := intsAre_rev hI5
    have hpw : ns.reverse.Perm (kvs.map (·.1)) := (List.reverse_perm ns).trans hpm
    have hB0p : pot < B0 := l7 _ (.head _)
    have hB0c : cells < B0 := l7 _ (.tail _ (.head _))
    rw [List.toList_toArray] at NZ
    replace NZ := news_sub (l' := [(pot, op6), (cells, oc6), (B0, W.listOf vs.reverse.toArray 0), (d, od4), (L' + 1 + 1, ocf), (L' + 1, ocp)]) NZ (by first | ((repeat' (first | exact lsub_nil | exact lsub_rfl | refine lsub_cons ?_ ?_ | exact List.Mem.head _ | refine List.Mem.tail _ ?_ | refine lsub_tail ?_ | exact lsub_inl | refine lsub_app ?_ ?_ | refine lsub_inr ?_ | refine List.mem_append_right _ ?_)); done) | (trace "GRIND"; intro q hq; simp only [List.mem_cons, List.mem_append, List.cons_append, List.not_mem_nil, or_false] at hq ⊢; grind))
    generalize vs.reverse = ws at *
    generalize ns.reverse = cs at *
    obtain ⟨kB0, hkB0⟩ : ∃ kB0, kB0 = 0 := ⟨_, rfl⟩
    rw [← hkB0] at NZ
    clear hkB0
    rotate_left
    rename News g L' _ _ => NZ
    have hIw := hI5
    have hpw := hpm
    obtain ⟨B0, rfl⟩ : ∃ B0, B0 = B := ⟨_, rfl⟩
    have hB0p := hBp
    have hB0c := hBc
    obtain ⟨ws, rfl⟩ : ∃ ws, ws = vs := ⟨_, rfl⟩
    obtain ⟨cs, rfl⟩ : ∃ cs, cs = ns := ⟨_, rfl⟩
    obtain ⟨kB0, rfl⟩ : ∃ kB0, kB0 = kB := ⟨_, rfl⟩
    all_goals
      have hcl : cs.length ≤ 36 := by rw [hpw.length_eq, List.length_map]; omega
      have hwl : ws.length ≤ 36 := by rw [hIw.length]; exact hcl
      have hknd : (kvs.map (·.1)).Nodup := by obtain ⟨es, ep, _, _, _, _, hn⟩ := hd4; exact hn
      have hcnd : cs.Nodup := hpw.nodup_iff.mpr hknd
      refine go (LCg.CompSrc.ledger rfl (by assumption) NZ (.tail _ (.tail _ (.head _))) (by rw [List.size_toArray, sizeLine_eq]; omega) fun g' => ?_)
      refine comp_inv (fun i ys nw => ∃ ext, nw = (pot, op6) :: (cells, oc6) :: (B0, W.listOf ws.toArray kB0) :: (d, od4) :: (L' + 1 + 1, ocf) :: (L' + 1, ocp) :: ext ∧ All2 (TupE ext) ys ((cs.take i).map fun c => (c, (valueAt kvs c).getD .none))) ?_ ⟨[], rfl, All2.nil⟩ ?_
      · rintro i v I oI C oC D m₂ ys nw h8 tk8 E' hi hvi ⟨ext, rfl, hys⟩ hoC hm F8 N8 o1 o2 o3 n1 n2 n3
        obtain ⟨c, tc', hc, rfl⟩ := intsAre_get hIw (by simpa using hvi)
        have hlt8 : ∀ q ∈ (I, oI) :: (C, oC) :: (D, LCg.lst ys) :: (pot, op6) :: (cells, oc6) :: (B0, W.listOf ws.toArray kB0) :: (d, od4) :: (L' + 1 + 1, ocf) :: (L' + 1, ocp) :: ext, q.1 < h8.objs.size := fun q hq => Heap.lt_size (N8 q hq).1
        obtain ⟨vc, hvc, hvm⟩ := valueAt_of_mem (hpw.mem_iff.mp (List.mem_of_getElem? hc))
        clear NZ
        k_steps
        rename News g L' _ _ => NZ
        refine go (kda_item (k := c) NZ (.tail _ (.tail _ (.tail _ (.tail _ (.tail _ (.tail _ (.head _))))))) hd4 (intKind_is PR w c tc') hvc ?_)
        k_steps
        rename News g L' _ _ => NZ
        dsimp only at NZ
        obtain ⟨aT, haT⟩ : ∃ a, a = h8.objs.size := ⟨_, rfl⟩
        rw [← haT] at NZ hlt8
        have x1 := hlt8 _ (.head _)
        have x2 := hlt8 _ (.tail _ (.head _))
        have x3 := hlt8 _ (.tail _ (.tail _ (.head _)))
        replace x1 : aT ≠ I := Nat.ne_of_gt x1
        replace x2 : aT ≠ C := Nat.ne_of_gt x2
        replace x3 : aT ≠ D := Nat.ne_of_gt x3
        refine compEnd_mk (nw := (pot, op6) :: (cells, oc6) :: (B0, W.listOf ws.toArray kB0) :: (d, od4) :: (L' + 1 + 1, ocf) :: (L' + 1, ocp) :: (aT, ({ cls := .type "tuple", data := .seq #[.int c tc', vc] 0 } : Obj)) :: ext) (by assumption) (news_sub NZ (by first | ((repeat' (first | exact lsub_nil | exact lsub_rfl | refine lsub_cons ?_ ?_ | exact List.Mem.head _ | refine List.Mem.tail _ ?_ | refine lsub_tail ?_ | exact lsub_inl | refine lsub_app ?_ ?_ | refine lsub_inr ?_ | refine List.mem_append_right _ ?_)); done) | (trace "GRIND"; intro q hq; simp only [List.mem_cons, List.mem_append, List.cons_append, List.not_mem_nil, or_false] at hq ⊢; grind))) (fun q hq => ?_) (fun q hq => ?_) (fun q hq => ?_) (Or.inr ⟨_, .tail _ (.tail _ (.head _)), rfl, _, rfl⟩) ⟨_, rfl, ?_⟩
        · simp only [List.mem_cons] at hq o1; grind
        · simp only [List.mem_cons] at hq o2; grind
        · simp only [List.mem_cons] at hq o3; grind
        · rw [List.take_add_one, hc, List.map_append]
          refine All2.snoc (hys.mono fun _ _ x => x.mono fun q hq => .tail _ hq) ⟨aT, tc', 0, (by rw [haT]), ?_⟩
          simp only [hvc, Option.getD_some]
          exact .head _
      · rintro ys nw ⟨ext, rfl, hys⟩
        rw [List.size_toArray, hIw.length, List.take_length] at hys
        intro D h9 tk9 F9 N9 o9
        have o10 := off1_mem o9
        clear NZ
        k_sweep
        k_steps
        rename News g L' _ _ => NZ
        refine go (dict_pairs_my rfl (by assumption) NZ T'.nolimit (.head _) (hys.mono fun _ _ x => x.mono fun q hq => .tail _ (.tail _ (.tail _ (.tail _ (.tail _ (.tail _ (.tail _ hq))))))) (by rw [map_fst_self]; exact hcnd) (by rw [List.length_map]; omega) ?_)
        intro nd h10 tk10 on F10 N10 l10 lo10 hd10
        have hndp : nd ≠ pot := Nat.ne_of_gt (l10 _ (.tail _ (.head _)))
        have hndc : nd ≠ cells := Nat.ne_of_gt (l10 _ (.tail _ (.tail _ (.head _))))
        clear NZ
        k_sweep
        k_steps
        rename News g L' _ _ => NZ
        replace NZ := news_sub (l' := (pot, op6) :: (cells, oc6) :: (B0, W.listOf ws.toArray kB0) :: (d, od4) :: (L' + 1 + 1, ocf) :: (L' + 1, ocp) :: (nd, on) :: []) NZ (by first | ((repeat' (first | exact lsub_nil | exact lsub_rfl | refine lsub_cons ?_ ?_ | exact List.Mem.head _ | refine List.Mem.tail _ ?_ | refine lsub_tail ?_ | exact lsub_inl | refine lsub_app ?_ ?_ | refine lsub_inr ?_ | refine List.mem_append_right _ ?_)); done) | (trace "GRIND"; intro q hq; simp only [List.mem_cons, List.mem_append, List.cons_append, List.not_mem_nil, or_false] at hq ⊢; grind))
        refine go (LCg.CompSrc.ledger rfl (by assumption) NZ (.tail _ (.tail _ (.head _))) (by rw [List.size_toArray, sizeLine_eq]; omega) fun g' => ?_)
        refine comp_inv (fun i ys nw => ∃ (opi oci : Obj) (ext : List (Addr × Obj)) (zs : List Item), nw = (pot, opi) :: (cells, oci) :: (B0, W.listOf ws.toArray kB0) :: (d, od4) :: (L' + 1 + 1, ocf) :: (L' + 1, ocp) :: (nd, on) :: ext ∧ PotO opi cells (pl + 1 + (i : Int)) ∧ CellsO oci ∧ (∀ q ∈ ext, q.1 ≠ pot ∧ q.1 ≠ cells) ∧
          zs.map (·.c) = cs.take i ∧ All2 (TupE ext) ys (zs.map fun z => (z.c, z.v)) ∧ (∀ z ∈ zs, WVL ext z.v z.n ∧ ∃ t, valueAt kvs z.c = some (.int z.n t))) ?_ ⟨op6, oc6, [], [], rfl, by simpa using hO6, hC6, (fun _ q => nomatch q), by simp, All2.nil, (fun _ q => nomatch q)⟩ ?_
        · rintro i v I oI C oC D2 m₂ ys2 nw h11 tk11 E' hi hvi ⟨opi, oci, ext2, zs, rfl, hOi, hCi, hxp, hzc, hys2, hzv⟩ hoC hm F11 N11 o1 o2 o3 n1 n2 n3
          obtain ⟨c, tc', hc, rfl⟩ := intsAre_get hIw (by simpa using hvi)
          obtain ⟨vc, hvc, hvm⟩ := valueAt_of_mem (hpw.mem_iff.mp (List.mem_of_getElem? hc))
          obtain ⟨_, nn, tn, hvn⟩ := hkb _ hvm
          have hil : i < cs.length := (List.getElem?_eq_some_iff.mp hc).1
          dsimp only at hvn
          subst hvn
          clear NZ
          k_steps
          rename News g L' _ _ => NZ
          refine go (kda_item (k := c) NZ (.tail _ (.tail _ (.tail _ (.tail _ (.tail _ (.tail _ (.head _))))))) hd4 (intKind_is PR w c tc') hvc ?_)
          k_steps
          rename News g L' _ _ => NZ
          have y1 : pot ≠ I := o1 (pot, opi) (.head _)
          have y2 : cells ≠ I := o1 (cells, oci) (.tail _ (.head _))
          have y3 : pot ≠ C := o2 (pot, opi) (.head _)
          have y4 : cells ≠ C := o2 (cells, oci) (.tail _ (.head _))
          have y5 : pot ≠ D2 := o3 (pot, opi) (.head _)
          have y6 : cells ≠ D2 := o3 (cells, oci) (.tail _ (.head _))
          refine go (width_spec (rest := (I, oI) :: (C, oC) :: (D2, LCg.lst ys2) :: (B0, W.listOf ws.toArray kB0) :: (d, od4) :: (L' + 1 + 1, ocf) :: (L' + 1, ocp) :: (nd, on) :: ext2) (Cx.of (by assumption) (by assumption) (by assumption) (by assumption) rfl rfl rfl rfl (Nat.le_of_ble_eq_true rfl) (Nat.le_of_ble_eq_true rfl)) (news_sub NZ (by first | ((repeat' (first | exact lsub_nil | exact lsub_rfl | refine lsub_cons ?_ ?_ | exact List.Mem.head _ | refine List.Mem.tail _ ?_ | refine lsub_tail ?_ | exact lsub_inl | refine lsub_app ?_ ?_ | refine lsub_inr ?_ | refine List.mem_append_right _ ?_)); done) | (trace "GRIND"; intro q hq; simp only [List.mem_cons, List.mem_append, List.cons_append, List.not_mem_nil, or_false] at hq ⊢; grind))) ?_ hne hOi hCi (by omega) (by omega) ?_)
          · exact (lnp_cons (⟨Ne.symm y1, Ne.symm y2⟩) (lnp_cons (⟨Ne.symm y3, Ne.symm y4⟩) (lnp_cons (⟨Ne.symm y5, Ne.symm y6⟩) (lnp_cons (⟨Nat.ne_of_gt hB0p, Nat.ne_of_gt hB0c⟩) (lnp_cons (⟨hdp, hdc⟩) (lnp_cons (⟨hfp, hfc⟩) (lnp_cons (⟨hpp, hpc⟩) (lnp_cons (⟨hndp, hndc⟩) (fun q hq => hxp q hq)))))))))
          intro v hW tkW opW ocW extW hOW hCW FW NW hxW hoW hnW hvW
          have w1 := hnW.ne (NZ.get (.head _))
          have w2 := hnW.ne (NZ.get (.tail _ (.head _)))
          have w3 := hnW.ne (NZ.get (.tail _ (.tail _ (.head _))))
          have hltW : ∀ q ∈ (pot, opW) :: (cells, ocW) :: (extW ++ ((I, oI) :: (C, oC) :: (D2, LCg.lst ys2) :: (B0, W.listOf ws.toArray kB0) :: (d, od4) :: (L' + 1 + 1, ocf) :: (L' + 1, ocp) :: (nd, on) :: ext2)), q.1 < hW.objs.size := fun q hq => Heap.lt_size (NW q hq).1
          replace NW := news_sub (l' := (I, oI) :: (C, oC) :: (D2, LCg.lst ys2) :: (pot, opW) :: (cells, ocW) :: (B0, W.listOf ws.toArray kB0) :: (d, od4) :: (L' + 1 + 1, ocf) :: (L' + 1, ocp) :: (nd, on) :: (extW ++ ext2)) NW (by first | ((repeat' (first | exact lsub_nil | exact lsub_rfl | refine lsub_cons ?_ ?_ | exact List.Mem.head _ | refine List.Mem.tail _ ?_ | refine lsub_tail ?_ | exact lsub_inl | refine lsub_app ?_ ?_ | refine lsub_inr ?_ | refine List.mem_append_right _ ?_)); done) | (trace "GRIND"; intro q hq; simp only [List.mem_cons, List.mem_append, List.cons_append, List.not_mem_nil, or_false] at hq ⊢; grind))
          clear NZ
          k_sweep
          k_steps
          rename News g L' _ _ => NZ
          dsimp only at NZ
          obtain ⟨aT, haT⟩ : ∃ a, a = hW.objs.size := ⟨_, rfl⟩
          rw [← haT] at NZ hltW
          have x1 : aT ≠ I := Nat.ne_of_gt (hltW (I, oI) (by simp))
          have x2 : aT ≠ C := Nat.ne_of_gt (hltW (C, oC) (by simp))
          have x3 : aT ≠ D2 := Nat.ne_of_gt (hltW (D2, LCg.lst ys2) (by simp))
          have x4 : aT ≠ pot := Nat.ne_of_gt (hltW (pot, opW) (by simp))
          have x5 : aT ≠ cells := Nat.ne_of_gt (hltW (cells, ocW) (by simp))
          refine compEnd_mk (nw := (pot, opW) :: (cells, ocW) :: (B0, W.listOf ws.toArray kB0) :: (d, od4) :: (L' + 1 + 1, ocf) :: (L' + 1, ocp) :: (nd, on) :: (aT, ({ cls := .type "tuple", data := .seq #[.int c tc', v] 0 } : Obj)) :: (extW ++ ext2)) (by assumption) (news_sub NZ (by first | ((repeat' (first | exact lsub_nil | exact lsub_rfl | refine lsub_cons ?_ ?_ | exact List.Mem.head _ | refine List.Mem.tail _ ?_ | refine lsub_tail ?_ | exact lsub_inl | refine lsub_app ?_ ?_ | refine lsub_inr ?_ | refine List.mem_append_right _ ?_)); done) | (trace "GRIND"; intro q hq; simp only [List.mem_cons, List.mem_append, List.cons_append, List.not_mem_nil, or_false] at hq ⊢; grind))) (fun q hq => ?_) (fun q hq => ?_) (fun q hq => ?_) (Or.inr ⟨_, .tail _ (.tail _ (.head _)), rfl, _, rfl⟩)
            ⟨opW, ocW, _, zs ++ [⟨c, v, nn⟩], rfl, ?_, hCW, (fun q hq => ?_), ?_, ?_, ?_⟩
          · simp only [List.mem_cons, List.mem_append] at hq o1; grind
          · simp only [List.mem_cons, List.mem_append] at hq o2; grind
          · simp only [List.mem_cons, List.mem_append] at hq o3; grind
          · rw [show pl + 1 + ((i + 1 : Nat) : Int) = pl + 1 + (i : Int) + 1 by omega]; exact hOW
          · rcases List.mem_cons.mp hq with rfl | hq
            · exact ⟨x4, x5⟩
            · rcases List.mem_append.mp hq with hq | hq
              · exact hxW q (List.mem_append_left _ hq)
              · exact hxp q hq
          · rw [List.map_append, hzc, List.take_add_one, hc]; rfl
          · rw [List.map_append]
            exact All2.snoc (hys2.mono fun _ _ x => x.mono fun q hq => .tail _ (List.mem_append_right _ hq)) ⟨aT, tc', 0, (by rw [haT]), .head _⟩
          · intro z hz
            rcases List.mem_append.mp hz with hz | hz
            · exact ⟨(hzv z hz).1.mono fun q hq => .tail _ (List.mem_append_right _ hq), (hzv z hz).2⟩
            · rw [List.mem_singleton.mp hz]
              exact ⟨hvW.mono fun q hq => .tail _ (List.mem_append_left _ hq), tn, hvc⟩
        · rintro ys2 nw ⟨opi, oci, ext2, zs, rfl, hOi, hCi, hxp, hzc, hys2, hzv⟩
          rw [List.size_toArray, hIw.length] at hzc hOi
          rw [List.take_length] at hzc
          intro D2 h12 tk12 F12 N12 o12
          have hzl : zs.length ≤ 36 := by have := congrArg List.length hzc; rw [List.length_map] at this; omega
          have hmm : (zs.map fun z => (z.c, z.v)).map (·.1) = cs := by rw [← hzc, List.map_map]; rfl
          clear NZ
          k_sweep
          k_steps
          rename News g L' _ _ => NZ
          refine go (dict_pairs_my rfl (by assumption) NZ T'.nolimit (.head _) (hys2.mono fun _ _ x => x.mono fun q hq => .tail _ (.tail _ (.tail _ (.tail _ (.tail _ (.tail _ (.tail _ (.tail _ hq)))))))) (by rw [hmm]; exact hcnd) (by rw [List.length_map]; omega) ?_)
          intro wd h13 tk13 ow F13 N13 l13 lo13 hd13
          have hwdp : wd ≠ pot := Nat.ne_of_gt (l13 _ (.tail _ (.head _)))
          have hwdc : wd ≠ cells := Nat.ne_of_gt (l13 _ (.tail _ (.tail _ (.head _))))
          have hlt13 := fun q hq => Heap.lt_size (N13 q hq).1
          clear NZ
          k_sweep
          k_steps
          rename News g L' _ _ => NZ
          dsimp only at NZ
          have x4 : h13.objs.size ≠ pot := Nat.ne_of_gt (hlt13 _ (.tail _ (.tail _ (.head _))))
          have x5 : h13.objs.size ≠ cells := Nat.ne_of_gt (hlt13 _ (.tail _ (.tail _ (.tail _ (.head _)))))
          refine h _ nd wd _ _ opi oci _ on ow _ zs ext2 (pl + 1 + (cs.length : Int)) (freshN hg NZ (.head _) (two_ne (Ne.symm x4) (Ne.symm x5))) (NZ.get (.head _)) (by omega) (by omega) hOi hCi (off_g hg (by assumption)) (NZ.get (.tail _ (.tail _ (.tail _ (.head _))))) (NZ.get (.tail _ (.tail _ (.tail _ (.tail _ (.head _)))))) ?_ lo10 lo13 hd10 hd13 (hzc ▸ all2_kN fun z hz => (hzv z hz).2) (fun z hz => (hzv z hz).1) (hzc ▸ hcnd) (by omega)
          intro q hq
          rcases List.mem_cons.mp hq with rfl | hq
          · have z := NZ _ (.tail _ (.tail _ (.tail _ (.tail _ (.tail _ (.tail _ (.tail _ (.tail _ (.tail _ (.head _))))))))))
            exact ⟨freshN hg NZ (.tail _ (.tail _ (.tail _ (.tail _ (.tail _ (.tail _ (.tail _ (.tail _ (.tail _ (.head _)))))))))) (two_ne (Ne.symm hndp) (Ne.symm hndc)), z.1⟩
          rcases List.mem_cons.mp hq with rfl | hq
          · exact ⟨freshN hg NZ (.tail _ (.head _)) (two_ne (Ne.symm hwdp) (Ne.symm hwdc)), (NZ _ (.tail _ (.head _))).1⟩
          · obtain ⟨qa, qo⟩ := q
            exact ⟨freshN hg NZ (.tail _ (.tail _ (.tail _ (.tail _ (.tail _ (.tail _ (.tail _ (.tail _ (.tail _ (.tail _ hq)))))))))) (two_ne (Ne.symm (hxp _ hq).1) (Ne.symm (hxp _ hq).2)), (NZ _ (.tail _ (.tail _ (.tail _ (.tail _ (.tail _ (.tail _ (.tail _ (.tail _ (.tail _ (.tail _ hq))))))))))).1⟩
end
end Og

end PartF14
section PartE3
open PySem PySem.W PySem.Calls PyProof.Rows PyProof.Rows.LCg PyProof.Rows.LCt
namespace Og
section
variable {prog : Program} {w : World} {A : Around} {h₀ : Heap} {L : Addr} {m : Str → Option Value} {env : Env} {ct elt : PySem.Expr} {x : Str} {scope : Scope} {cl : List (Str × Addr)} {s : Shared} {S : List (Addr × Obj) → Prop} {P : Nat → Value → Prop} {Fin : List Value → List (Addr × Obj) → Prop}
theorem comp_inv_t {n : Nat} {news : List (Addr × Obj)} (J : Nat → List Value → List (Addr × Obj) → Prop)
    (turn : ∀ i v I oI C oC D m₂ ys nw h tk (E' : Value → Shared → Prop), i < n → P i v → J i ys nw → NsObj oC m₂ → m₂ x = some v → Fr h₀ L h m → News h₀ L h ((I, oI) :: (C, oC) :: (D, lst ys) :: nw) → (∀ q ∈ nw, q.1 ≠ I) → (∀ q ∈ nw, q.1 ≠ C) → (∀ q ∈ nw, q.1 ≠ D) → I ≠ C → I ≠ D → C ≠ D →
      wpAny (model prog w) A (isTrue ct (compEnvC scope cl C env) (eval ct (compEnvC scope cl C env))) (fun ok s' => if ok = true then
        wpAny (model prog w) A (eval elt (compEnvC scope cl C env)) (CompEnd h₀ L m { s with heap := h, toks := tk } I oI C oC D (lst ys) S (fun y nw' => J (i + 1) (ys ++ [y]) nw')) E' s'
        else CompEnd h₀ L m { s with heap := h, toks := tk } I oI C oC D (lst ys) S (fun _ nw' => J (i + 1) ys nw') Value.none s') E' { s with heap := h, toks := tk })
    (h0 : J 0 [] news) (fin : ∀ ys nw, J n ys nw → Fin ys nw) : CompRestT prog w A h₀ L m env ct elt x scope cl s S P Fin n 0 [] news := by
  have all : ∀ k i ys nw, k + i = n → J i ys nw → CompRestT prog w A h₀ L m env ct elt x scope cl s S P Fin k i ys nw := by
    intro k
    induction k with
    | zero =>
      intro i ys nw e hJ
      obtain rfl : i = n := by omega
      exact CompRestT.zero (fin ys nw hJ)
    | succ k ih =>
      intro i ys nw e hJ
      refine CompRestT.succ fun v I oI C oC D m₂ h tk E' hP hoC hm F N off ne => ?_
      have o3 := off.mem
      refine wpAny_mono (turn i v I oI C oC D m₂ ys nw h tk E' (by omega) hP hJ hoC hm F N (fun q hq => (o3 q hq).1) (fun q hq => (o3 q hq).2.1) (fun q hq => (o3 q hq).2.2) ne.1 ne.2.1 ne.2.2) (fun ok s₂ he => ?_) fun _ _ e => e
      cases ok with
      | true =>
        simp only [if_true] at he ⊢
        refine wpAny_mono he (fun y s₃ hc => ?_) fun _ _ e => e
        obtain ⟨h', tk', nw', e1, F', N', off', hS, hJ'⟩ := hc
        exact ⟨h', tk', nw', e1, F', N', off', hS, ih (i + 1) _ _ (by omega) hJ'⟩
      | false =>
        simp only [Bool.false_eq_true, if_false] at he ⊢
        obtain ⟨h', tk', nw', e1, F', N', off', hS, hJ'⟩ := he
        exact ⟨h', tk', nw', e1, F', N', off', hS, ih (i + 1) _ _ (by omega) hJ'⟩
  exact all n 0 [] news rfl h0
end
end Og

end PartE3
section PartG1
open PySem PySem.W PySem.Calls PyProof.Rows
namespace Og
def headN (g : List Item) : Int := (g.head?.map (·.n)).getD 0
def headC (g : List Item) : Int := (g.head?.map (·.c)).getD 0
def stepG (gs : List (List Item)) (y : Item) : List (List Item) :=
  match gs.getLast? with
  | none => [[y]]
  | some g => if lastC g + 1 = y.c ∧ headN g = y.n then gs.dropLast ++ [g ++ [y]] else gs ++ [[y]]
theorem stepG_nil (y : Item) : stepG [] y = [[y]] := rfl
theorem stepG_more {gs : List (List Item)} {g : List Item} {y : Item} (h : lastC g + 1 = y.c ∧ headN g = y.n) : stepG (gs ++ [g]) y = gs ++ [g ++ [y]] := by
  unfold stepG; rw [List.getLast?_concat]; show (if _ then _ else _) = _; rw [if_pos h, List.dropLast_concat]
theorem stepG_new {gs : List (List Item)} {g : List Item} {y : Item} (h : ¬ (lastC g + 1 = y.c ∧ headN g = y.n)) : stepG (gs ++ [g]) y = (gs ++ [g]) ++ [[y]] := by
  unfold stepG; rw [List.getLast?_concat]; show (if _ then _ else _) = _; rw [if_neg h]
/-- the groups behind an open one -/
def gGo : List Item → List Item → List (List Item)
  | cur, [] => [cur]
  | cur, y :: r => if lastC cur + 1 = y.c ∧ headN cur = y.n then gGo (cur ++ [y]) r else cur :: gGo [y] r
theorem foldl_stepG (r : List Item) : ∀ (gs : List (List Item)) (cur : List Item), r.foldl stepG (gs ++ [cur]) = gs ++ gGo cur r := by
  induction r with
  | nil => intro gs cur; rfl
  | cons y r ih =>
    intro gs cur
    rw [List.foldl_cons]
    by_cases h : lastC cur + 1 = y.c ∧ headN cur = y.n
    · rw [stepG_more h, ih]; show _ = _ ++ (if _ then _ else _); rw [if_pos h]
    · rw [stepG_new h, ih]; show _ = _ ++ (if _ then _ else _); rw [if_neg h, List.append_assoc]; rfl
def groups (zs : List Item) : List (List Item) := zs.foldl stepG []
theorem groups_cons (y : Item) (r : List Item) : groups (y :: r) = gGo [y] r := foldl_stepG r [] [y]
/-- due's parts: the groups that are left, the list that is open -/
def dueGo : List (List Item) → List Item → List PP
  | [], op => listedP op
  | g :: gs, op =>
    if 4 ≤ g.length then listedP op ++ [.code (headC g), .code (lastC g), .val (g.headD ⟨0, .none, 0⟩)] ++ dueGo gs []
    else if op = [] ∨ lastC op + 1 ≠ headC g then listedP op ++ dueGo gs g else dueGo gs (op ++ g)
theorem lastC_append {a b : List Item} (h : b ≠ []) : lastC (a ++ b) = lastC b := by
  unfold lastC
  rw [List.getLast?_append]
  cases e : b.getLast? with
  | none => exact absurd (List.getLast?_eq_none_iff.mp e) h
  | some z => rfl
theorem lastC_snoc (a : List Item) (y : Item) : lastC (a ++ [y]) = y.c := by
  rw [lastC_append (by simp)]; rfl
def Con (zs : List Item) : Prop := ∀ l1 y l2, zs = l1 ++ y :: l2 → l1 ≠ [] → lastC l1 + 1 = y.c
theorem Con.suffix {a b : List Item} (h : Con (a ++ b)) : Con b := by
  intro l1 y l2 e hne
  have := h (a ++ l1) y l2 (by rw [e, List.append_assoc]) (by simp [hne])
  rwa [lastC_append hne] at this
theorem Con.snoc {a : List Item} {y : Item} (h : Con a) (hy : a = [] ∨ lastC a + 1 = y.c) : Con (a ++ [y]) := by
  intro l1 z l2 e hne
  rcases List.eq_nil_or_concat l2 with rfl | ⟨l3, z2, rfl⟩
  · obtain ⟨e1, e2⟩ := List.append_inj' e rfl
    cases e2
    rcases hy with rfl | hy
    · exact absurd e1.symm hne
    · rw [← e1]; exact hy
  · rw [List.concat_eq_append, ← List.cons_append, ← List.append_assoc] at e
    exact h l1 z l3 (List.append_inj' e rfl).1 hne
theorem Con.nil : Con [] := by intro l1 y l2 e; simp at e
theorem gGo_con (r : List Item) : ∀ cur : List Item, cur ≠ [] → Con (cur ++ r) →
    gGo cur r = (cur ++ r.takeWhile fun y => decide (y.n = headN cur)) :: groups (r.dropWhile fun y => decide (y.n = headN cur)) := by
  induction r with
  | nil => intro cur _ _; simp [gGo, groups]
  | cons y r ih =>
    intro cur hne hc
    have h1 := hc cur y r rfl hne
    show (if _ then _ else _) = _
    by_cases hn : headN cur = y.n
    · rw [if_pos ⟨h1, hn⟩, ih _ (by simp) (by simpa using hc)]
      have : headN (cur ++ [y]) = headN cur := by
        cases cur with
        | nil => exact absurd rfl hne
        | cons z t => rfl
      rw [this, List.takeWhile_cons, List.dropWhile_cons]
      simp [hn]
    · rw [if_neg (fun q => hn q.2), List.takeWhile_cons, List.dropWhile_cons]
      have : decide (y.n = headN cur) = false := by simpa using fun q => hn q.symm
      rw [this]
      simp [groups_cons]
theorem take_takeWhile {α : Type} (p : α → Bool) : ∀ l : List α, l.take (l.takeWhile p).length = l.takeWhile p
  | [] => by simp
  | a :: r => by
    rw [List.takeWhile_cons]
    split
    · simp [take_takeWhile p r]
    · simp
theorem drop_takeWhile {α : Type} (p : α → Bool) : ∀ l : List α, l.drop (l.takeWhile p).length = l.dropWhile p
  | [] => by simp
  | a :: r => by
    rw [List.takeWhile_cons, List.dropWhile_cons]
    split
    · simp [drop_takeWhile p r]
    · simp
theorem groups_con {z : Item} {r : List Item} (h : Con (z :: r)) : groups (z :: r) = (z :: r).take (alikeN (z :: r)) :: groups ((z :: r).drop (alikeN (z :: r))) := by
  rw [groups_cons, gGo_con r [z] (by simp) h]
  have e : alikeN (z :: r) = (r.takeWhile fun y => decide (y.n = z.n)).length + 1 := Nat.add_comm _ _
  rw [e, List.take_succ_cons, List.drop_succ_cons, take_takeWhile, drop_takeWhile]
  rfl
theorem codeAt_last {l : List Item} {c : Nat} (h1 : 1 ≤ c) (h2 : c ≤ l.length) : codeAt l (c - 1) = lastC (l.take c) := by
  unfold codeAt lastC
  rw [List.getLast?_take, if_neg (by omega)]
  rw [List.getElem?_eq_getElem (by omega)]
  rfl
theorem runGo_due : ∀ (f : Nat) (zs lz : List Item), zs.length ≤ f → Con zs → (∀ y t, zs = y :: t → lz = [] ∨ lastC lz + 1 = y.c) → runGo f zs lz = dueGo (groups zs) lz
  | 0, zs, lz, hf, _, _ => by
    obtain rfl : zs = [] := List.eq_nil_of_length_eq_zero (by omega)
    rfl
  | f + 1, [], lz, _, _, _ => rfl
  | f + 1, z :: r, lz, hf, hc, hl => by
    have hp := alikeN_pos z r
    have hle := alikeN_le (z :: r)
    rw [groups_con hc]
    generalize hk : alikeN (z :: r) = c at *
    have htl : ((z :: r).take c).length = c := by rw [List.length_take]; omega
    have htn : (z :: r).take c ≠ [] := by intro q; rw [q] at htl; simp at htl; omega
    have hdl : ((z :: r).drop c).length ≤ f := by rw [List.length_drop]; simp only [List.length_cons] at hf ⊢; omega
    have hspl : (z :: r).take c ++ (z :: r).drop c = z :: r := List.take_append_drop _ _
    have hcd : Con ((z :: r).drop c) := Con.suffix (a := (z :: r).take c) (by rw [hspl]; exact hc)
    have hh : headC ((z :: r).take c) = z.c := by
      obtain ⟨d, rfl⟩ : ∃ d, c = d + 1 := ⟨c - 1, by omega⟩
      rfl
    have hhd : ((z :: r).take c).headD ⟨0, .none, 0⟩ = z := by
      obtain ⟨d, rfl⟩ : ∃ d, c = d + 1 := ⟨c - 1, by omega⟩
      rfl
    show (if 4 ≤ alikeN (z :: r) then _ else _) = (if 4 ≤ _ then _ else _)
    rw [hk, htl, hh, hhd]
    by_cases h4 : 4 ≤ c
    · rw [if_pos h4, if_pos h4, codeAt_last hp hle, runGo_due f _ [] hdl hcd (fun _ _ _ => .inl rfl)]
    · rw [if_neg h4, if_neg h4]
      rw [runGo_due f _ _ hdl hcd (fun y t e => .inr ?_)]
      · rcases hl z r rfl with rfl | hl
        · rw [if_pos (.inl rfl)]; rfl
        · by_cases hz : lz = []
          · subst hz; rw [if_pos (.inl rfl)]; rfl
          · rw [if_neg (by rintro (q | q); exact hz q; exact q hl)]
      · rw [lastC_append htn]
        exact hc _ y t (by rw [← e, hspl]) htn
theorem dueGo_brk {gs : List (List Item)} {op : List Item} (h : op = [] ∨ ∀ g t, gs = g :: t → lastC op + 1 ≠ headC g) : dueGo gs op = listedP op ++ dueGo gs [] := by
  rcases h with rfl | h
  · rfl
  · cases gs with
    | nil => simp [dueGo, listedP]
    | cons g t =>
      have := h g t rfl
      unfold dueGo
      split
      · simp [listedP]
      · rw [if_pos (.inr this), if_pos (.inl rfl)]; rfl
theorem dueGo_append {gs2 : List (List Item)} : ∀ (gs1 : List (List Item)) (op : List Item), (∀ g ∈ gs1, g ≠ []) → (gs1 = [] → op = [] ∨ ∀ g t, gs2 = g :: t → lastC op + 1 ≠ headC g) → (∀ g', gs1.getLast? = some g' → ∀ g t, gs2 = g :: t → lastC g' + 1 ≠ headC g) →
    dueGo (gs1 ++ gs2) op = dueGo gs1 op ++ dueGo gs2 []
  | [], op, _, h, _ => dueGo_brk (h rfl)
  | g1 :: gs1, op, hne, _, h => by
    have hg1 := hne g1 (.head _)
    have hne' : ∀ g ∈ gs1, g ≠ [] := fun g hg => hne g (.tail _ hg)
    have h' : ∀ g', gs1.getLast? = some g' → ∀ g t, gs2 = g :: t → lastC g' + 1 ≠ headC g := by
      intro g' e
      refine h g' ?_
      cases gs1 with
      | nil => simp at e
      | cons a b => rw [List.getLast?_cons_cons]; exact e
    have h0 : gs1 = [] → ∀ g t, gs2 = g :: t → lastC g1 + 1 ≠ headC g := fun e => h g1 (by rw [e]; rfl)
    show (if 4 ≤ g1.length then listedP op ++ [.code (headC g1), .code (lastC g1), .val (g1.headD ⟨0, .none, 0⟩)] ++ dueGo (gs1 ++ gs2) []
    else if op = [] ∨ lastC op + 1 ≠ headC g1 then listedP op ++ dueGo (gs1 ++ gs2) g1 else dueGo (gs1 ++ gs2) (op ++ g1)) = (if 4 ≤ g1.length then listedP op ++ [.code (headC g1), .code (lastC g1), .val (g1.headD ⟨0, .none, 0⟩)] ++ dueGo gs1 []
    else if op = [] ∨ lastC op + 1 ≠ headC g1 then listedP op ++ dueGo gs1 g1 else dueGo gs1 (op ++ g1)) ++ dueGo gs2 []
    split
    · rw [dueGo_append gs1 [] hne' (fun _ => .inl rfl) h']; simp only [List.append_assoc]
    · split
      · rw [dueGo_append gs1 g1 hne' (fun e => .inr (h0 e)) h', List.append_assoc]
      · rw [dueGo_append gs1 (op ++ g1) hne' (fun e => .inr (by rw [lastC_append hg1]; exact h0 e)) h']
theorem gGo_append {t : List Item} {y : Item} : ∀ (r cur : List Item), cur ≠ [] → lastC (cur ++ r) + 1 ≠ y.c → gGo cur (r ++ y :: t) = gGo cur r ++ gGo [y] t
  | [], cur, _, h => by
    rw [List.append_nil] at h
    show (if _ then _ else _) = _
    rw [if_neg (fun q => h q.1)]; rfl
  | z :: r, cur, hne, h => by
    show (if lastC cur + 1 = z.c ∧ headN cur = z.n then gGo (cur ++ [z]) (r ++ y :: t) else cur :: gGo [z] (r ++ y :: t)) = (if lastC cur + 1 = z.c ∧ headN cur = z.n then gGo (cur ++ [z]) r else cur :: gGo [z] r) ++ _
    split
    · exact gGo_append r _ (by simp) (by simpa using h)
    · rw [gGo_append r [z] (by simp) ?_]; rfl
      rw [lastC_append (by simp)] at h
      exact h
theorem gGo_ne : ∀ (r cur : List Item), cur ≠ [] → ∀ g ∈ gGo cur r, g ≠ []
  | [], cur, h, g, hg => by rw [List.mem_singleton.mp hg]; exact h
  | y :: r, cur, h, g, hg => by
    have hg' : g ∈ (if _ then _ else _ : List (List Item)) := hg
    split at hg'
    · exact gGo_ne r _ (by simp) g hg'
    · rcases List.mem_cons.mp hg' with rfl | hg'
      · exact h
      · exact gGo_ne r _ (by simp) g hg'
theorem gGo_head : ∀ (r cur : List Item), cur ≠ [] → ∃ g t, gGo cur r = g :: t ∧ headC g = headC cur
  | [], cur, h => ⟨cur, [], rfl, rfl⟩
  | y :: r, cur, h => by
    show ∃ g t, (if lastC cur + 1 = y.c ∧ headN cur = y.n then gGo (cur ++ [y]) r else cur :: gGo [y] r) = g :: t ∧ _
    split
    · obtain ⟨g, t, e, e'⟩ := gGo_head r (cur ++ [y]) (by simp)
      refine ⟨g, t, e, e'.trans ?_⟩
      cases cur with
      | nil => exact absurd rfl h
      | cons a b => rfl
    · exact ⟨_, _, rfl, rfl⟩
theorem gGo_last : ∀ (r cur : List Item), cur ≠ [] → ∃ gi gl, gGo cur r = gi ++ [gl] ∧ lastC gl = lastC (cur ++ r)
  | [], cur, h => ⟨[], cur, rfl, by rw [List.append_nil]⟩
  | y :: r, cur, h => by
    show ∃ gi gl, (if lastC cur + 1 = y.c ∧ headN cur = y.n then gGo (cur ++ [y]) r else cur :: gGo [y] r) = gi ++ [gl] ∧ _
    split
    · obtain ⟨g, t, e, e'⟩ := gGo_last r (cur ++ [y]) (by simp)
      exact ⟨g, t, e, e'.trans (by simp)⟩
    · obtain ⟨g, t, e, e'⟩ := gGo_last r [y] (by simp)
      refine ⟨cur :: g, t, by rw [e]; rfl, e'.trans ?_⟩
      rw [lastC_append (a := cur) (b := y :: r) (by simp)]; rfl
theorem wideGo_due (dn : Int) : ∀ (ys run : List Item), Con run → wideGo dn ys run = dueGo (groups (run ++ ys.filter fun y => decide (y.n ≠ dn))) []
  | [], run, hc => by
    show runP run = _
    rw [List.filter_nil, List.append_nil]
    exact runGo_due _ _ _ (Nat.le_refl _) hc (fun _ _ _ => .inl rfl)
  | y :: r, run, hc => by
    by_cases h : y.n = dn
    · rw [wideGo_skip h, wideGo_due dn r run hc, List.filter_cons, if_neg (by simpa using h)]
    · rw [List.filter_cons, if_pos (by simpa using h)]
      by_cases h1 : run ≠ [] ∧ lastC run ≠ y.c - 1
      · rw [wideGo_flush h h1.1 h1.2, wideGo_due dn r [y] (by have := Con.nil.snoc (y := y) (.inl rfl); exact this)]
        obtain ⟨z, t, rfl⟩ : ∃ z t, run = z :: t := by
          cases run with
          | nil => exact absurd rfl h1.1
          | cons z t => exact ⟨z, t, rfl⟩
        have hb : lastC ([z] ++ t) + 1 ≠ y.c := by have := h1.2; show lastC (z :: t) + 1 ≠ y.c; omega
        show runP (z :: t) ++ _ = dueGo (groups (z :: (t ++ y :: _))) []
        rw [groups_cons, gGo_append t [z] (by simp) hb]
        rw [List.singleton_append, groups_cons]
        obtain ⟨g0, t0, e0, e0'⟩ := gGo_head (r.filter fun y => decide (y.n ≠ dn)) [y] (by simp)
        rw [dueGo_append _ _ (gGo_ne t [z] (by simp)) (fun _ => .inl rfl) ?_, ← groups_cons z t]
        · congr 1
          exact runGo_due _ _ _ (Nat.le_refl _) hc (fun _ _ _ => .inl rfl)
        · intro g' hg' g t' e
          rw [e0] at e
          cases e
          obtain ⟨gi, gl, e1, e2⟩ := gGo_last t [z] (by simp)
          rw [e1, List.getLast?_concat] at hg'
          cases hg'
          rw [e2, e0']
          exact hb
      · rw [wideGo_more h h1, wideGo_due dn r (run ++ [y]) (hc.snoc ?_), List.append_assoc]
        · rfl
        · by_cases hr : run = []
          · exact .inl hr
          · exact .inr (by have : lastC run = y.c - 1 := Classical.byContradiction fun q => h1 ⟨hr, q⟩
                           omega)
theorem wideP_due (dn : Int) (ys : List Item) : wideP dn ys = dueGo (groups (ys.filter fun y => decide (y.n ≠ dn))) [] := wideGo_due dn ys [] Con.nil
theorem gGo_flat : ∀ (r cur : List Item), (gGo cur r).flatten = cur ++ r
  | [], cur => by simp [gGo]
  | y :: r, cur => by
    show (if lastC cur + 1 = y.c ∧ headN cur = y.n then gGo (cur ++ [y]) r else cur :: gGo [y] r : List (List Item)).flatten = _
    split
    · rw [gGo_flat r]; simp
    · rw [List.flatten_cons, gGo_flat r]; simp
theorem groups_flat (zs : List Item) : (groups zs).flatten = zs := by
  cases zs with
  | nil => rfl
  | cons y r => rw [groups_cons, gGo_flat]; rfl
theorem groups_ne {zs g : List Item} (h : g ∈ groups zs) : g ≠ [] := by
  cases zs with
  | nil => exact (List.not_mem_nil h).elim
  | cons y r => rw [groups_cons] at h; exact gGo_ne r [y] (by simp) g h
theorem groups_mem {zs g : List Item} {z : Item} (h : g ∈ groups zs) (hz : z ∈ g) : z ∈ zs := by
  rw [← groups_flat zs]; exact List.mem_flatten.mpr ⟨g, h, hz⟩
theorem len_flat_mem {α : Type} {g : List α} : ∀ {L : List (List α)}, g ∈ L → g.length ≤ L.flatten.length
  | a :: L, h => by
    rw [List.flatten_cons, List.length_append]
    rcases List.mem_cons.mp h with rfl | h
    · omega
    · have := len_flat_mem h; omega
theorem len_flat_ne {α : Type} : ∀ {L : List (List α)}, (∀ g ∈ L, g ≠ []) → L.length ≤ L.flatten.length
  | [], _ => Nat.le_refl _
  | a :: L, h => by
    have := len_flat_ne fun g hg => h g (.tail _ hg)
    have h2 := List.length_pos_iff.mpr (h a (.head _))
    rw [List.flatten_cons, List.length_append, List.length_cons]; omega
theorem groups_len1 {zs g : List Item} (h : g ∈ groups zs) : g.length ≤ zs.length := by
  have := len_flat_mem h; rwa [groups_flat] at this
theorem groups_len (zs : List Item) : (groups zs).length ≤ zs.length := by
  have := len_flat_ne (L := groups zs) fun g hg => groups_ne hg
  rwa [groups_flat] at this
theorem dueGo_long {g : List Item} {gs : List (List Item)} {op : List Item} (h : 4 ≤ g.length) : dueGo (g :: gs) op = listedP op ++ [.code (headC g), .code (lastC g), .val (g.headD ⟨0, .none, 0⟩)] ++ dueGo gs [] := by
  show (if _ then _ else _) = _; rw [if_pos h]
theorem dueGo_fresh {g : List Item} {gs : List (List Item)} {op : List Item} (h : ¬ 4 ≤ g.length) (h2 : op = [] ∨ lastC op + 1 ≠ headC g) : dueGo (g :: gs) op = listedP op ++ dueGo gs g := by
  show (if _ then _ else _) = _; rw [if_neg h, if_pos h2]
theorem dueGo_on {g : List Item} {gs : List (List Item)} {op : List Item} (h : ¬ 4 ≤ g.length) (h1 : op ≠ []) (h2 : lastC op + 1 = headC g) : dueGo (g :: gs) op = dueGo gs (op ++ g) := by
  show (if 4 ≤ g.length then _ else if op = [] ∨ lastC op + 1 ≠ headC g then _ else _) = _
  rw [if_neg h, if_neg (by rintro (q | q); exact h1 q; exact q h2)]
end Og

end PartG1
section PartF15
open PySem PySem.W PySem.Calls PyProof.Rows
namespace Og
/-- a ledger's list of a group's codes -/
def GE (ext : List (Addr × Obj)) (v : Value) (g : List Item) : Prop := ∃ a k ws, v = .ref a ∧ (a, W.listOf (List.toArray ws) k) ∈ ext ∧ IntsAre ws (g.map (·.c))
theorem GE.mono {ext ext' : List (Addr × Obj)} {v : Value} {g : List Item} (x : GE ext v g) (h : ∀ q ∈ ext, q ∈ ext') : GE ext' v g := by
  obtain ⟨a, k, ws, e, m, i⟩ := x
  exact ⟨a, k, ws, e, h _ m, i⟩
def JG (zs : List Item) (Dc c1 c2 nd G : Addr) (od o1 o2 on : Obj) (i : Nat) (m : Str → Option Value) (nw : List (Addr × Obj)) : Prop :=
  m (Str.ofString "codes") = some (.ref Dc) ∧ m (Str.ofString "groups") = some (.ref G) ∧
    (((zs.take i).foldl stepG [] = [] ∧ i = 0 ∧ ∃ k, nw = [(Dc, od), (c1, o1), (c2, o2), (nd, on), (G, W.listOf ([] : List Value).toArray k)]) ∨
      ∃ ginit gl gvs ga glv k kg ext, (zs.take i).foldl stepG [] = ginit ++ [gl] ∧ nw = (Dc, od) :: (c1, o1) :: (c2, o2) :: (nd, on) :: (G, W.listOf (gvs ++ [Value.ref ga]).toArray k) :: (ga, W.listOf (List.toArray glv) kg) :: ext ∧ All2 (GE ext) gvs ginit ∧ IntsAre glv (gl.map (·.c)) ∧ gl ≠ [] ∧ (∀ z ∈ gl, z ∈ zs) ∧ gvs.length ≤ i ∧ glv.length ≤ i ∧
        ga ≠ Dc ∧ ga ≠ c1 ∧ ga ≠ c2 ∧ ga ≠ nd ∧ ga ≠ G ∧ (∀ q ∈ ext, q.1 ≠ ga) ∧ (∀ q ∈ ext, q.1 ≠ G))
theorem intsAre_last {vs : List Value} {gl : List Item} (h : IntsAre vs (gl.map (·.c))) (hne : gl ≠ []) : ∃ vi t, vs = vi ++ [Value.int (lastC gl) t] := by
  obtain ⟨gi, z, rfl⟩ : ∃ gi z, gl = gi ++ [z] := ⟨gl.dropLast, gl.getLast hne, (List.dropLast_concat_getLast hne).symm⟩
  have hl : vs.length = gi.length + 1 := by rw [h.length]; simp
  obtain ⟨n, t, e1, e2⟩ := intsAre_get h (i := gi.length) (v := vs[gi.length]'(by omega)) (List.getElem?_eq_getElem _)
  have e3 : n = lastC (gi ++ [z]) := by
    unfold lastC
    rw [List.getLast?_concat]
    simp at e1 ⊢
    exact e1.symm
  refine ⟨vs.take gi.length, t, ?_⟩
  rw [← e3, ← e2]
  have := List.take_append_drop gi.length vs
  rw [List.drop_eq_getElem_cons (by omega), List.drop_of_length_le (by omega)] at this
  exact this.symm
theorem intsAre_head {vs : List Value} {z : Item} {gr : List Item} (h : IntsAre vs ((z :: gr).map (·.c))) : ∃ t, vs[0]? = some (Value.int z.c t) := by
  simp only [List.map_cons] at h
  cases h with
  | cons n t _ => exact ⟨t, rfl⟩
theorem second_obj {g h : Heap} {L a1 a2 : Addr} {o1 o2 : Obj} {l : List (Addr × Obj)} (_ : News g L h ((a1, o1) :: (a2, o2) :: l)) : ∃ o', o' = o2 := ⟨o2, rfl⟩
theorem allLt_mem {D : Addr} : ∀ {l : List (Addr × Obj)}, AllLt D l → ∀ q ∈ l, q.1 < D
  | [], _, q, hq => nomatch hq
  | p :: r, h, q, hq => by
    rcases List.mem_cons.mp hq with rfl | hq
    · exact h.1
    · exact allLt_mem h.2 q hq
section
theorem JG_more {zs : List Item} {Dc c1 c2 nd G ga : Addr} {od o1 o2 on : Obj} {i k kg : Nat} {m : Str → Option Value} {y : Item} {ginit : List (List Item)} {gl : List Item} {gvs glv ws : List Value} {ext : List (Addr × Obj)} {tc : Tok}
    (e1 : m (Str.ofString "codes") = some (.ref Dc)) (e2 : m (Str.ofString "groups") = some (.ref G)) (hyi : zs[i]? = some y) (htk : (zs.take (i + 1)).foldl stepG [] = stepG ((zs.take i).foldl stepG []) y)
    (hgs : (zs.take i).foldl stepG [] = ginit ++ [gl]) (hGv : All2 (GE ext) gvs ginit) (hgI : IntsAre glv (gl.map (·.c))) (hgz : ∀ z ∈ gl, z ∈ zs) (h1 : gvs.length ≤ i) (h2 : glv.length ≤ i) (hw : ws = glv ++ [Value.int y.c tc]) (hyes : lastC gl + 1 = y.c ∧ headN gl = y.n)
    (q1 : ga ≠ Dc) (q2 : ga ≠ c1) (q3 : ga ≠ c2) (q4 : ga ≠ nd) (q5 : ga ≠ G) (q6 : ∀ q ∈ ext, q.1 ≠ ga) (q7 : ∀ q ∈ ext, q.1 ≠ G) :
    JG zs Dc c1 c2 nd G od o1 o2 on (i + 1) m ((Dc, od) :: (c1, o1) :: (c2, o2) :: (nd, on) :: (G, W.listOf (gvs ++ [Value.ref ga]).toArray k) :: (ga, W.listOf ws.toArray (kg + 1)) :: ext) := by
  refine ⟨e1, e2, .inr ⟨ginit, gl ++ [y], gvs, ga, ws, k, kg + 1, ext, by rw [htk, hgs, stepG_more hyes], rfl, hGv, ?_, by simp, ?_, by omega, by rw [hw, List.length_append, List.length_singleton]; omega, q1, q2, q3, q4, q5, q6, q7⟩⟩
  · rw [hw, List.map_append]; exact intsAre_snoc hgI _ _
  · intro z hz
    rcases List.mem_append.mp hz with hz | hz
    · exact hgz z hz
    · rw [List.mem_singleton.mp hz]; exact List.mem_of_getElem? hyi
theorem JG_new {zs : List Item} {Dc c1 c2 nd G ga D : Addr} {od o1 o2 on : Obj} {i k kg kd : Nat} {m : Str → Option Value} {y : Item} {ginit : List (List Item)} {gl : List Item} {gvs glv ws : List Value} {ext : List (Addr × Obj)} {tc : Tok}
    (e1 : m (Str.ofString "codes") = some (.ref Dc)) (e2 : m (Str.ofString "groups") = some (.ref G)) (hyi : zs[i]? = some y) (htk : (zs.take (i + 1)).foldl stepG [] = stepG ((zs.take i).foldl stepG []) y)
    (hgs : (zs.take i).foldl stepG [] = ginit ++ [gl]) (hGv : All2 (GE ext) gvs ginit) (hgI : IntsAre glv (gl.map (·.c))) (h1 : gvs.length ≤ i) (hw : ws = (gvs ++ [Value.ref ga]) ++ [Value.ref D]) (hno : ¬ (lastC gl + 1 = y.c ∧ headN gl = y.n))
    (q5 : ga ≠ G) (q7 : ∀ q ∈ ext, q.1 ≠ G) (r1 : Dc < D) (r2 : c1 < D) (r3 : c2 < D) (r4 : nd < D) (r5 : G < D) (r6 : ga < D) (r7 : AllLt D ext) :
    JG zs Dc c1 c2 nd G od o1 o2 on (i + 1) m ((Dc, od) :: (c1, o1) :: (c2, o2) :: (nd, on) :: (G, W.listOf ws.toArray k) :: (D, W.listOf [Value.int y.c tc].toArray kd) :: (ga, W.listOf glv.toArray kg) :: ext) := by
  refine ⟨e1, e2, .inr ⟨ginit ++ [gl], [y], gvs ++ [Value.ref ga], D, [Value.int y.c tc], k, kd, (ga, W.listOf glv.toArray kg) :: ext, by rw [htk, hgs, stepG_new hno], by rw [hw], ?_, .cons _ _ .nil, by simp, ?_, by rw [List.length_append, List.length_singleton]; omega, by simp,
    Nat.ne_of_gt r1, Nat.ne_of_gt r2, Nat.ne_of_gt r3, Nat.ne_of_gt r4, Nat.ne_of_gt r5, ?_, ?_⟩⟩
  · exact All2.snoc (hGv.mono fun _ _ x => x.mono fun q hq => .tail _ hq) ⟨ga, kg, glv, rfl, .head _, hgI⟩
  · intro z hz; rw [List.mem_singleton.mp hz]; exact List.mem_of_getElem? hyi
  · intro q hq
    exact (lne_cons (Nat.ne_of_lt r6) (fun q hq => Nat.ne_of_lt (allLt_mem r7 q hq))) q hq
  · intro q hq
    exact (lne_cons (q5) (fun q hq => q7 q hq)) q hq
end
theorem JG_done {zs : List Item} {Dc c1 c2 nd G : Addr} {od o1 o2 on : Obj} {i : Nat} {m : Str → Option Value} {nw : List (Addr × Obj)} (h : JG zs Dc c1 c2 nd G od o1 o2 on i m nw) (hi : i = zs.length) :
    ∃ gv k ext, nw = (Dc, od) :: (c1, o1) :: (c2, o2) :: (nd, on) :: (G, W.listOf (List.toArray gv) k) :: ext ∧ All2 (GE ext) gv (groups zs) := by
  subst hi
  obtain ⟨_, _, ⟨h1, h2, k, rfl⟩ | ⟨ginit, gl, gvs, ga, glv, k, kg, ext, h1, rfl, hGv, hI, _⟩⟩ := h
  · rw [List.take_length] at h1
    exact ⟨[], k, [], rfl, by unfold groups; rw [h1]; exact All2.nil⟩
  · rw [List.take_length] at h1
    refine ⟨gvs ++ [.ref ga], k, _, rfl, ?_⟩
    unfold groups; rw [h1]
    exact All2.snoc (hGv.mono fun _ _ x => x.mono fun q hq => .tail _ hq) ⟨ga, kg, glv, rfl, .head _, hI⟩
def DVe (ext : List (Addr × Obj)) (v : Value) : PP → Prop
  | .code c => ∃ t, v = .int c t
  | .val z => ∃ t, v = .int z.n t
  | .lst zs => ∃ a k ws, v = .ref a ∧ (a, W.listOf (List.toArray ws) k) ∈ ext ∧ IntsAre ws (zs.map (·.n))
theorem DVe.mono {ext ext' : List (Addr × Obj)} {v : Value} {p : PP} (x : DVe ext v p) (h : ∀ q ∈ ext, q ∈ ext') : DVe ext' v p := by
  cases p with
  | code c => exact x
  | val z => exact x
  | lst zs => obtain ⟨a, k, ws, e, hm, hI⟩ := x; exact ⟨a, k, ws, e, h _ hm, hI⟩
def JPc (GS : List (List Item)) (total : List PP) (gv : List Value) (i : Nat) (m : Str → Option Value) (outs : List Value) (ext : List (Addr × Obj)) : Prop :=
  m (Str.ofString "last") = some .none ∧ All2 (GE ext) gv GS ∧ ∃ dl, All2 (DVe ext) outs dl ∧ dl ++ dueGo (GS.drop i) [] = total
def JPo (GS : List (List Item)) (total : List PP) (gv : List Value) (i : Nat) (m : Str → Option Value) (fixed : List Addr) (outs : List Value) (ext : List (Addr × Obj)) : Prop :=
  ∃ op ov outs0 la kl ext' tl tc, ext = (la, W.listOf (List.toArray ov) kl) :: ext' ∧ outs = outs0 ++ [Value.int (headC op) tc] ++ [Value.ref la] ∧ m (Str.ofString "last") = some (.int (lastC op) tl) ∧ op ≠ [] ∧ IntsAre ov (op.map (·.n)) ∧ All2 (GE ext') gv GS ∧
    (∃ dl, All2 (DVe ext') outs0 dl ∧ dl ++ dueGo (GS.drop i) op = total) ∧ ov.length ≤ 64 * i ∧ (∀ a ∈ fixed, a ≠ la) ∧ (∀ q ∈ ext', q.1 ≠ la)
def JP (GS : List (List Item)) (total : List PP) (gv : List Value) (Dc c1 c2 nd G P : Addr) (od o1 o2 on oG : Obj) (i : Nat) (m : Str → Option Value) (nw : List (Addr × Obj)) : Prop :=
  ∃ outs kP ext, nw = (Dc, od) :: (c1, o1) :: (c2, o2) :: (nd, on) :: (G, oG) :: (P, W.listOf (List.toArray outs) kP) :: ext ∧ m (Str.ofString "parts") = some (.ref P) ∧ outs.length ≤ 3 * i ∧ (∀ q ∈ ext, q.1 ≠ P) ∧
    (JPc GS total gv i m outs ext ∨ JPo GS total gv i m [Dc, c1, c2, nd, G, P] outs ext)
theorem close_c {ext : List (Addr × Obj)} {outs : List Value} {dl total : List PP} {g : List Item} {gs : List (List Item)} (hdl : All2 (DVe ext) outs dl) (hdt : dl ++ dueGo (g :: gs) [] = total) :
    (4 ≤ g.length → ∃ dl, All2 (DVe ext) outs dl ∧ dl ++ ([.code (headC g), .code (lastC g), .val (g.headD ⟨0, .none, 0⟩)] ++ dueGo gs []) = total) ∧ (¬ 4 ≤ g.length → ∃ dl, All2 (DVe ext) outs dl ∧ dl ++ dueGo gs g = total) :=
  ⟨fun h => ⟨dl, hdl, by rw [← hdt, dueGo_long h]; rfl⟩, fun h => ⟨dl, hdl, by rw [← hdt, dueGo_fresh h (.inl rfl)]; rfl⟩⟩
theorem close_o {ext : List (Addr × Obj)} {outs0 ov : List Value} {dl total : List PP} {g op : List Item} {gs : List (List Item)} {la : Addr} {kl : Nat} {tc : Tok} (hdl : All2 (DVe ext) outs0 dl) (hdt : dl ++ dueGo (g :: gs) op = total) (hov : IntsAre ov (op.map (·.n))) (hop : op ≠ []) :
    (4 ≤ g.length → ∃ dl, All2 (DVe ((la, W.listOf (List.toArray ov) kl) :: ext)) (outs0 ++ [Value.int (headC op) tc] ++ [Value.ref la]) dl ∧ dl ++ ([.code (headC g), .code (lastC g), .val (g.headD ⟨0, .none, 0⟩)] ++ dueGo gs []) = total) ∧
    (¬ 4 ≤ g.length → lastC op + 1 ≠ headC g → ∃ dl, All2 (DVe ((la, W.listOf (List.toArray ov) kl) :: ext)) (outs0 ++ [Value.int (headC op) tc] ++ [Value.ref la]) dl ∧ dl ++ dueGo gs g = total) ∧ (¬ 4 ≤ g.length → lastC op + 1 = headC g → dl ++ dueGo gs (op ++ g) = total) := by
  have h1 : All2 (DVe ((la, W.listOf (List.toArray ov) kl) :: ext)) (outs0 ++ [Value.int (headC op) tc] ++ [Value.ref la]) (dl ++ listedP op) := by
    obtain ⟨y, r, rfl⟩ : ∃ y r, op = y :: r := by cases op with
      | nil => exact absurd rfl hop
      | cons y r => exact ⟨y, r, rfl⟩
    show All2 _ _ (dl ++ ([PP.code y.c] ++ [PP.lst (y :: r)]))
    rw [← List.append_assoc]
    exact ((hdl.mono fun _ _ x => x.mono fun q hq => .tail _ hq).snoc (v := Value.int (headC (y :: r)) tc) (x := PP.code y.c) ⟨tc, rfl⟩).snoc (v := Value.ref la) (x := PP.lst (y :: r)) ⟨la, kl, ov, rfl, .head _, hov⟩
  refine ⟨fun h => ⟨_, h1, ?_⟩, fun h h2 => ⟨_, h1, ?_⟩, fun h h2 => ?_⟩
  · rw [← hdt, dueGo_long h]; simp only [List.append_assoc]
  · rw [← hdt, dueGo_fresh h (.inr h2), List.append_assoc]
  · rw [← hdt, dueGo_on h hop h2]
theorem JP_view {GS : List (List Item)} {total : List PP} {gv outs : List Value} {i : Nat} {m : Str → Option Value} {fixed : List Addr} {ext : List (Addr × Obj)} {g : List Item} (hd : GS.drop i = g :: GS.drop (i + 1)) (h : JPc GS total gv i m outs ext ∨ JPo GS total gv i m fixed outs ext) :
    ∃ lv, m (Str.ofString "last") = some lv ∧ All2 (GE ext) gv GS ∧ (4 ≤ g.length → ∃ dl, All2 (DVe ext) outs dl ∧ dl ++ ([.code (headC g), .code (lastC g), .val (g.headD ⟨0, .none, 0⟩)] ++ dueGo (GS.drop (i + 1)) []) = total) ∧
      (¬ 4 ≤ g.length → (lv = .none ∧ ∃ dl, All2 (DVe ext) outs dl ∧ dl ++ dueGo (GS.drop (i + 1)) g = total) ∨
        (∃ op tl, lv = .int (lastC op) tl ∧ (lastC op + 1 ≠ headC g → ∃ dl, All2 (DVe ext) outs dl ∧ dl ++ dueGo (GS.drop (i + 1)) g = total) ∧
          (lastC op + 1 = headC g → ∃ ov outs0 la kl ext' tc, ext = (la, W.listOf (List.toArray ov) kl) :: ext' ∧ outs = outs0 ++ [Value.int (headC (op ++ g)) tc] ++ [Value.ref la] ∧ IntsAre ov (op.map (·.n)) ∧ All2 (GE ext') gv GS ∧
            (∃ dl, All2 (DVe ext') outs0 dl ∧ dl ++ dueGo (GS.drop (i + 1)) (op ++ g) = total) ∧ ov.length ≤ 64 * i ∧ (∀ a ∈ fixed, a ≠ la) ∧ (∀ q ∈ ext', q.1 ≠ la)))) := by
  rcases h with ⟨e2, hGE2, dl, hdl, hdt⟩ | ⟨op, ov, outs0, la, kl, ext', tl, tc, rfl, rfl, e2, hop, hov, hGE2, ⟨dl, hdl, hdt⟩, hovl, hfla, hxla⟩
  · rw [hd] at hdt
    have z := close_c hdl hdt
    exact ⟨_, e2, hGE2, z.1, fun h => .inl ⟨rfl, z.2 h⟩⟩
  · rw [hd] at hdt
    have z := close_o (kl := kl) (tc := tc) (la := la) hdl hdt hov hop
    refine ⟨_, e2, hGE2.mono fun _ _ x => x.mono fun q hq => .tail _ hq, z.1, fun h => .inr ⟨op, tl, rfl, z.2.1 h, fun h2 => ⟨ov, outs0, la, kl, ext', tc, rfl, ?_, hov, hGE2, ⟨dl, hdl, z.2.2 h h2⟩, hovl, hfla, hxla⟩⟩⟩
    cases op with
    | nil => exact absurd rfl hop
    | cons a b => rfl
theorem JP_done {GS : List (List Item)} {total : List PP} {gv outs : List Value} {i : Nat} {m : Str → Option Value} {fixed : List Addr} {ext : List (Addr × Obj)} (hi : GS.length ≤ i) (h : JPc GS total gv i m outs ext ∨ JPo GS total gv i m fixed outs ext) : All2 (DVe ext) outs total := by
  have e : GS.drop i = [] := List.drop_of_length_le hi
  rcases h with ⟨e2, hGE2, dl, hdl, hdt⟩ | ⟨op, ov, outs0, la, kl, ext', tl, tc, rfl, rfl, e2, hop, hov, hGE2, ⟨dl, hdl, hdt⟩, hovl, hfla, hxla⟩
  · rw [e] at hdt
    rw [← hdt]
    show All2 _ _ (dl ++ [])
    rw [List.append_nil]; exact hdl
  · rw [e] at hdt
    rw [← hdt]
    obtain ⟨y, r, rfl⟩ : ∃ y r, op = y :: r := by cases op with
      | nil => exact absurd rfl hop
      | cons y r => exact ⟨y, r, rfl⟩
    show All2 _ _ (dl ++ ([PP.code y.c] ++ [PP.lst (y :: r)]))
    rw [← List.append_assoc]
    exact ((hdl.mono fun _ _ x => x.mono fun q hq => .tail _ hq).snoc (v := Value.int (headC (y :: r)) tc) (x := PP.code y.c) ⟨tc, rfl⟩).snoc (v := Value.ref la) (x := PP.lst (y :: r)) ⟨la, kl, ov, rfl, .head _, hov⟩
theorem JP_long {GS : List (List Item)} {total : List PP} {gv outs ws : List Value} {i : Nat} {m : Str → Option Value} {ext : List (Addr × Obj)} {z : Item} {gt : List Item} {t1 t2 t3 : Tok} (hm : m (Str.ofString "last") = some .none) (hGE : All2 (GE ext) gv GS)
    (h : ∃ dl, All2 (DVe ext) outs dl ∧ dl ++ ([.code (headC (z :: gt)), .code (lastC (z :: gt)), .val ((z :: gt).headD ⟨0, .none, 0⟩)] ++ dueGo (GS.drop (i + 1)) []) = total) (hw : ws = outs ++ [.int z.c t1, .int (lastC (z :: gt)) t2, .int z.n t3]) : JPc GS total gv (i + 1) m ws ext := by
  obtain ⟨dl, h1, h2⟩ := h
  refine ⟨hm, hGE, dl ++ [.code (headC (z :: gt)), .code (lastC (z :: gt)), .val ((z :: gt).headD ⟨0, .none, 0⟩)], ?_, by rw [List.append_assoc]; exact h2⟩
  rw [hw]
  exact h1.append (((All2.one (x := PP.code (headC (z :: gt))) ⟨t1, rfl⟩).snoc (x := PP.code (lastC (z :: gt))) ⟨t2, rfl⟩).snoc (x := PP.val z) ⟨t3, rfl⟩)
theorem JP_open {GS : List (List Item)} {total dl : List PP} {gv outs0 ov us ws : List Value} {i : Nat} {m : Str → Option Value} {ext : List (Addr × Obj)} {op gr : List Item} {la : Addr} {kl : Nat} {tl tc : Tok} {fixed : List Addr} (hm : m (Str.ofString "last") = some (.int (lastC gr) tl)) (hgr : gr ≠ [])
    (hov : IntsAre ov (op.map (·.n))) (hus : IntsAre us (gr.map (·.n))) (hw : ws = ov ++ us) (hGE : All2 (GE ext) gv GS) (hdl : All2 (DVe ext) outs0 dl) (hdt : dl ++ dueGo (GS.drop (i + 1)) (op ++ gr) = total) (h1 : ov.length ≤ 64 * i) (h2 : gr.length ≤ 63) (h3 : ∀ a ∈ fixed, a ≠ la) (h4 : ∀ q ∈ ext, q.1 ≠ la) :
    JPo GS total gv (i + 1) m fixed (outs0 ++ [Value.int (headC (op ++ gr)) tc] ++ [Value.ref la]) ((la, W.listOf (List.toArray ws) kl) :: ext) := by
  refine ⟨op ++ gr, ws, outs0, la, kl, ext, tl, tc, rfl, rfl, by rw [lastC_append hgr]; exact hm, by simp [hgr], ?_, hGE, ⟨dl, hdl, hdt⟩, ?_, h3, h4⟩
  · rw [hw, List.map_append]; exact intsAre_append hov hus
  · rw [hw, List.length_append, hus.length, List.length_map]; omega
section
local macro_rules | `(tactic| walk_at "zzz0") => `(tactic| skip)
local macro_rules | `(tactic| walk_at "zzz1") => `(tactic| skip)
local macro_rules | `(tactic| walk_at "zzz2") => `(tactic| skip)
local macro_rules | `(tactic| walk_at "zzz3") => `(tactic| skip)
local macro_rules | `(tactic| walk_at "zzz4") => `(tactic| skip)
local macro_rules | `(tactic| walk_at "zzz5") => `(tactic| skip)
local macro_rules | `(tactic| walk_at "zzz6") => `(tactic| skip)
local macro_rules | `(tactic| walk_at "zzz7") => `(tactic| skip)
local macro_rules | `(tactic| walk_at "zz1") => `(tactic| skip)
local macro_rules | `(tactic| walk_at "zz2") => `(tactic| skip)
local macro_rules | `(tactic| walk_at "zz3") => `(tactic| skip)
local macro_rules | `(tactic| walk_at "pyIter ref") => `(tactic| ((with_reducible show wpAny _ _ (pyIter (Value.ref _)) (fun it s₂ => LoopAtV _ _ _ _ _ _ _ _ _ it s₂) _ _); refine stop ?_))
local macro_rules | `(tactic| walk_at "exec Assign cons ListComp") => `(tactic| k_dflt (refine LCt.Assign_ListComp_T (F₀ := by assumption) (by rfl) (by with_unfolding_all rfl) (by with_unfolding_all rfl) (by decide) (by rfl) (by decide) (by rfl) (by rfl) (by rfl) ?_))
local macro_rules | `(tactic| walk_at "call builtin:sorted") => `(tactic| (refine stop ?_))
local macro_rules | `(tactic| walk_at "call builtin:list.extend") => `(tactic| (refine stop ?_))
local macro_rules | `(tactic| walk_at "call builtin:list.append") => `(tactic| (refine stop ?_))
local macro_rules | `(tactic| walk_at "truthy ref") => `(tactic| (refine stop ?_))
local macro_rules | `(tactic| walk_at "CompSrc") => `(tactic| (refine stop ?_))
local macro_rules | `(tactic| walk_at "CompSrcT") => `(tactic| (refine stop ?_))
local macro_rules | `(tactic| walk_at "subscriptTail") => `(tactic| (refine stop ?_))
local macro_rules | `(tactic| walk_at "call builtin:len") => `(tactic| (refine stop ?_))
local macro_rules | `(tactic| walk_at "compareOp Is") => `(tactic| (refine stop ?_))
variable {w : World} {A : Around} {h₀ : Heap} {L : Addr} {m : Str → Option Value} {s : Shared} {Q : Value → Shared → Prop} {E : Value → Shared → Prop} {news rest : List (Addr × Obj)}
set_option maxHeartbeats 16000000 in
theorem due_spec {nd : Addr} {on : Obj} {kN : List (Int × Value)} {ys : List Item} {dn : Int} {dt : Tok} (C : Cx w 500 200 A h₀ L m s.heap) (N : News h₀ L s.heap [(nd, on)]) (hlo : (nd == sysModules) = false) (hd : on.IsDictOf (intKind PR w) kN) (hyl : ys.length < 64)
    (hp : (kN.map (·.1)).Perm (ys.map (·.c))) (hs : (ys.map (·.c)).Pairwise (· ≤ ·)) (hv : ∀ y ∈ ys, ∃ t, valueAt kN y.c = some (.int y.n t))
    (h : ∀ r h' tk outs k ext, Off [] s.heap h' → (∀ q ∈ (r, W.listOf (List.toArray outs) k) :: ext, h'.get? q.1 = some q.2) → All2 (DVe ext) outs (dueGo (groups (ys.filter fun y => decide (y.n ≠ dn))) []) → outs.length ≤ 200 → Q (.ref r) { s with heap := h', toks := tk }) :
    wpAny (model PR w) A (call (.ref 230) [.ref nd, .int dn dt] []) Q E s := by
  obtain ⟨env, outer, A₀, base, mean, mg, mb, hh, hA, hd', hu', hf, hke, B, F, X, T⟩ := C
  refine raise ?_ hh hA hd' hu'
  clear hh hA hd' hu'
  (refine' enterCells (by assumption) (by assumption) (by assumption) (by assumption) (by assumption) (by assumption) (by assumption) ?k6 ?k7 ?k8 ?k9 ?kB ?kD ?_ ?c2 ?c3 ?c4; (case k6 => k_is); (case k7 => k_is); (case k8 => decide); (case k9 => exact BindsTo.of_eq rfl); (case kB => exact rfl); (case kD => decide +kernel); (case c2 => exact rfl); (case c3 => exact rfl); (case c4 => exact rfl); intro g L' h₁ tk' cells' hg F' N' Y' hcn B' X' T' hl FG'; k_cells Y'; (try simp only [List.cons_append, List.nil_append] at N'))
  k_lt hl
  k_steps
  rename News g L' _ _ => NZ
  rename Obj.data _ = Data.cell (bindC _ _ _ (Str.ofString "numbers")) => dcn
  rename Obj.data _ = Data.cell (bindC _ _ _ (Str.ofString "default")) => dcd
  obtain ⟨oA, rfl⟩ := head_obj NZ
  obtain ⟨oB, rfl⟩ := second_obj NZ
  have dcn' := dcn
  have dcd' := dcd
  change _ = Data.cell (some (Value.ref nd)) at dcn
  change _ = Data.cell (some (Value.int dn dt)) at dcd
  clear dcn' dcd'
  have hkl : kN.length = ys.length := by have := hp.length_eq; simpa using this
  refine go (sorted_dict rfl (by assumption) NZ (kda_dict NZ (.tail _ (.tail _ (.head _))) hd) hlo (by omega) ?_)
  intro B h1 tk1 kB vs ns F1 N1 l1 hI hpm hsr
  have hns : ns = ys.map (·.c) := (hpm.trans hp).eq_of_pairwise (le := (· ≤ ·)) (fun a b _ _ h1 h2 => Int.le_antisymm h1 h2) hsr hs
  clear NZ
  k_sweep
  k_steps
  rename News g L' _ _ => NZ
  subst hns
  have hBn : nd < B := l1 _ (.tail _ (.tail _ (.head _)))
  have hB1 : L' + 1 + 1 < B := l1 _ (.head _)
  have hB2 : L' + 1 < B := l1 _ (.tail _ (.head _))
  have hvl : vs.length = ys.length := by rw [hI.length, List.length_map]
  refine go (LCt.CompSrcT.ledger rfl (by assumption) NZ (.head _) (by rw [List.size_toArray, sizeLine_eq]; omega) fun g' => ?_)
  refine comp_inv_t (fun i us nw => nw = [(B, W.listOf vs.toArray kB), (L' + 1 + 1, oA), (L' + 1, oB), (nd, on)] ∧ IntsAre us (((ys.take i).filter fun y => decide (y.n ≠ dn)).map (·.c))) ?_ ⟨rfl, .nil⟩ ?_
  · rintro i v I oI C oC D m₂ us nw h2 tk2 E' hi hvi ⟨rfl, hus⟩ hoC hm F2 N2 o1 o2 o3 n1 n2 n3
    obtain ⟨c, tc', hc, rfl⟩ := intsAre_get hI (by simpa using hvi)
    rw [List.getElem?_map] at hc
    obtain ⟨y, hyi, rfl⟩ := Option.map_eq_some_iff.mp hc
    obtain ⟨t, hvy⟩ := hv y (List.mem_of_getElem? hyi)
    clear NZ
    k_steps
    rename News g L' _ _ => NZ
    refine go (kda_item (k := y.c) NZ (.tail _ (.tail _ (.tail _ (.tail _ (.tail _ (.tail _ (.head _))))))) hd (intKind_is PR w y.c tc') hvy ?_)
    k_steps
    all_goals
      rename News g L' _ _ => NZ
      refine compEnd_mk (by assumption) NZ o1 o2 o3 (Or.inr ⟨_, .head _, rfl, _, rfl⟩) ⟨rfl, ?_⟩
      rw [List.take_add_one, hyi, List.filter_append, List.map_append]
    · rw [show List.filter (fun y => decide (y.n ≠ dn)) (some y).toList = [y] by simp_all]
      exact intsAre_snoc hus _ _
    · rw [show List.filter (fun y => decide (y.n ≠ dn)) (some y).toList = [] by simp_all, List.map_nil, List.append_nil]
      exact hus
  rintro us nw ⟨rfl, hus⟩
  rw [List.size_toArray, hvl, List.take_length] at hus
  generalize hzs : (ys.filter fun y => decide (y.n ≠ dn)) = zs at hus
  have hzv : ∀ z ∈ zs, ∃ t, valueAt kN z.c = some (.int z.n t) := fun z hz => hv z (by rw [← hzs] at hz; exact (List.mem_filter.mp hz).1)
  have hzl : zs.length < 64 := by rw [← hzs]; exact Nat.lt_of_le_of_lt (List.length_filter_le _ _) hyl
  intro Dc h3 tk3 F3 N3 o3
  have o4 := off1_mem o3
  clear NZ
  k_sweep
  k_steps
  rename News g L' _ _ => NZ
  obtain ⟨G, rfl⟩ := head_of NZ
  change News _ _ _ ((G, W.listOf ([] : List Value).toArray 0) :: _) at NZ
  rename Dc < G ∧ _ => hltG
  have hul : us.length = zs.length := by rw [hus.length, List.length_map]
  refine' go (iter_list_my (JG zs Dc (L' + 1 + 1) (L' + 1) nd G (LCg.lst us) oA oB on) rfl (by assumption) (news_sub NZ ?qs) ?qsrc ⟨rfl, rfl, .inl ⟨rfl, rfl, 0, rfl⟩⟩ ?qturn ?qdone)
  case qs => exact (by first | ((repeat' (first | exact lsub_nil | exact lsub_rfl | refine lsub_cons ?_ ?_ | exact List.Mem.head _ | refine List.Mem.tail _ ?_ | refine lsub_tail ?_ | exact lsub_inl | refine lsub_app ?_ ?_ | refine lsub_inr ?_ | refine List.mem_append_right _ ?_)); done) | (trace "GRIND"; intro q hq; simp only [List.mem_cons, List.mem_append, List.cons_append, List.not_mem_nil, or_false] at hq ⊢; grind))
  case qsrc =>
    rintro i m nw ⟨_, _, ⟨_, _, k, rfl⟩ | ⟨ginit, gl, gvs, ga, glv, k, kg, ext, _, rfl, _⟩⟩
    · exact .head _
    · exact .head _
  case qturn =>
    rintro i v m₁ news₁ I oI h4 tk4 s4 rfl hvi ⟨e1, e2, hJ⟩ hnI F4 N4
    obtain ⟨c, tc, hc, rfl⟩ := intsAre_get hus hvi
    rw [List.getElem?_map] at hc
    obtain ⟨y, hyi, rfl⟩ := Option.map_eq_some_iff.mp hc
    obtain ⟨ty, hvy⟩ := hzv y (List.mem_of_getElem? hyi)
    have htk : (zs.take (i + 1)).foldl stepG [] = stepG ((zs.take i).foldl stepG []) y := by rw [List.take_add_one, hyi, List.foldl_append]; rfl
    have hil : i < zs.length := (List.getElem?_eq_some_iff.mp hyi).1
    replace F4 := fr2u_ F4 e1 e2
    clear NZ
    rcases hJ with ⟨hg0, rfl, k, rfl⟩ | ⟨ginit, gl, gvs, ga, glv, k, kg, ext, hgs, rfl, hGv, hgI, hgne, hgz, hgl1, hgl2, q1, q2, q3, q4, q5, q6, q7⟩
    · k_sweep
      k_steps
      rename News g L' _ _ => NZ
      refine go (truthy_nil (NZ.get (.tail _ (.tail _ (.tail _ (.tail _ (.tail _ (.head _))))))) ?_)
      k_steps
      rename News g L' _ _ => NZ
      obtain ⟨D', rfl⟩ := head_of NZ
      rename I < D' ∧ _ => hltD
      refine go (append_my (D := G) (ys := []) (n := k) (rest := [(D', W.listOf [Value.int y.c tc].toArray 0), (I, oI), (Dc, LCg.lst us), (L' + 1 + 1, oA), (L' + 1, oB), (nd, on)]) (by assumption) (news_sub NZ (by first | ((repeat' (first | exact lsub_nil | exact lsub_rfl | refine lsub_cons ?_ ?_ | exact List.Mem.head _ | refine List.Mem.tail _ ?_ | refine lsub_tail ?_ | exact lsub_inl | refine lsub_app ?_ ?_ | refine lsub_inr ?_ | refine List.mem_append_right _ ?_)); done) | (trace "GRIND"; intro q hq; simp only [List.mem_cons, List.mem_append, List.cons_append, List.not_mem_nil, or_false] at hq ⊢; grind))) ?_ (by simp) ?_)
      · have z1 := hnI _ (.tail _ (.tail _ (.tail _ (.tail _ (.head _)))))
        exact (lne_cons (Nat.ne_of_gt (by omega)) (lne_cons (Ne.symm z1) (lne_cons (Nat.ne_of_lt hltG.1) (lne_cons (Nat.ne_of_lt (by omega)) (lne_cons (Nat.ne_of_lt (by omega)) (lne_cons (Nat.ne_of_lt (by omega)) lne_nil))))))
      intro h5 ws5 hw5 F5 N5
      k_sweep
      k_steps
      rename News g L' _ _ => NZ
      have zz : ∀ q ∈ (Dc, LCg.lst us) :: (L' + 1 + 1, oA) :: (L' + 1, oB) :: (nd, on) :: (G, W.listOf ws5.toArray (k + 1)) :: (D', W.listOf [Value.int y.c tc].toArray 0) :: [], q.1 ≠ I := by
        intro q hq
        rcases List.mem_append.mp (show q ∈ [(Dc, LCg.lst us), (L' + 1 + 1, oA), (L' + 1, oB), (nd, on), (G, W.listOf ws5.toArray (k + 1))] ++ [(D', W.listOf [Value.int y.c tc].toArray 0)] from hq) with hq | hq
        · exact ne_list hnI (by rfl) q hq
        · rw [List.mem_singleton.mp hq]; exact Nat.ne_of_gt hltD.1
      refine forEnd_next (fr_for NZ (by assumption)) (news_sub NZ (by first | ((repeat' (first | exact lsub_nil | exact lsub_rfl | refine lsub_cons ?_ ?_ | exact List.Mem.head _ | refine List.Mem.tail _ ?_ | refine lsub_tail ?_ | exact lsub_inl | refine lsub_app ?_ ?_ | refine lsub_inr ?_ | refine List.mem_append_right _ ?_)); done) | (trace "GRIND"; intro q hq; simp only [List.mem_cons, List.mem_append, List.cons_append, List.not_mem_nil, or_false] at hq ⊢; grind))) zz ⟨rfl, rfl, .inr ⟨[], [y], [], D', [Value.int y.c tc], k + 1, 0, [], htk, by rw [hw5], All2.nil, .cons _ _ .nil, by simp, (fun z hz => by rw [List.mem_singleton.mp hz]; exact List.mem_of_getElem? hyi), Nat.zero_le _, Nat.le_refl _, Nat.ne_of_gt (by omega), Nat.ne_of_gt (by omega), Nat.ne_of_gt (by omega), Nat.ne_of_gt (by omega), Nat.ne_of_gt (by omega), (fun _ q => nomatch q), (fun _ q => nomatch q)⟩⟩
    · k_sweep
      k_steps
      rename News g L' _ _ => NZ
      refine go (truthy_ne (NZ.get (.tail _ (.tail _ (.tail _ (.tail _ (.tail _ (.head _))))))) (by simp) (by simp only [List.length_append, List.length_cons, List.length_nil]; omega) ?_)
      k_steps
      rename News g L' _ _ => NZ
      refine go (last_item (vs := gvs) (v := .ref ga) (NZ.get (.tail _ (.tail _ (.tail _ (.tail _ (.tail _ (.head _))))))) (by omega) ?_)
      obtain ⟨glvi, tl, rfl⟩ := intsAre_last hgI hgne
      obtain ⟨z, gr, rfl⟩ : ∃ z gr, gl = z :: gr := by cases gl with
        | nil => exact absurd rfl hgne
        | cons z gr => exact ⟨z, gr, rfl⟩
      obtain ⟨t0, h0⟩ := intsAre_head hgI
      obtain ⟨tz, hvz⟩ := hzv z (hgz z (.head _))
      have hlg2 : glvi.length + 1 ≤ i := by simpa using hgl2
      have hIa := hnI _ (.tail _ (.tail _ (.tail _ (.tail _ (.tail _ (.head _))))))
      have hIG := hnI _ (.tail _ (.tail _ (.tail _ (.tail _ (.head _)))))
      k_steps
      refine go (last_item (vs := glvi) (v := .int (lastC (z :: gr)) tl) (NZ.get (.tail _ (.tail _ (.tail _ (.tail _ (.tail _ (.tail _ (.head _)))))))) (by omega) ?_)
      k_steps
      rename lastC (z :: gr) + 1 = y.c => HL
      rename News g L' _ _ => NZ
      refine go (last_item (vs := gvs) (v := .ref ga) (NZ.get (.tail _ (.tail _ (.tail _ (.tail _ (.tail _ (.head _))))))) (by omega) ?_)
      k_steps
      refine go (item_my (NZ.get (.tail _ (.tail _ (.tail _ (.tail _ (.tail _ (.tail _ (.head _)))))))) (by decide) (by decide) h0 ?_)
      k_steps
      refine go (kda_item (k := z.c) NZ (.tail _ (.tail _ (.tail _ (.tail _ (.head _))))) hd (intKind_is PR w z.c t0) hvz ?_)
      k_steps
      rename News g L' _ _ => NZ
      refine go (kda_item (k := y.c) NZ (.tail _ (.tail _ (.tail _ (.tail _ (.head _))))) hd (intKind_is PR w y.c tc) hvy ?_)
      iterate 1 walk1
      refine wpAny_truthy_bool ?_
      refine split_bool ?_ ?_ <;> intro hzn
      · simp only [beq_iff_eq] at hzn
        walk1
        rw [if_pos rfl]
        dsimp only
        k_steps
        rename News g L' _ _ => NZ
        refine go (last_item (vs := gvs) (v := .ref ga) (NZ.get (.tail _ (.tail _ (.tail _ (.tail _ (.tail _ (.head _))))))) (by omega) ?_)
        k_steps
        rename News g L' _ _ => NZ
        refine go (append_my (D := ga) (ys := glvi ++ [.int (lastC (z :: gr)) tl]) (n := kg) (rest := (I, oI) :: (Dc, LCg.lst us) :: (L' + 1 + 1, oA) :: (L' + 1, oB) :: (nd, on) :: (G, W.listOf (gvs ++ [Value.ref ga]).toArray k) :: ext) (by assumption) (news_sub NZ (by first | ((repeat' (first | exact lsub_nil | exact lsub_rfl | refine lsub_cons ?_ ?_ | exact List.Mem.head _ | refine List.Mem.tail _ ?_ | refine lsub_tail ?_ | exact lsub_inl | refine lsub_app ?_ ?_ | refine lsub_inr ?_ | refine List.mem_append_right _ ?_)); done) | (trace "GRIND"; intro q hq; simp only [List.mem_cons, List.mem_append, List.cons_append, List.not_mem_nil, or_false] at hq ⊢; grind))) ?_ (by simp only [List.length_append, List.length_cons, List.length_nil]; omega) ?_)
        · exact (lne_cons (Ne.symm hIa) (lne_cons (Ne.symm q1) (lne_cons (Ne.symm q2) (lne_cons (Ne.symm q3) (lne_cons (Ne.symm q4) (lne_cons (Ne.symm q5) (fun q hq => q6 q hq)))))))
        intro h5 ws5 hw5 F5 N5
        clear NZ
        k_sweep
        k_steps
        rename News g L' _ _ => NZ
        refine forEnd_next (fr_for NZ (by assumption)) (news_sub NZ (by first | ((repeat' (first | exact lsub_nil | exact lsub_rfl | refine lsub_cons ?_ ?_ | exact List.Mem.head _ | refine List.Mem.tail _ ?_ | refine lsub_tail ?_ | exact lsub_inl | refine lsub_app ?_ ?_ | refine lsub_inr ?_ | refine List.mem_append_right _ ?_)); done) | (trace "GRIND"; intro q hq; simp only [List.mem_cons, List.mem_append, List.cons_append, List.not_mem_nil, or_false] at hq ⊢; grind))) (ne_list hnI (l' := (Dc, LCg.lst us) :: (L' + 1 + 1, oA) :: (L' + 1, oB) :: (nd, on) :: (G, W.listOf (gvs ++ [Value.ref ga]).toArray k) :: (ga, W.listOf ws5.toArray (kg + 1)) :: ext) rfl) (JG_more rfl rfl hyi htk hgs hGv hgI hgz hgl1 hgl2 hw5 ⟨HL, hzn⟩ q1 q2 q3 q4 q5 q6 q7)
      have hno : ¬ (lastC (z :: gr) + 1 = y.c ∧ headN (z :: gr) = y.n) := fun q => by
        have : z.n = y.n := q.2
        simp [this] at hzn
      dsimp only
      clear hzn
      k_steps
      rotate_left
      rename lastC (z :: gr) + 1 ≠ y.c => HL
      have hno : ¬ (lastC (z :: gr) + 1 = y.c ∧ headN (z :: gr) = y.n) := fun q => HL q.1
      all_goals
        rename News g L' _ _ => NZ
        obtain ⟨D', rfl⟩ := head_of NZ
        rename I < D' ∧ _ => hltD
        refine go (append_my (D := G) (ys := gvs ++ [.ref ga]) (n := k) (rest := (D', W.listOf [Value.int y.c tc].toArray 0) :: (I, oI) :: (Dc, LCg.lst us) :: (L' + 1 + 1, oA) :: (L' + 1, oB) :: (nd, on) :: (ga, W.listOf (glvi ++ [Value.int (lastC (z :: gr)) tl]).toArray kg) :: ext) (by assumption) (news_sub NZ (by first | ((repeat' (first | exact lsub_nil | exact lsub_rfl | refine lsub_cons ?_ ?_ | exact List.Mem.head _ | refine List.Mem.tail _ ?_ | refine lsub_tail ?_ | exact lsub_inl | refine lsub_app ?_ ?_ | refine lsub_inr ?_ | refine List.mem_append_right _ ?_)); done) | (trace "GRIND"; intro q hq; simp only [List.mem_cons, List.mem_append, List.cons_append, List.not_mem_nil, or_false] at hq ⊢; grind))) ?_ (by simp only [List.length_append, List.length_cons, List.length_nil]; omega) ?_)
        · exact (lne_cons (Nat.ne_of_gt hltD.2.2.2.2.2.1) (lne_cons (Ne.symm hIG) (lne_cons (Nat.ne_of_lt hltG.1) (lne_cons (Nat.ne_of_lt hltG.2.2.1) (lne_cons (Nat.ne_of_lt hltG.2.2.2.1) (lne_cons (Nat.ne_of_lt hltG.2.2.2.2) (lne_cons (q5) (fun q hq => q7 q hq))))))))
        intro h5 ws5 hw5 F5 N5
        clear NZ
        k_sweep
        k_steps
        rename News g L' _ _ => NZ
        refine forEnd_next (fr_for NZ (by assumption)) (news_sub NZ (by first | ((repeat' (first | exact lsub_nil | exact lsub_rfl | refine lsub_cons ?_ ?_ | exact List.Mem.head _ | refine List.Mem.tail _ ?_ | refine lsub_tail ?_ | exact lsub_inl | refine lsub_app ?_ ?_ | refine lsub_inr ?_ | refine List.mem_append_right _ ?_)); done) | (trace "GRIND"; intro q hq; simp only [List.mem_cons, List.mem_append, List.cons_append, List.not_mem_nil, or_false] at hq ⊢; grind))) (fun q hq => ?_) (JG_new (k := k + 1) (kd := 0) (kg := kg) (tc := tc) rfl rfl hyi htk hgs hGv hgI hgl1 hw5 hno q5 q7 hltD.2.1 hltD.2.2.1 hltD.2.2.2.1 hltD.2.2.2.2.1 hltD.2.2.2.2.2.1 hltD.2.2.2.2.2.2.1 hltD.2.2.2.2.2.2.2)
        simp only [List.mem_cons] at hq
        rcases hq with rfl | rfl | rfl | rfl | rfl | rfl | rfl | hq
        · exact hnI _ (.head _)
        · exact hnI _ (.tail _ (.head _))
        · exact hnI _ (.tail _ (.tail _ (.head _)))
        · exact hnI _ (.tail _ (.tail _ (.tail _ (.head _))))
        · exact hIG
        · exact Nat.ne_of_gt hltD.1
        · exact hIa
        · exact hnI _ (.tail _ (.tail _ (.tail _ (.tail _ (.tail _ (.tail _ hq))))))
  case qdone =>
    rintro m₁ news₁ h4 tk4 hJ F4 N4
    obtain ⟨gv, kG, ext0, rfl, hGE⟩ := JG_done hJ hul
    replace F4 := fr1_ F4 hJ.2.1
    clear hJ
    generalize hGS : groups zs = GS at hGE
    have hGm : ∀ g ∈ GS, g ≠ [] ∧ g.length ≤ 63 ∧ ∀ z ∈ g, z ∈ zs := fun g hg => by
      rw [← hGS] at hg
      exact ⟨groups_ne hg, by have := groups_len1 hg; omega, fun z hz => groups_mem hg hz⟩
    have hGl : GS.length ≤ 63 := by have := groups_len zs; rw [hGS] at this; omega
    have hgvl : gv.length = GS.length := hGE.1
    clear NZ
    k_sweep
    k_steps
    rename News g L' _ _ => NZ
    rename Dc < _ ∧ _ => hltP
    obtain ⟨P, rfl⟩ := head_of NZ
    change News _ _ _ ((P, W.listOf ([] : List Value).toArray 0) :: _) at NZ
    refine' go (iter_list_my (JP GS (dueGo GS []) gv Dc (L' + 1 + 1) (L' + 1) nd G P (LCg.lst us) oA oB on (W.listOf (List.toArray gv) kG)) rfl (by assumption) (news_sub NZ ?qs2) ?qsrc2 ⟨[], 0, ext0, rfl, rfl, Nat.le_refl _, (fun q hq => Nat.ne_of_lt (allLt_mem hltP.2.2.2.2.2 q hq)), .inl ⟨rfl, hGE, [], All2.nil, rfl⟩⟩ ?qturn2 ?qdone2)
    case qs2 => exact (by first | ((repeat' (first | exact lsub_nil | exact lsub_rfl | refine lsub_cons ?_ ?_ | exact List.Mem.head _ | refine List.Mem.tail _ ?_ | refine lsub_tail ?_ | exact lsub_inl | refine lsub_app ?_ ?_ | refine lsub_inr ?_ | refine List.mem_append_right _ ?_)); done) | (trace "GRIND"; intro q hq; simp only [List.mem_cons, List.mem_append, List.cons_append, List.not_mem_nil, or_false] at hq ⊢; grind))
    case qsrc2 =>
      rintro i m nw ⟨outs, kP, ext, rfl, _⟩
      exact .tail _ (.tail _ (.tail _ (.tail _ (.head _))))
    case qturn2 =>
      rintro i v m₂ news₂ I oI h5 tk5 s5 rfl hvi ⟨outs, kP, ext, rfl, e1, hol, hxP, hJ⟩ hnI F5 N5
      have hiG : i < GS.length := by rw [← hgvl]; exact (List.getElem?_eq_some_iff.mp hvi).1
      obtain ⟨gr, hgr⟩ : ∃ gr, GS[i]? = some gr := ⟨_, List.getElem?_eq_getElem hiG⟩
      have hdrop : GS.drop i = gr :: GS.drop (i + 1) := by
        rw [List.drop_eq_getElem_cons hiG]; congr 1; rw [List.getElem?_eq_getElem hiG] at hgr; exact Option.some.inj hgr
      obtain ⟨hgne, hgl63, hgz⟩ := hGm gr (List.mem_of_getElem? hgr)
      obtain ⟨z, gt, rfl⟩ : ∃ z gt, gr = z :: gt := by cases gr with
        | nil => exact absurd rfl hgne
        | cons z gt => exact ⟨z, gt, rfl⟩
      obtain ⟨tz, hvz⟩ := hzv z (hgz z (.head _))
      clear NZ
      obtain ⟨lv, e2, hGE2, hlong, hshort⟩ := JP_view hdrop hJ
      clear hJ
      obtain ⟨ag, kg, gw, rfl, hag, hgw⟩ := hGE2.2 i v _ hvi hgr
      replace F5 := fr2u_ F5 e1 e2
      have hgwl : gw.length ≤ 63 := by rw [hgw.length, List.length_map]; exact hgl63
      k_sweep
      k_steps
      rename News g L' _ _ => NZ
      refine go (len_my (NZ.get (.tail _ (.tail _ (.tail _ (.tail _ (.tail _ (.tail _ (.tail _ hag)))))))) (by omega) fun t tk => ?_)
      rw [hgw.length, List.length_map]
      k_steps
      · rename (3 : Int) < _ => h4
        rename News g L' _ _ => NZ
        obtain ⟨dl, hdl, hdt⟩ := hlong (by omega)
        clear hshort hlong
        obtain ⟨t0, h0⟩ := intsAre_head hgw
        obtain ⟨gwi, tl, rfl⟩ := intsAre_last hgw hgne
        have hgwl2 : gwi.length + 1 ≤ 63 := by simpa using hgwl
        refine go (item_my (NZ.get (.tail _ (.tail _ (.tail _ (.tail _ (.tail _ (.tail _ (.tail _ hag)))))))) (by decide) (by decide) h0 ?_)
        k_steps
        refine go (last_item (vs := gwi) (v := .int (lastC (z :: gt)) tl) (NZ.get (.tail _ (.tail _ (.tail _ (.tail _ (.tail _ (.tail _ (.tail _ hag)))))))) (by omega) ?_)
        k_steps
        refine go (item_my (NZ.get (.tail _ (.tail _ (.tail _ (.tail _ (.tail _ (.tail _ (.tail _ hag)))))))) (by decide) (by decide) h0 ?_)
        k_steps
        refine go (kda_item (k := z.c) NZ (.tail _ (.tail _ (.tail _ (.tail _ (.head _))))) hd (intKind_is PR w z.c t0) hvz ?_)
        k_steps
        rename News g L' _ _ => NZ
        obtain ⟨D', rfl⟩ := head_of NZ
        rename I < D' ∧ _ => hltD
        have hz1 := hnI _ (.tail _ (.tail _ (.tail _ (.tail _ (.tail _ (.head _))))))
        refine go (extend_my (D := P) (b := D') (ys := outs) (n := kP) (k := 0) (zs := [.int z.c t0, .int (lastC (z :: gt)) tl, .int z.n tz]) (rest := (D', W.listOf [Value.int z.c t0, .int (lastC (z :: gt)) tl, .int z.n tz].toArray 0) :: (I, oI) :: (Dc, LCg.lst us) :: (L' + 1 + 1, oA) :: (L' + 1, oB) :: (nd, on) :: (G, W.listOf (List.toArray gv) kG) :: ext) (by assumption) (news_sub NZ (by first | ((repeat' (first | exact lsub_nil | exact lsub_rfl | refine lsub_cons ?_ ?_ | exact List.Mem.head _ | refine List.Mem.tail _ ?_ | refine lsub_tail ?_ | exact lsub_inl | refine lsub_app ?_ ?_ | refine lsub_inr ?_ | refine List.mem_append_right _ ?_)); done) | (trace "GRIND"; intro q hq; simp only [List.mem_cons, List.mem_append, List.cons_append, List.not_mem_nil, or_false] at hq ⊢; grind))) ?_ (NZ.get (.head _)) (by simp only [List.length_cons, List.length_nil]; omega) ?_)
        · exact (lne_cons (Nat.ne_of_gt hltD.2.2.2.2.2.2.1) (lne_cons (Ne.symm hz1) (lne_cons (Nat.ne_of_lt hltP.1) (lne_cons (Nat.ne_of_lt hltP.2.1) (lne_cons (Nat.ne_of_lt hltP.2.2.1) (lne_cons (Nat.ne_of_lt hltP.2.2.2.1) (lne_cons (Nat.ne_of_lt hltP.2.2.2.2.1) (fun q hq => hxP q hq))))))))
        intro h6 n6 ws6 hw6 F6 N6
        clear NZ
        k_sweep
        k_steps
        rename News g L' _ _ => NZ
        refine forEnd_next (fr_for NZ (by assumption)) (news_sub NZ (by first | ((repeat' (first | exact lsub_nil | exact lsub_rfl | refine lsub_cons ?_ ?_ | exact List.Mem.head _ | refine List.Mem.tail _ ?_ | refine lsub_tail ?_ | exact lsub_inl | refine lsub_app ?_ ?_ | refine lsub_inr ?_ | refine List.mem_append_right _ ?_)); done) | (trace "GRIND"; intro q hq; simp only [List.mem_cons, List.mem_append, List.cons_append, List.not_mem_nil, or_false] at hq ⊢; grind))) (ne_list hnI (l' := (Dc, LCg.lst us) :: (L' + 1 + 1, oA) :: (L' + 1, oB) :: (nd, on) :: (G, W.listOf (List.toArray gv) kG) :: (P, W.listOf (List.toArray ws6) n6) :: ext) rfl) ⟨ws6, n6, ext, rfl, rfl, by rw [hw6]; simp only [List.length_append, List.length_cons, List.length_nil]; omega, hxP, .inl (JP_long rfl hGE2 ⟨dl, hdl, hdt⟩ hw6)⟩
      · rename ¬ (3 : Int) < _ => h4
        rename News g L' _ _ => NZ
        have hs4 := hshort (by omega)
        clear hshort hlong
        obtain ⟨t0, h0⟩ := intsAre_head hgw
        rcases hs4 with ⟨rfl, dl, hdl, hdt⟩ | ⟨op, tl0, rfl, hnew, hadj⟩
        rotate_left
        refine go ?_
        k_steps
        refine go (item_my (NZ.get (.tail _ (.tail _ (.tail _ (.tail _ (.tail _ (.tail _ (.tail _ hag)))))))) (by decide) (by decide) h0 ?_)
        k_steps
        rotate_left
        rename lastC op + 1 = z.c => HL
        obtain ⟨ov, outs0, la, kl, ext', tc, rfl, rfl, hov, hGE', ⟨dl, hdl, hdt⟩, hovl, hfla, hxla⟩ := hadj HL
        clear hnew hadj HL
        rotate_left
        refine go ?_
        k_steps
        rotate_left
        rename lastC op + 1 ≠ z.c => HL
        obtain ⟨dl, hdl, hdt⟩ := hnew HL
        clear hnew hadj HL
        rotate_left
        rotate_left
        iterate 2
          refine go (item_my (NZ.get (.tail _ (.tail _ (.tail _ (.tail _ (.tail _ (.tail _ (.tail _ hag)))))))) (by decide) (by decide) h0 ?_)
          k_steps
          rename News g L' _ _ => NZ
          obtain ⟨D2, rfl⟩ := head_of NZ
          obtain ⟨la, rfl⟩ := head_of2 NZ
          rename I < la ∧ _ => hltA
          rename la < D2 ∧ _ => hltD
          have hz1 := hnI _ (.tail _ (.tail _ (.tail _ (.tail _ (.tail _ (.head _))))))
          refine go (extend_my (D := P) (b := D2) (ys := outs) (n := kP) (k := 0) (zs := [.int z.c t0, .ref la]) (rest := (D2, W.listOf [Value.int z.c t0, .ref la].toArray 0) :: (la, W.listOf ([] : List Value).toArray 0) :: (I, oI) :: (Dc, LCg.lst us) :: (L' + 1 + 1, oA) :: (L' + 1, oB) :: (nd, on) :: (G, W.listOf (List.toArray gv) kG) :: ext) (by assumption) (news_sub NZ (by first | ((repeat' (first | exact lsub_nil | exact lsub_rfl | refine lsub_cons ?_ ?_ | exact List.Mem.head _ | refine List.Mem.tail _ ?_ | refine lsub_tail ?_ | exact lsub_inl | refine lsub_app ?_ ?_ | refine lsub_inr ?_ | refine List.mem_append_right _ ?_)); done) | (trace "GRIND"; intro q hq; simp only [List.mem_cons, List.mem_append, List.cons_append, List.not_mem_nil, or_false] at hq ⊢; grind))) ?_ (NZ.get (.head _)) (by simp only [List.length_cons, List.length_nil]; omega) ?_)
          · exact (lne_cons (Nat.ne_of_gt hltD.2.2.2.2.2.2.2.1) (lne_cons (Nat.ne_of_gt hltA.2.2.2.2.2.2.1) (lne_cons (Ne.symm hz1) (lne_cons (Nat.ne_of_lt hltP.1) (lne_cons (Nat.ne_of_lt hltP.2.1) (lne_cons (Nat.ne_of_lt hltP.2.2.1) (lne_cons (Nat.ne_of_lt hltP.2.2.2.1) (lne_cons (Nat.ne_of_lt hltP.2.2.2.2.1) (fun q hq => hxP q hq)))))))))
          intro h6 n6 ws6 hw6 F6 N6
          clear NZ
          k_sweep
          k_steps
          rename News g L' _ _ => NZ
          obtain ⟨op, hop⟩ : ∃ x : List Item, x = [] := ⟨_, rfl⟩
          obtain ⟨ov, hov0⟩ : ∃ x : List Value, x = [] := ⟨_, rfl⟩
          obtain ⟨kl, hkl0⟩ : ∃ x : Nat, x = 0 := ⟨_, rfl⟩
          obtain ⟨outs0, hout0⟩ : ∃ x : List Value, x = outs := ⟨_, rfl⟩
          obtain ⟨ext', hext0⟩ : ∃ x : List (Addr × Obj), x = ext := ⟨_, rfl⟩
          obtain ⟨tc, htc⟩ : ∃ x : Tok, x = t0 := ⟨_, rfl⟩
          have hw7 : ws6 = outs0 ++ [Value.int (headC (op ++ z :: gt)) tc] ++ [Value.ref la] := by rw [hw6, hop, hout0, htc, List.append_assoc]; rfl
          have hov : IntsAre ov (op.map (·.n)) := by rw [hov0, hop]; exact .nil
          have hGE' : All2 (GE ext') gv GS := by rw [hext0]; exact hGE2
          have hovl : ov.length ≤ 64 * i := by rw [hov0]; exact Nat.zero_le _
          have hfla : ∀ a ∈ [Dc, L' + 1 + 1, L' + 1, nd, G, P], a ≠ la := by
            intro a ha
            simp only [List.mem_cons, List.not_mem_nil, or_false] at ha
            rcases ha with rfl | rfl | rfl | rfl | rfl | rfl
            · exact Nat.ne_of_lt hltA.2.1
            · exact Nat.ne_of_lt hltA.2.2.1
            · exact Nat.ne_of_lt hltA.2.2.2.1
            · exact Nat.ne_of_lt hltA.2.2.2.2.1
            · exact Nat.ne_of_lt hltA.2.2.2.2.2.1
            · exact Nat.ne_of_lt hltA.2.2.2.2.2.2.1
          have hxla : ∀ q ∈ ext', q.1 ≠ la := fun q hq => Nat.ne_of_lt (allLt_mem hltA.2.2.2.2.2.2.2 q (hext0 ▸ hq))
          have hnI' : ∀ q ∈ (Dc, LCg.lst us) :: (L' + 1 + 1, oA) :: (L' + 1, oB) :: (nd, on) :: (G, W.listOf (List.toArray gv) kG) :: (P, W.listOf (List.toArray (outs0 ++ [Value.int (headC (op ++ z :: gt)) tc] ++ [Value.ref la])) n6) :: (la, W.listOf (List.toArray ov) kl) :: ext', q.1 ≠ I := by
            intro q hq
            rcases List.mem_append.mp (show q ∈ [(Dc, LCg.lst us), (L' + 1 + 1, oA), (L' + 1, oB), (nd, on), (G, W.listOf (List.toArray gv) kG), (P, W.listOf (List.toArray (outs0 ++ [Value.int (headC (op ++ z :: gt)) tc] ++ [Value.ref la])) n6)] ++ ((la, W.listOf (List.toArray ov) kl) :: ext') from hq) with hq | hq
            · exact ne_list (l := [(Dc, LCg.lst us), (L' + 1 + 1, oA), (L' + 1, oB), (nd, on), (G, W.listOf (List.toArray gv) kG), (P, W.listOf outs.toArray kP)]) (l' := [(Dc, LCg.lst us), (L' + 1 + 1, oA), (L' + 1, oB), (nd, on), (G, W.listOf (List.toArray gv) kG), (P, W.listOf (List.toArray (outs0 ++ [Value.int (headC (op ++ z :: gt)) tc] ++ [Value.ref la])) n6)]) (fun q hq => hnI q (List.mem_append_left (bs := ext) hq)) rfl q hq
            exact (lne_cons (Nat.ne_of_gt hltA.1) (fun q hq => hnI q (.tail _ (.tail _ (.tail _ (.tail _ (.tail _ (.tail _ (hext0 ▸ hq))))))))) q hq
          have hxP' : ∀ q ∈ ext', q.1 ≠ P := by rw [hext0]; exact hxP
          have hout : outs0.length ≤ 3 * i := by rw [hout0]; exact hol
          have hdl' : All2 (DVe ext') outs0 dl := by rw [hext0, hout0]; exact hdl
          have hdt' : dl ++ dueGo (GS.drop (i + 1)) (op ++ z :: gt) = dueGo GS [] := by rw [hop]; exact hdt
          have NY : News g _ _ ((I, oI) :: (Dc, LCg.lst us) :: (L' + 1 + 1, oA) :: (L' + 1, oB) :: (nd, on) :: (G, W.listOf (List.toArray gv) kG) :: (P, W.listOf (List.toArray (outs0 ++ [Value.int (headC (op ++ z :: gt)) tc] ++ [Value.ref la])) n6) :: (la, W.listOf (List.toArray ov) kl) :: ext') :=
            news_sub NZ fun q hq => by rw [hov0, hkl0, hext0, ← hw7] at hq; simp only [List.mem_cons] at hq ⊢; grind
          clear NZ hw6 hdl hdt hol hxP hGE2 hltD hltA hext0 hout0 hop hov0 hkl0 htc hw7 hnI hag hgw h0 hgwl
          rotate_left
        have hnI' := hnI
        have hxP' : ∀ q ∈ ext', q.1 ≠ P := fun q hq => hxP q (.tail _ hq)
        have hout : outs0.length ≤ 3 * i := by simp only [List.length_append, List.length_cons, List.length_nil] at hol; omega
        have hdl' := hdl
        have hdt' := hdt
        have NY := NZ
        obtain ⟨n6, hn6⟩ : ∃ x : Nat, x = kP := ⟨_, rfl⟩
        rw [← hn6] at NY hnI'
        clear NZ hn6 hdl hdt hol hxP hGE2 hnI hag hgw h0 hgwl
        all_goals
          have hIla : la ≠ I := hnI' _ (.tail _ (.tail _ (.tail _ (.tail _ (.tail _ (.tail _ (.head _)))))))
          obtain ⟨ag', kg, gw, eag, hag, hgw⟩ := hGE'.2 i _ _ hvi hgr
          cases eag
          have hgwl : gw.length ≤ 63 := by rw [hgw.length, List.length_map]; exact hgl63
          refine go (last_item (vs := outs0 ++ [Value.int (headC (op ++ z :: gt)) tc]) (v := .ref la) (NY.get (.tail _ (.tail _ (.tail _ (.tail _ (.tail _ (.tail _ (.head _)))))))) (by simp only [List.length_append, List.length_cons, List.length_nil]; omega) ?_)
          k_steps
          rename News g L' _ _ => NZ
          refine go (LCg.CompSrc.ledger rfl (by assumption) NZ (.tail _ (.tail _ (.tail _ (.tail _ (.tail _ (.tail _ (.tail _ (.tail _ (hag))))))))) (by rw [List.size_toArray, sizeLine_eq]; omega) fun g' => ?_)
          refine comp_inv (fun j ws nw => nw = (I, oI) :: (Dc, LCg.lst us) :: (L' + 1 + 1, oA) :: (L' + 1, oB) :: (nd, on) :: (G, W.listOf (List.toArray gv) kG) :: (P, W.listOf (List.toArray (outs0 ++ [Value.int (headC (op ++ z :: gt)) tc] ++ [Value.ref la])) n6) :: (la, W.listOf (List.toArray ov) kl) :: ext' ∧ IntsAre ws (((z :: gt).take j).map (·.n))) ?_ ⟨rfl, .nil⟩ ?_
          · rintro j v I2 oI2 C oC D m3 ws nw h2 tk2 E' hj hvj ⟨rfl, hws⟩ hoC hm F2 N2 o1 o2 o3 n1 n2 n3
            obtain ⟨c, tcc, hc, rfl⟩ := intsAre_get hgw (by simpa using hvj)
            rw [List.getElem?_map] at hc
            obtain ⟨y, hyj, rfl⟩ := Option.map_eq_some_iff.mp hc
            obtain ⟨ty, hvy⟩ := hzv y (hgz y (List.mem_of_getElem? hyj))
            clear NZ
            k_steps
            rename News g L' _ _ => NZ
            refine go (kda_item (k := y.c) NZ (.tail _ (.tail _ (.tail _ (.tail _ (.tail _ (.tail _ (.tail _ (.head _)))))))) hd (intKind_is PR w y.c tcc) hvy ?_)
            k_steps
            rename News g L' _ _ => NZ
            refine compEnd_mk (by assumption) NZ o1 o2 o3 (Or.inr ⟨_, .tail _ (.tail _ (.tail _ (.tail _ (.tail _ (.tail _ (.tail _ (.tail _ (hag)))))))), rfl, _, rfl⟩) ⟨rfl, ?_⟩
            rw [List.take_add_one, hyj, List.map_append]
            exact intsAre_snoc hws _ _
          rintro ws nw ⟨rfl, hws⟩
          rw [List.size_toArray, hgw.length, List.length_map, List.take_length] at hws
          intro Dn h7 tk7 F7 N7 o7
          have o8 := off1_mem o7
          clear NZ
          k_sweep
          k_steps
          rename News g L' _ _ => NZ
          refine go (extend_my (D := la) (b := Dn) (ys := ov) (zs := ws) (n := kl) (rest := (Dn, LCg.lst ws) :: (I, oI) :: (Dc, LCg.lst us) :: (L' + 1 + 1, oA) :: (L' + 1, oB) :: (nd, on) :: (G, W.listOf (List.toArray gv) kG) :: (P, W.listOf (List.toArray (outs0 ++ [Value.int (headC (op ++ z :: gt)) tc] ++ [Value.ref la])) n6) :: ext') (by assumption) (news_sub NZ (by first | ((repeat' (first | exact lsub_nil | exact lsub_rfl | refine lsub_cons ?_ ?_ | exact List.Mem.head _ | refine List.Mem.tail _ ?_ | refine lsub_tail ?_ | exact lsub_inl | refine lsub_app ?_ ?_ | refine lsub_inr ?_ | refine List.mem_append_right _ ?_)); done) | (trace "GRIND"; intro q hq; simp only [List.mem_cons, List.mem_append, List.cons_append, List.not_mem_nil, or_false] at hq ⊢; grind))) ?_ (NZ.get (.head _)) (by rw [hws.length, List.length_map]; omega) ?_)
          · exact (lne_cons (Ne.symm (o8 _ (.tail _ (.tail _ (.tail _ (.tail _ (.tail _ (.tail _ (.tail _ (.head _)))))))))) (lne_cons (Ne.symm hIla) (lne_cons (hfla _ (.head _)) (lne_cons (hfla _ (.tail _ (.head _))) (lne_cons (hfla _ (.tail _ (.tail _ (.head _)))) (lne_cons (hfla _ (.tail _ (.tail _ (.tail _ (.head _))))) (lne_cons (hfla _ (.tail _ (.tail _ (.tail _ (.tail _ (.head _)))))) (lne_cons (hfla _ (.tail _ (.tail _ (.tail _ (.tail _ (.tail _ (.head _))))))) (fun q hq => hxla q hq)))))))))
          intro h8 n8 ws8 hw8 F8 N8
          clear NZ
          k_sweep
          obtain ⟨gwi, tl, rfl⟩ := intsAre_last hgw hgne
          have hgwl2 : gwi.length + 1 ≤ 63 := by simpa using hgwl
          k_steps
          rename News g L' _ _ => NZ
          refine go (last_item (vs := gwi) (v := .int (lastC (z :: gt)) tl) (NZ.get (.tail _ (.tail _ (.tail _ (.tail _ (.tail _ (.tail _ (.tail _ (.tail _ (.tail _ (hag))))))))))) (by omega) ?_)
          k_steps
          rename News g L' _ _ => NZ
          refine forEnd_next (fr_for NZ (by assumption)) (news_sub NZ (by first | ((repeat' (first | exact lsub_nil | exact lsub_rfl | refine lsub_cons ?_ ?_ | exact List.Mem.head _ | refine List.Mem.tail _ ?_ | refine lsub_tail ?_ | exact lsub_inl | refine lsub_app ?_ ?_ | refine lsub_inr ?_ | refine List.mem_append_right _ ?_)); done) | (trace "GRIND"; intro q hq; simp only [List.mem_cons, List.mem_append, List.cons_append, List.not_mem_nil, or_false] at hq ⊢; grind))) (ne_list hnI' (l' := (Dc, LCg.lst us) :: (L' + 1 + 1, oA) :: (L' + 1, oB) :: (nd, on) :: (G, W.listOf (List.toArray gv) kG) :: (P, W.listOf (List.toArray (outs0 ++ [Value.int (headC (op ++ z :: gt)) tc] ++ [Value.ref la])) n6) :: (la, W.listOf (List.toArray ws8) n8) :: ext') rfl) ⟨_, n6, _, rfl, rfl, by simp only [List.length_append, List.length_cons, List.length_nil]; omega, ?_, .inr (JP_open rfl hgne hov hws hw8 hGE' hdl' hdt' hovl hgl63 hfla hxla)⟩
          intro q hq
          exact (lne_cons (Ne.symm (hfla P (.tail _ (.tail _ (.tail _ (.tail _ (.tail _ (.head _)))))))) (fun q hq => hxP' q hq)) q hq
    case qdone2 =>
      rintro m₂ news₂ h5 tk5 ⟨outs, kP, ext, rfl, e1, hol, hxP, hJ⟩ F5 N5
      have hfin := JP_done (by rw [hgvl]; exact Nat.le_refl _) hJ
      replace F5 := fr1_ F5 e1
      clear hJ NZ
      k_sweep
      k_steps
      rename News g L' _ _ => NZ
      rw [hzs, hGS] at h
      refine h P _ _ outs kP ext (offN hg N (by assumption) NZ fun q hq => ?_) (fun q hq => NZ.get ?_) hfin (by omega)
      · rw [List.mem_singleton.mp hq]
        exact .tail _ (.tail _ (.tail _ (.head _)))
      · exact (lsub_cons (.tail _ (.tail _ (.tail _ (.tail _ (.tail _ (.head _)))))) (fun q hq => .tail _ (.tail _ (.tail _ (.tail _ (.tail _ (.tail _ hq))))))) q hq
end
end Og

end PartF15
section PartG2
open PySem PySem.W PySem.Calls PyProof.Rows PySem.SeqAt
namespace Og
def ppD : PP → PyData
  | .code c => .int c
  | .val z => .int z.n
  | .lst zs => .list ((zs.map (·.n)).map PyData.int)
theorem All2.cons_inv {α β : Type} {R : α → β → Prop} {v : α} {x : β} {vs : List α} {xs : List β} (h : All2 R (v :: vs) (x :: xs)) : R v x ∧ All2 R vs xs :=
  ⟨h.2 0 v x rfl rfl, by simpa using h.1, fun i a b e1 e2 => h.2 (i + 1) a b (by simpa using e1) (by simpa using e2)⟩
theorem reads_DV {h : Heap} {ext : List (Addr × Obj)} (H : ∀ q ∈ ext, h.get? q.1 = some q.2) {v : Value} {p : PP} (x : DVe ext v p) : ∃ as, Reads h v (ppD p) as := by
  cases p with
  | code c => obtain ⟨t, rfl⟩ := x; exact ⟨_, Reads.int _ _⟩
  | val z => obtain ⟨t, rfl⟩ := x; exact ⟨_, Reads.int _ _⟩
  | lst zs =>
    obtain ⟨a, k, ws, rfl, hm, hI⟩ := x
    exact ⟨_, reads_of_ints ⟨_, H _ hm, rfl, _, rfl⟩ hI⟩
theorem reads_all {h : Heap} {α : Type} {R : Value → α → Prop} {f : α → PyData} (k : ∀ v x, R v x → ∃ as, Reads h v (f x) as) : ∀ {vs : List Value} {xs : List α}, All2 R vs xs → ∃ as, ReadsAll h vs (xs.map f) as
  | [], [], _ => ⟨_, .nil⟩
  | [], _ :: _, x => by have := x.1; simp at this
  | _ :: _, [], x => by have := x.1; simp at this
  | v :: vs, x :: xs, y => by
    obtain ⟨as, ha⟩ := k v x y.cons_inv.1
    obtain ⟨bs, hb⟩ := reads_all k y.cons_inv.2
    exact ⟨_, .cons ha hb⟩
theorem canLay_map {α : Type} {f : α → PyData} (h : ∀ x, (f x).canLay0 = true) : ∀ xs : List α, PyData.canLayAll0 (xs.map f) = true
  | [] => by simp [PyData.canLayAll0]
  | x :: xs => by simp [PyData.canLayAll0, h x, canLay_map h xs]
theorem depth_map {α : Type} {f : α → PyData} {n : Nat} (h : ∀ x, (f x).depth ≤ n) : ∀ xs : List α, PyData.depthAll (xs.map f) ≤ n
  | [] => by simp [PyData.depthAll]
  | x :: xs => by
    have h1 := h x
    have h2 := depth_map h xs
    simp only [List.map_cons, PyData.depthAll]; omega
theorem shaped_map {α : Type} {f : α → PyData} {n : Nat} (h1 : ∀ x, (f x).canLay0 = true) (h2 : ∀ x, (f x).depth ≤ n) (hn : n ≤ 60) (xs : List α) : shaped (.list (xs.map f)) = true := by
  have h3 := depth_map h2 xs
  have h4 : PyData.depth (.list (xs.map f)) ≤ 64 := by simp only [PyData.depth]; omega
  show (PyData.canLay0 (.list (xs.map f)) && decide (PyData.depth (.list (xs.map f)) ≤ 64)) = true
  rw [Bool.and_eq_true]
  exact ⟨by simp only [PyData.canLay0]; exact canLay_map h1 xs, decide_eq_true h4⟩
theorem ppD_lay (p : PP) : (ppD p).canLay0 = true := by
  cases p with
  | code c => simp [ppD, PyData.canLay0]
  | val z => simp [ppD, PyData.canLay0]
  | lst zs => simp only [ppD, PyData.canLay0]; exact canLayAll0_ints _
theorem ppD_depth (p : PP) : (ppD p).depth ≤ 2 := by
  cases p with
  | code c => simp [ppD, PyData.depth]
  | val z => simp [ppD, PyData.depth]
  | lst zs => have := W.depthAll_ints (zs.map (·.n)); simp only [ppD, PyData.depth]; omega
def pairD (z : Item) : PyData := .tuple [.int z.c, .int z.n]
theorem pairD_lay (z : Item) : (pairD z).canLay0 = true := by simp [pairD, PyData.canLay0, PyData.canLayAll0]
theorem pairD_depth (z : Item) : (pairD z).depth ≤ 2 := by simp [pairD, PyData.depth, PyData.depthAll]
/-- a ledger's tuple of two ints -/
def TupN (ext : List (Addr × Obj)) (v : Value) (z : Item) : Prop := ∃ a t1 t2 n, v = .ref a ∧ (a, ({ cls := .type "tuple", data := .seq #[.int z.c t1, .int z.n t2] n } : Obj)) ∈ ext
theorem TupN.mono {ext ext' : List (Addr × Obj)} {v : Value} {z : Item} (x : TupN ext v z) (h : ∀ q ∈ ext, q ∈ ext') : TupN ext' v z := by
  obtain ⟨a, t1, t2, n, e, hm⟩ := x
  exact ⟨a, t1, t2, n, e, h _ hm⟩
theorem reads_TupN {h : Heap} {ext : List (Addr × Obj)} (H : ∀ q ∈ ext, h.get? q.1 = some q.2) {v : Value} {z : Item} (x : TupN ext v z) : ∃ as, Reads h v (pairD z) as := by
  obtain ⟨a, t1, t2, n, rfl, hm⟩ := x
  exact ⟨_, reads_tuple_at (H _ hm) rfl rfl (.cons (.int _ _) (.cons (.int _ _) .nil))⟩
section
variable {prog : Program} {w : World} {A : Around} {E : Value → Shared → Prop} {s : Shared} {Q : Value → Shared → Prop}
theorem ne_parts {a b : Addr} {va vb : List Value} {ka kb : Nat} {ea eb : List (Addr × Obj)} {ps : List PP} (h1 : s.heap.get? a = some (W.listOf va.toArray ka)) (h2 : s.heap.get? b = some (W.listOf vb.toArray kb)) (H1 : ∀ q ∈ ea, s.heap.get? q.1 = some q.2) (H2 : ∀ q ∈ eb, s.heap.get? q.1 = some q.2)
    (A1 : All2 (DVe ea) va ps) (A2 : All2 (DVe eb) vb ps) (hu : A.units + 64 < cLine) (h : Q (.bool false) s) : wpAny (model prog w) A (compareOp .NotEq (.ref a) (.ref b)) Q E s := by
  obtain ⟨as, ra⟩ := reads_all (R := DVe ea) (fun v x => reads_DV H1) A1
  obtain ⟨bs, rb⟩ := reads_all (R := DVe eb) (fun v x => reads_DV H2) A2
  have sh := shaped_map ppD_lay ppD_depth (by decide) ps
  refine ne_dataH (reads_list_at h1 rfl rfl (by simpa using ra)) (reads_list_at h2 rfl rfl (by simpa using rb)) sh sh hu ?_
  rw [eqv_refl _ (by simp only [PyData.canLay0]; exact canLay_map ppD_lay ps)]
  exact h
theorem eq_pairs {a b : Addr} {va vb : List Value} {ka kb : Nat} {ea eb : List (Addr × Obj)} {zs : List Item} (h1 : s.heap.get? a = some (W.listOf va.toArray ka)) (h2 : s.heap.get? b = some (W.listOf vb.toArray kb)) (H1 : ∀ q ∈ ea, s.heap.get? q.1 = some q.2) (H2 : ∀ q ∈ eb, s.heap.get? q.1 = some q.2)
    (A1 : All2 (TupN ea) va zs) (A2 : All2 (TupN eb) vb zs) (hu : A.units + 64 < cLine) (h : Q (.bool true) s) : wpAny (model prog w) A (compareOp .Eq (.ref a) (.ref b)) Q E s := by
  obtain ⟨as, ra⟩ := reads_all (R := TupN ea) (fun v x => reads_TupN H1) A1
  obtain ⟨bs, rb⟩ := reads_all (R := TupN eb) (fun v x => reads_TupN H2) A2
  have sh := shaped_map pairD_lay pairD_depth (by decide) zs
  refine eq_dataH (reads_list_at h1 rfl rfl (by simpa using ra)) (reads_list_at h2 rfl rfl (by simpa using rb)) sh sh hu ?_
  rw [eqv_refl _ (by simp only [PyData.canLay0]; exact canLay_map pairD_lay zs)]
  exact h
end
/-- the items that a part names are of a list -/
def PPok (ys : List Item) : PP → Prop
  | .code _ => True
  | .val z => z ∈ ys
  | .lst zs => (∀ z ∈ zs, z ∈ ys) ∧ zs.length ≤ ys.length
theorem listedP_ok {ys op : List Item} (h : ∀ z ∈ op, z ∈ ys) (hl : op.length ≤ ys.length) : ∀ p ∈ listedP op, PPok ys p := by
  intro p hp
  cases op with
  | nil => exact (List.not_mem_nil hp).elim
  | cons z r =>
    rcases List.mem_cons.mp hp with rfl | hp
    · trivial
    · rw [List.mem_singleton.mp hp]; exact ⟨h, hl⟩
theorem dueGo_ok {ys : List Item} : ∀ (gs : List (List Item)) (op : List Item), (∀ g ∈ gs, ∀ z ∈ g, z ∈ ys) → (∀ z ∈ op, z ∈ ys) → op.length + gs.flatten.length ≤ ys.length → (∀ p ∈ dueGo gs op, PPok ys p) ∧ (dueGo gs op).length ≤ 2 + 5 * gs.length
  | [], op, _, h, hl => ⟨listedP_ok h (by simp only [List.flatten_nil, List.length_nil] at hl; omega), by have := listedP_len op; show (listedP op).length ≤ _; omega⟩
  | g :: gs, op, hg, h, hl => by
    have h1 := hg g (.head _)
    have h2 := fun g' q => hg g' (.tail _ q)
    rw [List.flatten_cons, List.length_append] at hl
    have hlp := listedP_len op
    have hop := listedP_ok h (by omega)
    by_cases h4 : 4 ≤ g.length
    · rw [dueGo_long h4]
      have z := dueGo_ok gs [] h2 (fun _ q => nomatch q) (by simp only [List.length_nil]; omega)
      refine ⟨fun p hp => ?_, ?_⟩
      · rcases List.mem_append.mp hp with hp | hp
        · rcases List.mem_append.mp hp with hp | hp
          · exact hop p hp
          · simp only [List.mem_cons, List.not_mem_nil, or_false] at hp
            rcases hp with rfl | rfl | rfl
            · trivial
            · trivial
            · cases g with
              | nil => simp at h4
              | cons a b => exact h1 a (.head _)
        · exact z.1 p hp
      · have := z.2
        simp only [List.length_append, List.length_cons, List.length_nil]; omega
    · by_cases h5 : op = [] ∨ lastC op + 1 ≠ headC g
      · rw [dueGo_fresh h4 h5]
        have z := dueGo_ok gs g h2 h1 (by omega)
        refine ⟨fun p hp => ?_, ?_⟩
        · rcases List.mem_append.mp hp with hp | hp
          · exact hop p hp
          · exact z.1 p hp
        · have := z.2
          simp only [List.length_append, List.length_cons]; omega
      · rw [dueGo_on h4 (fun q => h5 (.inl q)) (Classical.byContradiction fun q => h5 (.inr q))]
        have z := dueGo_ok gs (op ++ g) h2 (fun z hz => by
          rcases List.mem_append.mp hz with hz | hz
          · exact h z hz
          · exact h1 z hz) (by rw [List.length_append]; omega)
        exact ⟨z.1, by have := z.2; simp only [List.length_cons]; omega⟩
theorem wideP_ok (dn : Int) (ys : List Item) : (∀ p ∈ wideP dn ys, PPok ys p) ∧ (wideP dn ys).length ≤ 2 + 5 * ys.length := by
  rw [wideP_due]
  have hf := groups_flat (ys.filter fun y => decide (y.n ≠ dn))
  have hl := List.length_filter_le (fun y => decide (y.n ≠ dn)) ys
  have hg := groups_len (ys.filter fun y => decide (y.n ≠ dn))
  have z := dueGo_ok (ys := ys) (groups (ys.filter fun y => decide (y.n ≠ dn))) [] (fun g hg z hz => (List.mem_filter.mp (groups_mem hg hz)).1) (fun _ q => nomatch q) (by rw [hf]; simpa using hl)
  exact ⟨z.1, by have := z.2; omega⟩
/-- the items in the order of their codes -/
def inOrder (zs : List Item) : List Item := zs.mergeSort fun a b => decide (a.c ≤ b.c)
theorem inOrder_perm (zs : List Item) : (inOrder zs).Perm zs := List.mergeSort_perm _ _
theorem inOrder_sorted (zs : List Item) : ((inOrder zs).map (·.c)).Pairwise (· ≤ ·) := by
  have := List.pairwise_mergeSort (le := fun a b : Item => decide (a.c ≤ b.c)) (fun a b c h1 h2 => by simp only [decide_eq_true_eq] at *; omega) (fun a b => by simp only [Bool.or_eq_true, decide_eq_true_eq]; omega) zs
  rw [List.pairwise_map]
  exact this.imp fun h => by simpa using h
theorem valueAt_nodup {kvs : List (Int × Value)} {c : Int} {v : Value} (hn : (kvs.map (·.1)).Nodup) (hm : (c, v) ∈ kvs) : valueAt kvs c = some v := by
  obtain ⟨v', e, hm'⟩ := valueAt_of_mem (List.mem_map_of_mem (f := (·.1)) hm)
  rw [e]
  obtain ⟨i, hi, e1⟩ := List.getElem_of_mem hm
  obtain ⟨j, hj, e2⟩ := List.getElem_of_mem hm'
  have ne : ∀ a b (ha : a < kvs.length) (hb : b < kvs.length), a < b → kvs[a].1 ≠ kvs[b].1 := fun a b ha hb hab => by
    have := List.pairwise_iff_getElem.mp hn a b (by simpa using ha) (by simpa using hb) hab
    simpa using this
  have : i = j := by
    rcases Nat.lt_trichotomy i j with h | h | h
    · exact absurd (by rw [e1, e2]) (ne i j hi hj h)
    · exact h
    · exact absurd (by rw [e1, e2]) (ne j i hj hi h)
  subst this
  rw [e1] at e2
  cases e2; rfl
end Og

end PartG2
section PartDC
open PySem PySem.W PySem.Calls PyProof.Rows PyProof.Rows.LCg
namespace Og
section
variable {prog : Program} {w : World} {A : Around} {E : Value → Shared → Prop} {s : Shared} {h₀ : Heap} {L : Addr} {m : Str → Option Value} {env : Env}
/-- the source of a comprehension is a dict of int keys in the ledger -/
def DictSrc (prog : Program) (w : World) (A : Around) (h₀ : Heap) (L : Addr) (m : Str → Option Value) (env : Env) (elt : PySem.Expr) (x : Str) (scope : Scope) (cl : List (Str × Addr)) (Fin : Shared → List Value → List (Addr × Obj) → Prop) (xv : Value) (s₁ : Shared) : Prop :=
  ∃ d od kvs news, xv = .ref d ∧ A.handled = none ∧ Fr h₀ L s₁.heap m ∧ News h₀ L s₁.heap news ∧ (d, od) ∈ news ∧ od.IsDictOf (intKind prog w) kvs ∧ (d == sysModules) = false ∧ kvs.length ≤ sizeLine ∧
    ∀ s₂ : Shared, (∃ h, s₂ = { s₁ with heap := h }) → CompRest prog w A h₀ L m env elt x scope cl s₂ (fun nw => (d, od) ∈ nw) (fun i v => ∃ k y t, kvs[i]? = some (k, y) ∧ v = .int k t) (Fin s₂) kvs.length 0 [] news
theorem DictSrc.ledger {elt : PySem.Expr} {x : Str} {scope : Scope} {cl : List (Str × Addr)} {Fin : Shared → List Value → List (Addr × Obj) → Prop} {d : Addr} {od : Obj} {kvs : List (Int × Value)} {news : List (Addr × Obj)} {s₁ : Shared}
    (hh : A.handled = none) (F : Fr h₀ L s₁.heap m) (N : News h₀ L s₁.heap news) (hm : (d, od) ∈ news) (hd : od.IsDictOf (intKind prog w) kvs) (lo : (d == sysModules) = false) (hz : kvs.length ≤ sizeLine)
    (h : ∀ g, CompRest prog w A h₀ L m env elt x scope cl { s₁ with heap := g } (fun nw => (d, od) ∈ nw) (fun i v => ∃ k y t, kvs[i]? = some (k, y) ∧ v = .int k t) (Fin { s₁ with heap := g }) kvs.length 0 [] news) :
    DictSrc prog w A h₀ L m env elt x scope cl Fin (.ref d) s₁ := ⟨d, od, kvs, news, rfl, hh, F, N, hm, hd, lo, hz, fun _ ⟨g, e⟩ => e ▸ h g⟩
theorem int_walks {I d : Addr} {kvs : List (Int × Value)} {ep : Nat} (hh : A.handled = none) (hne : d ≠ I) :
    Walks prog w A I [I, d] [I] kvs.length (fun i v => ∃ k y t, kvs[i]? = some (k, y) ∧ v = .int k t) (fun i h => h.IsKeyIter I d i kvs.length ep ∧ h.DictAt (intKind prog w) d kvs ep) :=
  let W := Walks.dictKeys (knd := intKind prog w) hh I d hne kvs ep
  { sub := W.sub, frame := W.frame, done := W.done, self := W.self,
    item := fun i s Q E hi st hQ => W.item i s Q E hi st fun v h' tk hP => hQ v h' tk (by
      obtain ⟨k, y, e, hk⟩ := hP
      cases v <;> simp [intKind, Value.isInt] at hk
      subst hk
      exact ⟨_, _, _, e, rfl⟩) }
theorem dict_st {d I : Addr} {od : Obj} {kvs : List (Int × Value)} {ep : Nat} (ha : KdkAt (intKind prog w) od kvs ep) : ∀ i (h h' : Heap) (o : Obj) (nw : List (Addr × Obj)), (h.IsKeyIter I d i kvs.length ep ∧ h.DictAt (intKind prog w) d kvs ep) → h.get? I = some o → h'.get? I = some o → (∀ b o, h₀.get? b = some o → h'.get? b = some o) → News h₀ L h' nw → (d, od) ∈ nw → (h'.IsKeyIter I d i kvs.length ep ∧ h'.DictAt (intKind prog w) d kvs ep) :=
  fun i h h' o nw st e e' k N S => ⟨st.1.at fun o' q => by rw [e] at q; cases q; exact e', ha.dictAt (N _ S).1⟩

theorem ListComp_D {elt iter : PySem.Expr} {x : Str} {px : Pos} {scope : Scope} {cl : List (Str × Addr)} {pos : Pos} {Q : Value → Shared → Prop} (F₀ : Fr h₀ L s.heap m)
    (hclos : closureFor scope env = pure cl) (hcell : ∀ y ∈ scope.names, y.2 ≠ .cell) (hkind : scope.kind = .function)
    (hnames : ∀ y ∈ scope.names, y.2 = .local → scope.names.lookup y.1 = some .local) (hx : scope.names.lookup x = some .local)
    (h : wpAny (model prog w) A (eval iter env) (DictSrc prog w A h₀ L m env elt x scope cl (fun s₂ => FinE h₀ L m s₂ Q)) E s)
    (hs : ∀ x, foldedSetIterable iter env x = pure x := by intro _; rfl) :
    wpAny (model prog w) A (eval (.ListComp elt [⟨.Name x px, iter, [], 0⟩] scope pos) env) Q E s := by
  rw [eval_ListComp]
  refine wpAny_comprehension_free (use := none) rfl hs hclos hkind hnames (wpAny_mono h (fun xv s₁ h₁ => ?_) fun _ _ e => e)
  obtain ⟨d, od, kvs, news, rfl, hh, F, N, hm, hd, lo, hsz, R⟩ := h₁
  obtain ⟨ep, ha⟩ := KdkAt.of hd
  have hat := ha.dictAt (N _ hm).1
  have hlt : d < s₁.heap.objs.size := Heap.lt_size (N _ hm).1
  refine wpAny_pyIter_dict lo hat ?_
  have up : ∀ (o' : Obj) b o, s₁.heap.get? b = some o → (s₁.heap.push o').get? b = some o := fun _ b o e => Heap.get?_push_of_some _ e
  refine block_U (int_walks (I := s₁.heap.objs.size) (ep := ep) hh (Nat.ne_of_lt hlt)) hsz (fun i h st => by obtain ⟨o, e, _⟩ := st.1; exact ⟨o, e⟩) (dict_st ha) hcell hkind hx ⟨⟨_, Heap.get?_push_size _ rfl, rfl, rfl⟩, hat.push _⟩ (fun b hb => ?_)
    (F.keeps (up _)) (N.grown (up _)) (Nat.ne_of_lt F.ns.lt) (next_is_new F) (fun p hp => Nat.ne_of_lt (Heap.lt_size (N p hp).1)) hm (R _ ⟨_, rfl⟩) ?_
  · show b < (s₁.heap.push _).objs.size
    rw [Heap.size_push]
    rcases List.mem_cons.mp hb with rfl | hb
    · exact Nat.lt_succ_self _
    · rw [List.mem_singleton.mp hb]; exact Nat.lt_succ_of_lt hlt
  · intro D C h tk m' ys news' F' N' o1 hn hC₀ hD₀ hCL hDL hCD offC fin
    refine ⟨m', hn, fun h'' hs'' => fin D h'' tk (F'.change hs'' hCL hC₀) (fun p hp => ?_) o1⟩
    refine ⟨hs''.extBut _ _ ?_ (N' p hp).1, (N' p hp).2⟩
    rcases List.mem_cons.mp hp with rfl | hp
    · exact Ne.symm hCD
    · exact offC p hp

theorem Assign_ListComp_D {elt iter : PySem.Expr} {x y : Str} {px py : Pos} {scope : Scope} {cl : List (Str × Addr)} {pos spos : Pos} {Q : Flow → Shared → Prop} (F₀ : Fr h₀ L s.heap m) (hLe : env.locals = L)
    (hsw : swapsWith (.ListComp elt [⟨.Name x px, iter, [], 0⟩] scope pos) (some (.Name y py)) spos.line env = pure true)
    (hclos : closureFor scope env = pure cl) (hcell : ∀ z ∈ scope.names, z.2 ≠ .cell) (hkind : scope.kind = .function)
    (hnames : ∀ z ∈ scope.names, z.2 = .local → scope.names.lookup z.1 = some .local) (hx : scope.names.lookup x = some .local)
    (hy : env.kindOf y = some .local) (hp : (env.scope.kind == .class || (env.scope.kind == .module && env.locals != env.globals)) = false)
    (h : wpAny (model prog w) A (eval iter env) (DictSrc prog w A h₀ L m env elt x scope cl (fun s₂ => FinA h₀ L m s₂ y Q)) E s)
    (hs : ∀ x, foldedSetIterable iter env x = pure x := by intro _; rfl) :
    wpAny (model prog w) A (exec (.Assign [.Name y py] (.ListComp elt [⟨.Name x px, iter, [], 0⟩] scope pos) spos) env) Q E s := by
  subst hLe
  rw [exec_Assign_Name_used _ _ _ _ hsw]
  refine wpAny_bind (wpAny_standAt (wpAny_bind ?_))
  show wpAny _ A (do let _ ← comprehension (.ListComp elt [⟨.Name x px, iter, [], 0⟩] scope pos) scope env _ (newList []) false (eval iter env) (some (assign (.Name y py) env))) _ _ s
  refine wpAny_bind (wpAny_mono (wpAny_comprehension_free (use := some (assign (.Name y py) env)) (Q := fun _ s' => Q .next s') rfl hs hclos hkind hnames
    (wpAny_mono h (fun xv s₁ h₁ => ?_) fun _ _ e => e)) (fun _ s' hq => wpAny_pure (wpAny_pure hq)) fun _ _ e => e)
  obtain ⟨d, od, kvs, news, rfl, hh, F, N, hm, hd, lo, hsz, R⟩ := h₁
  obtain ⟨ep, ha⟩ := KdkAt.of hd
  have hat := ha.dictAt (N _ hm).1
  have hlt : d < s₁.heap.objs.size := Heap.lt_size (N _ hm).1
  refine wpAny_pyIter_dict lo hat ?_
  have up : ∀ (o' : Obj) b o, s₁.heap.get? b = some o → (s₁.heap.push o').get? b = some o := fun _ b o e => Heap.get?_push_of_some _ e
  refine block_U (int_walks (I := s₁.heap.objs.size) (ep := ep) hh (Nat.ne_of_lt hlt)) hsz (fun i h st => by obtain ⟨o, e, _⟩ := st.1; exact ⟨o, e⟩) (dict_st ha) hcell hkind hx ⟨⟨_, Heap.get?_push_size _ rfl, rfl, rfl⟩, hat.push _⟩ (fun b hb => ?_)
    (F.keeps (up _)) (N.grown (up _)) (Nat.ne_of_lt F.ns.lt) (next_is_new F) (fun p hp => Nat.ne_of_lt (Heap.lt_size (N p hp).1)) hm (R _ ⟨_, rfl⟩) ?_
  · show b < (s₁.heap.push _).objs.size
    rw [Heap.size_push]
    rcases List.mem_cons.mp hb with rfl | hb
    · exact Nat.lt_succ_self _
    · rw [List.mem_singleton.mp hb]; exact Nat.lt_succ_of_lt hlt
  · intro D C h' tk m' ys news' F' N' o1 hn hC₀ hD₀ hCL hDL hCD offC fin
    show wpAny _ A (assign (.Name y py) env (.ref D)) _ _ _
    refine wpAny_assign_Name (wpAny_storeName_local hy F'.ns (fun h₂ hn₂ hs₂ => ?_) hp)
    have hL₀ : h₀.get? env.locals = none := Heap.get?_none_of_le F'.above
    have F₂ : Fr h₀ env.locals h₂ (fun z => if z = y then some (.ref D) else m z) := ⟨hn₂, fun b o e => hs₂.extBut b o (fun q => by rw [q, hL₀] at e; cases e) (F'.keep b o e), F'.above⟩
    refine ⟨m', hn.sameBut hs₂ hCL, fun h'' hs'' => fin D h'' _ (F₂.change hs'' hCL hC₀) (fun p hp => ?_) o1⟩
    have z : h₂.get? p.1 = some p.2 := hs₂.extBut _ _ (N' p hp).2.1 (N' p hp).1
    refine ⟨hs''.extBut _ _ ?_ z, (N' p hp).2⟩
    rcases List.mem_cons.mp hp with rfl | hp
    · exact Ne.symm hCD
    · exact offC p hp
end
end Og

end PartDC
section PartF16
open PySem PySem.W PySem.Calls PyProof.Rows
namespace Og
theorem order_facts {zs : List Item} {kN : List (Int × Value)} {extW : List (Addr × Obj)} (hkN : All2 (fun (kv : Int × Value) (z : Item) => kv.1 = z.c ∧ ∃ t, kv.2 = .int z.n t) kN zs) (hzW : ∀ z ∈ zs, WVL extW z.v z.n) (hnd : (zs.map (·.c)).Nodup) (hzl : zs.length < 64) :
    ∃ ys : List Item, ((zs.map fun z => (z.c, z.v)).map (·.1)).Perm (ys.map (·.c)) ∧ (kN.map (·.1)).Perm (ys.map (·.c)) ∧ (ys.map (·.c)).Pairwise (· ≤ ·) ∧ (∀ y ∈ ys, valueAt (zs.map fun z => (z.c, z.v)) y.c = some y.v) ∧ (∀ y ∈ ys, ∃ t, valueAt kN y.c = some (.int y.n t)) ∧ (∀ y ∈ ys, WVL extW y.v y.n) ∧ ys.length < 64 := by
  have hp := inOrder_perm zs
  have e1 : (zs.map fun z => (z.c, z.v)).map (·.1) = zs.map (·.c) := by rw [List.map_map]; rfl
  have e2 : kN.map (·.1) = zs.map (·.c) := by
    refine List.ext_getElem? fun i => ?_
    rw [List.getElem?_map, List.getElem?_map]
    by_cases hi : i < zs.length
    · obtain ⟨kv, e, h, _⟩ := hkN.get hi
      rw [e, List.getElem?_eq_getElem hi]
      simp [h]
    · rw [List.getElem?_eq_none (l := kN) (by rw [hkN.1]; omega), List.getElem?_eq_none (l := zs) (by omega)]
      rfl
  refine ⟨inOrder zs, ?_, ?_, inOrder_sorted zs, fun y hy => ?_, fun y hy => ?_, fun y hy => hzW y (hp.mem_iff.mp hy), by rw [hp.length_eq]; exact hzl⟩
  · rw [e1]; exact (hp.map _).symm
  · rw [e2]; exact (hp.map _).symm
  · exact valueAt_nodup (by rw [e1]; exact hnd) (List.mem_map_of_mem (f := fun z => (z.c, z.v)) (hp.mem_iff.mp hy))
  · obtain ⟨i, hi, rfl⟩ := List.getElem_of_mem (hp.mem_iff.mp hy)
    obtain ⟨kv, e, h1, t, h2⟩ := hkN.get hi
    refine ⟨t, valueAt_nodup (by rw [e2]; exact hnd) ?_⟩
    rw [← h1, ← h2]
    exact List.mem_of_getElem? e
theorem all2_map {α β γ : Type} {R : β → γ → Prop} {f : α → β} {g : α → γ} {zs : List α} (h : ∀ z ∈ zs, R (f z) (g z)) : All2 R (zs.map f) (zs.map g) := by
  refine ⟨by rw [List.length_map, List.length_map], fun i a b e1 e2 => ?_⟩
  rw [List.getElem?_map] at e1 e2
  obtain ⟨z, hz, rfl⟩ := Option.map_eq_some_iff.mp e1
  rw [hz] at e2
  cases e2
  exact h z (List.mem_of_getElem? hz)
theorem ne_ins {l1 l2 : List (Addr × Obj)} {r X : Addr} {o : Obj} (h : ∀ q ∈ l1 ++ l2, q.1 ≠ X) (hr : r ≠ X) : ∀ q ∈ l1 ++ ((r, o) :: l2), q.1 ≠ X := by
  intro q hq
  rcases List.mem_append.mp hq with hq | hq
  · exact h q (List.mem_append_left _ hq)
  rcases List.mem_cons.mp hq with rfl | hq
  · exact hr
  · exact h q (List.mem_append_right _ hq)
section
variable {w : World} {A : Around} {h₀ : Heap} {L : Addr} {m : Str → Option Value} {s : Shared} {Q : Value → Shared → Prop} {E : Value → Shared → Prop} {rest : List (Addr × Obj)}
theorem Cx.fr {dm um : Nat} {h : Heap} (C : Cx w dm um A h₀ L m h) : Fr h₀ L h m := by
  obtain ⟨env, outer, A₀, base, mean, mg, mb, hh, hA, hd', hu', hf, hke, B, F, X, T⟩ := C
  exact F
theorem widths_L {pot cells : Addr} {op oc : Obj} (C : Cx w 500 200 A h₀ L m s.heap) (N : News h₀ L s.heap ((pot, op) :: (cells, oc) :: rest)) (hr : ∀ q ∈ rest, q.1 ≠ pot ∧ q.1 ≠ cells) (hne : pot ≠ cells) (hO : PotO op cells 0) (hC : CellsO oc)
    (h : ∀ (r nd wd : Addr) h' tk op' oc' kr on ow kN (zs : List Item) ext pl', 0 ≤ pl' → pl' ≤ 100 → PotO op' cells pl' → CellsO oc' → Fr h₀ L h' m →
      News h₀ L h' ((pot, op') :: (cells, oc') :: (r, ({ cls := .type "tuple", data := .seq #[.ref nd, .ref wd] kr } : Obj)) :: (nd, on) :: (wd, ow) :: (ext ++ rest)) →
      (∀ q ∈ (r, ({ cls := .type "tuple", data := .seq #[.ref nd, .ref wd] kr } : Obj)) :: (nd, on) :: (wd, ow) :: ext, q.1 ≠ pot ∧ q.1 ≠ cells ∧ ∀ p ∈ rest, q.1 ≠ p.1) →
      (nd == sysModules) = false → (wd == sysModules) = false → on.IsDictOf (intKind PR w) kN → ow.IsDictOf (intKind PR w) (zs.map fun z => (z.c, z.v)) → All2 (fun kv z => kv.1 = z.c ∧ ∃ t, kv.2 = .int z.n t) kN zs →
      (∀ z ∈ zs, WVL ext z.v z.n) → (zs.map (·.c)).Nodup → zs.length < 64 → Q (.ref r) { s with heap := h', toks := tk }) :
    wpAny (model PR w) A (call (.ref 225) [.ref pot] []) Q E s := by
  have F := C.fr
  refine widths_spec C (news_sub N fun q hq => by simp only [List.mem_cons, List.not_mem_nil] at hq ⊢; grind) hne hO hC ?_
  intro r nd wd h' tk op' oc' kr on ow kN zs ext pl' b1 b2 a3 a4 a5 a6 a7 a8 a9 a10 a11 a12 a13 a14 a15 a16 a17 a18
  have F2 := off2_fr F N a7 fun a ha => by
      rcases List.mem_cons.mp ha with rfl | ha
      · exact ⟨_, .head _⟩
      · rw [List.mem_singleton.mp ha]; exact ⟨_, .tail _ (.head _)⟩
  have N2 : News h₀ L h' ((pot, op') :: (cells, oc') :: rest) := by
    intro p hp
    rcases List.mem_cons.mp hp with rfl | hp
    · exact ⟨a8, (N _ (.head _)).2⟩
    rcases List.mem_cons.mp hp with rfl | hp
    · exact ⟨a9, (N _ (.tail _ (.head _))).2⟩
    · have z := N p (.tail _ (.tail _ hp))
      refine ⟨a7 _ _ z.1 ?_, z.2⟩
      intro q
      simp only [List.mem_cons, List.not_mem_nil, or_false] at q
      have := hr p hp
      grind
  have new : NewOf s.heap h' ((r, ({ cls := .type "tuple", data := .seq #[.ref nd, .ref wd] kr } : Obj)) :: (nd, on) :: (wd, ow) :: ext) := by
    intro p hp
    rcases List.mem_cons.mp hp with rfl | hp
    · exact ⟨b1, b2⟩
    · exact a10 p hp
  have N3 : News h₀ L h' (((r, ({ cls := .type "tuple", data := .seq #[.ref nd, .ref wd] kr } : Obj)) :: (nd, on) :: (wd, ow) :: ext) ++ ((pot, op') :: (cells, oc') :: rest)) := by
    intro p hp
    rcases List.mem_append.mp hp with hp | hp
    · obtain ⟨c1, c2⟩ := new p hp
      refine ⟨c2, ?_, ?_⟩
      · intro q
        obtain ⟨oL, _, _, hL, _⟩ := F.ns
        rw [q, hL] at c1; cases c1
      · cases q : h₀.get? p.1 with
        | none => rfl
        | some o' => have := F.keep _ _ q; rw [c1] at this; cases this
    · exact N2 p hp
  refine h r nd wd h' tk op' oc' kr on ow kN zs ext pl' a3 a4 a5 a6 F2 (news_sub N3 fun q hq => ?_) ?_ a11 a12 a13 a14 a15 a16 a17 a18
  · simp only [List.mem_cons, List.mem_append] at hq ⊢; grind
  · intro q hq
    exact ⟨new.ne (N.get (.head _)) q hq, new.ne (N.get (.tail _ (.head _))) q hq, fun p hp => new.ne (N.get (.tail _ (.tail _ hp))) q hq⟩
end
end Og

end PartF16
section PartF17
open PySem PySem.W PySem.Calls PyProof.Rows
namespace Og
section
local macro_rules | `(tactic| walk_at "zzz0") => `(tactic| skip)
local macro_rules | `(tactic| walk_at "zzz1") => `(tactic| skip)
local macro_rules | `(tactic| walk_at "zzz2") => `(tactic| skip)
local macro_rules | `(tactic| walk_at "zzz3") => `(tactic| skip)
local macro_rules | `(tactic| walk_at "zzz4") => `(tactic| skip)
local macro_rules | `(tactic| walk_at "zzz5") => `(tactic| skip)
local macro_rules | `(tactic| walk_at "zzz6") => `(tactic| skip)
local macro_rules | `(tactic| walk_at "zzz7") => `(tactic| skip)
local macro_rules | `(tactic| walk_at "zzz8") => `(tactic| skip)
local macro_rules | `(tactic| walk_at "zzz9") => `(tactic| skip)
local macro_rules | `(tactic| walk_at "zzz10") => `(tactic| skip)
local macro_rules | `(tactic| walk_at "zz1") => `(tactic| skip)
local macro_rules | `(tactic| walk_at "zz2") => `(tactic| skip)
local macro_rules | `(tactic| walk_at "zz3") => `(tactic| skip)
local macro_rules | `(tactic| walk_at "zz4") => `(tactic| skip)
local macro_rules | `(tactic| walk_at "call ref") => `(tactic| (refine stop ?_))
local macro_rules | `(tactic| walk_at "exec Assign cons ListComp") => `(tactic| k_dflt (refine Assign_ListComp_D (F₀ := by assumption) (by rfl) (by with_unfolding_all rfl) (by with_unfolding_all rfl) (by decide) (by rfl) (by decide) (by rfl) (by rfl) (by rfl) ?_))
local macro_rules | `(tactic| walk_at "eval ListComp") => `(tactic| (refine stop ?_))
local macro_rules | `(tactic| walk_at "CompSrc") => `(tactic| (refine stop ?_))
local macro_rules | `(tactic| walk_at "DictSrc") => `(tactic| (refine stop ?_))
local macro_rules | `(tactic| walk_at "subscriptTail") => `(tactic| (refine stop ?_))
local macro_rules | `(tactic| walk_at "compareOp NotEq ref ref") => `(tactic| (refine stop ?_))
local macro_rules | `(tactic| walk_at "compareOp Eq ref ref") => `(tactic| (refine stop ?_))
set_option maxHeartbeats 16000000 in
theorem fin : PySem.Challenge.rw_og0145_01.Holds := hd (by
  k_go0
  all_goals try k_fold
  k_steps
  rename Shared => s1
  rename World => w
  rename Below callerA _ _ _ => B0
  rename Top _ _ _ _ _ _ => T0
  rename News _ _ _ _ => NZ
  rename Heap.IsList _ _ _ => hscr
  rename IntsAre _ _ => hints
  rename ¬ ((63 : Nat) : Int) < _ => h63
  obtain ⟨ocw, rfl⟩ := head_obj NZ
  rename Frag.In _ _ => KX
  rename CellsAre _ _ _ => X0
  rename Obj.data _ = _ => dcw
  clear X0
  refine go (pot_spec (Cx.of (by assumption) (by assumption) (by assumption) (by assumption) rfl rfl rfl rfl (Nat.le_of_ble_eq_true rfl) (Nat.le_of_ble_eq_true rfl)) (stays_list (Fr.keep (by assumption)) hscr) hints (by rw [hints.length]; omega) ?_)
  intro pot cells op oc h2 tk2 z1 z2 hne e1 e2 hO hC ho2
  have hpw := ne_of_none NZ (.head _) z1
  have hcl := ne_of_none NZ (.head _) z2
  have F1 := fr_for NZ (by assumption)
  have F2 := F1.keeps (Off.keep ho2)
  have N8 := NZ.grown (Off.keep ho2)
  have N7 := news_new N8 F1 z2 e2
  have N2 := news_new N7 F1 z1 e1
  clear N8 N7 NZ e1 e2 ho2 z1 z2
  k_sweep
  k_steps
  rename News _ _ _ _ => NZ
  refine go (widths_L (rest := [(s1.heap.objs.size + 1, ocw)]) (Cx.of (by assumption) (by assumption) (by assumption) (by assumption) rfl rfl rfl rfl (Nat.le_of_ble_eq_true rfl) (Nat.le_of_ble_eq_true rfl)) NZ (fun q hq => by rw [List.mem_singleton.mp hq]; exact ⟨Ne.symm hpw, Ne.symm hcl⟩) hne hO hC ?_)
  intro r nd wd h3 tk3 op3 oc3 kr on ow kN zs extW pl hp0 hp1 hO3 hC3 F3 N3 hx3 loN loW hdN hdW hkN hzW hnd hzl
  clear NZ
  have hxr := fun q hq => (hx3 q hq).2.2 _ (.head _)
  have hxp := fun q hq => (hx3 q hq).1
  have hxc := fun q hq => (hx3 q hq).2.1
  k_sweep
  k_steps
  rename News _ _ _ _ => NZ
  have NC := news_sub (l' := (s1.heap.objs.size + 1, ocw) :: (pot, op3) :: (cells, oc3) :: (nd, on) :: (wd, ow) :: extW) NZ (by first | ((repeat' (first | exact lsub_nil | exact lsub_rfl | refine lsub_cons ?_ ?_ | exact List.Mem.head _ | refine List.Mem.tail _ ?_ | refine lsub_tail ?_ | exact lsub_inl | refine lsub_app ?_ ?_ | refine lsub_inr ?_ | refine List.mem_append_right _ ?_)); done) | (trace "GRIND"; intro q hq; simp only [List.mem_cons, List.mem_append, List.cons_append, List.not_mem_nil, or_false] at hq ⊢; grind))
  refine storeX_C (by assumption) NC (by rfl) (.head ?qne) dcw ?_ (by rfl) (by rfl)
  case qne =>
    intro q hq
    exact (lne_cons (hpw) (lne_cons (hcl) (fun q hq => hxr q (.tail _ hq)))) q hq
  clear NZ NC dcw
  intro h4 ocw2 F4 N4 dcw
  k_sweep
  k_steps
  rename News _ _ _ _ => NZ
  have hr4 : ∀ q ∈ (nd, on) :: (wd, ow) :: (s1.heap.objs.size + 1, ocw2) :: extW, q.1 ≠ pot ∧ q.1 ≠ cells := by
    intro q hq
    exact (lnp_cons (⟨hxp _ (.tail _ (.head _)), hxc _ (.tail _ (.head _))⟩) (lnp_cons (⟨hxp _ (.tail _ (.tail _ (.head _))), hxc _ (.tail _ (.tail _ (.head _)))⟩) (lnp_cons (⟨Ne.symm hpw, Ne.symm hcl⟩) (fun q hq => ⟨hxp _ (.tail _ (.tail _ (.tail _ hq))), hxc _ (.tail _ (.tail _ (.tail _ hq)))⟩)))) q hq
  clear hxp hxc hxr hx3
  refine go (draw_spec (rest := (nd, on) :: (wd, ow) :: (s1.heap.objs.size + 1, ocw2) :: extW) (Cx.of (by assumption) (by assumption) (by assumption) (by assumption) rfl rfl rfl rfl (Nat.le_of_ble_eq_true rfl) (Nat.le_of_ble_eq_true rfl)) (news_sub NZ (by first | ((repeat' (first | exact lsub_nil | exact lsub_rfl | refine lsub_cons ?_ ?_ | exact List.Mem.head _ | refine List.Mem.tail _ ?_ | refine lsub_tail ?_ | exact lsub_inl | refine lsub_app ?_ ?_ | refine lsub_inr ?_ | refine List.mem_append_right _ ?_)); done) | (trace "GRIND"; intro q hq; simp only [List.mem_cons, List.mem_append, List.cons_append, List.not_mem_nil, or_false] at hq ⊢; grind))) hr4 hne hO3 hC3 hp0 (by omega) (by decide) (by decide) ?_)
  intro kk tkk h5 tk5 op5 oc5 hk0 hk1 hO5 hC5 F5 N5 ho5
  clear NZ ho5 hO3 hC3
  k_sweep
  k_steps
  rename News _ _ _ _ => NZ
  refine go (DictSrc.ledger rfl (by assumption) NZ (.tail _ (.tail _ (.tail _ (.head _)))) hdW loW (by rw [sizeLine_eq, List.length_map]; omega) fun g' => ?_)
  refine comp_inv (fun i us nw => ∃ ext, nw = (pot, op5) :: (cells, oc5) :: (nd, on) :: (wd, ow) :: (s1.heap.objs.size + 1, ocw2) :: ext ∧ (∀ q ∈ extW, q ∈ ext) ∧ All2 (TupN ext) us (zs.take i) ∧ ∀ q ∈ ext, q.1 ≠ pot ∧ q.1 ≠ cells) ?_ ⟨extW, rfl, fun _ q => q, All2.nil, fun q hq => hr4 q (.tail _ (.tail _ (.tail _ hq)))⟩ ?_
  · rintro i v I oI C oC D m₂ us nw h6 tk6 E' hi ⟨k, y, t, hky, rfl⟩ ⟨ext, rfl, hsub, hus, hxe⟩ hoC hm F6 N6 o1 o2 o3 n1 n2 n3
    rw [List.getElem?_map] at hky
    obtain ⟨z, hzi, he⟩ := Option.map_eq_some_iff.mp hky
    cases he
    clear NZ
    k_steps
    rename News _ _ _ _ => NZ
    have hWv := (hzW z (List.mem_of_getElem? hzi)).mono hsub
    refine go (kda_item (k := z.c) NZ (.tail _ (.tail _ (.tail _ (.tail _ (.tail _ (.tail _ (.head _))))))) hdW (intKind_is PR w z.c t) (valueAt_nodup (by rw [List.map_map]; exact hnd) (List.mem_map_of_mem (f := fun z => (z.c, z.v)) (List.mem_of_getElem? hzi))) ?_)
    k_steps
    rename News _ _ _ _ => NZ
    refine go (plain_num_spec (Cx.of (by assumption) (by assumption) (by assumption) (by assumption) rfl rfl rfl rfl (Nat.le_of_ble_eq_true rfl) (Nat.le_of_ble_eq_true rfl)) (hWv.wv (news_sub NZ fun q hq => .tail _ (.tail _ (.tail _ (.tail _ (.tail _ (.tail _ (.tail _ (.tail _ (hq)))))))))) ?_)
    intro t' h' tk' ho'
    (have F9 := Fr.keeps (by assumption) (Off.keep ho')); (have N9 := News.grown (by assumption) (Off.keep ho')); (try k_sweep)
    clear ho'
    k_steps
    rename News _ _ _ _ => NZ
    obtain ⟨T', rfl⟩ := head_of NZ
    obtain ⟨oT, hoT⟩ := head_obj NZ
    rw [← hoT] at NZ
    rename I < T' ∧ _ => hltT
    try k_unfold
    have hT : ∀ (X : Addr), (∀ q ∈ (pot, op5) :: (cells, oc5) :: (nd, on) :: (wd, ow) :: (s1.heap.objs.size + 1, ocw2) :: ext, q.1 ≠ X) → X < T' → ∀ q ∈ (pot, op5) :: (cells, oc5) :: (nd, on) :: (wd, ow) :: (s1.heap.objs.size + 1, ocw2) :: (T', oT) :: ext, q.1 ≠ X := by
      intro X ho hX q hq
      simp only [List.mem_cons] at hq
      rcases hq with rfl | rfl | rfl | rfl | rfl | rfl | hq
      · exact ho _ (.head _)
      · exact ho _ (.tail _ (.head _))
      · exact ho _ (.tail _ (.tail _ (.head _)))
      · exact ho _ (.tail _ (.tail _ (.tail _ (.head _))))
      · exact ho _ (.tail _ (.tail _ (.tail _ (.tail _ (.head _)))))
      · exact Nat.ne_of_gt hX
      · exact ho _ (.tail _ (.tail _ (.tail _ (.tail _ (.tail _ (hq))))))
    refine compEnd_mk (nw := (pot, op5) :: (cells, oc5) :: (nd, on) :: (wd, ow) :: (s1.heap.objs.size + 1, ocw2) :: (T', oT) :: ext) (by assumption) (news_sub NZ (by first | ((repeat' (first | exact lsub_nil | exact lsub_rfl | refine lsub_cons ?_ ?_ | exact List.Mem.head _ | refine List.Mem.tail _ ?_ | refine lsub_tail ?_ | exact lsub_inl | refine lsub_app ?_ ?_ | refine lsub_inr ?_ | refine List.mem_append_right _ ?_)); done) | (trace "GRIND"; intro q hq; simp only [List.mem_cons, List.mem_append, List.cons_append, List.not_mem_nil, or_false] at hq ⊢; grind))) (hT I o1 hltT.1) (hT C o2 hltT.2.1) (hT D o3 hltT.2.2.1) (.tail _ (.tail _ (.tail _ (.head _)))) ⟨_, rfl, fun q hq => .tail _ (hsub q hq), ?_, ?_⟩
    · rw [List.take_add_one, hzi]
      exact All2.snoc (hus.mono fun _ _ x => x.mono fun q hq => .tail _ hq) ⟨T', t, t', _, rfl, by rw [hoT]; exact .head _⟩
    · intro q hq
      exact (lnp_cons (⟨Nat.ne_of_gt hltT.2.2.2.1, Nat.ne_of_gt hltT.2.2.2.2.1⟩) (fun q hq => hxe q hq)) q hq
  rintro us nw ⟨ext, rfl, hsub, hus, hxe⟩
  rw [List.length_map, List.take_length] at hus
  intro Dh h7 tk7 F7 N7 o7
  have o8 := off1_mem o7
  clear NZ
  k_sweep
  k_steps
  rename News _ _ _ _ => NZ
  obtain ⟨ys, hyk, hykN, hys, hyv, hyN, hyW, hyl⟩ := order_facts hkN hzW hnd hzl
  have hr7 : ∀ q ∈ (nd, on) :: (wd, ow) :: (s1.heap.objs.size + 1, ocw2) :: (Dh, LCg.lst us) :: ext, q.1 ≠ pot ∧ q.1 ≠ cells := by
    exact (lnp_cons (hr4 _ (.head _)) (lnp_cons (hr4 _ (.tail _ (.head _))) (lnp_cons (hr4 _ (.tail _ (.tail _ (.head _)))) (lnp_cons (⟨Ne.symm (o8 _ (.head _)), Ne.symm (o8 _ (.tail _ (.head _)))⟩) (fun q hq => hxe q hq)))))
  clear o7 o8 hr4 hxe hkN
  refine go (width_spec (rest := (nd, on) :: (wd, ow) :: (s1.heap.objs.size + 1, ocw2) :: (Dh, LCg.lst us) :: ext) (Cx.of (by assumption) (by assumption) (by assumption) (by assumption) rfl rfl rfl rfl (Nat.le_of_ble_eq_true rfl) (Nat.le_of_ble_eq_true rfl)) (news_sub NZ (by first | ((repeat' (first | exact lsub_nil | exact lsub_rfl | refine lsub_cons ?_ ?_ | exact List.Mem.head _ | refine List.Mem.tail _ ?_ | refine lsub_tail ?_ | exact lsub_inl | refine lsub_app ?_ ?_ | refine lsub_inr ?_ | refine List.mem_append_right _ ?_)); done) | (trace "GRIND"; intro q hq; simp only [List.mem_cons, List.mem_append, List.cons_append, List.not_mem_nil, or_false] at hq ⊢; grind))) hr7 hne hO5 hC5 (by omega) (by omega) ?_)
  intro dv h8 tk8 op8 oc8 extV hO8 hC8 F8 N8 hx8 ho8 hN8 hWV8
  clear NZ ho8 hN8 hx8 hr7
  k_sweep
  k_steps
  rename News _ _ _ _ => NZ
  have NW := news_sub (l' := (nd, on) :: (wd, ow) :: (s1.heap.objs.size + 1, ocw2) :: (Dh, LCg.lst us) :: (ext ++ extV)) NZ (by first | ((repeat' (first | exact lsub_nil | exact lsub_rfl | refine lsub_cons ?_ ?_ | exact List.Mem.head _ | refine List.Mem.tail _ ?_ | refine lsub_tail ?_ | exact lsub_inl | refine lsub_app ?_ ?_ | refine lsub_inr ?_ | refine List.mem_append_right _ ?_)); done) | (trace "GRIND"; intro q hq; simp only [List.mem_cons, List.mem_append, List.cons_append, List.not_mem_nil, or_false] at hq ⊢; grind))
  clear NZ
  refine go (wide_written_spec (ys := ys) (dn := 250 * kk) (Cx.of (by assumption) (by assumption) (by assumption) (by assumption) rfl rfl rfl rfl (Nat.le_of_ble_eq_true rfl) (Nat.le_of_ble_eq_true rfl)) (kda_dict NW (.tail _ (.head _)) hdW) loW hyk hys hyv (fun y hy => ((hyW y hy).mono hsub).wv (news_sub NW fun q hq => .tail _ (.tail _ (.tail _ (.tail _ (List.mem_append_left _ hq)))))) (hWV8.wv (news_sub NW fun q hq => .tail _ (.tail _ (.tail _ (.tail _ (List.mem_append_right _ hq)))))) hyl ?_)
  intro r9 h9 tk9 outs k9 extP ho9 hN9 hne9 hO9
  have FW := fr_for NW (by assumption)
  have F9 := FW.keeps ho9.keep
  have N9 := news_sub (l' := (nd, on) :: (wd, ow) :: (s1.heap.objs.size + 1, ocw2) :: (Dh, LCg.lst us) :: (r9, W.listOf outs.toArray k9) :: (ext ++ extP)) (hN9.news FW (NW.grown ho9.keep)) (by first | ((repeat' (first | exact lsub_nil | exact lsub_rfl | refine lsub_cons ?_ ?_ | exact List.Mem.head _ | refine List.Mem.tail _ ?_ | refine lsub_tail ?_ | exact lsub_inl | refine lsub_app ?_ ?_ | refine lsub_inr ?_ | refine List.mem_append_right _ ?_)); done) | (trace "GRIND"; intro q hq; simp only [List.mem_cons, List.mem_append, List.cons_append, List.not_mem_nil, or_false] at hq ⊢; grind))
  clear NW FW ho9 hN9 hne9
  k_sweep
  k_steps
  rename News _ _ _ _ => NZ
  obtain ⟨hpk, hpl⟩ := wideP_ok (250 * kk) ys
  generalize hps : wideP (250 * kk) ys = ps at hO9 hpk hpl
  have hol : outs.length ≤ 400 := by rw [hO9.1]; omega
  refine go (LCg.ListComp_U (F₀ := by assumption) (by with_unfolding_all rfl) (by decide) (by rfl) (by decide) (by rfl) ?_)
  k_steps
  rename News _ _ _ _ => NZ
  refine go (LCg.CompSrc.ledger rfl (by assumption) NZ (.tail _ (.tail _ (.tail _ (.tail _ (.head _))))) (by rw [List.size_toArray, sizeLine_eq]; omega) fun g' => ?_)
  refine comp_inv (fun i vs nw => ∃ ext2, nw = (nd, on) :: (wd, ow) :: (s1.heap.objs.size + 1, ocw2) :: (Dh, LCg.lst us) :: (r9, W.listOf outs.toArray k9) :: ext2 ∧ (∀ q ∈ ext ++ extP, q ∈ ext2) ∧ All2 (DVe ext2) vs (ps.take i)) ?_ ⟨ext ++ extP, rfl, fun _ q => q, All2.nil⟩ ?_
  · rintro i v I oI C oC D m₂ vs nw h10 tk10 E' hi hvi ⟨ext2, rfl, hsub2, hvs⟩ hoC hm F10 N10 o1 o2 o3 n1 n2 n3
    replace hvi : outs[i]? = some v := by simpa using hvi
    have hip : i < ps.length := by rw [← hO9.1]; exact (List.getElem?_eq_some_iff.mp hvi).1
    obtain ⟨p, hpi⟩ : ∃ p, ps[i]? = some p := ⟨_, List.getElem?_eq_getElem hip⟩
    have hPV := hO9.2 i v p hvi hpi
    have hok := hpk p (List.mem_of_getElem? hpi)
    clear NZ
    k_steps
    rename News _ _ _ _ => NZ
    have FY := fr_for NZ (by assumption)
    cases p with
    | code c =>
      obtain ⟨tc, rfl⟩ := hPV
      refine go (plain_num_spec (Cx.of (by assumption) (by assumption) (by assumption) (by assumption) rfl rfl rfl rfl (Nat.le_of_ble_eq_true rfl) (Nat.le_of_ble_eq_true rfl)) (.inl ⟨tc, rfl⟩) ?_)
      intro t' h' tk' ho'
      k_unfold
      refine compEnd_mk (FY.keeps ho'.keep) (NZ.grown ho'.keep) o1 o2 o3 (Or.inr ⟨_, .tail _ (.tail _ (.tail _ (.tail _ (.head _)))), rfl, _, rfl⟩) ⟨ext2, rfl, hsub2, ?_⟩
      rw [List.take_add_one, hpi]
      exact hvs.snoc (x := PP.code c) ⟨t', rfl⟩
    | val z =>
      have hv9 : v = z.v := hPV
      subst hv9
      refine go (plain_num_spec (n := z.n) (Cx.of (by assumption) (by assumption) (by assumption) (by assumption) rfl rfl rfl rfl (Nat.le_of_ble_eq_true rfl) (Nat.le_of_ble_eq_true rfl)) ((hyW z hok).wv (news_sub NZ fun q hq => .tail _ (.tail _ (.tail _ (.tail _ (.tail _ (.tail _ (.tail _ (.tail _ (hsub2 _ (List.mem_append_left _ (hsub q hq)))))))))))) ?_)
      intro t' h' tk' ho'
      k_unfold
      refine compEnd_mk (FY.keeps ho'.keep) (NZ.grown ho'.keep) o1 o2 o3 (Or.inr ⟨_, .tail _ (.tail _ (.tail _ (.tail _ (.head _)))), rfl, _, rfl⟩) ⟨ext2, rfl, hsub2, ?_⟩
      rw [List.take_add_one, hpi]
      exact hvs.snoc (x := PP.val z) ⟨t', rfl⟩
    | lst zl =>
      obtain ⟨al, kl, rfl, hml⟩ := hPV
      obtain ⟨hzy, hzll⟩ := hok
      refine go (plain_list_spec (ns := zl.map (·.n)) (Cx.of (by assumption) (by assumption) (by assumption) (by assumption) rfl rfl rfl rfl (Nat.le_of_ble_eq_true rfl) (Nat.le_of_ble_eq_true rfl)) NZ (.tail _ (.tail _ (.tail _ (.tail _ (.tail _ (.tail _ (.tail _ (.tail _ (hsub2 _ (List.mem_append_right _ hml)))))))))) (all2_map fun z hz => (hyW z (hzy z hz)).wv (news_sub NZ fun q hq => .tail _ (.tail _ (.tail _ (.tail _ (.tail _ (.tail _ (.tail _ (.tail _ (hsub2 _ (List.mem_append_left _ (hsub q hq)))))))))))) (by rw [List.length_map]; omega) ?_)
      intro rl h' tk' wl kr' ho' hfr hgl hIl
      k_unfold
      have NL := news_new (NZ.grown ho'.keep) FY hfr hgl
      refine compEnd_mk (nw := (nd, on) :: (wd, ow) :: (s1.heap.objs.size + 1, ocw2) :: (Dh, LCg.lst us) :: (r9, W.listOf outs.toArray k9) :: (rl, W.listOf wl.toArray kr') :: ext2) (FY.keeps ho'.keep) (news_sub NL (by first | ((repeat' (first | exact lsub_nil | exact lsub_rfl | refine lsub_cons ?_ ?_ | exact List.Mem.head _ | refine List.Mem.tail _ ?_ | refine lsub_tail ?_ | exact lsub_inl | refine lsub_app ?_ ?_ | refine lsub_inr ?_ | refine List.mem_append_right _ ?_)); done) | (trace "GRIND"; intro q hq; simp only [List.mem_cons, List.mem_append, List.cons_append, List.not_mem_nil, or_false] at hq ⊢; grind))) (ne_ins (l1 := [(nd, on), (wd, ow), (s1.heap.objs.size + 1, ocw2), (Dh, LCg.lst us), (r9, W.listOf outs.toArray k9)]) o1 (ne_of_none NZ (.head _) hfr)) (ne_ins (l1 := [(nd, on), (wd, ow), (s1.heap.objs.size + 1, ocw2), (Dh, LCg.lst us), (r9, W.listOf outs.toArray k9)]) o2 (ne_of_none NZ (.tail _ (.head _)) hfr)) (ne_ins (l1 := [(nd, on), (wd, ow), (s1.heap.objs.size + 1, ocw2), (Dh, LCg.lst us), (r9, W.listOf outs.toArray k9)]) o3 (ne_of_none NZ (.tail _ (.tail _ (.head _))) hfr)) (Or.inr ⟨_, .tail _ (.tail _ (.tail _ (.tail _ (.head _)))), rfl, _, rfl⟩) ⟨_, rfl, fun q hq => .tail _ (hsub2 q hq), ?_⟩
      rw [List.take_add_one, hpi]
      exact (hvs.mono fun _ _ x => x.mono fun q hq => .tail _ hq).snoc (x := PP.lst zl) ⟨rl, kr', wl, rfl, .head _, hIl⟩
  rintro vs nw ⟨ext2, rfl, hsub2, hvs⟩
  rw [List.size_toArray, hO9.1, List.take_length] at hvs
  intro Dq h10 tk10 F10 N10 o10
  clear NZ o10
  k_sweep
  k_steps
  rename News _ _ _ _ => NZ
  refine go (due_spec (ys := ys) (dn := 250 * kk) (Cx.of (by assumption) (by assumption) (by assumption) (by assumption) rfl rfl rfl rfl (Nat.le_of_ble_eq_true rfl) (Nat.le_of_ble_eq_true rfl)) (news_sub NZ fun q hq => by rw [List.mem_singleton.mp hq]; exact .tail _ (.head _)) loN hdN hyl hykN hys hyN ?_)
  intro r12 h12 tk12 outs2 k12 ext12 ho12 hg12 hO12 hol12
  rw [← wideP_due, hps] at hO12
  have FY := fr_for NZ (by assumption)
  have F12 := FY.keeps ho12.keep
  have N12 := NZ.grown ho12.keep
  clear NZ FY ho12
  k_sweep
  k_steps
  rename News _ _ _ _ => NZ
  refine go (ne_parts (NZ.get (.head _)) (hg12 _ (.head _)) (fun q hq => NZ.get (.tail _ (.tail _ (.tail _ (.tail _ (.tail _ (.tail _ (hq)))))))) (fun q hq => hg12 q (.tail _ hq)) hvs hO12 (by ke_room) ?_)
  k_steps
  rename News _ _ _ _ => NZ
  refine go (ListComp_D (F₀ := by assumption) (by with_unfolding_all rfl) (by decide) (by rfl) (by decide) (by rfl) ?_)
  k_steps
  rename News _ _ _ _ => NZ
  refine go (DictSrc.ledger (news := (nd, on) :: (wd, ow) :: (s1.heap.objs.size + 1, ocw2) :: (Dh, LCg.lst us) :: ext2) rfl (by assumption) (news_sub NZ (by first | ((repeat' (first | exact lsub_nil | exact lsub_rfl | refine lsub_cons ?_ ?_ | exact List.Mem.head _ | refine List.Mem.tail _ ?_ | refine lsub_tail ?_ | exact lsub_inl | refine lsub_app ?_ ?_ | refine lsub_inr ?_ | refine List.mem_append_right _ ?_)); done) | (trace "GRIND"; intro q hq; simp only [List.mem_cons, List.mem_append, List.cons_append, List.not_mem_nil, or_false] at hq ⊢; grind))) (.tail _ (.head _)) hdW loW (by rw [sizeLine_eq, List.length_map]; omega) fun g' => ?_)
  refine comp_inv (fun i ws nw => ∃ ext3, nw = (nd, on) :: (wd, ow) :: (s1.heap.objs.size + 1, ocw2) :: (Dh, LCg.lst us) :: ext3 ∧ (∀ q ∈ ext2, q ∈ ext3) ∧ All2 (TupN ext3) ws (zs.take i)) ?_ ⟨ext2, rfl, fun _ q => q, All2.nil⟩ ?_
  · rintro i v I oI C oC D m₂ ws nw h13 tk13 E' hi ⟨k, y, t, hky, rfl⟩ ⟨ext3, rfl, hsub3, hws⟩ hoC hm F13 N13 o1 o2 o3 n1 n2 n3
    rw [List.getElem?_map] at hky
    obtain ⟨z, hzi, he⟩ := Option.map_eq_some_iff.mp hky
    cases he
    clear NZ
    k_steps
    rename News _ _ _ _ => NZ
    have hWv := (hzW z (List.mem_of_getElem? hzi)).mono fun q hq => hsub3 _ (hsub2 _ (List.mem_append_left _ (hsub q hq)))
    refine go (kda_item (k := z.c) NZ (.tail _ (.tail _ (.tail _ (.tail _ (.head _))))) hdW (intKind_is PR w z.c t) (valueAt_nodup (by rw [List.map_map]; exact hnd) (List.mem_map_of_mem (f := fun z => (z.c, z.v)) (List.mem_of_getElem? hzi))) ?_)
    k_steps
    rename News _ _ _ _ => NZ
    refine go (plain_num_spec (Cx.of (by assumption) (by assumption) (by assumption) (by assumption) rfl rfl rfl rfl (Nat.le_of_ble_eq_true rfl) (Nat.le_of_ble_eq_true rfl)) (hWv.wv (news_sub NZ fun q hq => .tail _ (.tail _ (.tail _ (.tail _ (.tail _ (.tail _ (.tail _ (hq))))))))) ?_)
    intro t' h' tk' ho'
    (have F9 := Fr.keeps (by assumption) (Off.keep ho')); (have N9 := News.grown (by assumption) (Off.keep ho')); (try k_sweep)
    clear ho'
    k_steps
    rename News _ _ _ _ => NZ
    obtain ⟨T', rfl⟩ := head_of NZ
    obtain ⟨oT, hoT⟩ := head_obj NZ
    rw [← hoT] at NZ
    rename I < T' ∧ _ => hltT
    try k_unfold
    refine compEnd_mk (nw := (nd, on) :: (wd, ow) :: (s1.heap.objs.size + 1, ocw2) :: (Dh, LCg.lst us) :: (T', oT) :: ext3) (by assumption) (news_sub NZ (by first | ((repeat' (first | exact lsub_nil | exact lsub_rfl | refine lsub_cons ?_ ?_ | exact List.Mem.head _ | refine List.Mem.tail _ ?_ | refine lsub_tail ?_ | exact lsub_inl | refine lsub_app ?_ ?_ | refine lsub_inr ?_ | refine List.mem_append_right _ ?_)); done) | (trace "GRIND"; intro q hq; simp only [List.mem_cons, List.mem_append, List.cons_append, List.not_mem_nil, or_false] at hq ⊢; grind))) (ne_ins (l1 := [(nd, on), (wd, ow), (s1.heap.objs.size + 1, ocw2), (Dh, LCg.lst us)]) o1 (Nat.ne_of_gt hltT.1)) (ne_ins (l1 := [(nd, on), (wd, ow), (s1.heap.objs.size + 1, ocw2), (Dh, LCg.lst us)]) o2 (Nat.ne_of_gt hltT.2.1)) (ne_ins (l1 := [(nd, on), (wd, ow), (s1.heap.objs.size + 1, ocw2), (Dh, LCg.lst us)]) o3 (Nat.ne_of_gt hltT.2.2.1)) (.tail _ (.head _)) ⟨_, rfl, fun q hq => .tail _ (hsub3 q hq), ?_⟩
    rw [List.take_add_one, hzi]
    exact All2.snoc (hws.mono fun _ _ x => x.mono fun q hq => .tail _ hq) ⟨T', t, t', _, rfl, by rw [hoT]; exact .head _⟩
  rintro ws nw ⟨ext3, rfl, hsub3, hws⟩
  rw [List.length_map, List.take_length] at hws
  intro Dz h13 tk13 F13 N13 o13
  clear NZ o13
  k_sweep
  k_steps
  rename News _ _ _ _ => NZ
  refine go (eq_pairs (NZ.get (.head _)) (NZ.get (.tail _ (.tail _ (.tail _ (.tail _ (.head _)))))) (fun q hq => NZ.get (.tail _ (.tail _ (.tail _ (.tail _ (.tail _ (hq))))))) (fun q hq => NZ.get (.tail _ (.tail _ (.tail _ (.tail _ (.tail _ (hq))))))) hws (hus.mono fun _ _ x => x.mono fun q hq => hsub3 _ (hsub2 _ (List.mem_append_left _ hq))) (by ke_room) ?_)
  k_steps)
end
end Og

end PartF17
set_option maxHeartbeats 8000000 in
theorem PySem.Challenge.cw_og0145_01_holds : PySem.Challenge.rw_og0145_01.Holds := by
  exact Og.fin
