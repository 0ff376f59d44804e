import PyProof.Rows.All
import Wide.All
import OpenK.AllK
import Wide.FinOn
import PySem.Challenge.RW_rr0017_01
open PySem PySem.W PyProof.Rows
set_option Elab.async false
set_option linter.unusedVariables false
namespace Mine
section
/- The head is checked at once, not in pieces: the pieces' compiled form is too large for the lid. This word stands in no proof. -/
local instance (priority := 100000) onePiece : HAppend (List PySem.Stmt) (List PySem.Stmt) (List PySem.Stmt) := ⟨fun a _ => a⟩
set_option maxRecDepth 100000 in
set_option maxHeartbeats 8000000 in
open_top hd for PySem.Challenge.rw_rr0017_01
end
end Mine
open PySem.Calls
set_option maxRecDepth 100000
namespace Mine
local macro_rules | `(tactic| walk_at $s:str) => `(tactic| k_extra $s)

section
/-! ## kinds of keys: an int or a text, and tuples of them -/
section
variable {prog : Program} {w : World} {A : Around} {E : Value → Shared → Prop} {s : Shared}
theorem eqBool_int_str {a : Int} {t u : Tok} {b : Str} {Q : Bool → Shared → Prop} (h : Q false s) : wpAny (model prog w) A (eqBool (.int a t) (.str b u)) Q E s := by
  unfold eqBool
  (try with_reducible refine wpAny_holding ?_)
  show wpAny _ _ (if (Value.int a t == Value.str b u) = true then _ else _) Q E s
  rw [if_neg (by rw [show (Value.int a t == Value.str b u) = false from rfl]; exact Bool.false_ne_true)]
  exact wpAny_bind (show wpAny (model prog w) A (compareOp .Eq (.int a t) (.str b u)) _ E s from EqMixed.eq_int_str (wpAny_truthy_bool h))
theorem eqBool_str_int {a : Int} {t u : Tok} {b : Str} {Q : Bool → Shared → Prop} (h : Q false s) : wpAny (model prog w) A (eqBool (.str b u) (.int a t)) Q E s := by
  unfold eqBool
  (try with_reducible refine wpAny_holding ?_)
  show wpAny _ _ (if (Value.str b u == Value.int a t) = true then _ else _) Q E s
  rw [if_neg (by rw [show (Value.str b u == Value.int a t) = false from rfl]; exact Bool.false_ne_true)]
  exact wpAny_bind (show wpAny (model prog w) A (compareOp .Eq (.str b u) (.int a t)) _ E s from EqMixed.eq_str_int (wpAny_truthy_bool h))

def mixIs : Int ⊕ Str → Value → Bool
  | .inl i, v => Value.isInt i v
  | .inr x, v => Value.isStrOf x v
def mixHash (w : World) : Int ⊕ Str → Int
  | .inl i => hashInt i
  | .inr x => hashStr w x

def mixKind (prog : Program) (w : World) : KeyKind prog w (Int ⊕ Str) where
  is := mixIs
  hash := mixHash w
  inj := fun v a b ha hb => by
    cases a with
    | inl i =>
      obtain ⟨t, rfl⟩ := Value.isInt_shape ha
      cases b with
      | inl j => exact congrArg Sum.inl (Value.isInt_inj (.int i t) _ _ ha hb)
      | inr y => simp [mixIs, Value.isStrOf] at hb
    | inr x =>
      obtain ⟨t, rfl⟩ := Value.isStrOf_shape ha
      cases b with
      | inl j => simp [mixIs, Value.isInt] at hb
      | inr y => exact congrArg Sum.inr (Value.isStrOf_inj (.str x t) _ _ ha hb)
  byValue := fun k v h => by
    cases k with
    | inl i => obtain ⟨t, rfl⟩ := Value.isInt_shape h; rfl
    | inr x => obtain ⟨t, rfl⟩ := Value.isStrOf_shape h; rfl
  pyHash := fun {A E s k v Q} hv h => by
    cases k with
    | inl i => obtain ⟨t, rfl⟩ := Value.isInt_shape hv; exact wpAny_pyHash_int h
    | inr x => obtain ⟨t, rfl⟩ := Value.isStrOf_shape hv; exact wpAny_pyHash_str h
  eqBool := fun {A E s a b u v Q} hu hv h => by
    cases a with
    | inl i =>
      obtain ⟨t, rfl⟩ := Value.isInt_shape hu
      cases b with
      | inl j =>
        obtain ⟨t', rfl⟩ := Value.isInt_shape hv
        refine wpAny_eqBool_int ?_
        have e : (i == j) = decide ((Sum.inl i : Int ⊕ Str) = Sum.inl j) := by by_cases q : i = j <;> simp [q]
        rw [e]; exact h
      | inr y =>
        obtain ⟨t', rfl⟩ := Value.isStrOf_shape hv
        exact eqBool_int_str (by simpa using h)
    | inr x =>
      obtain ⟨t, rfl⟩ := Value.isStrOf_shape hu
      cases b with
      | inl j =>
        obtain ⟨t', rfl⟩ := Value.isInt_shape hv
        exact eqBool_str_int (by simpa using h)
      | inr y =>
        obtain ⟨t', rfl⟩ := Value.isStrOf_shape hv
        refine wpAny_eqBool_str ?_
        have e : decide (x = y) = decide ((Sum.inr x : Int ⊕ Str) = Sum.inr y) := by by_cases q : x = y <;> simp [q]
        rw [e]; exact h
  «strs» := fun k x t v h => by
    cases k with
    | inl i => simp [mixIs, Value.isInt] at h
    | inr y =>
      obtain ⟨u, hu⟩ := Value.isStrOf_shape (x := y) (v := .str x t) h
      injection hu with hx
      subst hx
      cases v <;> rfl
end

/-! ## ledgers -/
theorem keep_but {h₀ g h h' : Heap} {L L' : Addr} {m' : Str → Option Value} {news news' : List (Addr × Obj)} (muts : List Addr)
    (hG : ∀ b o, h.get? b = some o → b ∉ news.map (·.1) → g.get? b = some o) (F' : Fr g L' h' m') (N : News h₀ L h news) (N' : News g L' h' news')
    (hm : ∀ p ∈ news, p.1 ∈ muts ∨ p ∈ news') : ∀ c o, c ∉ muts → h.get? c = some o → h'.get? c = some o := by
  intro c o hc ho
  by_cases q : c ∈ news.map (·.1)
  · obtain ⟨p, hp, rfl⟩ := List.mem_map.mp q
    have e : p.2 = o := Option.some.inj ((N p hp).1.symm.trans ho)
    rcases hm p hp with h1 | h1
    · exact absurd h1 hc
    · rw [← e]; exact (N' p h1).1
  · exact F'.keep _ _ (hG _ _ ho q)

theorem news_patch {h₀ h h' : Heap} {L : Addr} {news ch news' : List (Addr × Obj)} {muts : List Addr} (N : News h₀ L h news)
    (k : ∀ c o, c ∉ muts → h.get? c = some o → h'.get? c = some o) (N' : News h₀ L h' ch) (hl : ∀ p ∈ news', (p ∈ news ∧ p.1 ∉ muts) ∨ p ∈ ch) : News h₀ L h' news' := by
  intro p hp
  rcases hl p hp with ⟨h1, h2⟩ | h1
  · exact ⟨k _ _ h2 (N p h1).1, (N p h1).2⟩
  · exact N' p h1

theorem news_sub {h₀ h : Heap} {L : Addr} {news news' : List (Addr × Obj)} (N : News h₀ L h news) (hs : ∀ p ∈ news', p ∈ news) : News h₀ L h news' := fun p hp => N p (hs p hp)

theorem news_ne {h₀ h : Heap} {L : Addr} {news : List (Addr × Obj)} (N : News h₀ L h news) {p q : Addr × Obj} (hp : p ∈ news) (hq : q ∈ news) (hc : p.2.cls ≠ q.2.cls) : p.1 ≠ q.1 := by
  intro e
  have a := (N p hp).1
  rw [e, (N q hq).1] at a
  exact hc (by rw [Option.some.inj a])

/-- an entry of the ledger turned: one way to see what stays -/
theorem updF_mem {d : Addr} {o o' : Obj} {news : List (Addr × Obj)} {g : Obj → List (Addr × Obj)} (U : UpdF d o news g) {p : Addr × Obj} (hp : p ∈ g o') : (p ∈ news ∧ p.1 ≠ d) ∨ p = (d, o') := by
  obtain ⟨pre, post, e1, e2, a, b⟩ := U.split
  rw [e2] at hp
  rw [e1]
  rcases List.mem_append.mp hp with h | h
  · exact .inl ⟨List.mem_append_left _ h, a p h⟩
  · rcases List.mem_cons.mp h with h | h
    · exact .inr h
    · exact .inl ⟨List.mem_append_right _ (.tail _ h), b p h⟩
theorem updF_at {d : Addr} {o : Obj} {news : List (Addr × Obj)} {g : Obj → List (Addr × Obj)} (U : UpdF d o news g) : (d, o) ∈ news := by
  obtain ⟨pre, post, e1, e2, a, b⟩ := U.split
  rw [e1]
  exact List.mem_append_right _ (.head _)
theorem news_u1 {h₀ h h' : Heap} {L : Addr} {news ch : List (Addr × Obj)} {d : Addr} {o o' : Obj} {g : Obj → List (Addr × Obj)} (N : News h₀ L h news) (U : UpdF d o news g)
    (k : ∀ c o, c ∉ [d] → h.get? c = some o → h'.get? c = some o) (N' : News h₀ L h' ch) (h1 : (d, o') ∈ ch) : News h₀ L h' (g o') :=
  news_patch N k N' fun p hp => (updF_mem U hp).imp (fun q => ⟨q.1, by simpa using q.2⟩) fun q => by rw [q]; exact h1
theorem news_u2 {h₀ h h' : Heap} {L : Addr} {news ch : List (Addr × Obj)} {d e : Addr} {o o' q q' : Obj} {g : Obj → List (Addr × Obj)} {f : Obj → Obj → List (Addr × Obj)} (N : News h₀ L h news) (U : UpdF d o news g) (V : ∀ o', UpdF e q (g o') (f o'))
    (k : ∀ c o, c ∉ [d, e] → h.get? c = some o → h'.get? c = some o) (N' : News h₀ L h' ch) (h1 : (d, o') ∈ ch) (h2 : (e, q') ∈ ch) : News h₀ L h' (f o' q') :=
  news_patch N k N' fun p hp => by
    rcases updF_mem (V o') hp with ⟨a, b⟩ | a
    · rcases updF_mem U a with ⟨c, d'⟩ | c
      · exact .inl ⟨c, by simp [d', b]⟩
      · exact .inr (by rw [c]; exact h1)
    · exact .inr (by rw [a]; exact h2)
theorem news_u3 {h₀ h h' : Heap} {L : Addr} {news ch : List (Addr × Obj)} {d e i : Addr} {o o' q q' r r' : Obj} {g : Obj → List (Addr × Obj)} {f : Obj → Obj → List (Addr × Obj)} {k3 : Obj → Obj → Obj → List (Addr × Obj)} (N : News h₀ L h news) (U : UpdF d o news g) (V : ∀ o', UpdF e q (g o') (f o')) (W : ∀ o' q', UpdF i r (f o' q') (k3 o' q'))
    (k : ∀ c o, c ∉ [d, e, i] → h.get? c = some o → h'.get? c = some o) (N' : News h₀ L h' ch) (h1 : (d, o') ∈ ch) (h2 : (e, q') ∈ ch) (h3 : (i, r') ∈ ch) : News h₀ L h' (k3 o' q' r') :=
  news_patch N k N' fun p hp => by
    rcases updF_mem (W o' q') hp with ⟨z, y⟩ | z
    · rcases updF_mem (V o') z with ⟨a, b⟩ | a
      · rcases updF_mem U a with ⟨c, d'⟩ | c
        · exact .inl ⟨c, by simp [d', b, y]⟩
        · exact .inr (by rw [c]; exact h1)
      · exact .inr (by rw [a]; exact h2)
    · exact .inr (by rw [z]; exact h3)

section
variable {prog : Program} {w : World} {A₀ A : Around} {s : Shared} {base h₀ : Heap} {outer : List Env} {L : Addr} {m : Str → Option Value} {env : Env} {news : List (Addr × Obj)} {K : Frag}
  {p : Program} {loose : List Str} {mean : ExcName → Option Value} {mg mb : Str → Option Value}
  {R : Result → Shared → Prop} {name qual : Str} {params : Arguments} {body : List Stmt} {scope : Scope} {dV kV doc pm cdv ct oc : Value} {an od : Option Addr} {osl : Array (Option Value)} {f : Addr} {args : Args} {binds : List (Str × Value)}

/-- the def's frame opened, and what its ground keeps of the heap it was called in -/
theorem code_keep (B : Below A₀ base outer h₀) (F : Fr h₀ L s.heap m) (X₀ : K.In h₀) (N : News h₀ L s.heap news) (T : Top p loose mean mg mb h₀) (hA : A.frames = some (env :: outer)) (hf : env.frame = some L) (hke : env.scope.kind = .function)
    (ho : K.lookup f = some ⟨oc, od, .func (fnOf name qual params body scope dV kV doc pm an cdv ct), osl⟩) (hcd : codeIn K cdv qual = true) (hroom : A.depth < recursionLimit)
    (hbind : BindsTo s (fnOf name qual params body scope dV kV doc pm an cdv ct) args binds) (hloc : ∀ y ∈ binds, scope.names.lookup y.1 = some .local)
    (h : ∀ g L' h₁, (∀ b o, s.heap.get? b = some o → b ∉ news.map (·.1) → g.get? b = some o) → Fr h₀ L g m → Fr g L' h₁ (fun y => binds.reverse.lookup y) → News g L' h₁ news → Below A base (env :: outer) g → K.In g → Top p loose mean mg mb g →
      wpAny (model prog w) (A.deeper (envOf qual scope L' f cdv)) (execs body (envOf qual scope L' f cdv))
        (fun fl s' => LeaveK h₀ L m g R (match fl with | .ret v => v | _ => .none) s')
        (fun e s' => wpAny (model prog w) (A.deeper (envOf qual scope L' f cdv)) (leaving (envOf qual scope L' f cdv) e) (fun _ s'' => R (.error e) s'') (fun e' s'' => R (.error e') s'') s')
        { s with heap := h₁, toks := s.toks + binds.length })
    (hco : scope.isCoroutine = false) (hgen : scope.isGenerator = false) (hk : scope.kind = .function)
    (hcell : ∀ x ∈ scope.names, x.2 ≠ .cell) : codeAny (model prog w) A (.call (.ref f) args) R s := by
  obtain ⟨FG, BG, st, lv⟩ := groundX (R := R) B F N hA hf hke
  refine codeAny_call_def (fd := fnOf name qual params body scope dV kV doc pm an cdv ct) (body := body) (binds := binds) hroom ((X₀.keeps F.keep) _ _ ho) rfl (T.nolimit.keeps F.keep) (codeRec_of (X₀.keeps F.keep) hcd) rfl hbind hcell hloc (fun h₁ hns hk₁ => ?_) hco hgen hk
  exact wpAny_mono (h _ s.heap.objs.size h₁ (fun b o e q => hideAll_get _ e q) FG ⟨hns, fun b o e => hk₁ b o (of_hideAll _ e), Nat.le_of_eq (hideAll_size _ _)⟩
    (fun p hp => ⟨hk₁ _ _ (N p hp).1, Nat.ne_of_lt (Heap.lt_size (N p hp).1), hideAll_none _ (List.mem_map_of_mem hp)⟩) BG (X₀.keeps st) (T.keeps st)) (fun fl s' hl => lv _ _ hl) fun _ _ y => y
end
end

section
variable {α : Type} {a b : α} {l l' l1 l2 : List α}
theorem in_head : a ∈ a :: l := .head _
theorem in_tail (h : a ∈ l) : a ∈ b :: l := .tail _ h
theorem sub_nil : ∀ z ∈ ([] : List α), z ∈ l' := fun _ h => nomatch h
theorem sub_cons (h : ∀ z ∈ l, z ∈ l') : ∀ z ∈ a :: l, z ∈ a :: l' := fun _ hz => by
  cases hz with
  | head => exact .head _
  | tail _ hz => exact .tail _ (h _ hz)
theorem sub_mem (hm : a ∈ l') (h : ∀ z ∈ l, z ∈ l') : ∀ z ∈ a :: l, z ∈ l' := fun _ hz => by
  cases hz with
  | head => exact hm
  | tail _ hz => exact h _ hz
theorem sub_skip (_ : a ∈ l ∨ True) (h : ∀ z ∈ l, z ∈ l') : ∀ z ∈ l, z ∈ a :: l' := fun _ hz => .tail _ (h _ hz)
theorem sub_app (h1 : ∀ z ∈ l1, z ∈ l') (h2 : ∀ z ∈ l2, z ∈ l') : ∀ z ∈ l1 ++ l2, z ∈ l' := fun _ hz => (List.mem_append.mp hz).elim (h1 _) (h2 _)
theorem sub_left (h : ∀ z ∈ l, z ∈ l1) : ∀ z ∈ l, z ∈ l1 ++ l2 := fun _ hz => List.mem_append_left _ (h _ hz)
theorem sub_right (h : ∀ z ∈ l, z ∈ l2) : ∀ z ∈ l, z ∈ l1 ++ l2 := fun _ hz => List.mem_append_right _ (h _ hz)
theorem sub_filter {p : α → Bool} (h : ∀ z ∈ l, z ∈ l') : ∀ z ∈ l.filter p, z ∈ l' := fun _ hz => h _ (List.mem_filter.mp hz).1
theorem sub_refl : ∀ z ∈ l, z ∈ l := fun _ h => h

end
section
variable {a : Addr} {b : Addr × Obj} {o o' : Obj} {l l0 R R2 : List (Addr × Obj)} {it : String}
theorem adr_nil : ∀ z ∈ ([] : List (Addr × Obj)), z.1 ∈ l0.map (·.1) ∨ z.2.cls ≠ .type it := fun _ h => nomatch h
theorem adr_cons (h : ∀ z ∈ l, z.1 ∈ l0.map (·.1) ∨ z.2.cls ≠ .type it) : ∀ z ∈ (a, o) :: l, z.1 ∈ ((a, o') :: l0).map (·.1) ∨ z.2.cls ≠ .type it := fun z hz => by
  rcases List.mem_cons.mp hz with rfl | hz
  · exact .inl (.head _)
  · exact (h z hz).imp (.tail _) id
theorem adr_new {c : String} (hc : o.cls = .type c) (hn : (c == it) = false) (h : ∀ z ∈ l, z.1 ∈ l0.map (·.1) ∨ z.2.cls ≠ .type it) : ∀ z ∈ (a, o) :: l, z.1 ∈ l0.map (·.1) ∨ z.2.cls ≠ .type it := fun z hz => by
  rcases List.mem_cons.mp hz with rfl | hz
  · exact .inr fun q => by
      rw [hc] at q; injection q with q; subst q; simp at hn
  · exact h z hz
theorem adr_app (h : ∀ z ∈ R, z.1 ∈ l0.map (·.1) ∨ z.2.cls ≠ .type it) (h2 : ∀ z ∈ R2, z.1 ∈ l0.map (·.1) ∨ z.2.cls ≠ .type it) : ∀ z ∈ R ++ R2, z.1 ∈ l0.map (·.1) ∨ z.2.cls ≠ .type it := fun z hz => (List.mem_append.mp hz).elim (h z) (h2 z)
theorem adr_sub (h : ∀ z ∈ R, z ∈ l0) : ∀ z ∈ R, z.1 ∈ l0.map (·.1) ∨ z.2.cls ≠ .type it := fun z hz => .inl (List.mem_map.mpr ⟨z, h z hz, rfl⟩)
theorem adr_tup (h : ∀ z ∈ R, z.2.cls = .type "tuple") (hn : ("tuple" == it) = false) : ∀ z ∈ R, z.1 ∈ l0.map (·.1) ∨ z.2.cls ≠ .type it := fun z hz => .inr fun q => by
  rw [h z hz] at q; injection q with q; subst q; simp at hn
end
local macro_rules | `(tactic| k_mem) => `(tactic| ((with_reducible show _ ∈ _); first | exact in_head | (refine in_tail ?_; k_mem)))
local macro_rules | `(tactic| walk_at "my l1") => `(tactic| with_reducible first
  | assumption
  | ((apply And.left); (iterate 20 (first | done | assumption | apply And.right)); done))
local macro_rules | `(tactic| walk_at "my lt") => `(tactic| with_reducible first
  | assumption
  | ((refine Nat.lt_trans ?_ (by assumption)); walk_at "my lt")
  | walk_at "my l1")
local macro_rules | `(tactic| k_ne) => `(tactic| ((refine neN ?_); (try dsimp only); first
  | with_reducible assumption
  | ((with_reducible refine Ne.symm ?_); with_reducible assumption)
  | exact Nat.ne_of_gt (by walk_at "my l1")
  | exact Nat.ne_of_lt (by walk_at "my l1")
  | exact Nat.ne_of_gt (by walk_at "my lt")
  | exact Nat.ne_of_lt (by walk_at "my lt")))
local macro_rules | `(tactic| walk_at "my in") => `(tactic| with_reducible first
  | assumption
  | exact in_head
  | (refine in_tail ?_; walk_at "my in")
  | (refine List.mem_append_left _ ?_; walk_at "my in")
  | (refine List.mem_append_right _ ?_; walk_at "my in"))
local macro_rules | `(tactic| walk_at "my sub") => `(tactic| with_reducible first
  | exact sub_refl
  | assumption
  | exact sub_nil
  | ((first | refine sub_cons ?_ | (refine sub_skip ?_ ?_; (· (fail_if_success (refine .inl ?_; walk_at "my in")); exact .inr trivial)) | (refine sub_mem ?_ ?_; (· walk_at "my in"))); walk_at "my sub")
  | (refine sub_app ?_ ?_ <;> walk_at "my sub")
  | (refine sub_filter ?_; walk_at "my sub")
  | (refine sub_left ?_; walk_at "my sub")
  | (refine sub_right ?_; walk_at "my sub"))
local macro_rules | `(tactic| walk_at "my adr") => `(tactic| first
  | with_reducible exact adr_nil
  | ((first | (with_reducible refine adr_cons ?_) | ((with_reducible refine adr_new (c := "tuple") ?_ ?_ ?_); (· rfl); (· decide))); walk_at "my adr")
  | ((with_reducible refine adr_app ?_ ?_) <;> walk_at "my adr")
  | ((with_reducible refine adr_tup ?_ ?_); (· with_reducible assumption); (· decide))
  | ((with_reducible refine adr_sub ?_); walk_at "my sub"))

local macro_rules | `(tactic| cell_enter) => `(tactic| (refine' code_keep ?k1 ?k2 ?k3 ?k4 ?k5 ?kA ?kF ?kK ?k6 ?k7 ?k8 ?k9 ?kB ?_ ?c2 ?c3 ?c4 ?c5; (case kA => exact rfl); (case kF => exact rfl); (case kK => first | exact rfl | assumption); (case k1 => k_asm); (case k2 => k_asm); (case k3 => k_asm); (case k4 => first | k_asm | exact News.nil); (case k5 => k_asm); (case k6 => k_is); (case k7 => k_is); (case k8 => ktr_room); (case k9 => first | exact BindsTo.of_eq rfl | exact binds_K (by k_in) rfl (by k_is) rfl rfl rfl); (case c5 => decide); (case kB => exact locs rfl); (case c2 => exact rfl); (case c3 => exact rfl); (case c4 => exact rfl); k_whole; intro g' L' h' hG' FG' F' N' B' X' T'; (try dsimp only); (try k_lift B'); (try k_fold)))
section


abbrev symEs (P : Params) (k1 k2 k3 k4 : Tok) (t n f fn : Addr) : List DictEntry :=
  [⟨PyData.keyHash P (Str.ofString "texts"), .str (Str.ofString "texts") k1, .ref t⟩,
   ⟨PyData.keyHash P (Str.ofString "atom_numbers"), .str (Str.ofString "atom_numbers") k2, .ref n⟩,
   ⟨PyData.keyHash P (Str.ofString "functors"), .str (Str.ofString "functors") k3, .ref f⟩,
   ⟨PyData.keyHash P (Str.ofString "functor_numbers"), .str (Str.ofString "functor_numbers") k4, .ref fn⟩]
abbrev tupObj (vs : List Value) : Obj := { cls := .type "tuple", data := .seq vs.toArray }

/-- the book's texts and their numbers -/
def Atoms (prog : Program) (w : World) (o : Obj) (ts : Array Value) (xs : List Str) : Prop :=
  ∃ kvs : List (Str × Value), o.IsDictOf (PySem.strKind prog w) kvs ∧ kvs.map (·.1) = xs ∧ (∀ (i : Nat) k v, kvs[i]? = some (k, v) → ∃ tk, v = Value.int i tk) ∧ ts.size = xs.length
def atomAdd (xs : List Str) (x : Str) : List Str := if x ∈ xs then xs else xs ++ [x]

theorem isDict_nodup {prog : Program} {w : World} {K : Type} [DecidableEq K] {knd : KeyKind prog w K} {o : Obj} {kvs : List (K × Value)} (hd : o.IsDictOf knd kvs) : (kvs.map (·.1)).Nodup := let ⟨_, _, _, _, _, _, h⟩ := hd; h
theorem isDict_cls {prog : Program} {w : World} {K : Type} [DecidableEq K] {knd : KeyKind prog w K} {o : Obj} {kvs : List (K × Value)} (hd : o.IsDictOf knd kvs) : o.cls = .type "dict" := let ⟨_, _, h, _, _, _, _⟩ := hd; h.1
theorem atoms_hit {prog : Program} {w : World} {kvs : List (Str × Value)} {o : Obj} (hd : o.IsDictOf (PySem.strKind prog w) kvs) (hv : ∀ (i : Nat) k v, kvs[i]? = some (k, v) → ∃ tk, v = Value.int i tk)
    {x : Str} (hx : x ∈ kvs.map (·.1)) : ∃ tk, valueAt kvs x = some (.int (((kvs.map (·.1)).idxOf x : Nat) : Int) tk) := by
  have hn := isDict_nodup hd
  have hlt := List.idxOf_lt_length_of_mem hx
  have e := List.getElem_idxOf hlt
  have hlt' : (kvs.map (·.1)).idxOf x < kvs.length := by simpa using hlt
  obtain ⟨tk, ht⟩ := hv ((kvs.map (·.1)).idxOf x) (kvs[(kvs.map (·.1)).idxOf x]).1 (kvs[(kvs.map (·.1)).idxOf x]).2 (List.getElem?_eq_getElem hlt')
  refine ⟨tk, ?_⟩
  refine valueAt_of_get hn (i := (kvs.map (·.1)).idxOf x) ?_
  rw [List.getElem_map] at e
  rw [← ht, List.getElem?_eq_getElem hlt']
  exact congrArg some (Prod.ext e rfl)

section
variable {prog : Program} {w : World} {mean : ExcName → Option Value} {mg mb : Str → Option Value} {dp un : Nat} {gd : Option (List Code)} {cn : Str} {cs : Scope} {a : Addr} {ccd : Value} {cl : List (Str × Addr)} {outer : List Env} {A₀ : Around} {base h₀ : Heap} {L : Addr} {m : Str → Option Value} {s : Shared} {Q E : Value → Shared → Prop} {news : List (Addr × Obj)}

set_option maxHeartbeats 4000000 in
theorem atom_hit {b db n f fn t : Addr} {k1 k2 k3 k4 t0 tk : Tok} {e1 : Nat} {o : Obj} {kvs : List (Str × Value)} {x : Str} {i : Int}
    (B : Below A₀ base outer h₀) (F : Fr h₀ L s.heap m) (X : (hd.heap_39 w.params).In h₀) (T : Top hd.view_39 (looseW hd.view_39 []) mean mg mb h₀) (hk : cs.kind = .function) (hd : dp + 2 < recursionLimit) (hu : un + 16 < cLine)
    (N : News h₀ L s.heap [(b, instObj 122 db), (db, dictOf (symEs w.params k1 k2 k3 k4 t n f fn) e1), (n, o)])
    (lo : (n == sysModules) = false)
    (ho : o.IsDictOf (PySem.strKind prog w) kvs) (hv : valueAt kvs x = some (.int i tk)) (hi : 0 ≤ i)
    (hret : ∀ h' tk', (∀ c o, c ∉ ([] : List Addr) → s.heap.get? c = some o → h'.get? c = some o) → Fr h₀ L h' m → Q (.int i tk) { s with heap := h', toks := tk' }) :
    wpAny (model prog w) (ktrTop dp un gd cn cs L a ccd cl outer) (call (.ref 56) [.ref b, .str x t0]) Q E s := by
  k_with_none
  w_top off
  k_with "call builtin:dict.get" => (k_here; k_dflt (refine kdg_get2 (knd := PySem.strKind _ _) (by k_asm) (by k_mem) (by k_asm) (by k_asm) (strKind_is _ _ _ _) _ (by k_asm) ?_); (try dsimp only [Option.getD]))
  k_with "setItem ref str" => (k_here; k_dflt (refine' kda_set (knd := PySem.strKind _ _) ?w9FZ ?w9NZ ?w9UZ ?w9dZ (strKind_is _ _ _ _) ?w9zZ ?_; (case w9FZ => k_asm); (case w9NZ => k_asm); (case w9UZ => k_updF); (case w9dZ => k_asm); (case w9zZ => rw [sizeLine_eq]; omega)); intro qhZ qoZ qFZ qNZ qhdZ; (try dsimp only at qNZ))
  refine wpAny_call ?_
  k_dflt cell_enter
  k_steps
  exact hret _ _ (keep_but [] (by assumption) (by assumption) N (by assumption) fun p hp => .inr hp) (by assumption)

set_option maxHeartbeats 4000000 in
theorem atom_miss {b db n f fn t : Addr} {k1 k2 k3 k4 t0 : Tok} {e1 n1 : Nat} {o : Obj} {kvs : List (Str × Value)} {x : Str} {ts : Array Value}
    (B : Below A₀ base outer h₀) (F : Fr h₀ L s.heap m) (X : (hd.heap_39 w.params).In h₀) (T : Top hd.view_39 (looseW hd.view_39 []) mean mg mb h₀) (hk : cs.kind = .function) (hd : dp + 2 < recursionLimit) (hu : un + 16 < cLine)
    (N : News h₀ L s.heap [(b, instObj 122 db), (db, dictOf (symEs w.params k1 k2 k3 k4 t n f fn) e1), (n, o), (t, PySem.W.listOf ts n1)])
    (d1 : @Ne Nat b t) (d2 : @Ne Nat db t) (d3 : @Ne Nat n t) (d4 : @Ne Nat b n) (d5 : @Ne Nat db n)
    (lo : (n == sysModules) = false)
    (ho : o.IsDictOf (PySem.strKind prog w) kvs) (hv : valueAt kvs x = none) (hz : ts.size ≤ 1000) (hz2 : kvs.length ≤ 1000)
    (hret : ∀ h' tk' n1' o' tk, (∀ c o, c ∉ ([n, t] : List Addr) → s.heap.get? c = some o → h'.get? c = some o) → Fr h₀ L h' m → News h₀ L h' [(n, o'), (t, PySem.W.listOf (ts.push (.str x t0)) n1')] → o'.IsDictOf (PySem.strKind prog w) (stored kvs x (.int ts.size tk)) →
       Q (.int ts.size tk) { s with heap := h', toks := tk' }) :
    wpAny (model prog w) (ktrTop dp un gd cn cs L a ccd cl outer) (call (.ref 56) [.ref b, .str x t0]) Q E s := by
  refine wpAny_call ?_
  k_dflt cell_enter
  k_steps
  refine hret _ _ (n1 + 1) _ _ (keep_but [n, t] (by assumption) (by assumption) N (by assumption) fun p hp => ?_) (by assumption) (news_sub (by assumption) fun p hp => ?_) (by assumption)
  · simp only [List.mem_cons, List.not_mem_nil, or_false] at hp ⊢
    rcases hp with rfl | rfl | rfl | rfl <;> simp
  · simp only [List.mem_cons, List.not_mem_nil, or_false] at hp ⊢
    rcases hp with rfl | rfl <;> simp

theorem atom_c {b db n f fn t : Addr} {k1 k2 k3 k4 t0 : Tok} {e1 n1 : Nat} {o : Obj} {x : Str} {ts : Array Value} {xs : List Str} {g : Obj → List (Addr × Obj)} {g2 : Obj → Obj → List (Addr × Obj)}
    (B : Below A₀ base outer h₀) (F : Fr h₀ L s.heap m) (X : (hd.heap_39 w.params).In h₀) (T : Top hd.view_39 (looseW hd.view_39 []) mean mg mb h₀) (hk : cs.kind = .function) (hd : dp + 2 < recursionLimit) (hu : un + 16 < cLine)
    (N : News h₀ L s.heap news) (m1 : (b, instObj 122 db) ∈ news) (m2 : (db, dictOf (symEs w.params k1 k2 k3 k4 t n f fn) e1) ∈ news)
    (U : UpdF n o news g) (V : ∀ o', UpdF t (PySem.W.listOf ts n1) (g o') (g2 o')) (d5 : @Ne Nat db n) (lo : (n == sysModules) = false)
    (A : Atoms prog w o ts xs) (hz : xs.length ≤ 900)
    (hret : ∀ h' tk' o' ts' n1' tk, Fr h₀ L h' m → News h₀ L h' (g2 o' (PySem.W.listOf ts' n1')) → Atoms prog w o' ts' (atomAdd xs x) →
       Q (.int ((xs.idxOf x : Nat) : Int) tk) { s with heap := h', toks := tk' }) :
    wpAny (model prog w) (ktrTop dp un gd cn cs L a ccd cl outer) (call (.ref 56) [.ref b, .str x t0]) Q E s := by
  obtain ⟨kvs, ho, hk', hv, hs⟩ := A
  have hc := isDict_cls ho
  have m3 := updF_at U
  have m4 : (t, PySem.W.listOf ts n1) ∈ news := by
    rcases updF_mem U (updF_at (V o)) with h | h
    · exact h.1
    · obtain ⟨e1, e2⟩ := Prod.mk.inj h
      rw [← e2] at hc; injection hc with hc; exact absurd hc (by decide)
  have d1 : b ≠ t := news_ne N m1 m4 (by intro h; cases h)
  have d2 : db ≠ t := news_ne N m2 m4 (by intro h; injection h with h; exact absurd h (by decide))
  have d3 : n ≠ t := news_ne N m3 m4 (by dsimp only; rw [hc]; intro h; injection h with h; exact absurd h (by decide))
  have d4 : b ≠ n := news_ne N m1 m3 (by dsimp only; rw [hc]; intro h; cases h)
  have hl : kvs.length = xs.length := by rw [← hk']; simp
  by_cases hx : x ∈ xs
  · obtain ⟨tk, hvx⟩ := atoms_hit ho hv (x := x) (by rw [hk']; exact hx)
    rw [hk'] at hvx
    have N3 : News h₀ L s.heap [(b, instObj 122 db), (db, dictOf (symEs w.params k1 k2 k3 k4 t n f fn) e1), (n, o)] := news_sub N fun p hp => by
      simp only [List.mem_cons, List.not_mem_nil, or_false] at hp
      rcases hp with rfl | rfl | rfl
      · exact m1
      · exact m2
      · exact m3
    refine atom_hit B F X T hk hd hu N3 lo ho hvx (Int.natCast_nonneg _) fun h' tk' kp F' => ?_
    · refine hret h' tk' o ts n1 tk F' (news_u2 N U V (fun c o _ e => kp c o (List.not_mem_nil) e) (ch := [(n, o), (t, PySem.W.listOf ts n1)]) (fun p hp => ?_) (.head _) (.tail _ (.head _))) (by rw [atomAdd, if_pos hx]; exact ⟨kvs, ho, hk', hv, hs⟩)
      simp only [List.mem_cons, List.not_mem_nil, or_false] at hp
      rcases hp with rfl | rfl
      · exact ⟨kp _ _ (List.not_mem_nil) (N _ m3).1, (N _ m3).2⟩
      · exact ⟨kp _ _ (List.not_mem_nil) (N _ m4).1, (N _ m4).2⟩
  · have hn : valueAt kvs x = none := valueAt_none_of_not_mem (by rw [hk']; exact hx)
    have N3 : News h₀ L s.heap [(b, instObj 122 db), (db, dictOf (symEs w.params k1 k2 k3 k4 t n f fn) e1), (n, o), (t, PySem.W.listOf ts n1)] := news_sub N fun p hp => by
      simp only [List.mem_cons, List.not_mem_nil, or_false] at hp
      rcases hp with rfl | rfl | rfl | rfl
      · exact m1
      · exact m2
      · exact m3
      · exact m4
    refine atom_miss B F X T hk hd hu N3 d1 d2 d3 d4 d5 lo ho hn (by omega) (by omega) fun h' tk' n1' o' tk kp F' N' hd' => ?_
    · have e : xs.idxOf x = ts.size := by rw [hs]; exact List.idxOf_eq_length hx
      have hst : stored kvs x (.int ts.size tk) = kvs ++ [(x, .int ts.size tk)] := by
        have : (kvs.any fun kv => kv.1 = x) = false := by rw [← valueAt_isSome_eq_any, hn]; rfl
        rw [stored, this]; rfl
      rw [hst] at hd'
      rw [e] at hret
      refine hret h' tk' o' _ n1' tk F' (news_u2 N U V kp N' (.head _) (.tail _ (.head _))) ?_
      rw [atomAdd, if_neg hx]
      refine ⟨_, hd', by simp [hk'], fun i k v hi => ?_, by simp [hs]⟩
      rw [List.getElem?_append] at hi
      split at hi
      · exact hv i k v hi
      · have hi0 : i - kvs.length = 0 := by
          cases q : i - kvs.length with
          | zero => rfl
          | succ j => rw [q] at hi; simp at hi
        rw [hi0] at hi
        simp only [List.getElem?_cons_zero, Option.some.injEq, Prod.mk.injEq] at hi
        exact ⟨tk, by rw [← hi.2, show i = ts.size by omega]⟩
end
end

section
/-! ## a dict keyed by tuples, in the ledger -/
section
variable {prog : Program} {w : World} {K : Type} [DecidableEq K]
def HTab (knd : KeyKind prog w K) (R : List (Addr × Obj)) (o : Obj) (xs : List (List K × Addr × Value)) : Prop :=
  o.ExactDict ∧ ∃ es ep, o.data = .dict es ep ∧ es.toList = xs.map (entryOfKey (tupleKind knd)) ∧ (∀ x ∈ xs, ∃ ok, (x.2.1, ok) ∈ R ∧ TupKeyObj knd x.1 ok) ∧ (xs.map (·.1)).Nodup
variable {knd : KeyKind prog w K} {R R' : List (Addr × Obj)} {o : Obj} {xs : List (List K × Addr × Value)} {h₀ h : Heap} {L d a : Addr} {m : Str → Option Value} {news : List (Addr × Obj)}

theorem HTab.cls (H : HTab knd R o xs) : o.cls = .type "dict" := H.1.1
theorem HTab.exact (H : HTab knd R o xs) : o.ExactDict := H.1
theorem HTab.mono (H : HTab knd R o xs) (hR : ∀ p ∈ R, p ∈ R') : HTab knd R' o xs := by
  obtain ⟨hc, es, ep, hd, he, hk, hn⟩ := H
  exact ⟨hc, es, ep, hd, he, fun x hx => let ⟨ok, h1, h2⟩ := hk x hx; ⟨ok, hR _ h1, h2⟩, hn⟩
theorem HTab.at (H : HTab knd R o xs) (N : News h₀ L h news) (hd : (d, o) ∈ news) (hR : ∀ p ∈ R, p ∈ news) : h.DictOfH (tupleKind knd) d xs := by
  obtain ⟨hc, es, ep, hdd, he, hk, hn⟩ := H
  exact ⟨o, es, ep, (N _ hd).1, hc, hdd, he, fun x hx => let ⟨ok, h1, h2⟩ := hk x hx; h2.key ((N _ (hR _ h1)).1), hn⟩
theorem HTab.empty {K' : Type} [DecidableEq K'] {knd' : KeyKind prog w K'} (hd : o.IsDictOf knd' []) : HTab knd R o [] := by
  obtain ⟨es, ep, hc, hdat, _, hp, _⟩ := hd
  have he : es.toList = [] := List.length_eq_zero_iff.mp hp.length
  exact ⟨hc, es, ep, hdat, he, fun _ hx => by simp at hx, List.nodup_nil⟩

/-- what a dict of the ledger is, read back off the heap -/
theorem HTab.back (H : h.DictOfH (tupleKind knd) d xs) (hR : ∀ x ∈ xs, ∃ ok, (x.2.1, ok) ∈ R ∧ TupKeyObj knd x.1 ok) : ∃ o, h.get? d = some o ∧ HTab knd R o xs := by
  obtain ⟨o, es, ep, ho, hc, hdd, he, hk, hn⟩ := H
  exact ⟨o, ho, hc, es, ep, hdd, he, hR, hn⟩

variable {A : Around} {E : Value → Shared → Prop} {s : Shared} {ks : List K} {ok : Obj} {v dflt : Value} {g : Obj → List (Addr × Obj)}

theorem kh_get1 {Q : Value → Shared → Prop} (hu : A.units + 1 < cLine) (N : News h₀ L s.heap news) (hd : (d, o) ∈ news) (hR : ∀ p ∈ R, p ∈ news) (H : HTab knd R o xs) (lo : (d == sysModules) = false)
    (hka : (a, ok) ∈ news) (tk : TupKeyObj knd ks ok) (x : Option Value) (hx : (atKey xs ks).map (·.2) = x) (h : Q (x.getD .none) { s with toks := s.toks + (ks.length + 1) }) : wpAny (model prog w) A (call (.builtin "dict.get") [.ref d, .ref a]) Q E s :=
  have hD := H.at N hd hR
  call_meetsIn PySem.F.slot_dict_get hD.typeIs PySem.F.entry_dict_get (PySem.F.args_dict_get_2 _ _) (meetsH_dict_get (tupleKind knd) d a lo) ⟨tupleKind_room_in1 hu, ks, xs, tk.key (N _ hka).1, hD, by rw [hx]; exact h⟩
theorem kh_get2 {Q : Value → Shared → Prop} (hu : A.units + 1 < cLine) (N : News h₀ L s.heap news) (hd : (d, o) ∈ news) (hR : ∀ p ∈ R, p ∈ news) (H : HTab knd R o xs) (lo : (d == sysModules) = false)
    (hka : (a, ok) ∈ news) (tk : TupKeyObj knd ks ok) (x : Option Value) (hx : (atKey xs ks).map (·.2) = x) (h : Q (x.getD dflt) { s with toks := s.toks + (ks.length + 1) }) : wpAny (model prog w) A (call (.builtin "dict.get") [.ref d, .ref a, dflt]) Q E s :=
  have hD := H.at N hd hR
  call_meetsIn PySem.F.slot_dict_get hD.typeIs PySem.F.entry_dict_get (PySem.F.args_dict_get_3 _ _ _) (meetsH_dict_get_default (tupleKind knd) d a lo dflt) ⟨tupleKind_room_in1 hu, ks, xs, tk.key (N _ hka).1, hD, by rw [hx]; exact h⟩
theorem kh_in {Q : Value → Shared → Prop} (hu : A.units + 1 < cLine) (N : News h₀ L s.heap news) (hd : (d, o) ∈ news) (hR : ∀ p ∈ R, p ∈ news) (H : HTab knd R o xs) (lo : (d == sysModules) = false)
    (hka : (a, ok) ∈ news) (tk : TupKeyObj knd ks ok) (x : Bool) (hx : (atKey xs ks).isSome = x) (h : Q (.bool x) { s with toks := s.toks + (ks.length + 1) }) : wpAny (model prog w) A (compareOp .In (.ref a) (.ref d)) Q E s :=
  wpAny_in_heap (knd := tupleKind knd) (tupleKind_room_in1 hu) (tk.key (N _ hka).1) lo (H.at N hd hR) (by rw [hx]; exact h)
theorem kh_method {name : Str} {id : String} {pl : Sem Bool} {Q : Value × List Value → Shared → Prop} (slot : Slot "dict" name id) (hty : typeOf (.builtin id) = pure (.type "method_descriptor"))
    (N : News h₀ L s.heap news) (hd : (d, o) ∈ news) (hc : o.ExactDict) (h : Q (.builtin id, [.ref d]) s) : wpAny (model prog w) A (getMethod (.ref d) name pl) Q E s :=
  getMethod_builtin ⟨o, (N _ hd).1, hc.1⟩ PySem.F.plainAttrs_dict slot hty (fun b e => by injection e with e; subst e; exact ⟨o, (N _ hd).1, hc.2.1⟩) h
theorem kh_item {value slice : Expr} {Q : Value → Shared → Prop} {p : Addr × Value} (hu : A.units + 1 < cLine) (N : News h₀ L s.heap news) (hd : (d, o) ∈ news) (hR : ∀ p ∈ R, p ∈ news) (H : HTab knd R o xs)
    (hka : (a, ok) ∈ news) (tk : TupKeyObj knd ks ok) (hx : atKey xs ks = some p) (h : Q p.2 { s with toks := s.toks + (ks.length + 1) })
    (hs : subscripted slice false (.ref d) (.ref a) = operate [.ref d, .ref a] (getItem (.ref d) (.ref a)) := by with_unfolding_all rfl) (hg : ∀ r, letTemporaryGo value (.ref d) r = pure () := by intro _; with_unfolding_all rfl) :
    wpAny (model prog w) A (subscriptTail value slice (.ref d) (.ref a)) Q E s :=
  subscriptTail_builtin (H.at N hd hR).typeIs slot_dict_getitem.lookup (wpAny_getItem_heap (knd := tupleKind knd) (tupleKind_room_in1 hu) (tk.key (N _ hka).1) (H.at N hd hR) hx h) hs hg

theorem kh_set {Q : Unit → Shared → Prop} (hu : A.units + 1 < cLine) (F : Fr h₀ L s.heap m) (N : News h₀ L s.heap news) (U : UpdF d o news g) (hR : ∀ p ∈ R, p ∈ news) (H : HTab knd R o xs)
    (hka : (a, ok) ∈ news) (tk : TupKeyObj knd ks ok) (hz : xs.length ≤ 1000)
    (h : ∀ h' o', Fr h₀ L h' m → News h₀ L h' (g o') → HTab knd ((a, ok) :: R) o' (storedH xs ks a v) → Q () { s with heap := h', toks := s.toks + (ks.length + 1) }) : wpAny (model prog w) A (setItem (.ref d) (.ref a) v) Q E s := by
  have hm := updF_at U
  refine wpAny_setItem_heap (hsz := by rw [sizeLine_eq]; omega) (knd := tupleKind knd) (tupleKind_room_in1 hu) (tk.key (N _ hka).1) (H.at N hm hR) fun h' hm' hs => ?_
  obtain ⟨hc, es, ep, hdd, he, hk, hn⟩ := H
  obtain ⟨o', ho', H'⟩ := HTab.back (R := (a, ok) :: R) hm' fun x hx => by
    rcases mem_storedH hx with ⟨y, hy, e1, e2⟩ | ⟨e1, e2⟩
    · obtain ⟨oky, hmk, t⟩ := hk y hy
      exact ⟨oky, by rw [e2]; exact .tail _ hmk, by rw [e1]; exact t⟩
    · exact ⟨ok, by rw [e2]; exact .head _, by rw [e1]; exact tk⟩
  have N1 : News h₀ L h' [(d, o')] := fun p hp => by
    rw [List.mem_singleton.mp hp]
    exact ⟨ho', (N _ hm).2⟩
  exact h h' o' (F.change hs (N _ hm).2.1 (N _ hm).2.2) (news_u1 N U (fun c x hc' e => (hs.2 c (by simpa using hc')).trans e) N1 (.head _)) H'

theorem kl_len {its : Array Value} {n : Nat} {Q : Value → Shared → Prop} (N : News h₀ L s.heap news) (hm : (d, PySem.W.listOf its n) ∈ news) (hz : its.size ≤ 1000)
    (h : Q (.int its.size (s.toks + 1)) { s with toks := s.toks + 1 + 1 }) : wpAny (model prog w) A (call (.builtin "len") [.ref d]) Q E s :=
  call_len_list ⟨_, (N _ hm).1, rfl, n, rfl⟩ (by omega) h

/-! len, pop -/
theorem meetsH_dict_len (hd : (d == sysModules) = false) :
    MeetsIn prog w (Builtin.«dict.__len__» ⟨[.ref d], []⟩) (fun _ R s => ∃ xs, s.heap.DictOfH (tupleKind knd) d xs ∧ R (.ok (.ret (.int xs.length s.toks))) { s with toks := s.toks + 1 }) :=
  .of_wp fun A R s ⟨xs, hm, h⟩ => by
    obtain ⟨o, es, ep, ho, hc, hdat, he, hk, hn⟩ := hm
    show wpAny _ _ (dictSize d >>= _) _ _ s
    unfold dictSize
    refine wpAny_bind (wpAny_bind (wpAny_dictEntries ho hdat (wpAny_pure ?_)))
    show wpAny _ _ (Builtin.Dict.pendingCount d >>= _) _ _ s
    refine wpAny_bind (wpAny_pendingCount_other hd ?_)
    refine wpAny_ret_mkInt ?_
    have : es.size = xs.length := size_of_entries he
    rw [this]; simpa using h

theorem kh_len {Q : Value → Shared → Prop} (N : News h₀ L s.heap news) (hd : (d, o) ∈ news) (hR : ∀ p ∈ R, p ∈ news) (H : HTab knd R o xs) (lo : (d == sysModules) = false) (hz : xs.length ≤ 1000)
    (h : Q (.int xs.length (s.toks + 1)) { s with toks := s.toks + 1 + 1 }) : wpAny (model prog w) A (call (.builtin "len") [.ref d]) Q E s := by
  have hD := H.at N hd hR
  refine Calls.call_function_entry kind_len plain_len entry_len (args_len1 _) ?_
  unfold Builtin.«len»
  refine wpAny_bind (m := oneArg "len" _) (wpAny_pure ?_)
  refine wpAny_bind (m := callSpecial? (.ref d) (Str.ofString "__len__")) (wpAny_callSpecial?_slot (name := Str.ofString "__len__") hD.typeIs F.slot_dict_len
    (call_meetsIn F.slot_dict_len hD.typeIs F.entry_dict_len (F.args_dict_len_1 _) (meetsH_dict_len (knd := knd) lo) ⟨xs, hD, ?_⟩))
  show wpAny _ _ _ _ _ { s with toks := s.toks + 1 }
  refine wpAny_bind (wpAny_holding (wpAny_pure ?_))
  refine wpAny_bind (wpAny_letGo ?_)
  show wpAny _ _ (if ((xs.length : Nat) : Int) < 0 then _ else _) _ _ _
  rw [if_neg (by omega)]
  show wpAny _ _ (if ((xs.length : Nat) : Int) ≥ 2 ^ 63 then _ else _) _ _ _
  rw [if_neg (by omega)]
  exact wpAny_bind (wpAny_mkInt (wpAny_pure ⟨_, rfl, h⟩))

def withoutH (xs : List (List K × Addr × Value)) (k : List K) : List (List K × Addr × Value) := xs.filter fun x => decide (x.1 ≠ k)
theorem withoutH_erase : ∀ {xs : List (List K × Addr × Value)} {j : Nat} {k : List K} {p : Addr × Value}, (xs.map (·.1)).Nodup → xs[j]? = some (k, p) → xs.eraseIdx j = withoutH xs k
  | [], j, k, p, _, h => by simp at h
  | x :: xs, 0, k, p, hn, h => by
    simp only [List.getElem?_cons_zero, Option.some.injEq] at h
    subst h
    rw [List.map_cons, List.nodup_cons] at hn
    have e : withoutH xs k = xs := List.filter_eq_self.mpr fun y hy => by
      refine decide_eq_true fun q => hn.1 ?_
      exact List.mem_map.mpr ⟨y, hy, q⟩
    simp only [List.eraseIdx_cons_zero, withoutH, List.filter_cons]
    rw [if_neg (by simp)]
    exact e.symm
  | x :: xs, j + 1, k, p, hn, h => by
    simp only [List.getElem?_cons_succ] at h
    rw [List.map_cons, List.nodup_cons] at hn
    have hne : x.1 ≠ k := fun q => hn.1 (by rw [q]; exact List.mem_map.mpr ⟨(k, p), List.mem_of_getElem? h, rfl⟩)
    simp only [List.eraseIdx_cons_succ, withoutH, List.filter_cons]
    rw [if_pos (by simpa using hne), withoutH_erase hn.2 h]
    rfl

theorem eraseIdx_map' {α β : Type} (f : α → β) : ∀ (l : List α) (j : Nat), (l.map f).eraseIdx j = (l.eraseIdx j).map f
  | [], _ => rfl
  | _ :: _, 0 => rfl
  | a :: l, j + 1 => by simp only [List.map_cons, List.eraseIdx_cons_succ, eraseIdx_map' f l j]
theorem takeOut_heap {p : Addr × Value} {Q : Option DictEntry → Shared → Prop} (hu : A.units < cLine) (hkey : IsTupleKey knd s.heap ks a) (hm : s.heap.DictOfH (tupleKind knd) d xs) (hp : atKey xs ks = some p) (hz : xs.length ≤ 1000)
    (h : ∀ e h', e.val = p.2 → h'.DictOfH (tupleKind knd) d (withoutH xs ks) → Heap.SameBut d s.heap h' → Q (some e) { s with heap := h', toks := s.toks + (ks.length + 1) }) :
    wpAny (model prog w) A (Builtin.Dict.takeOut d (.ref a)) Q E s := by
  obtain ⟨o, es, ep, ho, hc, hd, he, his, hn⟩ := hm
  unfold Builtin.Dict.takeOut
  (try with_reducible refine wpAny_holding ?_)
  refine wpAny_bind ((tupleKind knd).pyHash hu hkey ?_)
  refine wpAny_bind (wpAny_dictFind_heap (knd := tupleKind knd) (s := { s with toks := s.toks + (tupleKind knd).draws ks }) hu hkey ho hd he his hn ?_ ?_)
  · intro hno
    rw [atKey_none_of_get hno] at hp; cases hp
  · intro j q hj
    have hq : q = p := by have := atKey_of_get hn hj; rw [hp] at this; exact (Option.some.inj this).symm
    subst hq
    refine wpAny_bind (wpAny_dictEntries (s := { s with toks := s.toks + (tupleKind knd).draws ks }) ho hd ?_)
    have he' : es[j]? = some (entryOfKey (tupleKind knd) (ks, q)) := by rw [entry_at he, hj]; rfl
    rw [he']
    refine wpAny_bind (wpAny_updateDictKeys (hz := by have e := size_of_entries he; rw [sizeLine_eq]; omega) (s := { s with toks := s.toks + (tupleKind knd).draws ks }) ho hd (wpAny_pure (h _ _ rfl ⟨_, _, ep + 1, Heap.get?_update_self _ ho (Obj.isFreed_of_dict (Obj.data_mapDictKeys hd _)),
      hc.mapDictKeys _, Obj.data_mapDictKeys hd _, ?_, ?_, ?_⟩ (Heap.SameBut.update ..))))
    · rw [← withoutH_erase hn hj]
      obtain ⟨l⟩ := es
      simp only at he
      simp [he, eraseIdx_map']
    · intro x hx
      exact (tupleKind knd).keeps (his x (List.mem_filter.mp hx).1) ho hd (Heap.SameBut.update ..)
    · exact List.Sublist.nodup (List.Sublist.map _ List.filter_sublist) hn

theorem kh_pop {Q : Value → Shared → Prop} {p : Addr × Value} (hu : A.units + 1 < cLine) (F : Fr h₀ L s.heap m) (N : News h₀ L s.heap news) (U : UpdF d o news g) (hR : ∀ p ∈ R, p ∈ news) (H : HTab knd R o xs)
    (hka : (a, ok) ∈ news) (tk : TupKeyObj knd ks ok) (hz : xs.length ≤ 1000) (hx : atKey xs ks = some p)
    (h : ∀ h' o', Fr h₀ L h' m → News h₀ L h' (g o') → HTab knd R o' (withoutH xs ks) → Q p.2 { s with heap := h', toks := s.toks + (ks.length + 1) }) : wpAny (model prog w) A (call (.builtin "dict.pop") [.ref d, .ref a]) Q E s := by
  have hm := updF_at U
  have hD := H.at N hm hR
  have hT := hD.typeIs
  refine wpAny_call_entry PySem.F.slot_dict_pop hT PySem.F.entry_dict_pop ?_ (PySem.F.args_dict_pop_2 _ _)
  unfold Builtin.«dict.pop»
  refine wpAny_bind ?_
  unfold Builtin.Dict.keyAndDefault
  refine wpAny_bind (wpAny_notOrdered_dict hT ?_)
  show wpAny _ _ (pure (d, Value.ref a, none)) _ _ s
  refine wpAny_pure ?_
  obtain ⟨o0, es, ep, ho, hc, hdat, he, his, hn⟩ := id hD
  have hkp : (keyPart (Value.ref a)).isSome = false := rfl
  simp only [hkp, Bool.false_eq_true, if_false]
  refine wpAny_bind (wpAny_dictEntries ho hdat (wpAny_bind (wpAny_pure ?_)))
  have hne : es.isEmpty = false := by
    have e := size_of_entries he
    cases xs with
    | nil => cases hx
    | cons x r => rw [Array.isEmpty, e]; rfl
  rw [hne]
  simp only [Bool.false_eq_true, if_false]
  refine wpAny_bind (takeOut_heap (knd := knd) (A := A.in1) hu (tk.key (N _ hka).1) hD hx hz fun e h' hev hm' hs => ?_)
  simp only [Option.isNone_some, Bool.false_eq_true, if_false]
  refine wpAny_bind (wpAny_letGo (wpAny_pure ⟨e.val, rfl, ?_⟩))
  obtain ⟨hc', es', ep', hdd', he', hk', hn'⟩ := H
  obtain ⟨o', ho', H'⟩ := HTab.back (R := R) hm' fun x hx => hk' x (List.mem_filter.mp hx).1
  have N1 : News h₀ L h' [(d, o')] := fun p hp => by
    rw [List.mem_singleton.mp hp]
    exact ⟨ho', (N _ hm).2⟩
  rw [hev]
  exact h h' o' (F.change hs (N _ hm).2.1 (N _ hm).2.2) (news_u1 N U (fun c x hc' e => (hs.2 c (by simpa using hc')).trans e) N1 (.head _)) H'
end
end

section


section
variable {prog : Program} {w : World} {mean : ExcName → Option Value} {mg mb : Str → Option Value} {dp un : Nat} {gd : Option (List Code)} {cn : Str} {cs : Scope} {a : Addr} {ccd : Value} {cl : List (Str × Addr)} {outer : List Env} {A₀ : Around} {base h₀ : Heap} {L : Addr} {m : Str → Option Value} {s : Shared} {Q E : Value → Shared → Prop} {news : List (Addr × Obj)}

set_option maxHeartbeats 4000000 in
theorem functor_0 {b db n f fn t : Addr} {k1 k2 k3 k4 ta tb : Tok} {e1 n1 : Nat} {o : Obj} {atm ar : Int} {fs : Array Value} {R : List (Addr × Obj)} {xs : List (List Int × Addr × Value)}
    (B : Below A₀ base outer h₀) (F : Fr h₀ L s.heap m) (X : (hd.heap_39 w.params).In h₀) (T : Top hd.view_39 (looseW hd.view_39 []) mean mg mb h₀) (hk : cs.kind = .function) (hd : dp + 2 < recursionLimit) (hu : un + 16 < cLine)
    (N : News h₀ L s.heap ((b, instObj 122 db) :: (db, dictOf (symEs w.params k1 k2 k3 k4 t n f fn) e1) :: (fn, o) :: (f, PySem.W.listOf fs n1) :: R))
    (d1 : @Ne Nat b f) (d2 : @Ne Nat db f) (d3 : @Ne Nat fn f) (d4 : @Ne Nat b fn) (d5 : @Ne Nat db fn) (OR : OwnOff R [fn, f])
    (lo : (fn == sysModules) = false)
    (H : HTab (PySem.intKind prog w) R o xs) (hx : (atKey xs [atm, ar]).map (·.2) = none) (hz : fs.size ≤ 1000) (hz2 : xs.length ≤ 1000)
    (hret : ∀ kx h' tk' n1' o' tk, (∀ c o, c ∉ ([fn, f] : List Addr) → s.heap.get? c = some o → h'.get? c = some o) → Fr h₀ L h' m → News h₀ L h' [(kx, tupObj [.int atm ta, .int ar tb]), (fn, o'), (f, PySem.W.listOf (fs.push (.ref kx)) n1')] →
       HTab (PySem.intKind prog w) ((kx, tupObj [.int atm ta, .int ar tb]) :: R) o' (storedH xs [atm, ar] kx (.int fs.size tk)) → Q (.int fs.size tk) { s with heap := h', toks := tk' }) :
    wpAny (model prog w) (ktrTop dp un gd cn cs L a ccd cl outer) (call (.ref 70) [.ref b, .int atm ta, .int ar tb]) Q E s := by
  k_with_none
  w_top off
  k_with "call builtin:dict.get" => (k_here; k_dflt (refine' kh_get2 (knd := PySem.intKind _ _) ?w9huZ ?w9NZ ?w9hdZ ?w9hRZ ?w9HZ ?w9loZ ?w9hkaZ ?w9tkZ _ ?w9hxZ ?_; (case w9huZ => ktr_units); (case w9NZ => k_asm); (case w9hdZ => k_mem); (case w9HZ => k_asm); (case w9hRZ => (intro qpZ qhpZ; repeat' (first | exact qhpZ | refine List.Mem.tail _ ?_))); (case w9loZ => k_asm); (case w9hkaZ => k_mem); (case w9tkZ => exact TupKeyObj.made (.cons (intKind_is _ _ _ _) (.cons (intKind_is _ _ _ _) .nil))); (case w9hxZ => k_asm)); (try dsimp only [Option.getD]))
  k_with "getMethod ref" => (k_here; (with_reducible show wpAny _ _ (getMethod (Value.ref _) (Str.ofString "get") _) _ _ _); k_dflt (refine' kh_method PySem.F.slot_dict_get PySem.F.type_dict_get ?w9NZ ?w9hdZ ?w9HZ ?_; (case w9NZ => k_asm); (case w9hdZ => k_mem); (case w9HZ => refine' HTab.exact (K := Int) ?w9HHZ; (case w9HHZ => k_asm))))
  k_with "call builtin:len" => (k_here; (with_reducible show wpAny _ _ (call (Value.builtin _) [Value.ref _]) _ _ _); k_dflt (refine' kl_len ?w9NZ ?w9hmZ ?w9hzZ ?_; (case w9NZ => k_asm); (case w9hmZ => k_mem); (case w9hzZ => omega)))
  k_with "setItem ref ref" => (k_here; k_dflt (refine' kh_set (knd := PySem.intKind _ _) ?w9huZ ?w9FZ ?w9NZ ?w9UZ ?w9hRZ ?w9HZ ?w9hkaZ ?w9tkZ ?w9zZ ?_; (case w9huZ => ktr_units); (case w9FZ => k_asm); (case w9NZ => k_asm); (case w9UZ => k_updF); (case w9HZ => k_asm); (case w9hRZ => (intro qpZ qhpZ; repeat' (first | exact qhpZ | refine List.Mem.tail _ ?_))); (case w9hkaZ => k_mem); (case w9tkZ => exact TupKeyObj.made (.cons (intKind_is _ _ _ _) (.cons (intKind_is _ _ _ _) .nil))); (case w9zZ => omega)); intro qhZ qoZ qFZ qNZ qHZ; (try dsimp only at qNZ))
  refine wpAny_call ?_
  k_dflt cell_enter
  k_steps
  refine hret _ _ _ (n1 + 1) _ _ (keep_but [fn, f] (by assumption) (by assumption) N (by assumption) fun p hp => ?_) (by assumption) (news_sub (by assumption) fun p hp => ?_) (by assumption)
  · rcases List.mem_cons.mp hp with rfl | hp
    · exact .inr (by simp)
    rcases List.mem_cons.mp hp with rfl | hp
    · exact .inr (by simp)
    rcases List.mem_cons.mp hp with rfl | hp
    · exact .inl (by simp)
    rcases List.mem_cons.mp hp with rfl | hp
    · exact .inl (by simp)
    exact .inr (.tail _ (.tail _ (.tail _ (.tail _ (.tail _ hp)))))
  · simp only [List.mem_cons, List.not_mem_nil, or_false] at hp ⊢
    rcases hp with rfl | rfl | rfl <;> simp
end
end

section
/-! ## two lists, place by place -/
inductive All2 {α β : Type} (P : α → β → Prop) : List α → List β → Prop
  | nil : All2 P [] []
  | cons {a b l r} : P a b → All2 P l r → All2 P (a :: l) (b :: r)
theorem All2.length {α β : Type} {P : α → β → Prop} {l : List α} {r : List β} (h : All2 P l r) : l.length = r.length := by
  induction h with
  | nil => rfl
  | cons _ _ ih => simp [ih]
theorem All2.mono {α β : Type} {P P' : α → β → Prop} {l : List α} {r : List β} (h : All2 P l r) (hp : ∀ a b, P a b → P' a b) : All2 P' l r := by
  induction h with
  | nil => exact .nil
  | cons h1 _ ih => exact .cons (hp _ _ h1) ih
theorem All2.get {α β : Type} {P : α → β → Prop} {l : List α} {r : List β} (h : All2 P l r) : ∀ {i : Nat} {a : α}, l[i]? = some a → ∃ b, r[i]? = some b ∧ P a b := by
  induction h with
  | nil => intro i a e; simp at e
  | cons h1 _ ih =>
    intro i a e
    cases i with
    | zero => simp only [List.getElem?_cons_zero, Option.some.injEq] at e; subst e; exact ⟨_, rfl, h1⟩
    | succ i => simp only [List.getElem?_cons_succ] at e; simpa using ih e
theorem All2.get' {α β : Type} {P : α → β → Prop} {l : List α} {r : List β} (h : All2 P l r) : ∀ {i : Nat} {b : β}, r[i]? = some b → ∃ a, l[i]? = some a ∧ P a b := by
  induction h with
  | nil => intro i a e; simp at e
  | cons h1 _ ih =>
    intro i a e
    cases i with
    | zero => simp only [List.getElem?_cons_zero, Option.some.injEq] at e; subst e; exact ⟨_, rfl, h1⟩
    | succ i => simp only [List.getElem?_cons_succ] at e; simpa using ih e
theorem All2.append {α β : Type} {P : α → β → Prop} {l l' : List α} {r r' : List β} (h : All2 P l r) (h' : All2 P l' r') : All2 P (l ++ l') (r ++ r') := by
  induction h with
  | nil => exact h'
  | cons h1 _ ih => exact .cons h1 ih
theorem All2.mem {α β : Type} {P : α → β → Prop} {l : List α} {r : List β} (h : All2 P l r) {a : α} (ha : a ∈ l) : ∃ b ∈ r, P a b := by
  induction h with
  | nil => cases ha
  | cons h1 _ ih =>
    cases ha with
    | head => exact ⟨_, .head _, h1⟩
    | tail _ ha => obtain ⟨b, hb, hp⟩ := ih ha; exact ⟨b, .tail _ hb, hp⟩

/-! ## loops over a list or a tuple of the call's own, the state a ledger -/
def TurnEnd (h₀ : Heap) (L : Addr) (own : List (Addr × Obj)) (J : (Str → Option Value) → List (Addr × Obj) → Prop) (it : String) (old : List Addr) (s₁ s₂ : Shared) : Prop :=
  ∃ h' tk m' news', s₂ = { s₁ with heap := h', toks := tk } ∧ Fr h₀ L h' m' ∧ News h₀ L h' (news' ++ own) ∧ (∀ p ∈ news', p.1 ∈ old ∨ p.2.cls ≠ .type it) ∧ J m' news'
def TurnPost (h₀ : Heap) (L : Addr) (own : List (Addr × Obj)) (J : (Str → Option Value) → List (Addr × Obj) → Prop) (it : String) (old : List Addr) (s₁ : Shared) (Q : Flow → Shared → Prop) (f : Flow) (s₂ : Shared) : Prop :=
  match f with
  | .ret v => Q (.ret v) s₂
  | .brk => Q .next s₂
  | _ => TurnEnd h₀ L own J it old s₁ s₂

section
variable {prog : Program} {w : World} {A : Around} {E : Value → Shared → Prop} {s : Shared} {env : Env} {h₀ : Heap} {target : Expr} {body : List Stmt} {Q : Flow → Shared → Prop}
theorem turns_kt {I l : Addr} {it : String} {n : Nat} {P Md : Nat → Value → Heap → Prop} {St : Nat → Heap → Prop} {s₂ : Shared} {m₀ : Str → Option Value} {news₀ : List (Addr × Obj)} {adr : List Addr}
    (W : KTurns prog w A target I [I, l] [I] n P Md St) (hSt : ∀ i h, St i h → ∃ o, h.get? I = some o ∧ o.cls = .type it)
    (J : Nat → (Str → Option Value) → List (Addr × Obj) → Prop) (hLI : env.locals ≠ I) (hLl : env.locals ≠ l) (hI : h₀.get? I = none) (hs : St 0 s₂.heap)
    (F : Fr h₀ env.locals s₂.heap m₀) (N : News h₀ env.locals s₂.heap news₀) (hnI : ∀ p ∈ news₀, p.1 ≠ I) (hadr : ∀ b ∈ adr, b ≠ l ∧ b ≠ I) (hj : J 0 m₀ news₀)
    (turn : ∀ i v m₁ news₁ h tk own, P i v h → J i m₁ news₁ → OwnOff own adr → Fr h₀ env.locals h m₁ → News h₀ env.locals h (news₁ ++ own) →
      wpAny (model prog w) A (assign target env v) (fun _ s₃ => wpAny (model prog w) A (execs body env) (TurnPost h₀ env.locals own (J (i + 1)) it (news₀.map (·.1)) { s₂ with heap := h, toks := tk } Q) E s₃) E { s₂ with heap := h, toks := tk })
    (done : ∀ m₁ news₁ h tk, J n m₁ news₁ → Fr h₀ env.locals h m₁ → News h₀ env.locals h news₁ → Q .next { s₂ with heap := h, toks := tk }) :
    TurnsAt prog w A h₀ env target body Q E (.ref I) s₂ := by
  refine ⟨I, [I, l], [I], n, P, Md, St, m₀, news₀, J, rfl, W, ?_, ?_, ?_, hs, F, N, hj, ?_, ?_⟩
  · intro hm
    rcases List.mem_cons.mp hm with e | hm
    · exact hLI e
    · exact hLl (List.mem_singleton.mp hm)
  · intro b hb; rw [List.mem_singleton.mp hb]; exact hI
  · intro p hp hm; exact hnI p hp (List.mem_singleton.mp hm)
  · intro i v m₁ news₁ h₁ tk₁ own hi hP hJ hoff hown hget hall st F₁ N₁
    have hsep : OwnOff own adr := fun p hp b hb e => by
      rcases List.mem_cons.mp (hown p hp) with h1 | h1
      · exact (hadr b hb).2 (by rw [← e, h1])
      · exact (hadr b hb).1 (by rw [← e, List.mem_singleton.mp h1])
    have N₂ : News h₀ env.locals h₁ (news₁ ++ own) := fun p hp => N₁ p ((List.mem_append.mp hp).elim (fun h => List.mem_append.mpr (.inr h)) fun h => List.mem_append.mpr (.inl h))
    obtain ⟨oI, hoI, hcI⟩ := hSt _ _ st
    have hmI : (I, oI) ∈ own := hall I (List.mem_cons_self ..) hI oI hoI
    refine wpAny_mono (turn i v m₁ news₁ h₁ tk₁ own hP hJ hsep F₁ N₂) (fun _ s₃ h₃ => wpAny_mono h₃ (fun f s₄ p => ?_) fun _ _ e => e) fun _ _ e => e
    have fin : TurnEnd h₀ env.locals own (J (i + 1)) it (news₀.map (·.1)) { s₂ with heap := h₁, toks := tk₁ } s₄ → LoopStepU h₀ env.locals [I] own (J (i + 1)) { s₂ with heap := h₁, toks := tk₁ } .next s₄ := by
      rintro ⟨h', tk, m', news', e, F', N', hc', hm⟩
      refine ⟨rfl, h', tk, m', news', e, F', fun p hp => N' p ((List.mem_append.mp hp).elim (fun h => List.mem_append.mpr (.inr h)) fun h => List.mem_append.mpr (.inl h)), fun p hp hq => ?_, hm⟩
      rcases hc' p hp with h | h
      · obtain ⟨q, hq1, hq2⟩ := List.mem_map.mp h
        exact hnI q hq1 (hq2.trans (List.mem_singleton.mp hq))
      · exact news_ne N' (List.mem_append_left _ hp) (List.mem_append_right _ hmI) (fun q => h (q.trans hcI)) (List.mem_singleton.mp hq)
    cases f with
    | ret v => exact .ret p
    | brk => exact .brk p
    | next => exact .next (fin p)
    | cont => exact .cont (fin p)
  · intro h' tk m' news' F' N' _ hJ
    exact done m' news' h' tk hJ F' N'

theorem turns_seq {I l : Addr} {it : String} {n : Nat} {P : Nat → Value → Prop} {St : Nat → Heap → Prop} {s₂ : Shared} {m₀ : Str → Option Value} {news₀ : List (Addr × Obj)} {adr : List Addr}
    (W : Walks prog w A I [I, l] [I] n P St) (hSt : ∀ i h, St i h → ∃ o, h.get? I = some o ∧ o.cls = .type it)
    (hgo : ∀ i v (s : Shared) (Q : Unit → Shared → Prop) (E : Value → Shared → Prop), St i s.heap → Q () s → wpAny (model prog w) A (letOwnedTupleGo target (.ref I) v) Q E s)
    (J : Nat → (Str → Option Value) → List (Addr × Obj) → Prop) (hLI : env.locals ≠ I) (hLl : env.locals ≠ l) (hI : h₀.get? I = none) (hs : St 0 s₂.heap)
    (F : Fr h₀ env.locals s₂.heap m₀) (N : News h₀ env.locals s₂.heap news₀) (hnI : ∀ p ∈ news₀, p.1 ≠ I) (hadr : ∀ b ∈ adr, b ≠ l ∧ b ≠ I) (hj : J 0 m₀ news₀)
    (turn : ∀ i v m₁ news₁ h tk own, P i v → J i m₁ news₁ → OwnOff own adr → Fr h₀ env.locals h m₁ → News h₀ env.locals h (news₁ ++ own) →
      wpAny (model prog w) A (assign target env v) (fun _ s₃ => wpAny (model prog w) A (execs body env) (TurnPost h₀ env.locals own (J (i + 1)) it (news₀.map (·.1)) { s₂ with heap := h, toks := tk } Q) E s₃) E { s₂ with heap := h, toks := tk })
    (done : ∀ m₁ news₁ h tk, J n m₁ news₁ → Fr h₀ env.locals h m₁ → News h₀ env.locals h news₁ → Q .next { s₂ with heap := h, toks := tk }) :
    TurnsAt prog w A h₀ env target body Q E (.ref I) s₂ :=
  turns_kt (KTurns.ofWalks W hgo) hSt J hLI hLl hI hs F N hnI hadr hj turn done

theorem go_list {i : Nat} {I l : Addr} {v : Value} {Q : Unit → Shared → Prop} (h : s.heap.IsListIter I l i) (hq : Q () s) : wpAny (model prog w) A (letOwnedTupleGo target (.ref I) v) Q E s := by
  obtain ⟨o, ho, hc, hd⟩ := h
  cases target with
  | Tuple => cases v <;> first | exact wpAny_pure hq | exact wpAny_bind (wpAny_load ho (by rw [hc, hd]; exact wpAny_pure hq))
  | List => cases v <;> first | exact wpAny_pure hq | exact wpAny_bind (wpAny_load ho (by rw [hc, hd]; exact wpAny_pure hq))
  | _ => exact wpAny_pure hq
theorem go_tuple {i : Nat} {I l : Addr} {v : Value} {Q : Unit → Shared → Prop} (h : s.heap.IsTupleIter I l i) (hq : Q () s) : wpAny (model prog w) A (letOwnedTupleGo target (.ref I) v) Q E s := by
  obtain ⟨o, ho, hc, hd⟩ := h
  cases target with
  | Tuple => cases v <;> first | exact wpAny_pure hq | exact wpAny_bind (wpAny_load ho (by rw [hc, hd]; exact wpAny_pure hq))
  | List => cases v <;> first | exact wpAny_pure hq | exact wpAny_bind (wpAny_load ho (by rw [hc, hd]; exact wpAny_pure hq))
  | _ => exact wpAny_pure hq

/-- for .. in a list that stands in the ledger (or in what was known of the heap) -/
theorem turns_list {l : Addr} {vs : List Value} {m₀ : Str → Option Value} {news₀ : List (Addr × Obj)} {adr : List Addr} (J : Nat → (Str → Option Value) → List (Addr × Obj) → Prop)
    (hh : A.handled = none) (F : Fr h₀ env.locals s.heap m₀) (N : News h₀ env.locals s.heap news₀) (hl : s.heap.IsList l vs.toArray) (hLl : l ≠ env.locals) (hadr : ∀ b ∈ adr, b ≠ l ∧ ∃ o, (b, o) ∈ news₀) (hj : J 0 m₀ news₀)
    (turn : ∀ i v m₁ news₁ h tk own, vs[i]? = some v → J i m₁ news₁ → OwnOff own adr → Fr h₀ env.locals h m₁ → News h₀ env.locals h (news₁ ++ own) →
      wpAny (model prog w) A (assign target env v) (fun _ s₃ => wpAny (model prog w) A (execs body env) (TurnPost h₀ env.locals own (J (i + 1)) "list_iterator" (news₀.map (·.1)) { s with heap := h, toks := tk } Q) E s₃) E { s with heap := h, toks := tk })
    (done : ∀ m₁ news₁ h tk, J vs.length m₁ news₁ → Fr h₀ env.locals h m₁ → News h₀ env.locals h news₁ → Q .next { s with heap := h, toks := tk }) :
    wpAny (model prog w) A (pyIter (.ref l)) (fun it s₂ => TurnsAt prog w A h₀ env target body Q E it s₂) E s := by
  obtain ⟨ol, hol, _⟩ := id hl
  have hne : l ≠ s.heap.objs.size := Nat.ne_of_lt (Heap.lt_size hol)
  refine wpAny_pyIter_list hl ?_
  have W := Walks.list (prog := prog) (w := w) hh s.heap.objs.size l hne vs.toArray
  have hsz : vs.toArray.size = vs.length := List.size_toArray ..
  rw [hsz] at W
  refine turns_seq W (fun i h st => ?_) (fun i v s' Q' E' st hq => go_list st.1 hq) J (Nat.ne_of_lt F.ns.lt) (Ne.symm hLl) (next_is_new F) ⟨⟨_, Heap.get?_push_size _ rfl, rfl, rfl⟩, hl.at fun o e => Heap.get?_push_of_some _ e⟩
    (F.push _) (fun p hp => ⟨Heap.get?_push_of_some _ (N p hp).1, (N p hp).2⟩) (fun p hp => Nat.ne_of_lt (Heap.lt_size (N p hp).1)) (fun b hb => ?_) hj (fun i v m₁ news₁ h tk own hP hJ ho F₁ N₁ => turn i v m₁ news₁ h tk own (by simpa using hP) hJ ho F₁ N₁) done
  · obtain ⟨o, ho, hc, _⟩ := st.1; exact ⟨o, ho, hc⟩
  · obtain ⟨h1, o, h2⟩ := hadr b hb; exact ⟨h1, Nat.ne_of_lt (Heap.lt_size (N _ h2).1)⟩
theorem turns_tuple {l : Addr} {vs : List Value} {m₀ : Str → Option Value} {news₀ : List (Addr × Obj)} {adr : List Addr} (J : Nat → (Str → Option Value) → List (Addr × Obj) → Prop)
    (hh : A.handled = none) (F : Fr h₀ env.locals s.heap m₀) (N : News h₀ env.locals s.heap news₀) (hl : s.heap.IsTuple l vs.toArray) (hLl : l ≠ env.locals) (hadr : ∀ b ∈ adr, b ≠ l ∧ ∃ o, (b, o) ∈ news₀) (hj : J 0 m₀ news₀)
    (turn : ∀ i v m₁ news₁ h tk own, vs[i]? = some v → J i m₁ news₁ → OwnOff own adr → Fr h₀ env.locals h m₁ → News h₀ env.locals h (news₁ ++ own) →
      wpAny (model prog w) A (assign target env v) (fun _ s₃ => wpAny (model prog w) A (execs body env) (TurnPost h₀ env.locals own (J (i + 1)) "tuple_iterator" (news₀.map (·.1)) { s with heap := h, toks := tk } Q) E s₃) E { s with heap := h, toks := tk })
    (done : ∀ m₁ news₁ h tk, J vs.length m₁ news₁ → Fr h₀ env.locals h m₁ → News h₀ env.locals h news₁ → Q .next { s with heap := h, toks := tk }) :
    wpAny (model prog w) A (pyIter (.ref l)) (fun it s₂ => TurnsAt prog w A h₀ env target body Q E it s₂) E s := by
  obtain ⟨ol, hol, _⟩ := id hl
  have hne : l ≠ s.heap.objs.size := Nat.ne_of_lt (Heap.lt_size hol)
  refine wpAny_pyIter_tuple hl ?_
  have W := Walks.tuple (prog := prog) (w := w) hh s.heap.objs.size l hne vs.toArray
  have hsz : vs.toArray.size = vs.length := List.size_toArray ..
  rw [hsz] at W
  refine turns_seq W (fun i h st => ?_) (fun i v s' Q' E' st hq => go_tuple st.1 hq) J (Nat.ne_of_lt F.ns.lt) (Ne.symm hLl) (next_is_new F) ⟨⟨_, Heap.get?_push_size _ rfl, rfl, rfl⟩, hl.at fun o e => Heap.get?_push_of_some _ e⟩
    (F.push _) (fun p hp => ⟨Heap.get?_push_of_some _ (N p hp).1, (N p hp).2⟩) (fun p hp => Nat.ne_of_lt (Heap.lt_size (N p hp).1)) (fun b hb => ?_) hj (fun i v m₁ news₁ h tk own hP hJ ho F₁ N₁ => turn i v m₁ news₁ h tk own (by simpa using hP) hJ ho F₁ N₁) done
  · obtain ⟨o, ho, hc, _⟩ := st.1; exact ⟨o, ho, hc⟩
  · obtain ⟨h1, o, h2⟩ := hadr b hb; exact ⟨h1, Nat.ne_of_lt (Heap.lt_size (N _ h2).1)⟩
/-- for a, b in d.items(), the dict one of the ledger -/
theorem turns_items {elts : List Expr} {kk : Nat} {pos : Pos} {K : Type} [DecidableEq K] {knd : KeyKind prog w K} {d vw : Addr} {od : Obj} {kvs : List (K × Value)} {m₀ : Str → Option Value} {news₀ : List (Addr × Obj)} {adr : List Addr} (J : Nat → (Str → Option Value) → List (Addr × Obj) → Prop)
    (hh : A.handled = none) (F : Fr h₀ env.locals s.heap m₀) (N : News h₀ env.locals s.heap news₀) (hvw : s.heap.IsItemsView vw d) (hd : (d, od) ∈ news₀) (ho : od.IsDictOf knd kvs) (hadr : ∀ b ∈ adr, b ≠ d ∧ ∃ o, (b, o) ∈ news₀) (hj : J 0 m₀ news₀)
    (turn : ∀ i k x T key m₁ news₁ h tk own, kvs[i]? = some (k, x) → knd.is k key = true → h.IsTuple T #[key, x] → J i m₁ news₁ → OwnOff own adr → Fr h₀ env.locals h m₁ → News h₀ env.locals h (news₁ ++ own) →
      wpAny (model prog w) A (assign (.Tuple elts kk pos) env (.ref T)) (fun _ s₃ => wpAny (model prog w) A (execs body env) (TurnPost h₀ env.locals own (J (i + 1)) "dict_itemiterator" (news₀.map (·.1)) { s with heap := h, toks := tk } Q) E s₃) E { s with heap := h, toks := tk })
    (done : ∀ m₁ news₁ h tk, J kvs.length m₁ news₁ → Fr h₀ env.locals h m₁ → News h₀ env.locals h news₁ → Q .next { s with heap := h, toks := tk }) :
    wpAny (model prog w) A (pyIter (.ref vw)) (fun it s₂ => TurnsAt prog w A h₀ env (.Tuple elts kk pos) body Q E it s₂) E s := by
  obtain ⟨ep, hat⟩ := Heap.DictOf.dictAt (Heap.dictOf_iff.mpr ⟨od, (N _ hd).1, ho⟩)
  have hne : d ≠ s.heap.objs.size := Nat.ne_of_lt (Heap.lt_size (N _ hd).1)
  refine wpAny_pyIter_items hvw hat ?_
  refine turns_kt (it := "dict_itemiterator") (adr := adr) (kti_itemsTurns (knd := knd) hh s.heap.objs.size d hne kvs ep) (fun i h st => ?_) J (Nat.ne_of_lt F.ns.lt) (Ne.symm (N _ hd).2.1) (next_is_new F) ⟨⟨_, _, Heap.get?_push_size _ rfl⟩, hat.at' fun o e => Heap.get?_push_of_some _ e⟩
    (F.push _) (fun p hp => ⟨Heap.get?_push_of_some _ (N p hp).1, (N p hp).2⟩) (fun p hp => Nat.ne_of_lt (Heap.lt_size (N p hp).1)) (fun b hb => ?_) hj (fun i v m₁ news₁ h tk own hP hJ ho F₁ N₁ => ?_) done
  · obtain ⟨⟨_, _, he⟩, _⟩ := st; exact ⟨_, he, rfl⟩
  · obtain ⟨h1, o, h2⟩ := hadr b hb; exact ⟨h1, Nat.ne_of_lt (Heap.lt_size (N _ h2).1)⟩
  · obtain ⟨T, key, k, x, rfl, hx, hk, hT⟩ := hP
    exact turn i k x T key m₁ news₁ h tk own hx hk hT hJ ho F₁ N₁
end

/-! ## the program's own tables, read off its text -/
def defBody (n : Str) : List Stmt := ((PySem.Challenge.pw_rr0017_01.main.body.findSome? fun st => match st with
  | .FunctionDef m _ b _ _ _ _ _ _ _ => if m == n then some b else none
  | _ => none)).getD []
def retOf (n : Str) : Expr := match defBody n with
  | [.Return (some e) _] => e
  | _ => .Tuple [] 0 default
def eltsOf : Expr → List Expr
  | .Tuple es _ _ => es
  | _ => []
def litStr : Expr → Str
  | .Constant (.str x) _ _ => x
  | _ => default
def litInt : Expr → Int
  | .Constant (.int i) _ _ => i
  | _ => 0
def fixedAtoms : List Str := (eltsOf (retOf (Str.ofString "fixed_atoms"))).map litStr
def fixedFuns : List (Str × Int) := (eltsOf (retOf (Str.ofString "fixed_functors"))).map fun e => match eltsOf e with
  | [a, b] => (litStr a, litInt b)
  | _ => default
def stdRows : List (Int × Str × List Str) := (eltsOf (retOf (Str.ofString "standard_rows"))).map fun e => match eltsOf e with
  | [a, b, c] => (litInt a, litStr b, (eltsOf c).map litStr)
  | _ => default
example : fixedAtoms.length = 29 ∧ fixedFuns.length = 32 ∧ stdRows.length = 13 := by decide +kernel
end

section


abbrev StrIs (v : Value) (x : Str) : Prop := ∃ t, v = .str x t
theorem all2_to {α β : Type} {P : α → β → Prop} {l : List α} {r r' : List β} (h : All2 P l r) (e : r = r') : All2 P l r' := e ▸ h
/-- a value that is a tuple of the ledger: a text and an int -/
abbrev FunIs (R : List (Addr × Obj)) (v : Value) (d : Str × Int) : Prop := ∃ x t t', v = .ref x ∧ (x, tupObj [.str d.1 t, .int d.2 t']) ∈ R
/-- a value that is a tuple of the ledger: an int, a text and a tuple of texts -/
abbrev RowIs (R : List (Addr × Obj)) (v : Value) (d : Int × Str × List Str) : Prop := ∃ x t t' y vs, v = .ref x ∧ (x, tupObj [.int d.1 t, .str d.2.1 t', .ref y]) ∈ R ∧ (y, tupObj vs) ∈ R ∧ All2 StrIs vs d.2.2

/-! ## displays of constants, at any length -/
def strOf : Expr → Option Str
  | .Constant (.str a) _ _ => some a
  | _ => none
theorem strOf_inv {e : Expr} {d : Str} (h : strOf e = some d) : ∃ k p, e = .Constant (.str d) k p := by
  unfold strOf at h
  split at h
  · injection h with h; subst h; exact ⟨_, _, rfl⟩
  · cases h
def intOf : Expr → Option Int
  | .Constant (.int a) _ _ => some a
  | _ => none
theorem intOf_inv {e : Expr} {d : Int} (h : intOf e = some d) : ∃ k p, e = .Constant (.int d) k p := by
  unfold intOf at h
  split at h
  · injection h with h; subst h; exact ⟨_, _, rfl⟩
  · cases h
def tupOf : Expr → Option (List Expr)
  | .Tuple es _ _ => some es
  | _ => none
theorem tupOf_inv {e : Expr} {d : List Expr} (h : tupOf e = some d) : ∃ k p, e = .Tuple d k p := by
  unfold tupOf at h
  split at h
  · injection h with h; subst h; exact ⟨_, _, rfl⟩
  · cases h
def funIs (d : Str × Int) (e : Expr) : Prop := ∃ a b, tupOf e = some [a, b] ∧ strOf a = some d.1 ∧ intOf b = some d.2
def rowIs (d : Int × Str × List Str) (e : Expr) : Prop := ∃ a b c es, tupOf e = some [a, b, c] ∧ intOf a = some d.1 ∧ strOf b = some d.2.1 ∧ tupOf c = some es ∧ es.map strOf = d.2.2.map some
def funOf (e : Expr) : Option (Str × Int) := (tupOf e).bind fun es => match es with
  | [a, b] => (strOf a).bind fun x => (intOf b).map fun n => (x, n)
  | _ => none
theorem funOf_inv {e : Expr} {d : Str × Int} (h : funOf e = some d) : funIs d e := by
  unfold funOf at h
  obtain ⟨es, h1, h⟩ := Option.bind_eq_some_iff.mp h
  match es, h with
  | [a, b], h =>
    obtain ⟨x, h2, h⟩ := Option.bind_eq_some_iff.mp h
    obtain ⟨n, h3, h⟩ := Option.map_eq_some_iff.mp h
    subst h
    exact ⟨a, b, h1, h2, h3⟩
def allSome {α : Type} : List (Option α) → Option (List α)
  | [] => some []
  | x :: r => x.bind fun a => (allSome r).map (a :: ·)
theorem allSome_inv {α : Type} : ∀ {l : List (Option α)} {r : List α}, allSome l = some r → l = r.map some
  | [], r, h => by injection h with h; subst h; rfl
  | x :: l, r, h => by
    obtain ⟨a, h1, h⟩ := Option.bind_eq_some_iff.mp h
    obtain ⟨b, h2, h⟩ := Option.map_eq_some_iff.mp h
    subst h h1
    rw [allSome_inv h2]; rfl
def rowOf (e : Expr) : Option (Int × Str × List Str) := (tupOf e).bind fun es => match es with
  | [a, b, c] => (intOf a).bind fun n => (strOf b).bind fun x => (tupOf c).bind fun es => (allSome (es.map strOf)).map fun l => (n, x, l)
  | _ => none
theorem rowOf_inv {e : Expr} {d : Int × Str × List Str} (h : rowOf e = some d) : rowIs d e := by
  unfold rowOf at h
  obtain ⟨es, h1, h⟩ := Option.bind_eq_some_iff.mp h
  match es, h with
  | [a, b, c], h =>
    obtain ⟨n, h2, h⟩ := Option.bind_eq_some_iff.mp h
    obtain ⟨x, h3, h⟩ := Option.bind_eq_some_iff.mp h
    obtain ⟨es, h4, h⟩ := Option.bind_eq_some_iff.mp h
    obtain ⟨l, h5, h⟩ := Option.map_eq_some_iff.mp h
    subst h
    exact ⟨a, b, c, es, h1, h2, h3, h4, allSome_inv h5⟩
section
variable {prog : Program} {w : World} {A : Around} {E : Value → Shared → Prop} {env : Env} {h₀ : Heap} {L : Addr} {m : Str → Option Value}
theorem map_cons_some {α β : Type} {f : α → Option β} {a : α} {l : List α} : ∀ {r : List β}, (a :: l).map f = r.map some → ∃ b t, r = b :: t ∧ f a = some b ∧ l.map f = t.map some
  | [], h => by cases h
  | b :: t, h => by
    rw [List.map_cons, List.map_cons] at h
    injection h with h1 h2
    exact ⟨b, t, rfl, h1, h2⟩
theorem disp_strs {pos : Pos} : ∀ (es : List Expr) (xs : List Str), es.map strOf = xs.map some → ∀ (s : Shared) (Q : List Value → Shared → Prop), (∀ vs tk, All2 StrIs vs xs → Q vs { s with toks := tk }) → wpAny (model prog w) A (spliced (backTo pos (starEach es env))) Q E s
  | [], xs, hm, s, Q, h => by
    have : xs = [] := by cases xs with | nil => rfl | cons => cases hm
    subst this
    exact args_nil (h [] s.toks .nil)
  | e :: es, xs, hm, s, Q, h => by
    obtain ⟨x, t, rfl, h1, h2⟩ := map_cons_some hm
    obtain ⟨k, p, rfl⟩ := strOf_inv h1
    exact args_cons (Constant_str (disp_strs es t h2 _ _ fun vs tk hv => h _ tk (.cons ⟨_, rfl⟩ hv)))
theorem disp_funs {pos : Pos} : ∀ (es : List Expr) (ds : List (Str × Int)), es.map funOf = ds.map some → ∀ (s : Shared) (R : List (Addr × Obj)) (Q : List Value → Shared → Prop), Fr h₀ L s.heap m → News h₀ L s.heap R → (∀ z ∈ R, z.2.cls = .type "tuple") →
    (∀ vs R' h' tk, Fr h₀ L h' m → News h₀ L h' R' → (∀ z ∈ R', z.2.cls = .type "tuple") → (∀ z ∈ R, z ∈ R') → All2 (FunIs R') vs ds → Q vs { s with heap := h', toks := tk }) → wpAny (model prog w) A (spliced (backTo pos (starEach es env))) Q E s
  | [], ds, hm, s, R, Q, F, N, RT, h => by
    have : ds = [] := by cases ds with | nil => rfl | cons => cases hm
    subst this
    exact args_nil (h [] R s.heap s.toks F N RT (fun _ z => z) .nil)
  | e :: es, ds, hm, s, R, Q, F, N, RT, h => by
    obtain ⟨d, t, rfl, h1, h2⟩ := map_cons_some hm
    obtain ⟨a, b, q1, q2, q3⟩ := funOf_inv h1
    obtain ⟨k, p, rfl⟩ := tupOf_inv q1
    obtain ⟨k2, p2, rfl⟩ := strOf_inv q2
    obtain ⟨k3, p3, rfl⟩ := intOf_inv q3
    refine args_cons (Tuple_ (args_cons (Constant_str (args_cons (wpAny_Constant_int (args_nil (kup_newTuple F N (fun D h' F' N' _ => ?_) (by size_fits))))))))
    exact disp_funs es t h2 _ _ _ F' N' (fun z hz => (List.mem_cons.mp hz).elim (fun e => by rw [e]) (RT z)) fun vs R' h'' tk F'' N'' RT' hs hv => h _ R' h'' tk F'' N'' RT' (fun z hz => hs z (.tail _ hz)) (.cons ⟨D, _, _, rfl, hs _ (.head _)⟩ hv)
theorem disp_rows {pos : Pos} : ∀ (es : List Expr) (ds : List (Int × Str × List Str)), es.map rowOf = ds.map some → (∀ d ∈ ds, d.2.2.length ≤ 1000) → ∀ (s : Shared) (R : List (Addr × Obj)) (Q : List Value → Shared → Prop), Fr h₀ L s.heap m → News h₀ L s.heap R → (∀ z ∈ R, z.2.cls = .type "tuple") →
    (∀ vs R' h' tk, Fr h₀ L h' m → News h₀ L h' R' → (∀ z ∈ R', z.2.cls = .type "tuple") → (∀ z ∈ R, z ∈ R') → All2 (RowIs R') vs ds → Q vs { s with heap := h', toks := tk }) → wpAny (model prog w) A (spliced (backTo pos (starEach es env))) Q E s
  | [], ds, hm, hl, s, R, Q, F, N, RT, h => by
    have : ds = [] := by cases ds with | nil => rfl | cons => cases hm
    subst this
    exact args_nil (h [] R s.heap s.toks F N RT (fun _ z => z) .nil)
  | e :: es, ds, hm, hl, s, R, Q, F, N, RT, h => by
    obtain ⟨d, t, rfl, h1, h2⟩ := map_cons_some hm
    obtain ⟨a, b, c, es', q1, q2, q3, q4, q5⟩ := rowOf_inv h1
    obtain ⟨k, p, rfl⟩ := tupOf_inv q1
    obtain ⟨k2, p2, rfl⟩ := intOf_inv q2
    obtain ⟨k3, p3, rfl⟩ := strOf_inv q3
    obtain ⟨k4, p4, rfl⟩ := tupOf_inv q4
    have hd := hl d (.head _)
    refine args_cons (Tuple_ (args_cons (wpAny_Constant_int (args_cons (Constant_str (args_cons (Tuple_ (disp_strs es' d.2.2 q5 _ _ fun vs tk hv => kup_newTuple F N (fun D h' F' N' _ => args_nil (kup_newTuple F' N' (fun D2 h2' F2 N2 _ => ?_) (by size_fits))) (by rw [sizeLine_eq, hv.length]; omega)))))))))
    exact disp_rows es t h2 (fun d hd => hl d (.tail _ hd)) _ _ _ F2 N2 (fun z hz => (List.mem_cons.mp hz).elim (fun e => by rw [e]) fun hz => (List.mem_cons.mp hz).elim (fun e => by rw [e]) (RT z)) fun vs' R' h'' tk' F'' N'' RT' hs hv' => h _ R' h'' tk' F'' N'' RT' (fun z hz => hs z (.tail _ (.tail _ hz))) (.cons ⟨D2, _, _, D, vs, rfl, hs _ (.head _), hs _ (.tail _ (.head _)), hv⟩ hv')
end
theorem hm_atoms : ∀ es : List Expr, es = eltsOf (retOf (Str.ofString "fixed_atoms")) → es.map strOf = fixedAtoms.map some := fun es e => by subst e; decide +kernel
theorem hm_funs : ∀ es : List Expr, es = eltsOf (retOf (Str.ofString "fixed_functors")) → es.map funOf = fixedFuns.map some := fun es e => by subst e; decide +kernel
theorem hm_rows : ∀ es : List Expr, es = eltsOf (retOf (Str.ofString "standard_rows")) → es.map rowOf = stdRows.map some := fun es e => by subst e; decide +kernel
theorem hl_rows : ∀ d ∈ stdRows, d.2.2.length ≤ 1000 := by decide +kernel
theorem sz_atoms : fixedAtoms.length ≤ sizeLine := by rw [sizeLine_eq]; exact Nat.le_trans (show fixedAtoms.length ≤ 1000 by decide +kernel) (by omega)
theorem sz_funs : fixedFuns.length ≤ sizeLine := by rw [sizeLine_eq]; exact Nat.le_trans (show fixedFuns.length ≤ 1000 by decide +kernel) (by omega)
theorem sz_rows : stdRows.length ≤ sizeLine := by rw [sizeLine_eq]; exact Nat.le_trans (show stdRows.length ≤ 1000 by decide +kernel) (by omega)
section
variable {prog : Program} {w : World} {mean : ExcName → Option Value} {mg mb : Str → Option Value} {dp un : Nat} {gd : Option (List Code)} {cn : Str} {cs : Scope} {a : Addr} {ccd : Value} {cl : List (Str × Addr)} {outer : List Env} {A₀ : Around} {base h₀ : Heap} {L : Addr} {m : Str → Option Value} {s : Shared} {Q E : Value → Shared → Prop} {news : List (Addr × Obj)}
set_option maxHeartbeats 4000000 in
theorem fixed_atoms_0 (B : Below A₀ base outer h₀) (F : Fr h₀ L s.heap m) (X : (hd.heap_39 w.params).In h₀) (T : Top hd.view_39 (looseW hd.view_39 []) mean mg mb h₀) (hk : cs.kind = .function) (hd : dp + 2 < recursionLimit) (hu : un + 16 < cLine)
    (hret : ∀ x vs h' tk', (∀ c o, c ∉ ([] : List Addr) → s.heap.get? c = some o → h'.get? c = some o) → Fr h₀ L h' m → News h₀ L h' [(x, tupObj vs)] → All2 StrIs vs fixedAtoms → Q (.ref x) { s with heap := h', toks := tk' }) :
    wpAny (model prog w) (ktrTop dp un gd cn cs L a ccd cl outer) (call (.ref 28) []) Q E s := by
  k_with_none
  w_top off
  have N : News h₀ L s.heap [] := News.nil
  refine wpAny_call ?_
  k_dflt cell_enter
  iterate 3 walk1
  rename News _ _ _ _ => N1
  rename Fr _ _ _ _ => F1
  refine Tuple_ ?_
  k_dflt (refine' disp_strs _ _ ?hm _ _ ?h)
  case hm => exact hm_atoms _ rfl
  intro vs tk hv
  refine kup_newTuple F1 N1 (fun D h2 F2 N2 _ => ?_) (by rw [hv.length]; exact sz_atoms)
  k_steps
  exact hret _ _ _ _ (keep_but [] (by assumption) F2 N N2 fun p hp => nomatch hp) (by assumption) (by assumption) hv

set_option maxHeartbeats 4000000 in
theorem fixed_funs_0 (B : Below A₀ base outer h₀) (F : Fr h₀ L s.heap m) (X : (hd.heap_39 w.params).In h₀) (T : Top hd.view_39 (looseW hd.view_39 []) mean mg mb h₀) (hk : cs.kind = .function) (hd : dp + 2 < recursionLimit) (hu : un + 16 < cLine)
    (hret : ∀ x vs R h' tk', (∀ c o, c ∉ ([] : List Addr) → s.heap.get? c = some o → h'.get? c = some o) → Fr h₀ L h' m → News h₀ L h' ((x, tupObj vs) :: R) → (∀ p ∈ R, p.2.cls = .type "tuple") → All2 (FunIs R) vs fixedFuns → Q (.ref x) { s with heap := h', toks := tk' }) :
    wpAny (model prog w) (ktrTop dp un gd cn cs L a ccd cl outer) (call (.ref 35) []) Q E s := by
  have N : News h₀ L s.heap [] := News.nil
  refine wpAny_call ?_
  k_dflt cell_enter
  iterate 3 walk1
  rename News _ _ _ _ => N1
  rename Fr _ _ _ _ => F1
  refine Tuple_ ?_
  k_dflt (refine' disp_funs _ _ ?hm _ _ _ ?F ?N ?R ?h)
  case F => exact F1
  case N => exact N1
  case R => exact fun z hz => nomatch hz
  case hm => exact hm_funs _ rfl
  intro vs R h2 tk F2 N2 RT _ hv
  refine kup_newTuple F2 N2 (fun D h3 F3 N3 _ => ?_) (by rw [hv.length]; exact sz_funs)
  k_steps
  exact hret _ _ _ _ _ (keep_but [] (by assumption) F3 N N3 fun p hp => nomatch hp) (by assumption) (by assumption) RT hv

set_option maxHeartbeats 4000000 in
theorem std_rows_0 (B : Below A₀ base outer h₀) (F : Fr h₀ L s.heap m) (X : (hd.heap_39 w.params).In h₀) (T : Top hd.view_39 (looseW hd.view_39 []) mean mg mb h₀) (hk : cs.kind = .function) (hd : dp + 2 < recursionLimit) (hu : un + 16 < cLine)
    (hret : ∀ x vs R h' tk', (∀ c o, c ∉ ([] : List Addr) → s.heap.get? c = some o → h'.get? c = some o) → Fr h₀ L h' m → News h₀ L h' ((x, tupObj vs) :: R) → (∀ p ∈ R, p.2.cls = .type "tuple") → All2 (RowIs R) vs stdRows → Q (.ref x) { s with heap := h', toks := tk' }) :
    wpAny (model prog w) (ktrTop dp un gd cn cs L a ccd cl outer) (call (.ref 136) []) Q E s := by
  have N : News h₀ L s.heap [] := News.nil
  refine wpAny_call ?_
  k_dflt cell_enter
  iterate 3 walk1
  rename News _ _ _ _ => N1
  rename Fr _ _ _ _ => F1
  refine Tuple_ ?_
  k_dflt (refine' disp_rows _ _ ?hm ?hl _ _ _ ?F ?N ?R ?h)
  case F => exact F1
  case N => exact N1
  case R => exact fun z hz => nomatch hz
  case hm => exact hm_rows _ rfl
  case hl => exact hl_rows
  intro vs R h2 tk F2 N2 RT _ hv
  refine kup_newTuple F2 N2 (fun D h3 F3 N3 _ => ?_) (by rw [hv.length]; exact sz_rows)
  k_steps
  exact hret _ _ _ _ _ (keep_but [] (by assumption) F3 N N3 fun p hp => nomatch hp) (by assumption) (by assumption) RT hv
end
end

local macro_rules | `(tactic| ktr_units) => `(tactic| ((simp only [units_under_make, units_in1, units_deeper, Around.mark_units, units_caller]); (try dsimp only [ktrTop]); first | ((refine Nat.lt_of_le_of_lt ?_ (by assumption)); (simp only [Nat.add_assoc]) <;> exact Nat.add_le_add_left (by decide) _) | (have hcL9 := cLine_is; omega)))
section
theorem units_under_make {A : Around} {args : Args} : (A.under (.builtin "type.__call__" args)).units = A.units + 1 := rfl

def Stop (P : Prop) : Prop := P
theorem stop {P : Prop} (h : Stop P) : P := h
theorem Stop.go {P : Prop} (h : P) : Stop P := h

section
variable {prog : Program} {w : World} {mean : ExcName → Option Value} {mg mb : Str → Option Value} {dp un : Nat} {gd : Option (List Code)} {cn : Str} {cs : Scope} {a : Addr} {ccd : Value} {cl : List (Str × Addr)} {outer : List Env} {A₀ : Around} {base h₀ : Heap} {L : Addr} {m : Str → Option Value} {s : Shared} {Q E : Value → Shared → Prop} {news : List (Addr × Obj)}

theorem functor_c {b db n f fn t : Addr} {k1 k2 k3 k4 ta tb : Tok} {e1 n1 : Nat} {o : Obj} {atm ar : Int} {fs : Array Value} {R : List (Addr × Obj)} {xs : List (List Int × Addr × Value)} {g : Obj → List (Addr × Obj)} {g2 : Obj → Obj → List (Addr × Obj)}
    (B : Below A₀ base outer h₀) (F : Fr h₀ L s.heap m) (X : (hd.heap_39 w.params).In h₀) (T : Top hd.view_39 (looseW hd.view_39 []) mean mg mb h₀) (hk : cs.kind = .function) (hd : dp + 2 < recursionLimit) (hu : un + 16 < cLine)
    (N : News h₀ L s.heap news) (m1 : (b, instObj 122 db) ∈ news) (m2 : (db, dictOf (symEs w.params k1 k2 k3 k4 t n f fn) e1) ∈ news)
    (U : UpdF fn o news g) (V : ∀ o', UpdF f (PySem.W.listOf fs n1) (g o') (g2 o')) (d5 : @Ne Nat db fn) (lo : (fn == sysModules) = false)
    (hR : ∀ p ∈ R, p ∈ news) (RT : ∀ p ∈ R, p.2.cls = .type "tuple")
    (H : HTab (PySem.intKind prog w) R o xs) (hx : (atKey xs [atm, ar]).map (·.2) = none) (hz : fs.size ≤ 1000) (hz2 : xs.length ≤ 1000)
    (hret : ∀ kx h' tk' n1' o' tk, Fr h₀ L h' m → News h₀ L h' ((kx, tupObj [.int atm ta, .int ar tb]) :: g2 o' (PySem.W.listOf (fs.push (.ref kx)) n1')) →
       HTab (PySem.intKind prog w) ((kx, tupObj [.int atm ta, .int ar tb]) :: R) o' (storedH xs [atm, ar] kx (.int fs.size tk)) → Q (.int fs.size tk) { s with heap := h', toks := tk' }) :
    wpAny (model prog w) (ktrTop dp un gd cn cs L a ccd cl outer) (call (.ref 70) [.ref b, .int atm ta, .int ar tb]) Q E s := by
  have hc := H.cls
  have m3 := updF_at U
  have m4 : (f, PySem.W.listOf fs n1) ∈ news := by
    rcases updF_mem U (updF_at (V o)) with h | h
    · exact h.1
    · obtain ⟨e1, e2⟩ := Prod.mk.inj h
      rw [← e2] at hc; injection hc with hc; exact absurd hc (by decide)
  have d1 : b ≠ f := news_ne N m1 m4 (by intro h; cases h)
  have d2 : db ≠ f := news_ne N m2 m4 (by intro h; injection h with h; exact absurd h (by decide))
  have d3 : fn ≠ f := news_ne N m3 m4 (by dsimp only; rw [hc]; intro h; injection h with h; exact absurd h (by decide))
  have d4 : b ≠ fn := news_ne N m1 m3 (by dsimp only; rw [hc]; intro h; cases h)
  have OR : OwnOff R [fn, f] := fun p hp c hcm => by
    rcases List.mem_cons.mp hcm with rfl | hcm
    · exact news_ne N (hR p hp) m3 (by rw [RT p hp]; dsimp only; rw [hc]; intro h; injection h with h; exact absurd h (by decide))
    · rw [List.mem_singleton.mp hcm]
      exact news_ne N (hR p hp) m4 (by rw [RT p hp]; intro h; injection h with h; exact absurd h (by decide))
  have N3 : News h₀ L s.heap ((b, instObj 122 db) :: (db, dictOf (symEs w.params k1 k2 k3 k4 t n f fn) e1) :: (fn, o) :: (f, PySem.W.listOf fs n1) :: R) := news_sub N fun p hp => by
    simp only [List.mem_cons] at hp
    rcases hp with rfl | rfl | rfl | rfl | hp
    · exact m1
    · exact m2
    · exact m3
    · exact m4
    · exact hR p hp
  refine functor_0 B F X T hk hd hu N3 d1 d2 d3 d4 d5 OR lo H hx hz hz2 fun kx h' tk' n1' o' tk kp F' N' H' => ?_
  refine hret kx h' tk' n1' o' tk F' (fun p hp => ?_) H'
  rcases List.mem_cons.mp hp with rfl | hp
  · exact N' _ (.head _)
  · exact news_u2 N U V kp N' (.tail _ (.head _)) (.tail _ (.tail _ (.head _))) p hp

theorem turn_next {h₀ h' : Heap} {L : Addr} {own news' : List (Addr × Obj)} {J : (Str → Option Value) → List (Addr × Obj) → Prop} {it : String} {old : List Addr} {s₁ : Shared} {Q : Flow → Shared → Prop} {tk : Nat} {m' : Str → Option Value}
    (F : Fr h₀ L h' m') (hj : J m' news') (N : News h₀ L h' (news' ++ own)) (hc : ∀ p ∈ news', p.1 ∈ old ∨ p.2.cls ≠ .type it) : TurnPost h₀ L own J it old s₁ Q .next { s₁ with heap := h', toks := tk } := ⟨h', tk, m', news', rfl, F, N, hc, hj⟩
theorem ownOff_app {R S : List (Addr × Obj)} {adr : List Addr} (a : OwnOff R adr) (b : OwnOff S adr) : OwnOff (R ++ S) adr := fun p hp => (List.mem_append.mp hp).elim (a p) (b p)
theorem ownOff_sub {R : List (Addr × Obj)} {adr adr' : List Addr} (a : OwnOff R adr) (h : ∀ c ∈ adr', c ∈ adr) : OwnOff R adr' := fun p hp c hc => a p hp c (h c hc)
theorem news_more {h₀ h h' : Heap} {L : Addr} {l l' : List (Addr × Obj)} (N : News h₀ L h l) (k : ∀ c o, c ∉ ([] : List Addr) → h.get? c = some o → h'.get? c = some o) (N' : News h₀ L h' l') : News h₀ L h' (l' ++ l) :=
  fun p hp => (List.mem_append.mp hp).elim (N' p) fun q => ⟨k _ _ List.not_mem_nil (N p q).1, (N p q).2⟩

theorem atoms_take {prog : Program} {w : World} {o : Obj} {ts : Array Value} {xs : List Str} {i : Nat} {x : Str} (hx : xs[i]? = some x) (hn : xs.Nodup) (A : Atoms prog w o ts (atomAdd (xs.take i) x)) : Atoms prog w o ts (xs.take (i + 1)) := by
  have : x ∉ xs.take i := fun hm => by
    obtain ⟨j, hj⟩ := List.mem_iff_getElem?.mp hm
    have hji : j < i := by
      have := (List.getElem?_eq_some_iff.mp hj).1
      simp at this; omega
    rw [List.getElem?_take_of_lt hji] at hj
    have := (List.getElem?_inj (List.getElem?_eq_some_iff.mp hj).1 hn).mp (hj.trans hx.symm)
    omega
  rw [atomAdd, if_neg this] at A
  rw [List.take_add_one, hx]
  exact A

set_option maxHeartbeats 8000000 in
theorem symbols_new (B : Below A₀ base outer h₀) (F : Fr h₀ L s.heap m) (X : (hd.heap_39 w.params).In h₀) (T : Top hd.view_39 (looseW hd.view_39 []) mean mg mb h₀) (hk : cs.kind = .function) (hd : dp + 20 < recursionLimit) (hu : un + 100 < cLine)
   (N : News h₀ L s.heap news)
   (hret : ∀ b db t n f fn h' tk' k1 k2 k3 k4 e1 n1 o ts, Fr h₀ L h' m → News h₀ L h' ((b, instObj 122 db) :: (db, dictOf (symEs w.params k1 k2 k3 k4 t n f fn) e1) :: (t, PySem.W.listOf ts n1) :: (n, o) :: news) →
      Atoms prog w o ts fixedAtoms → (n == sysModules) = false → (∀ p ∈ news, p.1 < db) → db < b → b < t → t < n → Q (.ref b) { s with heap := h', toks := tk' }) :
   wpAny (model prog w) (ktrTop dp un gd cn cs L a ccd cl outer) (call (.ref 122) []) Q E s := by
  k_with_none
  w_top off
  k_with "exec For Name Call cons nil" => (k_here; k_dflt (refine' For_turns ?w9FZ ?_; (case w9FZ => k_asm)))
  k_with "pyIter ref" => (refine stop ?_)
  k_with "call ref" => (k_here; (with_reducible show wpAny _ _ (call (Value.ref 28) _) _ _ _); refine stop ?_)
  k_with "call ref" => (k_here; (with_reducible show wpAny _ _ (call (Value.ref 35) _) _ _ _); refine stop ?_)
  k_with "eval Name" => (k_here; k_dflt (refine' ld ?w9k1Z ?w9k2Z ?_; (case w9k1Z => k_asm); (case w9k2Z => first | exact rfl | ((repeat (refine (if_neg (by decide +kernel)).trans ?_)); first | exact rfl | assumption)); k_whole))
  k_with "call ref" => (k_here; (with_reducible show wpAny _ _ (call (Value.ref 56) _) _ _ _); k_dflt (refine' atom_c ?w9k1Z ?w9k2Z ?w9k3Z ?w9k4Z ?w9k5Z ?w9k6Z ?w9k7Z ?w9NZ ?w9m1Z ?w9m2Z ?w9UZ ?w9VZ ?w9d5Z ?w9loZ ?w9AZ ?w9hzZ ?_; (case w9k1Z => k_asm); (case w9k2Z => k_asm); (case w9k3Z => k_asm); (case w9k4Z => k_asm); (case w9k5Z => exact rfl); (case w9k6Z => ktr_room); (case w9k7Z => ktr_units); (case w9NZ => k_asm); (case w9m1Z => k_mem); (case w9m2Z => k_mem); (case w9UZ => k_updF); (case w9VZ => (intro qo9Z; k_updF)); (case w9d5Z => k_ne); (case w9loZ => k_asm); (case w9AZ => k_asm); (case w9hzZ => assumption); k_whole); intro qhZ qtkZ qoZ qtsZ qn1Z qtkZ qFZ qNZ qAZ; (try dsimp only at qNZ); (try k_sweep))
  k_with "call ref" => (k_here; (with_reducible show wpAny _ _ (call (Value.ref 77) _) _ _ _); refine wpAny_call ?_; k_dflt cell_enter)
  k_with "call ref" => (k_here; (with_reducible show wpAny _ _ (call (Value.ref 70) _) _ _ _); k_dflt (refine' functor_c ?w9k1Z ?w9k2Z ?w9k3Z ?w9k4Z ?w9k5Z ?w9k6Z ?w9k7Z ?w9NZ ?w9m1Z ?w9m2Z ?w9UZ ?w9VZ ?w9d5Z ?w9loZ ?w9hRZ ?w9RTZ ?w9HZ ?w9hxZ ?w9hzZ ?w9hz2Z ?_; (case w9k1Z => k_asm); (case w9k2Z => k_asm); (case w9k3Z => k_asm); (case w9k4Z => k_asm); (case w9k5Z => exact rfl); (case w9k6Z => ktr_room); (case w9k7Z => ktr_units); (case w9NZ => k_asm); (case w9m1Z => k_mem); (case w9m2Z => k_mem); (case w9UZ => k_updF); (case w9VZ => (intro qo9Z; k_updF)); (case w9d5Z => k_ne); (case w9loZ => k_asm); (case w9HZ => k_asm); (case w9hRZ => (intro qp9Z qhp9Z; (repeat (refine List.Mem.tail _ ?_)); first | exact qhp9Z | (rename (∀ p ∈ _, p ∈ _) => hs9; exact hs9 _ qhp9Z))); (case w9RTZ => assumption); (case w9hxZ => assumption); (case w9hzZ => assumption); (case w9hz2Z => assumption); k_whole); intro qkxZ qhZ qtkZ qn1Z qoZ qtkZ qFZ qNZ qHZ; (try dsimp only at qNZ); (try k_sweep))
  k_dflt (refine' call_cls ?k1 ?k2 ?k3 ?k4 ?k5 ?k6 ?_; (case k1 => k_asm); (case k2 => k_asm); (case k3 => k_asm); (case k4 => k_is); (case k5 => k_is); (case k6 => k_is); k_whole; intro b db h₁ F₁ N₁ l1 l2)
  have OO : OwnOff news [b, db] := fun p hp c hc => by
    rcases List.mem_cons.mp hc with rfl | hc
    · exact Nat.ne_of_lt (Nat.lt_trans (l1 p hp) l2)
    · rw [List.mem_singleton.mp hc]; exact Nat.ne_of_lt (l1 p hp)
  k_lt2 l2
  k_dflt cell_enter
  k_steps
  refine Stop.go ?_
  rename News _ _ _ _ => N1
  k_dflt (refine' fixed_atoms_0 ?k1 ?k2 ?k3 ?k4 ?k5 ?k6 ?k7 ?_; (case k1 => k_asm); (case k2 => k_asm); (case k3 => k_asm); (case k4 => k_asm); (case k5 => exact rfl); (case k6 => ktr_room); (case k7 => ktr_units); k_whole)
  intro x vs h2 tk2 kp F2 N2 hA
  have N3 := news_more N1 kp N2
  simp only [List.cons_append, List.nil_append] at N3
  obtain ⟨m₀, hself, F3⟩ : ∃ m₀ : Str → Option Value, m₀ (Str.ofString "self") = some (.ref b) ∧ Fr _ _ h2 m₀ := ⟨_, rfl, F2⟩
  obtain ⟨t, n, f, fn, on, ofn, k1, k2, k3, k4, e1, N4, lon, hsn, lofn, hifn, q1, q2, q3, q4⟩ : ∃ t n f fn on ofn k1 k2 k3 k4 e1, News _ _ h2 ((x, tupObj vs) :: (fn, ofn) :: (f, PySem.W.listOf #[] 0) :: (n, on) :: (t, PySem.W.listOf #[] 0) :: (b, instObj 122 db) :: (db, dictOf (symEs w.params k1 k2 k3 k4 t n f fn) e1) :: news) ∧
      (n == sysModules) = false ∧ on.IsDictOf (PySem.strKind prog w) [] ∧ (fn == sysModules) = false ∧ ofn.IsDictOf (PySem.intKind prog w) [] ∧ @LT.lt Nat _ b t ∧ @LT.lt Nat _ t n ∧ @LT.lt Nat _ n f ∧ @LT.lt Nat _ f fn := ⟨_, _, _, _, _, _, _, _, _, _, _, N3, by assumption, by assumption, by assumption, by assumption, by omega, by omega, by omega, by omega⟩
  clear N1 N2 N3 F2 kp
  have ON : OwnOff news [n, t, fn, f] := fun p hp c hc => by
    have : @LT.lt Nat _ p.1 db := l1 p hp
    simp only [List.mem_cons, List.not_mem_nil, or_false] at hc
    rcases hc with rfl | rfl | rfl | rfl <;> exact neN (by omega)
  have hnd : fixedAtoms.Nodup := by decide +kernel
  have hlen : fixedAtoms.length = 29 := by decide +kernel
  have hx1 : @Ne Nat n x := news_ne N4 (.tail _ (.tail _ (.tail _ (.head _)))) (.head _) (by dsimp only; rw [isDict_cls hsn]; intro h; injection h with h; exact absurd h (by decide))
  have hx2 : @Ne Nat t x := news_ne N4 (.tail _ (.tail _ (.tail _ (.tail _ (.head _))))) (.head _) (by intro h; injection h with h; exact absurd h (by decide))
  refine turns_tuple (vs := vs) (adr := [n, t]) (news₀ := (fn, ofn) :: (f, PySem.W.listOf #[] 0) :: (n, on) :: (t, PySem.W.listOf #[] 0) :: (b, instObj 122 db) :: (db, dictOf (symEs w.params k1 k2 k3 k4 t n f fn) e1) :: news)
    (fun i m nw => ∃ o ts n1, nw = (fn, ofn) :: (f, PySem.W.listOf #[] 0) :: (n, o) :: (t, PySem.W.listOf ts n1) :: (b, instObj 122 db) :: (db, dictOf (symEs w.params k1 k2 k3 k4 t n f fn) e1) :: news ∧ Atoms prog w o ts (fixedAtoms.take i) ∧ m (Str.ofString "self") = some (.ref b))
    rfl F3 (news_sub N4 fun p hp => .tail _ hp) ⟨_, (N4 _ (.head _)).1, rfl, 0, rfl⟩ (N4 _ (.head _)).2.1 ?_ ⟨on, #[], 0, rfl, ⟨[], hsn, rfl, (fun i k v h => by simp at h), rfl⟩, hself⟩ ?_ ?_
  · intro c hc
    simp only [List.mem_cons, List.not_mem_nil, or_false] at hc
    rcases hc with rfl | rfl
    · exact ⟨hx1, _, .tail _ (.tail _ (.head _))⟩
    · exact ⟨hx2, _, .tail _ (.tail _ (.tail _ (.head _)))⟩
  · intro i v m₁ nw h tk own hv hP9 hown F5 N5
    obtain ⟨o, ts, n1, e, hAt, hself₁⟩ := hP9
    obtain ⟨y, hy, ty, rfl⟩ := hA.get hv
    subst e
    have hz : (fixedAtoms.take i).length ≤ 900 := by rw [List.length_take]; omega
    have OR : OwnOff (news ++ own) [n, t] := ownOff_app (ownOff_sub ON (by walk_at "my sub")) hown
    simp only [List.cons_append] at N5
    generalize hR : news ++ own = R at N5 OR
    k_steps
    rename News _ _ _ _ => N6
    subst hR
    refine turn_next (by assumption) ⟨_, _, _, rfl, atoms_take hy hnd (by assumption), ?_⟩ N6 fun p hp => .inl (List.mem_map_of_mem (f := (·.1)) hp)
    exact (if_neg (by decide +kernel)).trans hself₁
  · intro m₁ nw h tk hP9 F5 N5
    obtain ⟨o, ts, n1, e, hAt, hself₁⟩ := hP9
    subst e
    rw [hA.length, List.take_length] at hAt
    k_steps
    refine Stop.go ?_
    k_dflt (refine' fixed_funs_0 ?k1 ?k2 ?k3 ?k4 ?k5 ?k6 ?k7 ?_; (case k1 => k_asm); (case k2 => k_asm); (case k3 => k_asm); (case k4 => k_asm); (case k5 => exact rfl); (case k6 => ktr_room); (case k7 => ktr_units); k_whole)
    intro x2 vs2 R2 h3 tk3 kp F6 N6 RT hFu
    have N7 := news_more N5 kp N6
    clear N6 kp
    k_steps
    refine Stop.go ?_
    have hx3 : ∀ c oc, (c, oc) ∈ (fn, ofn) :: (f, PySem.W.listOf #[] 0) :: (n, o) :: (t, PySem.W.listOf ts n1) :: (b, instObj 122 db) :: (db, dictOf (symEs w.params k1 k2 k3 k4 t n f fn) e1) :: news → oc.cls ≠ .type "tuple" → @Ne Nat c x2 := fun c oc hm hc => news_ne N7 (p := (c, oc)) (List.mem_append_right _ hm) (List.mem_append_left _ (.head _)) hc
    refine turns_tuple (vs := vs2) (adr := [fn, f, n, t]) (news₀ := (fn, ofn) :: (f, PySem.W.listOf #[] 0) :: (n, o) :: (t, PySem.W.listOf ts n1) :: (b, instObj 122 db) :: (db, dictOf (symEs w.params k1 k2 k3 k4 t n f fn) e1) :: (R2 ++ news))
      (fun i m nw => ∃ o ts n1 ofn fs nf R xs, nw = (fn, ofn) :: (f, PySem.W.listOf fs nf) :: (n, o) :: (t, PySem.W.listOf ts n1) :: (b, instObj 122 db) :: (db, dictOf (symEs w.params k1 k2 k3 k4 t n f fn) e1) :: (R ++ (R2 ++ news)) ∧ Atoms prog w o ts fixedAtoms ∧
        HTab (PySem.intKind prog w) R ofn xs ∧ (∀ p ∈ R, p.2.cls = .type "tuple") ∧ fs.size = i ∧ xs.map (·.1) = (fixedFuns.take i).map (fun d => [((fixedAtoms.idxOf d.1 : Nat) : Int), d.2]) ∧ m (Str.ofString "self") = some (.ref b))
      rfl F6 (news_sub N7 fun p hp => ?_) ⟨_, (N7 _ (List.mem_append_left _ (.head _))).1, rfl, 0, rfl⟩ (N7 _ (List.mem_append_left _ (.head _))).2.1 ?_ ⟨o, ts, n1, ofn, #[], 0, [], [], rfl, hAt, HTab.empty hifn, (fun p hp => nomatch hp), rfl, rfl, hself₁⟩ ?_ ?_
    · revert p hp; walk_at "my sub"
    · intro c hc
      simp only [List.mem_cons, List.not_mem_nil, or_false] at hc
      have cd : ∀ {o : Obj}, o.cls = .type "dict" → o.cls ≠ .type "tuple" := fun e h => by rw [e] at h; injection h with h; exact absurd h (by decide)
      have cl' : ∀ {a n}, (PySem.W.listOf a n).cls ≠ .type "tuple" := fun h => by injection h with h; exact absurd h (by decide)
      rcases hc with rfl | rfl | rfl | rfl
      · exact ⟨hx3 _ ofn (by walk_at "my in") (cd (isDict_cls hifn)), _, .head _⟩
      · exact ⟨hx3 _ _ (.tail _ (.head _)) cl', _, .tail _ (.head _)⟩
      · obtain ⟨kvs, hdo, _⟩ := hAt
        exact ⟨hx3 _ o (by walk_at "my in") (cd (isDict_cls hdo)), _, .tail _ (.tail _ (.head _))⟩
      · exact ⟨hx3 _ _ (.tail _ (.tail _ (.tail _ (.head _)))) cl', _, .tail _ (.tail _ (.tail _ (.head _)))⟩
    · clear hx3 N7 N5 N4 F5 F3
      intro i v m₁ nw h tk own hv hP9 hown F8 N8
      obtain ⟨o, ts, n1, ofn, fs, nf, R, xs, e, hAt, HT, RT', hfs, hxs, hself₁⟩ := hP9
      obtain ⟨d, hd, y, t1, t2, rfl, hmem⟩ := hFu.get hv
      subst e
      have hlF : fixedFuns.length = 32 := by decide +kernel
      have hi32 : i < 32 := by rw [← hlF]; exact (List.getElem?_eq_some_iff.mp hd).1
      have hfs' : fs.size ≤ 1000 := by omega
      have hxl : xs.length ≤ 1000 := by
        have := congrArg List.length hxs
        simp only [List.length_map, List.length_take] at this
        omega
      have hin : d.1 ∈ fixedAtoms := (by decide +kernel : ∀ d ∈ fixedFuns, d.1 ∈ fixedAtoms) d (List.mem_of_getElem? hd)
      have hz9 : fixedAtoms.length ≤ 900 := by omega
      have hx9 : (atKey xs [((fixedAtoms.idxOf d.1 : Nat) : Int), d.2]).map (·.2) = none := by
        rw [atKey_none_of_get]
        · rfl
        · intro j p hj
          have h1 : (xs.map (·.1))[j]? = some [((fixedAtoms.idxOf d.1 : Nat) : Int), d.2] := by rw [List.getElem?_map, hj]; rfl
          rw [hxs, List.map_take] at h1
          have hji : j < i := by
            have := (List.getElem?_eq_some_iff.mp h1).1
            simp at this; omega
          rw [List.getElem?_take_of_lt hji] at h1
          have h2 : (fixedFuns.map (fun d => [((fixedAtoms.idxOf d.1 : Nat) : Int), d.2]))[i]? = some [((fixedAtoms.idxOf d.1 : Nat) : Int), d.2] := by rw [List.getElem?_map, hd]; rfl
          have := (List.getElem?_inj (List.getElem?_eq_some_iff.mp h1).1 (by decide +kernel)).mp (h1.trans h2.symm)
          omega
      have hoc : ∃ kvs, o.IsDictOf (PySem.strKind prog w) kvs := let ⟨kvs, h, _⟩ := hAt; ⟨kvs, h⟩
      have cd : ∀ {o : Obj}, o.cls = .type "dict" → Value.type "tuple" ≠ o.cls := fun e h => by rw [e] at h; injection h with h; exact absurd h (by decide)
      have cl' : ∀ {a n}, Value.type "tuple" ≠ (PySem.W.listOf a n).cls := fun h => by injection h with h; exact absurd h (by decide)
      have mfn : (fn, ofn) ∈ ((fn, ofn) :: (f, PySem.W.listOf fs nf) :: (n, o) :: (t, PySem.W.listOf ts n1) :: (b, instObj 122 db) :: (db, dictOf (symEs w.params k1 k2 k3 k4 t n f fn) e1) :: (R ++ (R2 ++ news))) ++ own := .head _
      have mf : (f, PySem.W.listOf fs nf) ∈ ((fn, ofn) :: (f, PySem.W.listOf fs nf) :: (n, o) :: (t, PySem.W.listOf ts n1) :: (b, instObj 122 db) :: (db, dictOf (symEs w.params k1 k2 k3 k4 t n f fn) e1) :: (R ++ (R2 ++ news))) ++ own := .tail _ (.head _)
      have mn : (n, o) ∈ ((fn, ofn) :: (f, PySem.W.listOf fs nf) :: (n, o) :: (t, PySem.W.listOf ts n1) :: (b, instObj 122 db) :: (db, dictOf (symEs w.params k1 k2 k3 k4 t n f fn) e1) :: (R ++ (R2 ++ news))) ++ own := .tail _ (.tail _ (.head _))
      have mt : (t, PySem.W.listOf ts n1) ∈ ((fn, ofn) :: (f, PySem.W.listOf fs nf) :: (n, o) :: (t, PySem.W.listOf ts n1) :: (b, instObj 122 db) :: (db, dictOf (symEs w.params k1 k2 k3 k4 t n f fn) e1) :: (R ++ (R2 ++ news))) ++ own := .tail _ (.tail _ (.tail _ (.head _)))
      have off : ∀ p, p ∈ ((fn, ofn) :: (f, PySem.W.listOf fs nf) :: (n, o) :: (t, PySem.W.listOf ts n1) :: (b, instObj 122 db) :: (db, dictOf (symEs w.params k1 k2 k3 k4 t n f fn) e1) :: (R ++ (R2 ++ news))) ++ own → p.2.cls = .type "tuple" → p.1 ≠ fn ∧ p.1 ≠ f ∧ p.1 ≠ n ∧ p.1 ≠ t := fun p hp hc =>
        ⟨news_ne N8 hp mfn (by rw [hc]; exact cd HT.cls), news_ne N8 hp mf (by rw [hc]; exact cl'), news_ne N8 hp mn (by rw [hc]; exact let ⟨_, h⟩ := hoc; cd (isDict_cls h)), news_ne N8 hp mt (by rw [hc]; exact cl')⟩
      have offR : ∀ R' : List (Addr × Obj), (∀ p ∈ R', p.2.cls = .type "tuple") → (∀ p ∈ R', p ∈ ((fn, ofn) :: (f, PySem.W.listOf fs nf) :: (n, o) :: (t, PySem.W.listOf ts n1) :: (b, instObj 122 db) :: (db, dictOf (symEs w.params k1 k2 k3 k4 t n f fn) e1) :: (R ++ (R2 ++ news))) ++ own) → OwnOff R' [fn, f, n, t] := fun R' hc hm p hp c hcm => by
        obtain ⟨a1, a2, a3, a4⟩ := off p (hm p hp) (hc p hp)
        simp only [List.mem_cons, List.not_mem_nil, or_false] at hcm
        rcases hcm with rfl | rfl | rfl | rfl <;> assumption
      have OS : OwnOff (R ++ (R2 ++ news) ++ own) [fn, f, n, t] := ownOff_app (ownOff_app (offR R RT' fun p hp => List.mem_append_left _ (by walk_at "my in")) (ownOff_app (offR R2 RT fun p hp => List.mem_append_left _ (by walk_at "my in")) (ownOff_sub ON (by walk_at "my sub")))) hown
      have hy := off (y, tupObj [.str d.1 t1, .int d.2 t2]) (List.mem_append_left _ (by walk_at "my in")) rfl
      have hy1 : @Ne Nat y fn := hy.1
      have hy2 : @Ne Nat y f := hy.2.1
      have hy3 : @Ne Nat y n := hy.2.2.1
      have hy4 : @Ne Nat y t := hy.2.2.2
      have N9 : News _ _ h ((y, tupObj [.str d.1 t1, .int d.2 t2]) :: (fn, ofn) :: (f, PySem.W.listOf fs nf) :: (n, o) :: (t, PySem.W.listOf ts n1) :: (b, instObj 122 db) :: (db, dictOf (symEs w.params k1 k2 k3 k4 t n f fn) e1) :: (R ++ (R2 ++ news) ++ own)) := news_sub N8 fun p hp => by
        rcases List.mem_cons.mp hp with rfl | hp
        · exact List.mem_append_left _ (by walk_at "my in")
        · exact hp
      have hRS : ∀ p ∈ R, p ∈ R ++ (R2 ++ news) ++ own := fun p hp => List.mem_append_left _ (List.mem_append_left _ hp)
      clear off offR mfn mf mn mt hy N8 hmem
      generalize hS : R ++ (R2 ++ news) ++ own = S at N9 OS hRS
      k_steps
      rename HTab _ _ _ _ => H9
      rename Atoms _ _ _ _ _ => A9
      rename News _ _ _ _ => N10
      rename Fr _ _ _ _ => F10
      subst hS
      rw [atomAdd, if_pos hin] at A9
      obtain ⟨kx, tkx, ofn', o', ts', n1', nf', tv, N10, H9, A9⟩ : ∃ kx tkx ofn' o' ts' n1' nf' tv, News _ _ _ ((kx, tupObj [.int ((fixedAtoms.idxOf d.1 : Nat) : Int) tkx, .int d.2 t2]) :: (y, tupObj [.str d.1 t1, .int d.2 t2]) :: (fn, ofn') :: (f, PySem.W.listOf (fs.push (.ref kx)) nf') :: (n, o') :: (t, PySem.W.listOf ts' n1') :: (b, instObj 122 db) :: (db, dictOf (symEs w.params k1 k2 k3 k4 t n f fn) e1) :: (R ++ (R2 ++ news) ++ own)) ∧
          HTab (PySem.intKind prog w) ((kx, tupObj [.int ((fixedAtoms.idxOf d.1 : Nat) : Int) tkx, .int d.2 t2]) :: R) ofn' (storedH xs [((fixedAtoms.idxOf d.1 : Nat) : Int), d.2] kx (.int fs.size tv)) ∧ Atoms prog w o' ts' fixedAtoms := ⟨_, _, _, _, _, _, _, _, N10, H9, A9⟩
      refine turn_next F10 ⟨o', ts', n1', ofn', fs.push (.ref kx), nf', (kx, tupObj [.int ((fixedAtoms.idxOf d.1 : Nat) : Int) tkx, .int d.2 t2]) :: R, _, rfl, A9, H9, ?_, ?_, ?_, ?_⟩ (news_sub N10 fun p hp => ?_) fun p hp => ?_
      · exact fun p hp => (List.mem_cons.mp hp).elim (fun e => by rw [e]) (RT' p)
      · rw [Array.size_push, hfs]
      · have hno : atKey xs [((fixedAtoms.idxOf d.1 : Nat) : Int), d.2] = none := by
          cases q : atKey xs [((fixedAtoms.idxOf d.1 : Nat) : Int), d.2] with
          | none => rfl
          | some z => rw [q] at hx9; cases hx9
        rw [storedH_new hno, List.map_append, hxs, List.take_add_one, hd]
        simp
      · exact (if_neg (by decide +kernel)).trans hself₁
      · revert p hp; walk_at "my sub"
      · revert p hp; walk_at "my adr"
    · clear hx3 N7 N5 N4 F5 F3
      intro m₁ nw h tk hP9 F8 N8
      obtain ⟨o, ts, n1, ofn, fs, nf, R, xs, e, hAt, HT, RT', hfs, hxs, hself₁⟩ := hP9
      subst e
      k_steps
      rename News _ _ _ _ => N9
      rename Fr _ _ _ _ => F9
      exact hret b db t n f fn _ _ k1 k2 k3 k4 e1 n1 o ts F9 (news_sub N9 fun p hp => by
        revert p hp; walk_at "my sub") hAt lon l1 l2 q1 q2
end
end

section
/-! ## the operators' types and kinds -/
abbrev Ty := Fin 7
abbrev Kd := Fin 3
def tyStr : Ty → Str
  | 0 => Str.ofString "fx"
  | 1 => Str.ofString "fy"
  | 2 => Str.ofString "xfx"
  | 3 => Str.ofString "xfy"
  | 4 => Str.ofString "yfx"
  | 5 => Str.ofString "xf"
  | 6 => Str.ofString "yf"
def kd : Ty → Kd
  | 0 => 0
  | 1 => 0
  | 2 => 1
  | 3 => 1
  | 4 => 1
  | 5 => 2
  | 6 => 2
def kdStr : Kd → Str
  | 0 => Str.ofString "prefix"
  | 1 => Str.ofString "infix"
  | 2 => Str.ofString "postfix"
def sel (k : Kd) (p i q : Addr) : Addr := match k with
  | 0 => p
  | 1 => i
  | 2 => q
def lowOf (pr : Int) : Ty → Int
  | 0 => 0
  | 1 => 0
  | 2 => pr - 1
  | 3 => pr - 1
  | 4 => pr
  | 5 => pr - 1
  | 6 => pr
def highOf (pr : Int) : Ty → Int
  | 0 => pr - 1
  | 1 => pr
  | 2 => pr - 1
  | 3 => pr
  | 4 => pr - 1
  | 5 => 0
  | 6 => 0
theorem ty_cases (t : Ty) : t = 0 ∨ t = 1 ∨ t = 2 ∨ t = 3 ∨ t = 4 ∨ t = 5 ∨ t = 6 := by revert t; decide

abbrev tabEs (P : Params) (k1 k2 k3 k4 : Tok) (b p i q : Addr) : List DictEntry :=
  [⟨PyData.keyHash P (Str.ofString "symbols"), .str (Str.ofString "symbols") k1, .ref b⟩,
   ⟨PyData.keyHash P (Str.ofString "prefixes"), .str (Str.ofString "prefixes") k2, .ref p⟩,
   ⟨PyData.keyHash P (Str.ofString "infixes"), .str (Str.ofString "infixes") k3, .ref i⟩,
   ⟨PyData.keyHash P (Str.ofString "postfixes"), .str (Str.ofString "postfixes") k4, .ref q⟩]

section
variable {prog : Program} {w : World} {mean : ExcName → Option Value} {mg mb : Str → Option Value} {dp un : Nat} {gd : Option (List Code)} {cn : Str} {cs : Scope} {a : Addr} {ccd : Value} {cl : List (Str × Addr)} {outer : List Env} {A₀ : Around} {base h₀ : Heap} {L : Addr} {m : Str → Option Value} {s : Shared} {Q E : Value → Shared → Prop} {news : List (Addr × Obj)}

theorem in_K {K : Frag} {t : Addr} {items : List Value} {ys : List Str} {x : Str} {u : Tok} {r : Bool} {A : Around} {Q : Value → Shared → Prop} (X : K.In h₀) (F : Fr h₀ L s.heap m) (e : K.lookup t = some { cls := .type "tuple", data := .seq items.toArray }) (hi : StrsAre items ys) (hb : ys.any (· == x) = r)
    (h : Q (.bool r) s) : wpAny (model prog w) A (compareOp .In (.str x u) (.ref t)) Q E s :=
  in_tuple_strs (items := items.toArray) ⟨_, X.keeps F.keep _ _ e, rfl, 0, rfl⟩ hi (by rw [hb]; exact h)

set_option maxHeartbeats 8000000 in
theorem fixity_0 {t : Ty} {tt : Tok} (B : Below A₀ base outer h₀) (F : Fr h₀ L s.heap m) (X : (hd.heap_39 w.params).In h₀) (T : Top hd.view_39 (looseW hd.view_39 []) mean mg mb h₀) (hk : cs.kind = .function) (hd : dp + 2 < recursionLimit) (hu : un + 16 < cLine)
    (hret : ∀ h' tk' tk, (∀ c o, c ∉ ([] : List Addr) → s.heap.get? c = some o → h'.get? c = some o) → Fr h₀ L h' m → Q (.str (kdStr (kd t)) tk) { s with heap := h', toks := tk' }) :
    wpAny (model prog w) (ktrTop dp un gd cn cs L a ccd cl outer) (call (.ref 143) [.str (tyStr t) tt]) Q E s := by
  k_with_none
  w_top off
  k_with "compareOp In str ref" => (k_here; k_dflt (first
  | (refine' in_K (r := true) ?w9XZ ?w9FZ ?w9eZ ?w9iZ ?w9bZ ?_; (case w9XZ => k_asm); (case w9FZ => k_asm); (case w9eZ => k_is); (case w9iZ => repeat (first | exact StrsAre.nil | apply StrsAre.cons)); (case w9bZ => decide +kernel))
  | (refine' in_K (r := false) ?w9XZ ?w9FZ ?w9eZ ?w9iZ ?w9bZ ?_; (case w9XZ => k_asm); (case w9FZ => k_asm); (case w9eZ => k_is); (case w9iZ => repeat (first | exact StrsAre.nil | apply StrsAre.cons)); (case w9bZ => decide +kernel))))
  have N : News h₀ L s.heap [] := News.nil
  rcases ty_cases t with rfl | rfl | rfl | rfl | rfl | rfl | rfl
  all_goals
    refine wpAny_call ?_
    k_dflt cell_enter
    dsimp only [tyStr, kd, kdStr] at *
    k_steps
    all_goals exact hret _ _ _ (keep_but [] (by assumption) (by assumption) N (by assumption) fun p hp => nomatch hp) (by assumption)

theorem news_same {h' : Heap} {h : Heap} (N : News h₀ L h news) (k : ∀ c o, c ∉ ([] : List Addr) → h.get? c = some o → h'.get? c = some o) : News h₀ L h' news := fun p q => ⟨k _ _ List.not_mem_nil (N p q).1, (N p q).2⟩
theorem fixity_c {t : Ty} {tt : Tok} (B : Below A₀ base outer h₀) (F : Fr h₀ L s.heap m) (X : (hd.heap_39 w.params).In h₀) (T : Top hd.view_39 (looseW hd.view_39 []) mean mg mb h₀) (hk : cs.kind = .function) (hd : dp + 2 < recursionLimit) (hu : un + 16 < cLine)
    (N : News h₀ L s.heap news)
    (hret : ∀ h' tk' tk, Fr h₀ L h' m → News h₀ L h' news → Q (.str (kdStr (kd t)) tk) { s with heap := h', toks := tk' }) :
    wpAny (model prog w) (ktrTop dp un gd cn cs L a ccd cl outer) (call (.ref 143) [.str (tyStr t) tt]) Q E s :=
  fixity_0 B F X T hk hd hu fun h' tk' tk kp F' => hret h' tk' tk F' (news_same N kp)

set_option maxHeartbeats 8000000 in
theorem table_of_0 {t : Ty} {tt : Tok} {tb dt b p i q : Addr} {k1 k2 k3 k4 : Tok} {e : Nat} (B : Below A₀ base outer h₀) (F : Fr h₀ L s.heap m) (X : (hd.heap_39 w.params).In h₀) (T : Top hd.view_39 (looseW hd.view_39 []) mean mg mb h₀) (hk : cs.kind = .function) (hd : dp + 4 < recursionLimit) (hu : un + 32 < cLine)
    (N : News h₀ L s.heap [(tb, instObj 217 dt), (dt, dictOf (tabEs w.params k1 k2 k3 k4 b p i q) e)])
    (hret : ∀ h' tk', (∀ c o, c ∉ ([] : List Addr) → s.heap.get? c = some o → h'.get? c = some o) → Fr h₀ L h' m → Q (.ref (sel (kd t) p i q)) { s with heap := h', toks := tk' }) :
    wpAny (model prog w) (ktrTop dp un gd cn cs L a ccd cl outer) (call (.ref 200) [.ref tb, .str (tyStr t) tt]) Q E s := by
  k_with "call ref" => (k_here; (with_reducible show wpAny _ _ (call (Value.ref 143) _) _ _ _); k_dflt (refine' fixity_c ?w9k1Z ?w9k2Z ?w9k3Z ?w9k4Z ?w9k5Z ?w9k6Z ?w9k7Z ?w9NZ ?_; (case w9k1Z => k_asm); (case w9k2Z => k_asm); (case w9k3Z => k_asm); (case w9k4Z => k_asm); (case w9k5Z => exact rfl); (case w9k6Z => ktr_room); (case w9k7Z => ktr_units); (case w9NZ => k_asm); k_whole); intro qhZ qtkZ qtkZ qFZ qNZ; (try dsimp only [kd, kdStr]); (try k_sweep))
  rcases ty_cases t with rfl | rfl | rfl | rfl | rfl | rfl | rfl
  all_goals
    refine wpAny_call ?_
    k_dflt cell_enter
    dsimp only [kd, sel] at hret
    k_steps
    all_goals exact hret _ _ (keep_but [] (by assumption) (by assumption) N (by assumption) fun p hp => .inr hp) (by assumption)

set_option maxHeartbeats 8000000 in
theorem bounds_0 {t : Ty} {tt tp : Tok} {pr : Int} (B : Below A₀ base outer h₀) (F : Fr h₀ L s.heap m) (X : (hd.heap_39 w.params).In h₀) (T : Top hd.view_39 (looseW hd.view_39 []) mean mg mb h₀) (hk : cs.kind = .function) (hd : dp + 2 < recursionLimit) (hu : un + 16 < cLine)
    (N : News h₀ L s.heap news)
    (hret : ∀ x h' tk' t1 t2, Fr h₀ L h' m → News h₀ L h' ((x, tupObj [.int (lowOf pr t) t1, .int (highOf pr t) t2]) :: news) → Q (.ref x) { s with heap := h', toks := tk' }) :
    wpAny (model prog w) (ktrTop dp un gd cn cs L a ccd cl outer) (call (.ref 150) [.int pr tp, .str (tyStr t) tt]) Q E s := by
  rcases ty_cases t with rfl | rfl | rfl | rfl | rfl | rfl | rfl
  all_goals
    refine wpAny_call ?_
    k_dflt cell_enter
    dsimp only [tyStr, lowOf, highOf] at *
    k_steps
    all_goals exact hret _ _ _ _ _ (by assumption) (by assumption)
end
end

section
/-! ## one table of operators: an atom's number to its priority and type -/
abbrev Ent := Int × Ty
def dget (D : List (Int × Ent)) (a : Int) : Option Ent := (D.find? fun d => decide (d.1 = a)).map (·.2)
def dput (D : List (Int × Ent)) (a : Int) (e : Ent) : List (Int × Ent) := if D.any (fun d => decide (d.1 = a)) then D.map (fun d => if d.1 = a then (d.1, e) else d) else D ++ [(a, e)]
def ddel (D : List (Int × Ent)) (a : Int) : List (Int × Ent) := D.filter fun d => decide (d.1 ≠ a)

def EntIs (R : List (Addr × Obj)) (v : Value) (e : Ent) : Prop := ∃ x t t', v = .ref x ∧ (x, tupObj [.int e.1 t, .str (tyStr e.2) t']) ∈ R
theorem EntIs.mono {R R' : List (Addr × Obj)} {v : Value} {e : Ent} (h : EntIs R v e) (hR : ∀ p ∈ R, p ∈ R') : EntIs R' v e := let ⟨x, t, t', a, b⟩ := h; ⟨x, t, t', a, hR _ b⟩
def OptIs (R : List (Addr × Obj)) (v : Value) : Option Ent → Prop
  | none => v = .none
  | some e => EntIs R v e
def Kvs (R : List (Addr × Obj)) (kvs : List (Int × Value)) (D : List (Int × Ent)) : Prop := All2 (fun kv d => kv.1 = d.1 ∧ EntIs R kv.2 d.2) kvs D
def Tab (prog : Program) (w : World) (R : List (Addr × Obj)) (o : Obj) (D : List (Int × Ent)) : Prop := ∃ kvs, o.IsDictOf (PySem.intKind prog w) kvs ∧ Kvs R kvs D
theorem Tab.mono {prog : Program} {w : World} {R R' : List (Addr × Obj)} {o : Obj} {D : List (Int × Ent)} (h : Tab prog w R o D) (hR : ∀ p ∈ R, p ∈ R') : Tab prog w R' o D := let ⟨kvs, a, b⟩ := h; ⟨kvs, a, b.mono fun _ _ q => ⟨q.1, q.2.mono hR⟩⟩
theorem Tab.cls {prog : Program} {w : World} {R : List (Addr × Obj)} {o : Obj} {D : List (Int × Ent)} (h : Tab prog w R o D) : o.cls = .type "dict" := let ⟨_, a, _⟩ := h; isDict_cls a

theorem all2_map {α β γ δ : Type} {P : α → β → Prop} {P' : γ → δ → Prop} {f : α → γ} {g : β → δ} {l : List α} {r : List β} (h : All2 P l r) (hp : ∀ a b, P a b → P' (f a) (g b)) : All2 P' (l.map f) (r.map g) := by
  induction h with
  | nil => exact .nil
  | cons h1 _ ih => exact .cons (hp _ _ h1) ih
section
variable {R : List (Addr × Obj)} {kvs : List (Int × Value)} {D : List (Int × Ent)} {a : Int}
theorem kvs_get (h : Kvs R kvs D) : OptIs R ((valueAt kvs a).getD .none) (dget D a) ∧ (valueAt kvs a).isSome = (dget D a).isSome := by
  induction h with
  | nil => exact ⟨rfl, rfl⟩
  | @cons kv d l r h1 h2 ih =>
    by_cases e : d.1 = a
    · have e' : kv.1 = a := h1.1.trans e
      simp only [valueAt, dget, List.find?_cons, e, e', decide_true, Option.map_some, Option.getD_some, Option.isSome_some]
      exact ⟨h1.2, trivial⟩
    · have e' : ¬ kv.1 = a := fun q => e (h1.1.symm.trans q)
      simp only [valueAt, dget, List.find?_cons, e, e', decide_false] at ih ⊢
      exact ih
theorem kvs_any (h : Kvs R kvs D) : (kvs.any fun kv => decide (kv.1 = a)) = D.any fun d => decide (d.1 = a) := by
  induction h with
  | nil => rfl
  | @cons kv d l r h1 h2 ih => simp only [List.any_cons, ih, h1.1]
theorem kvs_put {v : Value} {e : Ent} (h : Kvs R kvs D) (hv : EntIs R v e) : Kvs R (stored kvs a v) (dput D a e) := by
  unfold stored dput
  rw [kvs_any h]
  split
  · refine all2_map h fun kv d h1 => ?_
    by_cases q : d.1 = a
    · rw [if_pos q, if_pos (h1.1.trans q)]; exact ⟨h1.1, hv⟩
    · rw [if_neg q, if_neg (fun z => q (h1.1.symm.trans z))]; exact h1
  · exact All2.append h (.cons ⟨rfl, hv⟩ .nil)
theorem kvs_del (h : Kvs R kvs D) : Kvs R (without kvs a) (ddel D a) := by
  induction h with
  | nil => exact .nil
  | @cons kv d l r h1 h2 ih =>
    simp only [without, ddel, List.filter_cons] at ih ⊢
    by_cases q : d.1 = a
    · rw [if_neg (show ¬ decide (kv.1 ≠ a) = true by simp [h1.1, q]), if_neg (show ¬ decide (d.1 ≠ a) = true by simp [q])]; exact ih
    · rw [if_pos (show decide (kv.1 ≠ a) = true by simp [h1.1, q]), if_pos (show decide (d.1 ≠ a) = true by simp [q])]; exact .cons h1 ih
theorem ddel_none (h : dget D a = none) : ddel D a = D := by
  refine List.filter_eq_self.mpr fun d hd => decide_eq_true fun q => ?_
  unfold dget at h
  rw [Option.map_eq_none_iff, List.find?_eq_none] at h
  exact h d hd (by simp [q])
end

section
variable {prog : Program} {w : World} {mean : ExcName → Option Value} {mg mb : Str → Option Value} {dp un : Nat} {gd : Option (List Code)} {cn : Str} {cs : Scope} {a : Addr} {ccd : Value} {cl : List (Str × Addr)} {outer : List Env} {A₀ : Around} {base h₀ : Heap} {L : Addr} {m : Str → Option Value} {s : Shared} {Q E : Value → Shared → Prop} {news : List (Addr × Obj)}

set_option maxHeartbeats 8000000 in
theorem get_0 {f : Addr} (hf : f = 172 ∨ f = 179 ∨ f = 186) {x : Int} {tx : Tok} {tb dt b p i q d : Addr} {k1 k2 k3 k4 : Tok} {e : Nat} {o : Obj} {kvs : List (Int × Value)} (B : Below A₀ base outer h₀) (F : Fr h₀ L s.heap m) (X : (hd.heap_39 w.params).In h₀) (T : Top hd.view_39 (looseW hd.view_39 []) mean mg mb h₀) (hk : cs.kind = .function) (hd : dp + 4 < recursionLimit) (hu : un + 32 < cLine)
    (N : News h₀ L s.heap [(tb, instObj 217 dt), (dt, dictOf (tabEs w.params k1 k2 k3 k4 b p i q) e), (d, o)])
    (hd1 : f = 172 → d = p) (hd2 : f = 179 → d = i) (hd3 : f = 186 → d = q) (lo : (d == sysModules) = false) (ho : o.IsDictOf (PySem.intKind prog w) kvs)
    (hret : ∀ h' tk', (∀ c o, c ∉ ([] : List Addr) → s.heap.get? c = some o → h'.get? c = some o) → Fr h₀ L h' m → Q ((valueAt kvs x).getD .none) { s with heap := h', toks := tk' }) :
    wpAny (model prog w) (ktrTop dp un gd cn cs L a ccd cl outer) (call (.ref f) [.ref tb, .int x tx]) Q E s := by
  k_with_none
  w_top off
  k_with "call builtin:dict.get" => (k_here; k_dflt (refine' kdg_get1 (knd := PySem.intKind _ _) ?w9NZ ?w9hmZ ?w9hdZ ?w9loZ (intKind_is _ _ _ _) _ rfl ?_; (case w9NZ => k_asm); (case w9hmZ => k_mem); (case w9hdZ => k_asm); (case w9loZ => k_asm)))
  k_with "getMethod ref" => (k_here; (with_reducible show wpAny _ _ (getMethod (Value.ref _) (Str.ofString "get") _) _ _ _); k_dflt (refine' kdg_method (knd := PySem.intKind _ _) ?w9NZ ?w9hmZ ?w9hdZ ?_; (case w9NZ => k_asm); (case w9hmZ => k_mem); (case w9hdZ => k_asm)))
  rcases hf with rfl | rfl | rfl
  · obtain rfl := hd1 rfl
    refine wpAny_call ?_
    k_dflt cell_enter
    k_steps
    all_goals exact hret _ _ (keep_but [] (by assumption) (by assumption) N (by assumption) fun p hp => .inr hp) (by assumption)
  · obtain rfl := hd2 rfl
    refine wpAny_call ?_
    k_dflt cell_enter
    k_steps
    all_goals exact hret _ _ (keep_but [] (by assumption) (by assumption) N (by assumption) fun p hp => .inr hp) (by assumption)
  · obtain rfl := hd3 rfl
    refine wpAny_call ?_
    k_dflt cell_enter
    k_steps
    all_goals exact hret _ _ (keep_but [] (by assumption) (by assumption) N (by assumption) fun p hp => .inr hp) (by assumption)

set_option maxHeartbeats 8000000 in
theorem isop_0 {x : Int} {tx : Tok} {tb dt b p i q : Addr} {k1 k2 k3 k4 : Tok} {e : Nat} {op oi oq : Obj} {kp ki kq : List (Int × Value)} {bp bi bq : Bool} (B : Below A₀ base outer h₀) (F : Fr h₀ L s.heap m) (X : (hd.heap_39 w.params).In h₀) (T : Top hd.view_39 (looseW hd.view_39 []) mean mg mb h₀) (hk : cs.kind = .function) (hd : dp + 4 < recursionLimit) (hu : un + 32 < cLine)
    (N : News h₀ L s.heap [(tb, instObj 217 dt), (dt, dictOf (tabEs w.params k1 k2 k3 k4 b p i q) e), (p, op), (i, oi), (q, oq)])
    (lp : (p == sysModules) = false) (li : (i == sysModules) = false) (lq : (q == sysModules) = false) (hp : op.IsDictOf (PySem.intKind prog w) kp) (hi : oi.IsDictOf (PySem.intKind prog w) ki) (hq : oq.IsDictOf (PySem.intKind prog w) kq)
    (ep : (valueAt kp x).isSome = bp) (ei : (valueAt ki x).isSome = bi) (eq : (valueAt kq x).isSome = bq)
    (hret : ∀ h' tk', (∀ c o, c ∉ ([] : List Addr) → s.heap.get? c = some o → h'.get? c = some o) → Fr h₀ L h' m → Q (.bool (bp || bi || bq)) { s with heap := h', toks := tk' }) :
    wpAny (model prog w) (ktrTop dp un gd cn cs L a ccd cl outer) (call (.ref 193) [.ref tb, .int x tx]) Q E s := by
  k_with "compareOp In int ref" => (k_here; k_dflt (refine' kda_in (knd := PySem.intKind _ _) ?w9NZ ?w9hmZ ?w9hdZ ?w9loZ (intKind_is _ _ _ _) _ ?w9hbZ ?_; (case w9NZ => k_asm); (case w9hmZ => k_mem); (case w9hdZ => k_asm); (case w9loZ => k_asm); (case w9hbZ => k_asm)))
  cases bp <;> cases bi <;> cases bq
  all_goals
    refine wpAny_call ?_
    k_dflt cell_enter
    k_steps
    all_goals exact hret _ _ (keep_but [] (by assumption) (by assumption) N (by assumption) fun p hp => .inr hp) (by assumption)
end
end

section

section
variable {prog : Program} {w : World} {mean : ExcName → Option Value} {mg mb : Str → Option Value} {dp un : Nat} {gd : Option (List Code)} {cn : Str} {cs : Scope} {a : Addr} {ccd : Value} {cl : List (Str × Addr)} {outer : List Env} {A₀ : Around} {base h₀ : Heap} {L : Addr} {m : Str → Option Value} {s : Shared} {Q E : Value → Shared → Prop} {news : List (Addr × Obj)}

theorem table_of_c {t : Ty} {tt : Tok} {tb dt b p i q d : Addr} {k1 k2 k3 k4 : Tok} {e : Nat} (B : Below A₀ base outer h₀) (F : Fr h₀ L s.heap m) (X : (hd.heap_39 w.params).In h₀) (T : Top hd.view_39 (looseW hd.view_39 []) mean mg mb h₀) (hk : cs.kind = .function) (hd : dp + 4 < recursionLimit) (hu : un + 32 < cLine)
    (N : News h₀ L s.heap news) (m1 : (tb, instObj 217 dt) ∈ news) (m2 : (dt, dictOf (tabEs w.params k1 k2 k3 k4 b p i q) e) ∈ news) (hs : sel (kd t) p i q = d)
    (hret : ∀ h' tk', Fr h₀ L h' m → News h₀ L h' news → Q (.ref d) { s with heap := h', toks := tk' }) :
    wpAny (model prog w) (ktrTop dp un gd cn cs L a ccd cl outer) (call (.ref 200) [.ref tb, .str (tyStr t) tt]) Q E s := by
  have N2 : News h₀ L s.heap [(tb, instObj 217 dt), (dt, dictOf (tabEs w.params k1 k2 k3 k4 b p i q) e)] := news_sub N fun p hp => by
    simp only [List.mem_cons, List.not_mem_nil, or_false] at hp
    rcases hp with rfl | rfl
    · exact m1
    · exact m2
  exact table_of_0 B F X T hk hd hu N2 fun h' tk' kp F' => by rw [hs]; exact hret h' tk' F' (news_same N kp)

theorem kl_del {kvs : List (Int × Value)} {o : Obj} {d : Addr} {x : Int} {tx : Tok} {g : Obj → List (Addr × Obj)} {A : Around} {Q : Unit → Shared → Prop} (F : Fr h₀ L s.heap m) (N : News h₀ L s.heap news) (U : UpdF d o news g) (ho : o.IsDictOf (PySem.intKind prog w) kvs) (hz : kvs.length ≤ 1000)
    (hv : (valueAt kvs x).isSome = true)
    (h : ∀ h' o', Fr h₀ L h' m → News h₀ L h' (g o') → o'.IsDictOf (PySem.intKind prog w) (without kvs x) → Q () { s with heap := h', toks := s.toks + 1 }) :
    wpAny (model prog w) A (delItem (.ref d) (.int x tx)) Q E s := by
  have hm := N _ (updF_at U)
  have hD : s.heap.DictOf (PySem.intKind prog w) d kvs := Heap.dictOf_iff.mpr ⟨o, hm.1, ho⟩
  unfold delItem
  (try with_reducible refine wpAny_holding ?_)
  refine wpAny_bind (wpAny_sequenceKey hD.typeIs (by decide) ?_)
  refine wpAny_bind (wpAny_callSpecial?_slot (name := Str.ofString "__delitem__") hD.typeIs PySem.F.slot_dict_delitem
    (call_meetsIn PySem.F.slot_dict_delitem hD.typeIs PySem.F.entry_dict_delitem (PySem.F.args_dict_delitem_2 _ _) (meets_dict_delitem_pairs (PySem.intKind prog w) d (intKind_is _ _ x tx)) ⟨kvs, hD, (by rw [sizeLine_eq]; omega), hv, fun h' hmm hs => ?_⟩))
  obtain ⟨o', ho', hd'⟩ := Heap.dictOf_iff.mp hmm
  have N1 : News h₀ L h' [(d, o')] := fun p hp => by
    rw [List.mem_singleton.mp hp]
    exact ⟨ho', hm.2⟩
  exact wpAny_pure (h h' o' (F.change hs hm.2.1 hm.2.2) (news_u1 N U (fun c x hc' e => (hs.2 c (by simpa using hc')).trans e) N1 (.head _)) hd')

set_option maxHeartbeats 8000000 in
theorem add_set_0 {t : Ty} {pr x : Int} {tp tt tx : Tok} {tb dt b p i q d : Addr} {k1 k2 k3 k4 : Tok} {e : Nat} {o : Obj} {kvs : List (Int × Value)} (B : Below A₀ base outer h₀) (F : Fr h₀ L s.heap m) (X : (hd.heap_39 w.params).In h₀) (T : Top hd.view_39 (looseW hd.view_39 []) mean mg mb h₀) (hk : cs.kind = .function) (hd : dp + 6 < recursionLimit) (hu : un + 48 < cLine)
    (N : News h₀ L s.heap [(tb, instObj 217 dt), (dt, dictOf (tabEs w.params k1 k2 k3 k4 b p i q) e), (d, o)])
    (hs : sel (kd t) p i q = d) (d1 : @Ne Nat tb d) (d2 : @Ne Nat dt d) (lo : (d == sysModules) = false) (ho : o.IsDictOf (PySem.intKind prog w) kvs) (hz : kvs.length ≤ 1000) (hp : 0 < pr)
    (hret : ∀ x' h' tk' o', (∀ c o, c ∉ ([d] : List Addr) → s.heap.get? c = some o → h'.get? c = some o) → Fr h₀ L h' m → News h₀ L h' [(x', tupObj [.int pr tp, .str (tyStr t) tt]), (d, o')] → o'.IsDictOf (PySem.intKind prog w) (stored kvs x (.ref x')) → Q .none { s with heap := h', toks := tk' }) :
    wpAny (model prog w) (ktrTop dp un gd cn cs L a ccd cl outer) (call (.ref 207) [.ref tb, .int pr tp, .str (tyStr t) tt, .int x tx]) Q E s := by
  k_with_none
  w_top off
  k_with "call ref" => (k_here; (with_reducible show wpAny _ _ (call (Value.ref 200) _) _ _ _); k_dflt (refine' table_of_c ?w9k1Z ?w9k2Z ?w9k3Z ?w9k4Z ?w9k5Z ?w9k6Z ?w9k7Z ?w9NZ ?w9m1Z ?w9m2Z ?w9hsZ ?_; (case w9k1Z => k_asm); (case w9k2Z => k_asm); (case w9k3Z => k_asm); (case w9k4Z => k_asm); (case w9k5Z => exact rfl); (case w9k6Z => ktr_room); (case w9k7Z => ktr_units); (case w9NZ => k_asm); (case w9m1Z => k_mem); (case w9m2Z => k_mem); (case w9hsZ => assumption); k_whole); intro qhZ qtkZ qFZ qNZ; (try k_sweep))
  k_with "setItem ref int" => (k_here; k_dflt (refine' kda_set (knd := PySem.intKind _ _) ?w9FZ ?w9NZ ?w9UZ ?w9dZ (intKind_is _ _ _ _) ?w9zZ ?_; (case w9FZ => k_asm); (case w9NZ => k_asm); (case w9UZ => k_updF); (case w9dZ => k_asm); (case w9zZ => rw [sizeLine_eq]; omega)); intro qhZ qoZ qFZ qNZ qhdZ; (try dsimp only at qNZ))
  k_with "compareOp In int ref" => (k_here; k_dflt (refine' kda_in (knd := PySem.intKind _ _) ?w9NZ ?w9hmZ ?w9hdZ ?w9loZ (intKind_is _ _ _ _) _ ?w9hbZ ?_; (case w9NZ => k_asm); (case w9hmZ => k_mem); (case w9hdZ => k_asm); (case w9loZ => k_asm); (case w9hbZ => k_asm)))
  k_with "delItem ref int" => (k_here; k_dflt (refine' kl_del ?w9FZ ?w9NZ ?w9UZ ?w9dZ ?w9zZ ?w9hvZ ?_; (case w9FZ => k_asm); (case w9NZ => k_asm); (case w9UZ => k_updF); (case w9dZ => k_asm); (case w9zZ => omega); (case w9hvZ => assumption)); intro qhZ qoZ qFZ qNZ qhdZ; (try dsimp only at qNZ))
  refine wpAny_call ?_
  k_dflt cell_enter
  k_steps
  refine hret _ _ _ _ (keep_but [d] (by assumption) (by assumption) N (by assumption) fun p hp => ?_) (by assumption) (news_sub (by assumption) fun p hp => ?_) (by assumption)
  · simp only [List.mem_cons, List.not_mem_nil, or_false] at hp ⊢
    rcases hp with rfl | rfl | rfl <;> simp
  · simp only [List.mem_cons, List.not_mem_nil, or_false] at hp ⊢
    rcases hp with rfl | rfl <;> simp

set_option maxHeartbeats 8000000 in
theorem add_le_0 {t : Ty} {pr x : Int} {tp tt tx : Tok} {tb dt b p i q d : Addr} {k1 k2 k3 k4 : Tok} {e : Nat} {o : Obj} {kvs : List (Int × Value)} (B : Below A₀ base outer h₀) (F : Fr h₀ L s.heap m) (X : (hd.heap_39 w.params).In h₀) (T : Top hd.view_39 (looseW hd.view_39 []) mean mg mb h₀) (hk : cs.kind = .function) (hd : dp + 6 < recursionLimit) (hu : un + 48 < cLine)
    (N : News h₀ L s.heap [(tb, instObj 217 dt), (dt, dictOf (tabEs w.params k1 k2 k3 k4 b p i q) e), (d, o)])
    (hs : sel (kd t) p i q = d) (d1 : @Ne Nat tb d) (d2 : @Ne Nat dt d) (lo : (d == sysModules) = false) (ho : o.IsDictOf (PySem.intKind prog w) kvs) (hz : kvs.length ≤ 1000) (hp : pr ≤ 0)
    (hret : ∀ h' tk' o', (∀ c o, c ∉ ([d] : List Addr) → s.heap.get? c = some o → h'.get? c = some o) → Fr h₀ L h' m → News h₀ L h' [(d, o')] → o'.IsDictOf (PySem.intKind prog w) (without kvs x) → Q .none { s with heap := h', toks := tk' }) :
    wpAny (model prog w) (ktrTop dp un gd cn cs L a ccd cl outer) (call (.ref 207) [.ref tb, .int pr tp, .str (tyStr t) tt, .int x tx]) Q E s := by
  cases hv : (valueAt kvs x).isSome
  · refine wpAny_call ?_
    k_dflt cell_enter
    k_steps
    have hw : without kvs x = kvs := by
      refine List.filter_eq_self.mpr fun kv hkv => decide_eq_true fun e => ?_
      rw [valueAt_isSome_eq_any] at hv
      have hany : (kvs.any fun kv => decide (kv.1 = x)) = true := List.any_eq_true.mpr ⟨kv, hkv, decide_eq_true e⟩
      rw [hv] at hany; cases hany
    rw [hw] at hret
    refine hret _ _ o (keep_but [d] (by assumption) (by assumption) N (by assumption) fun p hp => .inr hp) (by assumption) (news_sub (by assumption) fun p hp => ?_) ho
    simp only [List.mem_cons, List.not_mem_nil, or_false] at hp ⊢
    rcases hp with rfl; simp
  · refine wpAny_call ?_
    k_dflt cell_enter
    k_steps
    refine hret _ _ _ (keep_but [d] (by assumption) (by assumption) N (by assumption) fun p hp => ?_) (by assumption) (news_sub (by assumption) fun p hp => ?_) (by assumption)
    · simp only [List.mem_cons, List.not_mem_nil, or_false] at hp ⊢
      rcases hp with rfl | rfl | rfl <;> simp
    · simp only [List.mem_cons, List.not_mem_nil, or_false] at hp ⊢
      rcases hp with rfl; simp

def tput (T : Kd → List (Int × Ent)) (t : Ty) (x pr : Int) : Kd → List (Int × Ent) := fun k => if k = kd t then dput (T k) x (pr, t) else T k
def tdel (T : Kd → List (Int × Ent)) (t : Ty) (x : Int) : Kd → List (Int × Ent) := fun k => if k = kd t then ddel (T k) x else T k

theorem kd_cases (t : Ty) : kd t = 0 ∨ kd t = 1 ∨ kd t = 2 := by revert t; decide

section
variable {t : Ty} {pr x : Int} {tp tt tx : Tok} {tb dt b p i q : Addr} {k1 k2 k3 k4 : Tok} {e : Nat} {op oi oq : Obj} {R : List (Addr × Obj)} {D : Kd → List (Int × Ent)} {g1 : Obj → List (Addr × Obj)} {g2 : Obj → Obj → List (Addr × Obj)} {g3 : Obj → Obj → Obj → List (Addr × Obj)}
theorem add_set_c (B : Below A₀ base outer h₀) (F : Fr h₀ L s.heap m) (X : (hd.heap_39 w.params).In h₀) (T : Top hd.view_39 (looseW hd.view_39 []) mean mg mb h₀) (hk : cs.kind = .function) (hd : dp + 6 < recursionLimit) (hu : un + 48 < cLine)
    (N : News h₀ L s.heap news) (m1 : (tb, instObj 217 dt) ∈ news) (m2 : (dt, dictOf (tabEs w.params k1 k2 k3 k4 b p i q) e) ∈ news)
    (U1 : UpdF p op news g1) (U2 : ∀ o', UpdF i oi (g1 o') (g2 o')) (U3 : ∀ o' o'', UpdF q oq (g2 o' o'') (g3 o' o''))
    (d1 : @Ne Nat dt p) (d2 : @Ne Nat dt i) (d3 : @Ne Nat dt q) (d4 : @Ne Nat p i) (d5 : @Ne Nat p q) (d6 : @Ne Nat i q) (lp : (p == sysModules) = false) (li : (i == sysModules) = false) (lq : (q == sysModules) = false)
    (tp0 : Tab prog w R op (D 0)) (tp1 : Tab prog w R oi (D 1)) (tp2 : Tab prog w R oq (D 2)) (hz : ∀ k, (D k).length ≤ 1000) (hp : 0 < pr)
    (hret : ∀ x' h' tk' op' oi' oq', Fr h₀ L h' m → News h₀ L h' ((x', tupObj [.int pr tp, .str (tyStr t) tt]) :: g3 op' oi' oq') → Tab prog w ((x', tupObj [.int pr tp, .str (tyStr t) tt]) :: R) op' (tput D t x pr 0) →
      Tab prog w ((x', tupObj [.int pr tp, .str (tyStr t) tt]) :: R) oi' (tput D t x pr 1) → Tab prog w ((x', tupObj [.int pr tp, .str (tyStr t) tt]) :: R) oq' (tput D t x pr 2) → Q .none { s with heap := h', toks := tk' }) :
    wpAny (model prog w) (ktrTop dp un gd cn cs L a ccd cl outer) (call (.ref 207) [.ref tb, .int pr tp, .str (tyStr t) tt, .int x tx]) Q E s := by
  have mp := updF_at U1
  have mi : (i, oi) ∈ news := by
    rcases updF_mem U1 (updF_at (U2 op)) with h | h
    · exact h.1
    · exact absurd (Prod.mk.inj h).1 (Ne.symm d4)
  have mq : (q, oq) ∈ news := by
    rcases updF_mem (U2 op) (updF_at (U3 op oi)) with ⟨h, _⟩ | h
    · rcases updF_mem U1 h with h | h
      · exact h.1
      · exact absurd (Prod.mk.inj h).1 (Ne.symm d5)
    · exact absurd (Prod.mk.inj h).1 (Ne.symm d6)
  have cd : ∀ {c : Addr} {o : Obj}, (c, o) ∈ news → o.cls = .type "dict" → tb ≠ c := fun hm hc => news_ne N m1 hm (by dsimp only; rw [hc]; intro h; cases h)
  have mono : ∀ {x' o D'}, Tab prog w R o D' → Tab prog w ((x', tupObj [.int pr tp, .str (tyStr t) tt]) :: R) o D' := fun h => h.mono fun p hp => .tail _ hp
  have len : ∀ {kvs D'}, Kvs R kvs D' → D'.length ≤ 1000 → kvs.length ≤ 1000 := fun h q => by rw [All2.length h]; exact q
  have put : ∀ {x' kvs D' o'}, Kvs R kvs D' → o'.IsDictOf (PySem.intKind prog w) (stored kvs x (.ref x')) → Tab prog w ((x', tupObj [.int pr tp, .str (tyStr t) tt]) :: R) o' (dput D' x (pr, t)) := fun {x' kvs D' o'} h h' =>
    ⟨_, h', kvs_put (h.mono fun _ _ q => ⟨q.1, q.2.mono fun p hp => .tail _ hp⟩) ⟨x', _, _, rfl, .head _⟩⟩
  have N3 : ∀ {d o}, (d, o) ∈ news → News h₀ L s.heap [(tb, instObj 217 dt), (dt, dictOf (tabEs w.params k1 k2 k3 k4 b p i q) e), (d, o)] := fun hm => news_sub N fun p hp => by
    simp only [List.mem_cons, List.not_mem_nil, or_false] at hp
    rcases hp with rfl | rfl | rfl
    · exact m1
    · exact m2
    · exact hm
  have keep1 : ∀ {h' : Heap} {d c : Addr} {oc : Obj}, (∀ c o, c ∉ ([d] : List Addr) → s.heap.get? c = some o → h'.get? c = some o) → (c, oc) ∈ news → c ≠ d → (h'.get? c = some oc ∧ c ≠ L ∧ h₀.get? c = none) := fun kp hm hne => ⟨kp _ _ (by simpa using hne) (N _ hm).1, (N _ hm).2⟩
  rcases kd_cases t with h | h | h
  · obtain ⟨kvs, ho, hkv⟩ := tp0
    refine add_set_0 (d := p) B F X T hk hd hu (N3 mp) (by rw [h]; rfl) (cd mp (isDict_cls ho)) d1 lp ho (len hkv (hz 0)) hp fun x' h' tk' o' kp F' N' hd' => ?_
    refine hret x' h' tk' o' oi oq F' (fun pp hp' => ?_) (by unfold tput; rw [if_pos h.symm]; exact put hkv hd') (by unfold tput; rw [if_neg (by rw [h]; decide)]; exact mono tp1) (by unfold tput; rw [if_neg (by rw [h]; decide)]; exact mono tp2)
    rcases List.mem_cons.mp hp' with rfl | hp'
    · exact N' _ (.head _)
    · refine news_u3 (ch := [(p, o'), (i, oi), (q, oq)]) N U1 U2 U3 (fun c o hc e => kp c o (fun z => hc (by simp at z; simp [z])) e) (fun pp hp' => ?_) (by simp) (by simp) (by simp) pp hp'
      simp only [List.mem_cons, List.not_mem_nil, or_false] at hp'
      rcases hp' with rfl | rfl | rfl
      · exact N' _ (.tail _ (.head _))
      · exact keep1 kp mi (Ne.symm d4)
      · exact keep1 kp mq (Ne.symm d5)
  · obtain ⟨kvs, ho, hkv⟩ := tp1
    refine add_set_0 (d := i) B F X T hk hd hu (N3 mi) (by rw [h]; rfl) (cd mi (isDict_cls ho)) d2 li ho (len hkv (hz 1)) hp fun x' h' tk' o' kp F' N' hd' => ?_
    refine hret x' h' tk' op o' oq F' (fun pp hp' => ?_) (by unfold tput; rw [if_neg (by rw [h]; decide)]; exact mono tp0) (by unfold tput; rw [if_pos h.symm]; exact put hkv hd') (by unfold tput; rw [if_neg (by rw [h]; decide)]; exact mono tp2)
    rcases List.mem_cons.mp hp' with rfl | hp'
    · exact N' _ (.head _)
    · refine news_u3 (ch := [(p, op), (i, o'), (q, oq)]) N U1 U2 U3 (fun c o hc e => kp c o (fun z => hc (by simp at z; simp [z])) e) (fun pp hp' => ?_) (by simp) (by simp) (by simp) pp hp'
      simp only [List.mem_cons, List.not_mem_nil, or_false] at hp'
      rcases hp' with rfl | rfl | rfl
      · exact keep1 kp mp d4
      · exact N' _ (.tail _ (.head _))
      · exact keep1 kp mq (Ne.symm d6)
  · obtain ⟨kvs, ho, hkv⟩ := tp2
    refine add_set_0 (d := q) B F X T hk hd hu (N3 mq) (by rw [h]; rfl) (cd mq (isDict_cls ho)) d3 lq ho (len hkv (hz 2)) hp fun x' h' tk' o' kp F' N' hd' => ?_
    refine hret x' h' tk' op oi o' F' (fun pp hp' => ?_) (by unfold tput; rw [if_neg (by rw [h]; decide)]; exact mono tp0) (by unfold tput; rw [if_neg (by rw [h]; decide)]; exact mono tp1) (by unfold tput; rw [if_pos h.symm]; exact put hkv hd')
    rcases List.mem_cons.mp hp' with rfl | hp'
    · exact N' _ (.head _)
    · refine news_u3 (ch := [(p, op), (i, oi), (q, o')]) N U1 U2 U3 (fun c o hc e => kp c o (fun z => hc (by simp at z; simp [z])) e) (fun pp hp' => ?_) (by simp) (by simp) (by simp) pp hp'
      simp only [List.mem_cons, List.not_mem_nil, or_false] at hp'
      rcases hp' with rfl | rfl | rfl
      · exact keep1 kp mp d5
      · exact keep1 kp mi d6
      · exact N' _ (.tail _ (.head _))
theorem add_le_c (B : Below A₀ base outer h₀) (F : Fr h₀ L s.heap m) (X : (hd.heap_39 w.params).In h₀) (T : Top hd.view_39 (looseW hd.view_39 []) mean mg mb h₀) (hk : cs.kind = .function) (hd : dp + 6 < recursionLimit) (hu : un + 48 < cLine)
    (N : News h₀ L s.heap news) (m1 : (tb, instObj 217 dt) ∈ news) (m2 : (dt, dictOf (tabEs w.params k1 k2 k3 k4 b p i q) e) ∈ news)
    (U1 : UpdF p op news g1) (U2 : ∀ o', UpdF i oi (g1 o') (g2 o')) (U3 : ∀ o' o'', UpdF q oq (g2 o' o'') (g3 o' o''))
    (d1 : @Ne Nat dt p) (d2 : @Ne Nat dt i) (d3 : @Ne Nat dt q) (d4 : @Ne Nat p i) (d5 : @Ne Nat p q) (d6 : @Ne Nat i q) (lp : (p == sysModules) = false) (li : (i == sysModules) = false) (lq : (q == sysModules) = false)
    (tp0 : Tab prog w R op (D 0)) (tp1 : Tab prog w R oi (D 1)) (tp2 : Tab prog w R oq (D 2)) (hz : ∀ k, (D k).length ≤ 1000) (hp : pr ≤ 0)
    (hret : ∀ h' tk' op' oi' oq', Fr h₀ L h' m → News h₀ L h' (g3 op' oi' oq') → Tab prog w R op' (tdel D t x 0) →
      Tab prog w R oi' (tdel D t x 1) → Tab prog w R oq' (tdel D t x 2) → Q .none { s with heap := h', toks := tk' }) :
    wpAny (model prog w) (ktrTop dp un gd cn cs L a ccd cl outer) (call (.ref 207) [.ref tb, .int pr tp, .str (tyStr t) tt, .int x tx]) Q E s := by
  have mp := updF_at U1
  have mi : (i, oi) ∈ news := by
    rcases updF_mem U1 (updF_at (U2 op)) with h | h
    · exact h.1
    · exact absurd (Prod.mk.inj h).1 (Ne.symm d4)
  have mq : (q, oq) ∈ news := by
    rcases updF_mem (U2 op) (updF_at (U3 op oi)) with ⟨h, _⟩ | h
    · rcases updF_mem U1 h with h | h
      · exact h.1
      · exact absurd (Prod.mk.inj h).1 (Ne.symm d5)
    · exact absurd (Prod.mk.inj h).1 (Ne.symm d6)
  have cd : ∀ {c : Addr} {o : Obj}, (c, o) ∈ news → o.cls = .type "dict" → tb ≠ c := fun hm hc => news_ne N m1 hm (by dsimp only; rw [hc]; intro h; cases h)
  have len : ∀ {kvs D'}, Kvs R kvs D' → D'.length ≤ 1000 → kvs.length ≤ 1000 := fun h q => by rw [All2.length h]; exact q
  have del : ∀ {kvs D' o'}, Kvs R kvs D' → o'.IsDictOf (PySem.intKind prog w) (without kvs x) → Tab prog w R o' (ddel D' x) := fun {kvs D' o'} h h' => ⟨_, h', kvs_del h⟩
  have N3 : ∀ {d o}, (d, o) ∈ news → News h₀ L s.heap [(tb, instObj 217 dt), (dt, dictOf (tabEs w.params k1 k2 k3 k4 b p i q) e), (d, o)] := fun hm => news_sub N fun p hp => by
    simp only [List.mem_cons, List.not_mem_nil, or_false] at hp
    rcases hp with rfl | rfl | rfl
    · exact m1
    · exact m2
    · exact hm
  have keep1 : ∀ {h' : Heap} {d c : Addr} {oc : Obj}, (∀ c o, c ∉ ([d] : List Addr) → s.heap.get? c = some o → h'.get? c = some o) → (c, oc) ∈ news → c ≠ d → (h'.get? c = some oc ∧ c ≠ L ∧ h₀.get? c = none) := fun kp hm hne => ⟨kp _ _ (by simpa using hne) (N _ hm).1, (N _ hm).2⟩
  rcases kd_cases t with h | h | h
  · obtain ⟨kvs, ho, hkv⟩ := tp0
    refine add_le_0 (d := p) B F X T hk hd hu (N3 mp) (by rw [h]; rfl) (cd mp (isDict_cls ho)) d1 lp ho (len hkv (hz 0)) hp fun h' tk' o' kp F' N' hd' => ?_
    refine hret h' tk' o' oi oq F' (fun pp hp' => ?_) (by unfold tdel; rw [if_pos h.symm]; exact del hkv hd') (by unfold tdel; rw [if_neg (by rw [h]; decide)]; exact tp1) (by unfold tdel; rw [if_neg (by rw [h]; decide)]; exact tp2)
    · refine news_u3 (ch := [(p, o'), (i, oi), (q, oq)]) N U1 U2 U3 (fun c o hc e => kp c o (fun z => hc (by simp at z; simp [z])) e) (fun pp hp' => ?_) (by simp) (by simp) (by simp) pp hp'
      simp only [List.mem_cons, List.not_mem_nil, or_false] at hp'
      rcases hp' with rfl | rfl | rfl
      · exact N' _ (.head _)
      · exact keep1 kp mi (Ne.symm d4)
      · exact keep1 kp mq (Ne.symm d5)
  · obtain ⟨kvs, ho, hkv⟩ := tp1
    refine add_le_0 (d := i) B F X T hk hd hu (N3 mi) (by rw [h]; rfl) (cd mi (isDict_cls ho)) d2 li ho (len hkv (hz 1)) hp fun h' tk' o' kp F' N' hd' => ?_
    refine hret h' tk' op o' oq F' (fun pp hp' => ?_) (by unfold tdel; rw [if_neg (by rw [h]; decide)]; exact tp0) (by unfold tdel; rw [if_pos h.symm]; exact del hkv hd') (by unfold tdel; rw [if_neg (by rw [h]; decide)]; exact tp2)
    · refine news_u3 (ch := [(p, op), (i, o'), (q, oq)]) N U1 U2 U3 (fun c o hc e => kp c o (fun z => hc (by simp at z; simp [z])) e) (fun pp hp' => ?_) (by simp) (by simp) (by simp) pp hp'
      simp only [List.mem_cons, List.not_mem_nil, or_false] at hp'
      rcases hp' with rfl | rfl | rfl
      · exact keep1 kp mp d4
      · exact N' _ (.head _)
      · exact keep1 kp mq (Ne.symm d6)
  · obtain ⟨kvs, ho, hkv⟩ := tp2
    refine add_le_0 (d := q) B F X T hk hd hu (N3 mq) (by rw [h]; rfl) (cd mq (isDict_cls ho)) d3 lq ho (len hkv (hz 2)) hp fun h' tk' o' kp F' N' hd' => ?_
    refine hret h' tk' op oi o' F' (fun pp hp' => ?_) (by unfold tdel; rw [if_neg (by rw [h]; decide)]; exact tp0) (by unfold tdel; rw [if_neg (by rw [h]; decide)]; exact tp1) (by unfold tdel; rw [if_pos h.symm]; exact del hkv hd')
    · refine news_u3 (ch := [(p, op), (i, oi), (q, o')]) N U1 U2 U3 (fun c o hc e => kp c o (fun z => hc (by simp at z; simp [z])) e) (fun pp hp' => ?_) (by simp) (by simp) (by simp) pp hp'
      simp only [List.mem_cons, List.not_mem_nil, or_false] at hp'
      rcases hp' with rfl | rfl | rfl
      · exact keep1 kp mp d5
      · exact keep1 kp mi d6
      · exact N' _ (.head _)
end
end
end

section
def TabS (prog : Program) (w : World) (R : List (Addr × Obj)) (op oi oq : Obj) (D : Kd → List (Int × Ent)) : Prop := Tab prog w R op (D 0) ∧ Tab prog w R oi (D 1) ∧ Tab prog w R oq (D 2)
theorem TabS.mono {prog : Program} {w : World} {R R' : List (Addr × Obj)} {op oi oq : Obj} {D : Kd → List (Int × Ent)} (h : TabS prog w R op oi oq D) (hR : ∀ p ∈ R, p ∈ R') : TabS prog w R' op oi oq D := ⟨h.1.mono hR, h.2.1.mono hR, h.2.2.mono hR⟩

section
variable {prog : Program} {w : World} {mean : ExcName → Option Value} {mg mb : Str → Option Value} {dp un : Nat} {gd : Option (List Code)} {cn : Str} {cs : Scope} {a : Addr} {ccd : Value} {cl : List (Str × Addr)} {outer : List Env} {A₀ : Around} {base h₀ : Heap} {L : Addr} {m : Str → Option Value} {s : Shared} {Q E : Value → Shared → Prop} {news : List (Addr × Obj)}
variable {t : Ty} {pr x : Int} {tp tt tx : Tok} {tb dt b p i q : Addr} {k1 k2 k3 k4 : Tok} {e : Nat} {op oi oq : Obj} {R : List (Addr × Obj)} {D : Kd → List (Int × Ent)} {g1 : Obj → List (Addr × Obj)} {g2 : Obj → Obj → List (Addr × Obj)} {g3 : Obj → Obj → Obj → List (Addr × Obj)}
theorem add_set_s (t : Ty) (B : Below A₀ base outer h₀) (F : Fr h₀ L s.heap m) (X : (hd.heap_39 w.params).In h₀) (T : Top hd.view_39 (looseW hd.view_39 []) mean mg mb h₀) (hk : cs.kind = .function) (hd : dp + 6 < recursionLimit) (hu : un + 48 < cLine)
    (N : News h₀ L s.heap news) (m1 : (tb, instObj 217 dt) ∈ news) (m2 : (dt, dictOf (tabEs w.params k1 k2 k3 k4 b p i q) e) ∈ news)
    (U1 : UpdF p op news g1) (U2 : ∀ o', UpdF i oi (g1 o') (g2 o')) (U3 : ∀ o' o'', UpdF q oq (g2 o' o'') (g3 o' o''))
    (d1 : @Ne Nat dt p) (d2 : @Ne Nat dt i) (d3 : @Ne Nat dt q) (d4 : @Ne Nat p i) (d5 : @Ne Nat p q) (d6 : @Ne Nat i q) (lp : (p == sysModules) = false) (li : (i == sysModules) = false) (lq : (q == sysModules) = false)
    (TS : TabS prog w R op oi oq D) (hz : ∀ k, (D k).length ≤ 1000) (hp : 0 < pr)
    (hret : ∀ x' h' tk' op' oi' oq', Fr h₀ L h' m → News h₀ L h' ((x', tupObj [.int pr tp, .str (tyStr t) tt]) :: g3 op' oi' oq') → TabS prog w ((x', tupObj [.int pr tp, .str (tyStr t) tt]) :: R) op' oi' oq' (tput D t x pr) → Q .none { s with heap := h', toks := tk' }) :
    wpAny (model prog w) (ktrTop dp un gd cn cs L a ccd cl outer) (call (.ref 207) [.ref tb, .int pr tp, .str (tyStr t) tt, .int x tx]) Q E s :=
  add_set_c B F X T hk hd hu N m1 m2 U1 U2 U3 d1 d2 d3 d4 d5 d6 lp li lq TS.1 TS.2.1 TS.2.2 hz hp fun x' h' tk' op' oi' oq' F' N' a b c => hret x' h' tk' op' oi' oq' F' N' ⟨a, b, c⟩
theorem add_le_s (t : Ty) (B : Below A₀ base outer h₀) (F : Fr h₀ L s.heap m) (X : (hd.heap_39 w.params).In h₀) (T : Top hd.view_39 (looseW hd.view_39 []) mean mg mb h₀) (hk : cs.kind = .function) (hd : dp + 6 < recursionLimit) (hu : un + 48 < cLine)
    (N : News h₀ L s.heap news) (m1 : (tb, instObj 217 dt) ∈ news) (m2 : (dt, dictOf (tabEs w.params k1 k2 k3 k4 b p i q) e) ∈ news)
    (U1 : UpdF p op news g1) (U2 : ∀ o', UpdF i oi (g1 o') (g2 o')) (U3 : ∀ o' o'', UpdF q oq (g2 o' o'') (g3 o' o''))
    (d1 : @Ne Nat dt p) (d2 : @Ne Nat dt i) (d3 : @Ne Nat dt q) (d4 : @Ne Nat p i) (d5 : @Ne Nat p q) (d6 : @Ne Nat i q) (lp : (p == sysModules) = false) (li : (i == sysModules) = false) (lq : (q == sysModules) = false)
    (TS : TabS prog w R op oi oq D) (hz : ∀ k, (D k).length ≤ 1000) (hp : pr ≤ 0)
    (hret : ∀ h' tk' op' oi' oq', Fr h₀ L h' m → News h₀ L h' (g3 op' oi' oq') → TabS prog w R op' oi' oq' (tdel D t x) → Q .none { s with heap := h', toks := tk' }) :
    wpAny (model prog w) (ktrTop dp un gd cn cs L a ccd cl outer) (call (.ref 207) [.ref tb, .int pr tp, .str (tyStr t) tt, .int x tx]) Q E s :=
  add_le_c B F X T hk hd hu N m1 m2 U1 U2 U3 d1 d2 d3 d4 d5 d6 lp li lq TS.1 TS.2.1 TS.2.2 hz hp fun h' tk' op' oi' oq' F' N' a b c => hret h' tk' op' oi' oq' F' N' ⟨a, b, c⟩
theorem get_c {f : Addr} (k : Kd) (hf : f = (match k with | 0 => 172 | 1 => 179 | 2 => 186)) (B : Below A₀ base outer h₀) (F : Fr h₀ L s.heap m) (X : (hd.heap_39 w.params).In h₀) (T : Top hd.view_39 (looseW hd.view_39 []) mean mg mb h₀) (hk : cs.kind = .function) (hd : dp + 4 < recursionLimit) (hu : un + 32 < cLine)
    (N : News h₀ L s.heap news) (m1 : (tb, instObj 217 dt) ∈ news) (m2 : (dt, dictOf (tabEs w.params k1 k2 k3 k4 b p i q) e) ∈ news) (mp : (p, op) ∈ news) (mi : (i, oi) ∈ news) (mq : (q, oq) ∈ news) (lp : (p == sysModules) = false) (li : (i == sysModules) = false) (lq : (q == sysModules) = false)
    (TS : TabS prog w R op oi oq D)
    (hret : ∀ h' tk' v, Fr h₀ L h' m → News h₀ L h' news → OptIs R v (dget (D k) x) → Q v { s with heap := h', toks := tk' }) :
    wpAny (model prog w) (ktrTop dp un gd cn cs L a ccd cl outer) (call (.ref f) [.ref tb, .int x tx]) Q E s := by
  have N3 : ∀ {d o}, (d, o) ∈ news → News h₀ L s.heap [(tb, instObj 217 dt), (dt, dictOf (tabEs w.params k1 k2 k3 k4 b p i q) e), (d, o)] := fun hm => news_sub N fun p hp => by
    simp only [List.mem_cons, List.not_mem_nil, or_false] at hp
    rcases hp with rfl | rfl | rfl
    · exact m1
    · exact m2
    · exact hm
  have hkk : ∀ k : Kd, k = 0 ∨ k = 1 ∨ k = 2 := by decide
  rcases hkk k with rfl | rfl | rfl
  · obtain ⟨kvs, ho, hkv⟩ := TS.1
    dsimp only at hf
    subst hf
    exact get_0 (d := p) (by decide) B F X T hk hd hu (N3 mp) (fun _ => rfl) (fun h => absurd h (by decide)) (fun h => absurd h (by decide)) lp ho fun h' tk' kp F' => hret h' tk' _ F' (news_same N kp) (kvs_get hkv).1
  · obtain ⟨kvs, ho, hkv⟩ := TS.2.1
    dsimp only at hf
    subst hf
    exact get_0 (d := i) (by decide) B F X T hk hd hu (N3 mi) (fun h => absurd h (by decide)) (fun _ => rfl) (fun h => absurd h (by decide)) li ho fun h' tk' kp F' => hret h' tk' _ F' (news_same N kp) (kvs_get hkv).1
  · obtain ⟨kvs, ho, hkv⟩ := TS.2.2
    dsimp only at hf
    subst hf
    exact get_0 (d := q) (by decide) B F X T hk hd hu (N3 mq) (fun h => absurd h (by decide)) (fun h => absurd h (by decide)) (fun _ => rfl) lq ho fun h' tk' kp F' => hret h' tk' _ F' (news_same N kp) (kvs_get hkv).1
theorem isop_c (B : Below A₀ base outer h₀) (F : Fr h₀ L s.heap m) (X : (hd.heap_39 w.params).In h₀) (T : Top hd.view_39 (looseW hd.view_39 []) mean mg mb h₀) (hk : cs.kind = .function) (hd : dp + 4 < recursionLimit) (hu : un + 32 < cLine)
    (N : News h₀ L s.heap news) (m1 : (tb, instObj 217 dt) ∈ news) (m2 : (dt, dictOf (tabEs w.params k1 k2 k3 k4 b p i q) e) ∈ news) (mp : (p, op) ∈ news) (mi : (i, oi) ∈ news) (mq : (q, oq) ∈ news) (lp : (p == sysModules) = false) (li : (i == sysModules) = false) (lq : (q == sysModules) = false)
    (TS : TabS prog w R op oi oq D)
    (hret : ∀ h' tk', Fr h₀ L h' m → News h₀ L h' news → Q (.bool ((dget (D 0) x).isSome || (dget (D 1) x).isSome || (dget (D 2) x).isSome)) { s with heap := h', toks := tk' }) :
    wpAny (model prog w) (ktrTop dp un gd cn cs L a ccd cl outer) (call (.ref 193) [.ref tb, .int x tx]) Q E s := by
  obtain ⟨kp, hp, hkp⟩ := TS.1
  obtain ⟨ki, hi, hki⟩ := TS.2.1
  obtain ⟨kq, hq, hkq⟩ := TS.2.2
  have N2 : News h₀ L s.heap [(tb, instObj 217 dt), (dt, dictOf (tabEs w.params k1 k2 k3 k4 b p i q) e), (p, op), (i, oi), (q, oq)] := news_sub N fun p hp => by
    simp only [List.mem_cons, List.not_mem_nil, or_false] at hp
    rcases hp with rfl | rfl | rfl | rfl | rfl <;> assumption
  exact isop_0 B F X T hk hd hu N2 lp li lq hp hi hq (kvs_get hkp).2 (kvs_get hki).2 (kvs_get hkq).2 fun h' tk' kp F' => hret h' tk' F' (news_same N kp)
end

/-! ## what the standard's rows make of a table -/
def tyOf (y : Str) : Ty := if y = tyStr 0 then 0 else if y = tyStr 1 then 1 else if y = tyStr 2 then 2 else if y = tyStr 3 then 3 else if y = tyStr 4 then 4 else if y = tyStr 5 then 5 else 6
structure St where
  xs : List Str
  D : Kd → List (Int × Ent)
def St.add (S : St) (pr : Int) (t : Ty) (y : Str) : St := ⟨atomAdd S.xs y, tput S.D t ((S.xs.idxOf y : Nat) : Int) pr⟩
def St.row (S : St) (d : Int × Str × List Str) : St := d.2.2.foldl (fun S y => S.add d.1 (tyOf d.2.1) y) S
def st0 : St := ⟨fixedAtoms, tput (fun _ => []) 3 7 1000⟩
def stStd : St := stdRows.foldl St.row st0
def St.size (S : St) (n : Nat) : Prop := S.xs.length ≤ n ∧ ∀ k, (S.D k).length ≤ n
theorem dput_length (D : List (Int × Ent)) (a : Int) (e : Ent) : (dput D a e).length ≤ D.length + 1 := by
  unfold dput; split <;> simp
theorem St.size_add {S : St} {n : Nat} (h : S.size n) (pr : Int) (t : Ty) (y : Str) : (S.add pr t y).size (n + 1) := by
  refine ⟨?_, fun k => ?_⟩
  · show (atomAdd S.xs y).length ≤ n + 1
    unfold atomAdd
    have := h.1
    split
    · omega
    · simp; omega
  · show (tput S.D t _ pr k).length ≤ n + 1
    unfold tput
    have := h.2 k
    split
    · exact Nat.le_trans (dput_length _ _ _) (by omega)
    · omega
theorem St.size_adds (pr : Int) (t : Ty) : ∀ (ys : List Str) {S : St} {n : Nat}, S.size n → (ys.foldl (fun S y => S.add pr t y) S).size (n + ys.length)
  | [], _, _, h => h
  | y :: ys, S, n, h => by
    have := St.size_adds pr t ys (St.size_add h pr t y)
    rw [List.foldl_cons, List.length_cons]
    rwa [Nat.add_assoc, Nat.add_comm 1] at this
theorem St.size_rows : ∀ (ds : List (Int × Str × List Str)) {S : St} {n : Nat}, S.size n → (ds.foldl St.row S).size (n + (ds.map (·.2.2.length)).sum)
  | [], _, _, h => h
  | d :: ds, S, n, h => by
    have := St.size_rows ds (St.size_adds d.1 (tyOf d.2.1) d.2.2 h)
    rw [List.foldl_cons, List.map_cons, List.sum_cons, ← Nat.add_assoc]
    exact this

example : stStd.xs.length = 56 ∧ (stStd.D 0).length = 8 ∧ (stStd.D 1).length = 36 ∧ (stStd.D 2).length = 0 ∧ dget (stStd.D 1) 7 = some (1000, 3) := by decide +kernel
end

section


abbrev tabLed (P : Params) (tb dt p i q b db t n f fn : Addr) (j1 j2 j3 j4 k1 k2 k3 k4 : Tok) (ee e1 : Nat) (op oi oq : Obj) (ts : Array Value) (n1 : Nat) (o : Obj) (rest : List (Addr × Obj)) : List (Addr × Obj) :=
  (tb, instObj 217 dt) :: (dt, dictOf (tabEs P j1 j2 j3 j4 b p i q) ee) :: (p, op) :: (i, oi) :: (q, oq) :: (b, instObj 122 db) :: (db, dictOf (symEs P k1 k2 k3 k4 t n f fn) e1) :: (t, PySem.W.listOf ts n1) :: (n, o) :: rest
theorem atoms_cls {prog : Program} {w : World} {o : Obj} {ts : Array Value} {xs : List Str} (h : Atoms prog w o ts xs) : o.cls = .type "dict" := let ⟨_, a, _⟩ := h; isDict_cls a
/-- tuples of the ledger lie off the tables and the book -/
theorem tup_off {prog : Program} {w : World} {h₀ h : Heap} {L : Addr} {R news : List (Addr × Obj)} {p i q n t : Addr} {op oi oq o : Obj} {ts : Array Value} {n1 : Nat} {R' : List (Addr × Obj)} {D : Kd → List (Int × Ent)} {xs : List Str}
    (N : News h₀ L h news) (mp : (p, op) ∈ news) (mi : (i, oi) ∈ news) (mq : (q, oq) ∈ news) (mn : (n, o) ∈ news) (mt : (t, PySem.W.listOf ts n1) ∈ news) (TS : TabS prog w R' op oi oq D) (A : Atoms prog w o ts xs)
    (hR : ∀ z ∈ R, z ∈ news) (hc : ∀ z ∈ R, z.2.cls = .type "tuple") : OwnOff R [p, i, q, n, t] := fun z hz c hcm => by
  have cd : ∀ {o : Obj}, o.cls = .type "dict" → Value.type "tuple" ≠ o.cls := fun e h => by rw [e] at h; injection h with h; exact absurd h (by decide)
  simp only [List.mem_cons, List.not_mem_nil, or_false] at hcm
  rcases hcm with rfl | rfl | rfl | rfl | rfl
  · exact news_ne N (hR z hz) mp (by rw [hc z hz]; exact cd TS.1.cls)
  · exact news_ne N (hR z hz) mi (by rw [hc z hz]; exact cd TS.2.1.cls)
  · exact news_ne N (hR z hz) mq (by rw [hc z hz]; exact cd TS.2.2.cls)
  · exact news_ne N (hR z hz) mn (by rw [hc z hz]; exact cd (atoms_cls A))
  · exact news_ne N (hR z hz) mt (by rw [hc z hz]; intro h; injection h with h; exact absurd h (by decide))
def stOf (std : Bool) : St := if std = true then stStd else st0
section
variable {prog : Program} {w : World} {mean : ExcName → Option Value} {mg mb : Str → Option Value} {dp un : Nat} {gd : Option (List Code)} {cn : Str} {cs : Scope} {a : Addr} {ccd : Value} {cl : List (Str × Addr)} {outer : List Env} {A₀ : Around} {base h₀ : Heap} {L : Addr} {m : Str → Option Value} {s : Shared} {Q E : Value → Shared → Prop} {news : List (Addr × Obj)}

set_option maxHeartbeats 16000000 in
theorem table_new {std : Bool} {b db t n f fn : Addr} {k1 k2 k3 k4 : Tok} {e1 n1 : Nat} {ts : Array Value} {o : Obj} (B : Below A₀ base outer h₀) (F : Fr h₀ L s.heap m) (X : (hd.heap_39 w.params).In h₀) (T : Top hd.view_39 (looseW hd.view_39 []) mean mg mb h₀) (hk : cs.kind = .function) (hd : dp + 30 < recursionLimit) (hu : un + 200 < cLine)
   (N : News h₀ L s.heap ((b, instObj 122 db) :: (db, dictOf (symEs w.params k1 k2 k3 k4 t n f fn) e1) :: (t, PySem.W.listOf ts n1) :: (n, o) :: news)) (hA : Atoms prog w o ts fixedAtoms) (lon : (n == sysModules) = false)
   (ON : OwnOff news [n, t]) (e1' : @Ne Nat b t) (e2 : @Ne Nat b n) (e3 : @Ne Nat db t) (e4 : @Ne Nat db n) (e5 : @Ne Nat t n)
   (hret : ∀ tb dt p i q h' tk' j1 j2 j3 j4 ee op oi oq n1' o' ts' R, Fr h₀ L h' m →
      News h₀ L h' ((tb, instObj 217 dt) :: (dt, dictOf (tabEs w.params j1 j2 j3 j4 b p i q) ee) :: (p, op) :: (i, oi) :: (q, oq) :: (b, instObj 122 db) :: (db, dictOf (symEs w.params k1 k2 k3 k4 t n f fn) e1) :: (t, PySem.W.listOf ts' n1') :: (n, o') :: (R ++ news)) →
      (∀ z ∈ R, z.2.cls = .type "tuple") → Atoms prog w o' ts' (stOf std).xs → TabS prog w R op oi oq (stOf std).D → (p == sysModules) = false → (i == sysModules) = false → (q == sysModules) = false →
      (∀ z ∈ (b, instObj 122 db) :: (db, dictOf (symEs w.params k1 k2 k3 k4 t n f fn) e1) :: (t, PySem.W.listOf ts n1) :: (n, o) :: news, z.1 < dt) → dt < tb → tb < p → p < i → i < q → Q (.ref tb) { s with heap := h', toks := tk' }) :
   wpAny (model prog w) (ktrTop dp un gd cn cs L a ccd cl outer) (call (.ref 217) [.ref b, .bool std]) Q E s := by
  k_with_none
  w_top off
  k_with "exec For Tuple Call cons nil" => (k_here; k_dflt (refine' For_turns ?w9FZ ?_; (case w9FZ => k_asm)))
  k_with "exec For Name Name cons nil" => (k_here; k_dflt (refine' For_turns ?w9FZ ?_; (case w9FZ => k_asm)))
  k_with "pyIter ref" => (refine stop ?_)
  k_with "call ref" => (k_here; (with_reducible show wpAny _ _ (call (Value.ref 136) _) _ _ _); refine stop ?_)
  k_with "eval Name" => (k_here; k_dflt (refine' ld ?w9k1Z ?w9k2Z ?_; (case w9k1Z => k_asm); (case w9k2Z => first | exact rfl | ((repeat (refine (if_neg (by decide +kernel)).trans ?_)); first | exact rfl | assumption)); k_whole))
  k_with "call ref" => (k_here; (with_reducible show wpAny _ _ (call (Value.ref 56) _) _ _ _); k_dflt (refine' atom_c ?w9k1Z ?w9k2Z ?w9k3Z ?w9k4Z ?w9k5Z ?w9k6Z ?w9k7Z ?w9NZ ?w9m1Z ?w9m2Z ?w9UZ ?w9VZ ?w9d5Z ?w9loZ ?w9AZ ?w9hzZ ?_; (case w9k1Z => k_asm); (case w9k2Z => k_asm); (case w9k3Z => k_asm); (case w9k4Z => k_asm); (case w9k5Z => exact rfl); (case w9k6Z => ktr_room); (case w9k7Z => ktr_units); (case w9NZ => k_asm); (case w9m1Z => k_mem); (case w9m2Z => k_mem); (case w9UZ => k_updF); (case w9VZ => (intro qo9Z; k_updF)); (case w9d5Z => k_ne); (case w9loZ => k_asm); (case w9AZ => k_asm); (case w9hzZ => assumption); k_whole); intro qhZ qtkZ qoZ qtsZ qn1Z qtkZ qFZ qNZ qAZ; (try dsimp only at qNZ); (try k_sweep))
  k_with "call ref" => (k_here; (with_reducible show wpAny _ _ (call (Value.ref 207) _) _ _ _); refine stop ?_)
  k_with "call ref" => (k_here; (with_reducible show wpAny _ _ (call (Value.ref 207) _) _ _ _); k_dflt (refine' add_set_s _ ?w9k1Z ?w9k2Z ?w9k3Z ?w9k4Z ?w9k5Z ?w9k6Z ?w9k7Z ?w9NZ ?w9m1Z ?w9m2Z ?w9U1Z ?w9U2Z ?w9U3Z ?w9d1Z ?w9d2Z ?w9d3Z ?w9d4Z ?w9d5Z ?w9d6Z ?w9lpZ ?w9liZ ?w9lqZ ?w9TSZ ?w9hzZ ?w9hpZ ?_; (case w9k1Z => k_asm); (case w9k2Z => k_asm); (case w9k3Z => k_asm); (case w9k4Z => k_asm); (case w9k5Z => exact rfl); (case w9k6Z => ktr_room); (case w9k7Z => ktr_units); (case w9NZ => k_asm); (case w9m1Z => k_mem); (case w9m2Z => k_mem); (case w9U1Z => k_updF); (case w9U2Z => (intro qo9Z; k_updF)); (case w9U3Z => (intro qo9Z qo8Z; k_updF)); (case w9d1Z => k_ne); (case w9d2Z => k_ne); (case w9d3Z => k_ne); (case w9d4Z => k_ne); (case w9d5Z => k_ne); (case w9d6Z => k_ne); (case w9lpZ => k_asm); (case w9liZ => k_asm); (case w9lqZ => k_asm); (case w9TSZ => k_asm); (case w9hzZ => assumption); (case w9hpZ => assumption); k_whole); intro qxZ qhZ qtkZ qopZ qoiZ qoqZ qFZ qNZ qTSZ; (try dsimp only at qNZ); (try k_sweep))
  k_dflt (refine' call_cls ?k1 ?k2 ?k3 ?k4 ?k5 ?k6 ?_; (case k1 => k_asm); (case k2 => k_asm); (case k3 => k_asm); (case k4 => k_is); (case k5 => k_is); (case k6 => k_is); k_whole; intro tb dt h₁ F₁ N₁ l1 l2)
  have l1' := l1
  k_lt l1'
  k_lt2 l2
  have OO : OwnOff news [tb, dt] := fun p hp c hc => by
    have : @LT.lt Nat _ p.1 dt := l1 p (.tail _ (.tail _ (.tail _ (.tail _ hp))))
    simp only [List.mem_cons, List.not_mem_nil, or_false] at hc
    rcases hc with rfl | rfl <;> exact neN (by omega)
  k_dflt cell_enter
  k_steps
  refine Stop.go ?_
  rename News _ _ _ _ => N2
  rename Fr _ _ _ _ => F2
  obtain ⟨p, i, q, op, oi, oq, j1, j2, j3, j4, ee, N3, lp, li, lq, hip, hii, hiq, q1, q2, q3, m₀, F3, hself, hsym, hstd⟩ : ∃ p i q op oi oq j1 j2 j3 j4 ee, News _ _ _ ((q, oq) :: (i, oi) :: (p, op) :: (tb, instObj 217 dt) :: (dt, dictOf (tabEs w.params j1 j2 j3 j4 b p i q) ee) :: (b, instObj 122 db) :: (db, dictOf (symEs w.params k1 k2 k3 k4 t n f fn) e1) :: (t, PySem.W.listOf ts n1) :: (n, o) :: news) ∧
      (p == sysModules) = false ∧ (i == sysModules) = false ∧ (q == sysModules) = false ∧ op.IsDictOf (PySem.intKind prog w) [] ∧ oi.IsDictOf (PySem.intKind prog w) [] ∧ oq.IsDictOf (PySem.intKind prog w) [] ∧ @LT.lt Nat _ tb p ∧ @LT.lt Nat _ p i ∧ @LT.lt Nat _ i q ∧
      ∃ m₀ : Str → Option Value, Fr _ _ _ m₀ ∧ m₀ (Str.ofString "self") = some (.ref tb) ∧ m₀ (Str.ofString "symbols") = some (.ref b) ∧ m₀ (Str.ofString "standard") = some (.bool std) :=
    ⟨_, _, _, _, _, _, _, _, _, _, _, N2, by assumption, by assumption, by assumption, by assumption, by assumption, by assumption, by omega, by omega, by omega, _, F2, rfl, rfl, rfl⟩
  clear N2 F2
  have N4 : News _ _ _ ((tb, instObj 217 dt) :: (dt, dictOf (tabEs w.params j1 j2 j3 j4 b p i q) ee) :: (p, op) :: (i, oi) :: (q, oq) :: (b, instObj 122 db) :: (db, dictOf (symEs w.params k1 k2 k3 k4 t n f fn) e1) :: (t, PySem.W.listOf ts n1) :: (n, o) :: news) := news_sub N3 fun pp hp' => by
    revert pp hp'; walk_at "my sub"
  clear N3
  have ON2 : OwnOff news [p, i, q, n, t] := fun z hz c hc => by
    have : @LT.lt Nat _ z.1 dt := l1 z (.tail _ (.tail _ (.tail _ (.tail _ hz))))
    simp only [List.mem_cons, List.not_mem_nil, or_false] at hc
    rcases hc with rfl | rfl | rfl | rfl | rfl
    · exact neN (by omega)
    · exact neN (by omega)
    · exact neN (by omega)
    · exact ON z hz _ (by walk_at "my in")
    · exact ON z hz _ (by walk_at "my in")
  have ON3 : OwnOff news [p, i, q] := ownOff_sub ON2 fun c hc => by
    simp only [List.mem_cons, List.not_mem_nil, or_false] at hc ⊢
    rcases hc with rfl | rfl | rfl <;> simp
  clear OO ON
  k_dflt (refine' add_set_s 3 (R := []) (D := fun _ => []) ?k1 ?k2 ?k3 ?k4 ?k5 ?k6 ?k7 ?N ?m1 ?m2 ?U1 ?U2 ?U3 ?d1 ?d2 ?d3 ?d4 ?d5 ?d6 lp li lq ⟨⟨[], hip, .nil⟩, ⟨[], hii, .nil⟩, ⟨[], hiq, .nil⟩⟩ (fun k => Nat.zero_le _) (by decide) ?_; (case k1 => k_asm); (case k2 => k_asm); (case k3 => k_asm); (case k4 => k_asm); (case k5 => exact rfl); (case k6 => ktr_room); (case k7 => ktr_units); (case N => k_asm); (case m1 => k_mem); (case m2 => k_mem); (case U1 => k_updF); (case U2 => (intro o9; k_updF)); (case U3 => (intro o9 o8; k_updF)); (case d1 => k_ne); (case d2 => k_ne); (case d3 => k_ne); (case d4 => k_ne); (case d5 => k_ne); (case d6 => k_ne); k_whole)
  intro xc h3 tk3 op1 oi1 oq1 F4 N5 TS1
  (try dsimp only at N5)
  clear N4
  obtain ⟨okc, hokc, N5, TS1⟩ : ∃ okc : Obj, okc.cls = .type "tuple" ∧ News _ _ h3 ((xc, okc) :: tabLed w.params tb dt p i q b db t n f fn j1 j2 j3 j4 k1 k2 k3 k4 ee e1 op1 oi1 oq1 ts n1 o news) ∧ TabS prog w [(xc, okc)] op1 oi1 oq1 st0.D := ⟨_, rfl, N5, TS1⟩
  cases std
  · k_steps
    rename News _ _ _ _ => N6
    rename Fr _ _ _ _ => F6
    exact hret tb dt p i q _ _ j1 j2 j3 j4 ee op1 oi1 oq1 n1 o ts [_] F6 (news_sub N6 fun z hz => by
      revert z hz; walk_at "my sub") (fun z hz => by rw [List.mem_singleton.mp hz]; exact hokc) hA TS1 lp li lq (fun z hz => l1 z hz) l2 q1 q2 q3
  · k_steps
    refine Stop.go ?_
    k_dflt (refine' std_rows_0 ?k1 ?k2 ?k3 ?k4 ?k5 ?k6 ?k7 ?_; (case k1 => k_asm); (case k2 => k_asm); (case k3 => k_asm); (case k4 => k_asm); (case k5 => exact rfl); (case k6 => ktr_room); (case k7 => ktr_units); k_whole)
    intro xr vr R2 h4 tk4 kp F6 N6 RT2 hRo
    have N7 := news_more N5 kp N6
    clear N6 kp
    k_steps
    refine Stop.go ?_
    have ne7 : ∀ c oc, (c, oc) ∈ (xc, okc) :: tabLed w.params tb dt p i q b db t n f fn j1 j2 j3 j4 k1 k2 k3 k4 ee e1 op1 oi1 oq1 ts n1 o news → oc.cls ≠ .type "tuple" → c ≠ xr := fun c oc hz hc => news_ne N7 (p := (c, oc)) (List.mem_append_right _ hz) (List.mem_append_left _ (.head _)) hc
    have cd : ∀ {o : Obj}, o.cls = .type "dict" → o.cls ≠ .type "tuple" := fun e h => by rw [e] at h; injection h with h; exact absurd h (by decide)
    refine turns_tuple (vs := vr) (adr := [p, i, q, n, t]) (news₀ := tabLed w.params tb dt p i q b db t n f fn j1 j2 j3 j4 k1 k2 k3 k4 ee e1 op1 oi1 oq1 ts n1 o ([(xc, okc)] ++ (R2 ++ news)))
      (fun r m nw => ∃ op oi oq ts n1 o R, nw = tabLed w.params tb dt p i q b db t n f fn j1 j2 j3 j4 k1 k2 k3 k4 ee e1 op oi oq ts n1 o (R ++ (R2 ++ news)) ∧ (∀ z ∈ R, z.2.cls = .type "tuple") ∧ Atoms prog w o ts ((stdRows.take r).foldl St.row st0).xs ∧
        TabS prog w R op oi oq ((stdRows.take r).foldl St.row st0).D ∧ m (Str.ofString "self") = some (.ref tb) ∧ m (Str.ofString "symbols") = some (.ref b))
      rfl F6 (news_sub N7 fun z hz => ?_) ⟨_, (N7 _ (List.mem_append_left _ (.head _))).1, rfl, 0, rfl⟩ (N7 _ (List.mem_append_left _ (.head _))).2.1 ?_ ⟨op1, oi1, oq1, ts, n1, o, [(xc, okc)], rfl, (fun z hz => by rw [List.mem_singleton.mp hz]; exact hokc), hA, TS1, hself, hsym⟩ ?_ ?_
    · revert z hz; walk_at "my sub"
    · intro c hc
      simp only [List.mem_cons, List.not_mem_nil, or_false] at hc
      rcases hc with rfl | rfl | rfl | rfl | rfl
      · exact ⟨ne7 _ op1 (by walk_at "my in") (cd TS1.1.cls), op1, by walk_at "my in"⟩
      · exact ⟨ne7 _ oi1 (by walk_at "my in") (cd TS1.2.1.cls), oi1, by walk_at "my in"⟩
      · exact ⟨ne7 _ oq1 (by walk_at "my in") (cd TS1.2.2.cls), oq1, by walk_at "my in"⟩
      · exact ⟨ne7 _ o (by walk_at "my in") (cd (atoms_cls hA)), o, by walk_at "my in"⟩
      · exact ⟨ne7 _ (PySem.W.listOf ts n1) (by walk_at "my in") (by intro h; injection h with h; exact absurd h (by decide)), PySem.W.listOf ts n1, by walk_at "my in"⟩
    · clear ne7 N7 N5 F6 F4 F3 TS1 hA hself hsym
      intro r v m₁ nw h tk own hv hP9 hown F8 N8
      obtain ⟨op, oi, oq, ts, n1, o, R, e, RT, hA, TS, hself, hsym⟩ := hP9
      obtain ⟨d, hdr, x, tx1, tx2, y, vs, rfl, hm1, hm2, hvs⟩ := hRo.get hv
      subst e
      have hdm := List.mem_of_getElem? hdr
      have hty : d.2.1 = tyStr (tyOf d.2.1) := (by decide +kernel : ∀ d ∈ stdRows, d.2.1 = tyStr (tyOf d.2.1)) d hdm
      have hpr : 0 < d.1 := (by decide +kernel : ∀ d ∈ stdRows, 0 < d.1) d hdm
      have hnl : d.2.2.length ≤ 20 := (by decide +kernel : ∀ d ∈ stdRows, d.2.2.length ≤ 20) d hdm
      have hr : r < 13 := by
        have h13 : stdRows.length = 13 := by decide +kernel
        rw [← h13]; exact (List.getElem?_eq_some_iff.mp hdr).1
      have hsum : ((stdRows.take r).map (·.2.2.length)).sum ≤ 50 := (by decide +kernel : ∀ r : Fin 13, ((stdRows.take r.1).map (·.2.2.length)).sum ≤ 50) ⟨r, hr⟩
      have hs0 : ((stdRows.take r).foldl St.row st0).size 80 := by
        have h0 : st0.size 29 := ⟨by decide +kernel, by decide +kernel⟩
        have := St.size_rows (stdRows.take r) h0
        exact ⟨Nat.le_trans this.1 (by omega), fun k => Nat.le_trans (this.2 k) (by omega)⟩
      obtain ⟨T, hT⟩ : ∃ T, T = tyOf d.2.1 := ⟨_, rfl⟩
      rw [← hT] at hty
      rw [hty] at hm1
      have hrow : (stdRows.take (r + 1)).foldl St.row st0 = d.2.2.foldl (fun S y => S.add d.1 T y) ((stdRows.take r).foldl St.row st0) := by
        rw [List.take_add_one, hdr, List.foldl_append, hT]; rfl
      rw [hrow]
      generalize (stdRows.take r).foldl St.row st0 = S at hA TS hs0
      clear hrow
      have mR2 : ∀ z ∈ R2, z ∈ tabLed w.params tb dt p i q b db t n f fn j1 j2 j3 j4 k1 k2 k3 k4 ee e1 op oi oq ts n1 o (R ++ (R2 ++ news)) ++ own := fun z hz => List.mem_append_left _ (by walk_at "my in")
      have OR2 := tup_off (R := R2) (p := p) (i := i) (q := q) (n := n) (t := t) (ts := ts) (n1 := n1) N8 (List.mem_append_left _ (by walk_at "my in")) (List.mem_append_left _ (by walk_at "my in")) (List.mem_append_left _ (by walk_at "my in")) (List.mem_append_left _ (by walk_at "my in")) (List.mem_append_left _ (by walk_at "my in")) TS hA mR2 RT2
      have OR := tup_off (R := R) (p := p) (i := i) (q := q) (n := n) (t := t) (ts := ts) (n1 := n1) N8 (List.mem_append_left _ (by walk_at "my in")) (List.mem_append_left _ (by walk_at "my in")) (List.mem_append_left _ (by walk_at "my in")) (List.mem_append_left _ (by walk_at "my in")) (List.mem_append_left _ (by walk_at "my in")) TS hA (fun z hz => List.mem_append_left _ (by walk_at "my in")) RT
      have OZ : OwnOff (R2 ++ news ++ own) [p, i, q, n, t] := ownOff_app (ownOff_app OR2 ON2) hown
      have y1 : @Ne Nat y p := OR2 _ hm2 p (by walk_at "my in")
      have y2 : @Ne Nat y i := OR2 _ hm2 i (by walk_at "my in")
      have y3 : @Ne Nat y q := OR2 _ hm2 q (by walk_at "my in")
      have y4 : @Ne Nat y n := OR2 _ hm2 n (by walk_at "my in")
      have y5 : @Ne Nat y t := OR2 _ hm2 t (by walk_at "my in")
      have N9 : News _ _ h ((x, tupObj [.int d.1 tx1, .str (tyStr T) tx2, .ref y]) :: (y, tupObj vs) :: tabLed w.params tb dt p i q b db t n f fn j1 j2 j3 j4 k1 k2 k3 k4 ee e1 op oi oq ts n1 o (R ++ (R2 ++ news ++ own))) := news_sub N8 (sub_mem (mR2 _ hm1) (sub_mem (mR2 _ hm2) (by walk_at "my sub")))
      clear N8 mR2 OR OR2 hm1 hm2
      generalize hZ : R2 ++ news ++ own = Z at N9 OZ
      k_steps
      refine Stop.go ?_
      rename News _ _ _ _ => N10
      rename Fr _ _ _ _ => F10
      obtain ⟨m₂, F11, gself, gsym, gpr, gty⟩ : ∃ m₂ : Str → Option Value, Fr _ _ _ m₂ ∧ m₂ (Str.ofString "self") = some (.ref tb) ∧ m₂ (Str.ofString "symbols") = some (.ref b) ∧ m₂ (Str.ofString "priority") = some (.int d.1 tx1) ∧ m₂ (Str.ofString "type_text") = some (.str (tyStr T) tx2) := by
        refine ⟨_, F10, ?_, ?_, ?_, ?_⟩ <;> ((repeat (refine (if_neg (by decide +kernel)).trans ?_)); first | exact rfl | assumption | exact if_pos rfl)
      refine turns_tuple (vs := vs) (adr := [p, i, q, n, t]) (news₀ := tabLed w.params tb dt p i q b db t n f fn j1 j2 j3 j4 k1 k2 k3 k4 ee e1 op oi oq ts n1 o (R ++ Z))
        (fun j m nw => ∃ op oi oq ts n1 o R, nw = tabLed w.params tb dt p i q b db t n f fn j1 j2 j3 j4 k1 k2 k3 k4 ee e1 op oi oq ts n1 o (R ++ Z) ∧ (∀ z ∈ R, z.2.cls = .type "tuple") ∧ Atoms prog w o ts ((d.2.2.take j).foldl (fun S y => S.add d.1 T y) S).xs ∧
          TabS prog w R op oi oq ((d.2.2.take j).foldl (fun S y => S.add d.1 T y) S).D ∧ m (Str.ofString "self") = some (.ref tb) ∧ m (Str.ofString "symbols") = some (.ref b) ∧ m (Str.ofString "priority") = some (.int d.1 tx1) ∧ m (Str.ofString "type_text") = some (.str (tyStr T) tx2))
        rfl F11 (news_sub N10 fun z hz => .tail _ (.tail _ hz)) ⟨_, (N10 _ (.tail _ (.head _))).1, rfl, 0, rfl⟩ (N10 _ (.tail _ (.head _))).2.1 ?_ ⟨op, oi, oq, ts, n1, o, R, rfl, RT, hA, TS, gself, gsym, gpr, gty⟩ ?_ ?_
      · intro c hc
        simp only [List.mem_cons, List.not_mem_nil, or_false] at hc
        rcases hc with rfl | rfl | rfl | rfl | rfl
        · exact ⟨Ne.symm y1, op, by walk_at "my in"⟩
        · exact ⟨Ne.symm y2, oi, by walk_at "my in"⟩
        · exact ⟨Ne.symm y3, oq, by walk_at "my in"⟩
        · exact ⟨Ne.symm y4, o, by walk_at "my in"⟩
        · exact ⟨Ne.symm y5, PySem.W.listOf ts n1, by walk_at "my in"⟩
      · clear N10 F11 F10 gself gsym gpr gty hA TS RT
        intro j v m₁ nw h tk own2 hv2 hP9 hown2 F12 N12
        obtain ⟨op, oi, oq, ts, n1, o, R, e, RT, hA, TS, hself, hsym, hpri, htyp⟩ := hP9
        obtain ⟨nm, hnm, tn, rfl⟩ := hvs.get hv2
        subst e
        have hnext : (d.2.2.take (j + 1)).foldl (fun S y => S.add d.1 T y) S = ((d.2.2.take j).foldl (fun S y => S.add d.1 T y) S).add d.1 T nm := by rw [List.take_add_one, hnm, List.foldl_append]; rfl
        rw [hnext]
        have hsj : ((d.2.2.take j).foldl (fun S y => S.add d.1 T y) S).size 100 := by
          have := St.size_adds d.1 T (d.2.2.take j) hs0
          have hl : (d.2.2.take j).length ≤ 20 := by rw [List.length_take]; omega
          exact ⟨Nat.le_trans this.1 (by omega), fun k => Nat.le_trans (this.2 k) (by omega)⟩
        generalize (d.2.2.take j).foldl (fun S y => S.add d.1 T y) S = S' at hA TS hsj
        clear hnext
        have hz1 : S'.xs.length ≤ 900 := Nat.le_trans hsj.1 (by omega)
        have hz2 : ∀ k, (S'.D k).length ≤ 1000 := fun k => Nat.le_trans (hsj.2 k) (by omega)
        have OR := tup_off (R := R) (p := p) (i := i) (q := q) (n := n) (t := t) (ts := ts) (n1 := n1) N12 (List.mem_append_left _ (by walk_at "my in")) (List.mem_append_left _ (by walk_at "my in")) (List.mem_append_left _ (by walk_at "my in")) (List.mem_append_left _ (by walk_at "my in")) (List.mem_append_left _ (by walk_at "my in")) TS hA (fun z hz => List.mem_append_left _ (by walk_at "my in")) RT
        have OS : OwnOff (R ++ Z ++ own2) [p, i, q, n, t] := ownOff_app (ownOff_app OR OZ) hown2
        have N13 : News _ _ h (tabLed w.params tb dt p i q b db t n f fn j1 j2 j3 j4 k1 k2 k3 k4 ee e1 op oi oq ts n1 o (R ++ Z ++ own2)) := N12
        clear N12 OR
        generalize hS2 : R ++ Z ++ own2 = S2 at N13 OS
        dsimp only [tabLed] at N13
        k_steps
        rename News _ _ _ _ => N14
        rename Fr _ _ _ _ => F14
        rename TabS _ _ _ _ _ _ _ => TS2
        rename Atoms _ _ _ _ _ => A2
        subst hS2
        obtain ⟨x', op', oi', oq', ts', n1', o', N14, TS2, A2⟩ : ∃ x' op' oi' oq' ts' n1' o', News _ _ _ ((x', tupObj [.int d.1 tx1, .str (tyStr T) tx2]) :: tabLed w.params tb dt p i q b db t n f fn j1 j2 j3 j4 k1 k2 k3 k4 ee e1 op' oi' oq' ts' n1' o' (R ++ Z ++ own2)) ∧
            TabS prog w ((x', tupObj [.int d.1 tx1, .str (tyStr T) tx2]) :: R) op' oi' oq' (S'.add d.1 T nm).D ∧ Atoms prog w o' ts' (S'.add d.1 T nm).xs := ⟨_, _, _, _, _, _, _, N14, TS2, A2⟩
        refine turn_next F14 ⟨op', oi', oq', ts', n1', o', (x', tupObj [.int d.1 tx1, .str (tyStr T) tx2]) :: R, rfl, ?_, A2, TS2, ?_, ?_, ?_, ?_⟩ (news_sub N14 fun z hz => ?_) fun z hz => ?_
        · exact fun z hz => (List.mem_cons.mp hz).elim (fun e => by rw [e]) (RT z)
        · exact (if_neg (by decide +kernel)).trans hself
        · exact (if_neg (by decide +kernel)).trans hsym
        · exact (if_neg (by decide +kernel)).trans hpri
        · exact (if_neg (by decide +kernel)).trans htyp
        · revert z hz; walk_at "my sub"
        · revert z hz; walk_at "my adr"
      · clear N10 F11 F10 gself gsym gpr gty hA TS RT
        intro m₁ nw h tk hP9 F12 N12
        obtain ⟨op, oi, oq, ts, n1, o, R, e, RT, hA, TS, hself, hsym, hpri, htyp⟩ := hP9
        subst e
        rw [hvs.length, List.take_length] at hA TS
        k_steps
        subst hZ
        rename News _ _ _ _ => N15
        rename Fr _ _ _ _ => F15
        refine turn_next F15 ⟨op, oi, oq, ts, n1, o, R, rfl, RT, hA, TS, hself, hsym⟩ (news_sub N15 fun z hz => ?_) fun z hz => ?_
        · revert z hz; walk_at "my sub"
        · revert z hz; walk_at "my adr"
    · clear ne7 N7 N5 F6 F4 F3 TS1 hA hself hsym
      intro m₁ nw h tk hP9 F8 N8
      obtain ⟨op, oi, oq, ts, n1, o, R, e, RT, hA, TS, hself, hsym⟩ := hP9
      subst e
      rw [hRo.length, List.take_length] at hA TS
      k_steps
      rename News _ _ _ _ => N9
      rename Fr _ _ _ _ => F9
      exact hret tb dt p i q _ _ j1 j2 j3 j4 ee op oi oq n1 o ts (R ++ R2) F9 (news_sub N9 fun z hz => by
        revert z hz; walk_at "my sub") (fun z hz => (List.mem_append.mp hz).elim (RT z) (RT2 z)) hA (TS.mono fun z hz => List.mem_append_left _ hz) lp li lq (fun z hz => l1 z hz) l2 q1 q2 q3
end
end

section
/-! ## the sort's decision tree answers a strict order -/
structure Ord (n : Nat) (lt : Nat → Nat → Bool) : Prop where
  trans : ∀ i j k, i < n → j < n → k < n → lt i j = true → lt j k = true → lt i k = true
  irr : ∀ i, i < n → lt i i = false
  tot : ∀ i j, i < n → j < n → i ≠ j → lt i j = true ∨ lt j i = true
theorem Ord.no {n : Nat} {lt : Nat → Nat → Bool} (o : Ord n lt) {i j : Nat} (hi : i < n) (hj : j < n) (h : lt i j = true) : lt j i = false := by
  cases q : lt j i with
  | false => rfl
  | true => have := o.trans i j i hi hj hi h q; rw [o.irr i hi] at this; cases this

abbrev at' (p : Array Nat) (k : Nat) : Nat := p.getD k 0
structure PermN (n : Nat) (p : Array Nat) : Prop where
  size : p.size = n
  lt : ∀ k, k < n → at' p k < n
  inj : ∀ i j, i < n → j < n → at' p i = at' p j → i = j
  perm : p.toList.Perm (List.range n)
def Up (lt : Nat → Nat → Bool) (p : Array Nat) (m : Nat) : Prop := ∀ i j, i < j → j < m → lt (at' p i) (at' p j) = true
def Down (lt : Nat → Nat → Bool) (p : Array Nat) (m : Nat) : Prop := ∀ i j, i < j → j < m → lt (at' p j) (at' p i) = true

theorem at'_of {p q : Array Nat} {i j : Nat} (h : p[i]? = q[j]?) : at' p i = at' q j := by
  unfold at'
  rw [Array.getD_eq_getD_getElem?, Array.getD_eq_getD_getElem?, h]

theorem PermN.range (n : Nat) : PermN n (List.toArray (List.range n)) where
  size := by simp
  lt := fun k hk => by simp [at', hk]
  inj := fun i j hi hj h => by simpa [at', hi, hj] using h
  perm := by simp
theorem PermN.of_perm {n : Nat} {p q : Array Nat} (P : PermN n p) (h : q.Perm p) : PermN n q := by
  have hl : q.toList.Perm p.toList := h.toList
  have hs : q.size = n := by rw [← P.size, ← Array.length_toList, ← Array.length_toList, hl.length_eq]
  have pn : p.toList.Nodup := by
    refine List.pairwise_iff_getElem.mpr fun i j hi hj hij e => ?_
    have hi' : i < p.size := by rw [← Array.length_toList]; exact hi
    have hj' : j < p.size := by rw [← Array.length_toList]; exact hj
    have := P.inj i j (by rw [← P.size]; exact hi') (by rw [← P.size]; exact hj') (by
      unfold at'
      simp only [Array.getD, hi', hj', dif_pos]
      simpa using e)
    omega
  have qn : q.toList.Nodup := hl.nodup_iff.mpr pn
  refine ⟨hs, fun k hk => ?_, fun i j hi hj e => ?_, hl.trans P.perm⟩
  · have hk' : k < q.size := by omega
    have hm : at' q k ∈ q.toList := by
      unfold at'
      simp only [Array.getD, hk', dif_pos]
      exact Array.mem_toList_iff.mpr (Array.getElem_mem hk')
    obtain ⟨j, hj, e⟩ := List.getElem_of_mem (hl.mem_iff.mp hm)
    have hj' : j < p.size := by rw [← Array.length_toList]; exact hj
    have := P.lt j (by rw [← P.size]; exact hj')
    unfold at' at this
    simp only [Array.getD, hj', dif_pos] at this
    rw [← e]
    simpa using this
  · have hi' : i < q.toList.length := by rw [Array.length_toList]; omega
    have hj' : j < q.toList.length := by rw [Array.length_toList]; omega
    refine (List.getElem?_inj hi' qn).mp ?_
    have h1 : i < q.size := by omega
    have h2 : j < q.size := by omega
    unfold at' at e
    simp only [Array.getD, h1, h2, dif_pos] at e
    rw [Array.getElem?_toList, Array.getElem?_toList, Array.getElem?_eq_getElem h1, Array.getElem?_eq_getElem h2]
    exact congrArg some e

section
variable {n : Nat} {lt : Nat → Nat → Bool} {G : Shared → Prop} {cmp : Nat → Nat → (Bool → Shared → Prop) → Shared → Prop}
def Answers (n : Nat) (lt : Nat → Nat → Bool) (G : Shared → Prop) (cmp : Nat → Nat → (Bool → Shared → Prop) → Shared → Prop) : Prop :=
  ∀ i j C s, i < n → j < n → G s → (∀ s', G s' → C (lt i j) s') → cmp i j C s
variable (o : Ord n lt) (H : Answers n lt G cmp)

include o H
theorem s_asc {p : Array Nat} (P : PermN n p) : ∀ (f a : Nat) (s : Shared) (Q : Nat → Shared → Prop), 1 ≤ a → a + f ≤ n → Up lt p a → G s →
    (∀ m s', a ≤ m → m ≤ a + f → Up lt p m → (m < a + f → lt (at' p m) (at' p (m - 1)) = true) → G s' → Q m s') → (kas_asc p f a).kasWp cmp Q s
  | 0, a, s, Q, h1, hf, hu, g, k => k a s (Nat.le_refl _) (Nat.le_refl _) hu (fun h => absurd h (Nat.lt_irrefl _)) g
  | f + 1, a, s, Q, h1, hf, hu, g, k => by
    show cmp (at' p a) (at' p (a - 1)) (fun c s' => (if c = true then KasT.ret a else kas_asc p f (a + 1)).kasWp cmp Q s') s
    have b1 := P.lt a (by omega)
    have b2 := P.lt (a - 1) (by omega)
    refine H _ _ _ _ b1 b2 g fun s' g' => ?_
    cases q : lt (at' p a) (at' p (a - 1)) with
    | true =>
      rw [if_pos rfl]
      exact k a s' (Nat.le_refl _) (by omega) hu (fun _ => q) g'
    | false =>
      rw [if_neg (by simp)]
      have hl : lt (at' p (a - 1)) (at' p a) = true := by
        rcases o.tot _ _ b1 b2 (fun e => by have := P.inj a (a - 1) (by omega) (by omega) e; omega) with h | h
        · rw [q] at h; cases h
        · exact h
      refine s_asc P f (a + 1) s' Q (by omega) (by omega) (fun i j hij hj => ?_) g' fun m s'' c1 c2 c3 c4 g'' => k m s'' (by omega) (by omega) c3 (fun h => c4 (by omega)) g''
      by_cases hja : j < a
      · exact hu i j hij hja
      · have : j = a := by omega
        subst this
        by_cases hia : i = j - 1
        · subst hia; exact hl
        · exact o.trans _ _ _ (P.lt i (by omega)) b2 b1 (hu i (j - 1) (by omega) (by omega)) hl

theorem s_desc {p : Array Nat} (P : PermN n p) : ∀ (f a : Nat) (s : Shared) (Q : Array Nat × Nat × Nat → Shared → Prop), 1 ≤ a → a + f ≤ n → Down lt p a → G s →
    (∀ m s', a ≤ m → m ≤ a + f → Down lt p m → G s' → Q (p, m, 0) s') → (kas_desc f p a 0).kasWp cmp Q s
  | 0, a, s, Q, h1, hf, hu, g, k => k a s (Nat.le_refl _) (Nat.le_refl _) hu g
  | f + 1, a, s, Q, h1, hf, hu, g, k => by
    show cmp (at' p a) (at' p (a - 1)) (fun c s' => (if c = true then (if 0 > 0 then kas_desc f (kas_rev p (a - (0 + 1)) a) (a + 1) 0 else kas_desc f p (a + 1) 0)
      else KasT.ask (at' p (a - 1)) (at' p a) fun d => if d = true then KasT.ret (p, a, 0) else kas_desc f p (a + 1) (0 + 1)).kasWp cmp Q s') s
    have b1 := P.lt a (by omega)
    have b2 := P.lt (a - 1) (by omega)
    refine H _ _ _ _ b1 b2 g fun s' g' => ?_
    cases q : lt (at' p a) (at' p (a - 1)) with
    | true =>
      rw [if_pos rfl, if_neg (by omega)]
      refine s_desc P f (a + 1) s' Q (by omega) (by omega) (fun i j hij hj => ?_) g' fun m s'' c1 c2 c3 g'' => k m s'' (by omega) (by omega) c3 g''
      by_cases hja : j < a
      · exact hu i j hij hja
      · have : j = a := by omega
        subst this
        by_cases hia : i = j - 1
        · subst hia; exact q
        · exact o.trans _ _ _ b1 b2 (P.lt i (by omega)) q (hu i (j - 1) (by omega) (by omega))
    | false =>
      rw [if_neg (by simp)]
      have hl : lt (at' p (a - 1)) (at' p a) = true := by
        rcases o.tot _ _ b1 b2 (fun e => by have := P.inj a (a - 1) (by omega) (by omega) e; omega) with h | h
        · rw [q] at h; cases h
        · exact h
      show cmp (at' p (a - 1)) (at' p a) (fun d s' => (if d = true then KasT.ret (p, a, 0) else kas_desc f p (a + 1) (0 + 1)).kasWp cmp Q s') s'
      refine H _ _ _ _ b2 b1 g' fun s'' g'' => ?_
      rw [hl, if_pos rfl]
      exact k a s'' (Nat.le_refl _) (by omega) hu g''

theorem s_count {s : Shared} {Q : Nat × Array Nat → Shared → Prop} {p : Array Nat} (P : PermN n p) (hn : 1 ≤ n) (g : G s)
    (k : ∀ m p' s', 1 ≤ m → m ≤ n → PermN n p' → Up lt p' m → G s' → Q (m, p') s') : (kas_count n p).kasWp cmp Q s := by
  unfold kas_count
  rw [KasT.kasWp_bind]
  refine s_asc o H P (n - 1) 1 s _ (Nat.le_refl _) (by omega) (fun i j hij hj => by omega) g fun m s' a1 a2 a3 a4 g' => ?_
  by_cases e1 : m = n
  · subst e1
    show (if (m == m) = true then KasT.ret (m, p) else _ : KasT (Nat × Array Nat)).kasWp cmp Q s'
    rw [if_pos (beq_self_eq_true _)]
    exact k m p s' a1 (by omega) P a3 g'
  · show (if (m == n) = true then KasT.ret (m, p) else if m > 1 then KasT.ask (at' p 0) (at' p (m - 1)) fun c => if c = true then KasT.ret (m, p) else kas_descPart m n (kas_rev p 0 m) else kas_descPart m n p : KasT (Nat × Array Nat)).kasWp cmp Q s'
    rw [if_neg (by simpa using e1)]
    by_cases e2 : m > 1
    · rw [if_pos e2]
      show cmp (at' p 0) (at' p (m - 1)) (fun c s' => (if c = true then KasT.ret (m, p) else kas_descPart m n (kas_rev p 0 m)).kasWp cmp Q s') s'
      refine H _ _ _ _ (P.lt 0 (by omega)) (P.lt (m - 1) (by omega)) g' fun s'' g'' => ?_
      rw [a3 0 (m - 1) (by omega) (by omega), if_pos rfl]
      exact k m p s'' a1 (by omega) P a3 g''
    · rw [if_neg e2]
      have hm : m = 1 := by omega
      subst hm
      have hd := a4 (by omega)
      unfold kas_descPart
      rw [KasT.kasWp_bind]
      refine s_desc o H P (n - (1 + 1)) (1 + 1) s' _ (by omega) (by omega) (fun i j hij hj => ?_) g' fun m s'' c1 c2 c3 g'' => ?_
      · have hi : i = 0 := by omega
        have hj : j = 1 := by omega
        subst hi hj; exact hd
      · show (if (0 : Nat) > 0 then kas_tail3 m n (kas_rev p (m - (0 + 1)) m) else kas_tail3 m n p : KasT (Nat × Array Nat)).kasWp cmp Q s''
        rw [if_neg (by omega)]
        unfold kas_tail3
        rw [KasT.kasWp_bind]
        have P' : PermN n (kas_rev p 0 m) := P.of_perm (mirror_perm _ _ _ _)
        have hat : ∀ i, i < m → at' (kas_rev p 0 m) i = at' p (m - 1 - i) := fun i hi => by
          refine at'_of ?_
          show (mirror p 0 m ((m - 0) / 2))[i]? = _
          rw [getElem?_mirror_all (by rw [P.size]; omega), if_pos ⟨Nat.zero_le _, hi⟩]
          congr 1; omega
        refine s_asc o H P' (n - m) m s'' _ (by omega) (by omega) (fun i j hij hj => ?_) g'' fun m' s3 d1 d2 d3 _ g3 => ?_
        · rw [hat i (by omega), hat j hj]
          exact c3 _ _ (by omega) (by omega)
        · exact k m' _ s3 (by omega) (by omega) P' d3 g3

theorem s_place {p : Array Nat} (P : PermN n p) {k : Nat} (hk : k < n) (hu : Up lt p k) : ∀ (f l r : Nat) (s : Shared) (Q : Nat → Shared → Prop), l ≤ r → r ≤ k → r - l ≤ f →
    (∀ j, j < l → lt (at' p j) (at' p k) = true) → (∀ j, r ≤ j → j < k → lt (at' p k) (at' p j) = true) → G s →
    (∀ m s', m ≤ k → (∀ j, j < m → lt (at' p j) (at' p k) = true) → (∀ j, m ≤ j → j < k → lt (at' p k) (at' p j) = true) → G s' → Q m s') → (kas_place p k f l r).kasWp cmp Q s
  | 0, l, r, s, Q, h1, h2, h3, hl, hr, g, c => c l s (by omega) hl (fun j a b => hr j (by omega) b) g
  | f + 1, l, r, s, Q, h1, h2, h3, hl, hr, g, c => by
    unfold kas_place
    by_cases e : l ≥ r
    · rw [if_pos e]
      exact c l s (by omega) hl (fun j a b => hr j (by omega) b) g
    · rw [if_neg e]
      show cmp (at' p k) (at' p ((l + r) / 2)) (fun c s' => (if c = true then kas_place p k f l ((l + r) / 2) else kas_place p k f ((l + r) / 2 + 1) r).kasWp cmp Q s') s
      have hmid : (l + r) / 2 < k := by omega
      have b1 := P.lt k hk
      have b2 := P.lt ((l + r) / 2) (by omega)
      refine H _ _ _ _ b1 b2 g fun s' g' => ?_
      cases q : lt (at' p k) (at' p ((l + r) / 2)) with
      | true =>
        rw [if_pos rfl]
        refine s_place P hk hu f l ((l + r) / 2) s' Q (by omega) (by omega) (by omega) hl (fun j a b => ?_) g' c
        by_cases hj : j = (l + r) / 2
        · subst hj; exact q
        · exact o.trans _ _ _ b1 b2 (P.lt j (by omega)) q (hu _ _ (by omega) b)
      | false =>
        rw [if_neg (by simp)]
        have hq : lt (at' p ((l + r) / 2)) (at' p k) = true := by
          rcases o.tot _ _ b1 b2 (fun e => by have := P.inj k ((l + r) / 2) (by omega) (by omega) e; omega) with h | h
          · rw [q] at h; cases h
          · exact h
        refine s_place P hk hu f ((l + r) / 2 + 1) r s' Q (by omega) (by omega) (by omega) (fun j a => ?_) hr g' c
        by_cases hj : j = (l + r) / 2
        · subst hj; exact hq
        · exact o.trans _ _ _ (P.lt j (by omega)) b2 b1 (hu _ _ (by omega) hmid) hq

theorem s_bin : ∀ (f : Nat) (p : Array Nat) (k : Nat) (s : Shared) (Q : Array Nat → Shared → Prop), PermN n p → k + f = n → Up lt p k → G s → (∀ p' s', PermN n p' → Up lt p' n → G s' → Q p' s') → (kas_bin f p k).kasWp cmp Q s
  | 0, p, k, s, Q, P, e, hu, g, c => c p s P (by have : k = n := by omega
                                                 subst this; exact hu) g
  | f + 1, p, k, s, Q, P, e, hu, g, c => by
    unfold kas_bin
    rw [KasT.kasWp_bind]
    refine s_place o H P (by omega) hu k 0 k s _ (Nat.zero_le _) (Nat.le_refl _) (by omega) (fun j a => absurd a (Nat.not_lt_zero _)) (fun j a b => by omega) g fun l s' hl h1 h2 g' => ?_
    have hb : ∀ j, at' (bubble p k (k - l)) j = if j = l then at' p k else if l < j ∧ j ≤ k then at' p (j - 1) else at' p j := fun j => by
      have := getElem?_bubble (xs := p) (src := k) (by rw [P.size]; omega) (k - l) (by omega) j
      have e0 : k - (k - l) = l := by omega
      rw [e0] at this
      split
      · rename_i hj; rw [if_pos hj] at this; exact at'_of this
      · rename_i hj
        rw [if_neg hj] at this
        split
        · rename_i hj2; rw [if_pos hj2] at this; exact at'_of this
        · rename_i hj2; rw [if_neg hj2] at this; exact at'_of this
    refine s_bin f _ (k + 1) s' Q (P.of_perm (bubble_perm _ _ _)) (by omega) (fun i j hij hj => ?_) g' c
    rw [hb i, hb j]
    repeat' split
    all_goals first
      | (exfalso; omega)
      | exact h1 _ (by omega)
      | exact h2 _ (by omega) (by omega)
      | exact hu _ _ (by omega) (by omega)

theorem s_sort {s : Shared} {Q : Array Nat → Shared → Prop} (hn : 1 ≤ n) (g : G s) (c : ∀ p s', PermN n p → Up lt p n → G s' → Q p s') : (kas_sort n).kasWp cmp Q s := by
  unfold kas_sort
  rw [KasT.kasWp_bind]
  refine s_count o H (PermN.range n) hn g fun m p s' a1 a2 P hu g' => ?_
  show (if m < n then kas_bin (n - max m 1) p (max m 1) else KasT.ret p : KasT (Array Nat)).kasWp cmp Q s'
  have e : max m 1 = m := by omega
  rw [e]
  split
  · exact s_bin o H _ _ _ _ _ P (by omega) hu g' c
  · have : m = n := by omega
    subst this
    exact c p s' P hu g'
end
end

section
/-! ## rows of operators, sorted -/
abbrev Row := Int × Ty × Int
def tyLt (t t' : Ty) : Bool := decide ((tyStr t).cps.toList < (tyStr t').cps.toList)
def rowLt (r r' : Row) : Bool := if r.1 = r'.1 then (if r.2.1 = r'.2.1 then decide (r.2.2 < r'.2.2) else tyLt r.2.1 r'.2.1) else decide (r.1 < r'.1)
theorem tyLt_trans : ∀ a b c : Ty, tyLt a b = true → tyLt b c = true → tyLt a c = true := by decide +kernel
theorem tyLt_irr : ∀ a : Ty, tyLt a a = false := by decide +kernel
theorem tyLt_tot : ∀ a b : Ty, a ≠ b → tyLt a b = true ∨ tyLt b a = true := by decide +kernel
theorem tyStr_inj : ∀ a b : Ty, tyStr a = tyStr b → a = b := by decide +kernel
theorem rowLt_trans {a b c : Row} (h : rowLt a b = true) (h' : rowLt b c = true) : rowLt a c = true := by
  unfold rowLt at *
  obtain ⟨a1, a2, a3⟩ := a
  obtain ⟨b1, b2, b3⟩ := b
  obtain ⟨c1, c2, c3⟩ := c
  dsimp only at *
  by_cases e1 : a1 = b1
  · subst e1
    rw [if_pos rfl] at h
    by_cases e2 : a1 = c1
    · subst e2
      rw [if_pos rfl] at h' ⊢
      by_cases f1 : a2 = b2
      · subst f1
        rw [if_pos rfl] at h
        by_cases f2 : a2 = c2
        · subst f2
          rw [if_pos rfl] at h' ⊢
          simp only [decide_eq_true_eq] at *
          omega
        · rw [if_neg f2] at h' ⊢; exact h'
      · rw [if_neg f1] at h
        by_cases f2 : b2 = c2
        · subst f2; rw [if_neg f1]; exact h
        · rw [if_neg f2] at h'
          have := tyLt_trans _ _ _ h h'
          by_cases f3 : a2 = c2
          · subst f3; rw [tyLt_irr] at this; cases this
          · rw [if_neg f3]; exact this
    · rw [if_neg e2] at h' ⊢; exact h'
  · rw [if_neg e1] at h
    by_cases e2 : b1 = c1
    · subst e2; rw [if_neg e1]; exact h
    · rw [if_neg e2] at h'
      simp only [decide_eq_true_eq] at *
      have : a1 ≠ c1 := by omega
      rw [if_neg this]
      simp only [decide_eq_true_eq]
      omega
theorem rowLt_irr (a : Row) : rowLt a a = false := by unfold rowLt; simp
theorem rowLt_tot {a b : Row} (h : a ≠ b) : rowLt a b = true ∨ rowLt b a = true := by
  unfold rowLt
  obtain ⟨a1, a2, a3⟩ := a
  obtain ⟨b1, b2, b3⟩ := b
  dsimp only
  by_cases e1 : a1 = b1
  · subst e1
    simp only [if_true]
    by_cases e2 : a2 = b2
    · subst e2
      simp only [if_true, decide_eq_true_eq]
      have : a3 ≠ b3 := fun e => h (by rw [e])
      omega
    · rw [if_neg e2, if_neg (Ne.symm e2)]; exact tyLt_tot _ _ e2
  · rw [if_neg e1, if_neg (Ne.symm e1)]
    simp only [decide_eq_true_eq]
    omega
theorem rows_uniq : ∀ {a b : List Row}, a.Perm b → a.Pairwise (fun x y => rowLt x y = true) → b.Pairwise (fun x y => rowLt x y = true) → a = b
  | [], _, p, _, _ => p.nil_eq
  | x :: r, b, p, ha, hb => by
    cases b with
    | nil => exact absurd p.length_eq (by simp)
    | cons y t =>
      have hx : x ∈ y :: t := p.mem_iff.mp (.head _)
      have hy : y ∈ x :: r := p.mem_iff.mpr (.head _)
      have e : x = y := by
        rcases List.mem_cons.mp hx with h | h
        · exact h
        · rcases List.mem_cons.mp hy with h' | h'
          · exact h'.symm
          · have a1 := (List.pairwise_cons.mp ha).1 y h'
            have a2 := (List.pairwise_cons.mp hb).1 x h
            have := rowLt_trans a1 a2
            rw [rowLt_irr] at this; cases this
      subst e
      rw [rows_uniq (List.Perm.cons_inv p) (List.pairwise_cons.mp ha).2 (List.pairwise_cons.mp hb).2]

def RowV (R : List (Addr × Obj)) (v : Value) (r : Row) : Prop := ∃ x t1 t2 t3, v = .ref x ∧ (x, tupObj [.int r.1 t1, .str (tyStr r.2.1) t2, .int r.2.2 t3]) ∈ R
theorem RowV.mono {R R' : List (Addr × Obj)} {v : Value} {r : Row} (h : RowV R v r) (hR : ∀ p ∈ R, p ∈ R') : RowV R' v r := let ⟨x, t1, t2, t3, a, b⟩ := h; ⟨x, t1, t2, t3, a, hR _ b⟩

section
variable {prog : Program} {w : World} {A : Around} {E : Value → Shared → Prop} {s : Shared} {h₀ : Heap} {L : Addr} {m : Str → Option Value} {news : List (Addr × Obj)}
theorem lt_rows {x y : Addr} {r r' : Row} {t1 t2 t3 u1 u2 u3 : Tok} {C : Bool → Shared → Prop} (hx : s.heap.get? x = some (tupObj [.int r.1 t1, .str (tyStr r.2.1) t2, .int r.2.2 t3]))
    (hy : s.heap.get? y = some (tupObj [.int r'.1 u1, .str (tyStr r'.2.1) u2, .int r'.2.2 u3])) (h : C (rowLt r r') s) : wpAny (model prog w) A (keyLt' (tuples' true) (.ref x) (.ref y)) C (fun _ _ => False) s := by
  refine kat_lt hx rfl hy rfl ?_
  show KatLex prog w A true false C [(.int r.1 t1, .int r'.1 u1), (.str (tyStr r.2.1) t2, .str (tyStr r'.2.1) u2), (.int r.2.2 t3, .int r'.2.2 u3)] 0 s
  unfold rowLt at h
  refine kat_cons (wpAny_eqBool_int ?_)
  by_cases e1 : r.1 = r'.1
  · rw [if_pos e1] at h
    rw [show (r.1 == r'.1) = true by simp [e1]]
    refine kat_yes (kat_cons (wpAny_eqBool_str ?_))
    by_cases e2 : r.2.1 = r'.2.1
    · rw [if_pos e2] at h
      rw [show decide (tyStr r.2.1 = tyStr r'.2.1) = true by simp [e2]]
      refine kat_yes (kat_cons (wpAny_eqBool_int ?_))
      by_cases e3 : r.2.2 = r'.2.2
      · rw [show (r.2.2 == r'.2.2) = true by simp [e3]]
        refine kat_yes (kat_nil ?_)
        rw [show decide (r.2.2 < r'.2.2) = false by simp [e3]] at h
        exact h
      · rw [show (r.2.2 == r'.2.2) = false by simp [e3]]
        refine kat_no (kat_one _ _ (wpAny_lt_int ?_))
        exact h
    · rw [if_neg e2] at h
      rw [show decide (tyStr r.2.1 = tyStr r'.2.1) = false by simp; exact fun q => e2 (tyStr_inj _ _ q)]
      exact kat_no (kat_one _ _ (PyProof.Rows.lt_str h))
  · rw [if_neg e1] at h
    rw [show (r.1 == r'.1) = false by simp [e1]]
    exact kat_no (oneLt_int h)

theorem tups_of {R : List (Addr × Obj)} {h : Heap} (hR : ∀ p ∈ R, h.get? p.1 = some p.2) : ∀ {vs : List Value} {rows : List Row}, All2 (RowV R) vs rows → ∃ fs, KatTups h vs fs ∧ fs.length = rows.length ∧ ∀ v ∈ fs, ∃ i t, v = .int i t
  | _, _, .nil => ⟨[], KatTups.nil, rfl, fun v hv => nomatch hv⟩
  | _, _, .cons hv r => by
    obtain ⟨x, t1, t2, t3, rfl, hm⟩ := hv
    obtain ⟨fs, hf, hl, hi⟩ := tups_of hR r
    refine ⟨_ :: fs, KatTups.cons (hR _ hm) rfl rfl rfl hf, by simp [hl], fun v hv => ?_⟩
    rcases List.mem_cons.mp hv with rfl | hv
    · exact ⟨_, _, rfl⟩
    · exact hi v hv

theorem all2_getD {α β : Type} {P : α → β → Prop} {l : List α} {r : List β} (h : All2 P l r) {i : Nat} (hi : i < r.length) (a : α) (b : β) : P (l.getD i a) (r.getD i b) := by
  have hl : i < l.length := by rw [h.length]; exact hi
  obtain ⟨y, hy, hp⟩ := h.get (List.getElem?_eq_getElem hl)
  simp only [List.getD_eq_getElem?_getD, hy, List.getElem?_eq_getElem hl, Option.getD_some]
  exact hp

theorem sorted_rows {l : Addr} {vs : List Value} {rows : List Row} {R : List (Addr × Obj)} {Q : Value → Shared → Prop} (F : Fr h₀ L s.heap m) (N : News h₀ L s.heap news) (hl : s.heap.IsList l vs.toArray) (hv : All2 (RowV R) vs rows)
    (hR : ∀ p ∈ R, p ∈ news) (hn : rows.Nodup) (h2 : 2 ≤ rows.length) (h64 : rows.length < 64)
    (h : ∀ D vs' rows' c h' tk, Fr h₀ L h' m → News h₀ L h' ((D, PySem.W.listOf vs'.toArray c) :: news) → (∀ q ∈ news, q.1 < D) → All2 (RowV R) vs' rows' → rows'.Perm rows → rows'.Pairwise (fun x y => rowLt x y = true) → Q (.ref D) { s with heap := h', toks := tk }) :
    wpAny (model prog w) A (call (.builtin "sorted") [.ref l]) Q E s := by
  have hlen := hv.length
  refine kat_sorted F N hl (by omega) (by omega) fun D e1 h' F' N' hlt => ?_
  have hR' : ∀ p ∈ R, h'.get? p.1 = some p.2 := fun p hp => (N' p (.tail _ (hR p hp))).1
  obtain ⟨fs, hf, hfl, hfi⟩ := tups_of hR' hv
  refine kat_kind (T := .type "int") hf (by omega) (fun v hv => ?_) rfl ?_
  · obtain ⟨i, t, rfl⟩ := hfi v hv
    exact Looks.of_pure rfl
  show (kas_sort vs.length).kasWp (kas_ask prog w A.in1.in1 (tuples' true) vs) _ _
  rw [hlen]
  let d : Row := (0, 0, 0)
  have o : Ord rows.length (fun i j => rowLt (rows.getD i d) (rows.getD j d)) := by
    refine ⟨fun i j k _ _ _ a b => rowLt_trans a b, fun i _ => rowLt_irr _, fun i j hi hj hne => rowLt_tot fun e => hne ?_⟩
    rw [List.getD_eq_getElem?_getD, List.getD_eq_getElem?_getD, List.getElem?_eq_getElem hi, List.getElem?_eq_getElem hj] at e
    exact (List.getElem?_inj hi hn).mp (by rw [List.getElem?_eq_getElem hi, List.getElem?_eq_getElem hj]; exact congrArg some e)
  refine s_sort o (G := fun s' => s' = { s with heap := h' }) ?_ (by omega) rfl fun p s' P hu g => ?_
  · intro i j C s' hi hj g hC
    subst g
    unfold kas_ask
    obtain ⟨x, t1, t2, t3, ex, hx⟩ := all2_getD hv hi Value.none d
    obtain ⟨y, u1, u2, u3, ey, hy⟩ := all2_getD hv hj Value.none d
    rw [ex, ey]
    exact lt_rows (hR' _ hx) (hR' _ hy) (hC _ rfl)
  · subst g
    refine ⟨(D, seqObj "list" #[] e1) :: news, fun o' => (D, o') :: news, F', N', UpdF.head fun q hq => Nat.ne_of_lt (hlt q hq), fun h2 c F2 N2 => ?_⟩
    have hpl : ∀ i ∈ p.toList, i < rows.length := fun i hi => by
      obtain ⟨k, hk, e⟩ := List.getElem_of_mem hi
      have hk' : k < p.size := by rw [← Array.length_toList]; exact hk
      have := P.lt k (by rw [← P.size]; exact hk')
      unfold at' at this
      simp only [Array.getD, hk', dif_pos] at this
      rw [← e]; simpa using this
    have hperm : p.toList.Perm (List.range rows.length) := P.perm
    have hmap : (List.range rows.length).map (fun i => rows.getD i d) = rows := by
      apply List.ext_getElem?
      intro i
      by_cases hi : i < rows.length
      · simp [hi]
      · simp [hi, Nat.le_of_not_lt hi]
    refine h D (p.toList.map fun i => vs.getD i Value.none) (p.toList.map fun i => rows.getD i d) c h2 _ F2 N2 hlt ?_ (by rw [← hmap]; simpa only [hmap] using hperm.map (fun i => rows.getD i d)) ?_
    · have : ∀ l : List Nat, (∀ i ∈ l, i < rows.length) → All2 (RowV R) (l.map fun i => vs.getD i Value.none) (l.map fun i => rows.getD i d) := fun l => by
        induction l with
        | nil => intro _; exact .nil
        | cons i l ih => intro hl; exact .cons (all2_getD hv (hl i (.head _)) _ _) (ih fun j hj => hl j (.tail _ hj))
      exact this _ hpl
    · rw [List.pairwise_map]
      refine List.pairwise_iff_getElem.mpr fun i j hi hj hij => ?_
      have hj' : j < p.size := by rw [← Array.length_toList]; exact hj
      have hi' : i < p.size := by rw [← Array.length_toList]; exact hi
      have := hu i j hij (by rw [← P.size]; exact hj')
      unfold at' at this
      simp only [Array.getD, hi', hj', dif_pos] at this
      simpa using this
end
end

section
section
variable {prog : Program} {w : World} {A : Around} {E : Value → Shared → Prop} {s : Shared} {h₀ : Heap} {L : Addr} {m : Str → Option Value} {news : List (Addr × Obj)} {vs : List Value} {a : Addr}
theorem list_sort_short {n : Nat} {P : PySem.Fin → Shared → Prop} (F : Fr h₀ L s.heap m) (N : News h₀ L s.heap news) (ho : s.heap.get? a = some (seqObj "list" vs.toArray n)) (haL : a ≠ L) (ha0 : h₀.get? a = none) (hna : ∀ p ∈ news, p.1 ≠ a)
    (h2 : vs.length < 2)
    (h : ∀ c h', Fr h₀ L h' m → News h₀ L h' ((a, PySem.W.listOf vs.toArray c) :: news) → P (.done (.ret .none)) { s with heap := h' }) :
    wpAny (model prog w) A (Builtin.«list.sort» ⟨[.ref a], []⟩) P E s := by
  have ha : a < s.heap.objs.size := Heap.lt_size ho
  have s1 := Heap.SameBut.update s.heap a (Obj.mapSeq fun _ => (#[] : Array Value))
  obtain ⟨e1, ho1⟩ : ∃ e1, (s.heap.update a (Obj.mapSeq fun _ => (#[] : Array Value))).get? a = some (seqObj "list" #[] e1) := ⟨_, get?_update_seq ho fun _ => #[]⟩
  have F3 : Fr h₀ L (((s.heap.update a (Obj.mapSeq fun _ => (#[] : Array Value))).push (seqObj "tuple" vs.toArray 0)).push (seqObj "list" #[] 0)) m := ((kas_fr F s1 haL ha0).push _).push _
  have N2 : News h₀ L (((s.heap.update a (Obj.mapSeq fun _ => (#[] : Array Value))).push (seqObj "tuple" vs.toArray 0)).push (seqObj "list" #[] 0)) news :=
    (kas_news N s1 hna).grown fun b x e => Heap.get?_push_of_some _ (Heap.get?_push_of_some _ e)
  have N3 : News h₀ L (((s.heap.update a (Obj.mapSeq fun _ => (#[] : Array Value))).push (seqObj "tuple" vs.toArray 0)).push (seqObj "list" #[] 0)) ((a, seqObj "list" #[] e1) :: news) := fun p hp => by
    rcases List.mem_cons.mp hp with rfl | hp
    · exact ⟨Heap.get?_push_of_some _ (Heap.get?_push_of_some _ ho1), haL, ha0⟩
    · exact N2 p hp
  have ho6 := (N3 _ (.head _)).1
  rw [list_sort_plain]
  refine wpAny_bind (listItems_at ho rfl ?_)
  refine wpAny_bind (listUpdate_at ho rfl ?_ (by rw [List.size_toArray, sizeLine_eq]; omega) (Nat.zero_le _))
  refine wpAny_bind (seqEpoch_at ho1 rfl ?_)
  refine wpAny_bind (wpAny_newTuple ?_ (by show vs.length ≤ _; rw [sizeLine_eq]; omega))
  refine wpAny_bind (wpAny_newList ?_ (Nat.zero_le _))
  refine wpAny_holding ?_
  show wpAny (model prog w) A _ P E { s with heap := ((s.heap.update a (Obj.mapSeq fun _ => (#[] : Array Value))).push (seqObj "tuple" vs.toArray 0)).push (seqObj "list" #[] 0) }
  dsimp only
  have hn2 : vs.toArray.size < 2 := by rw [List.size_toArray]; omega
  rw [if_pos hn2, if_pos hn2]
  refine wpAny_bind (wpAny_pure ?_)
  rw [StateT.run_pure]
  refine wpAny_bind (wpAny_pure ?_)
  dsimp only
  have hz : (arrOf (SortSt.mk' general' (vs.toArray.zip vs.toArray) #[] 7 none)).map (·.2) = vs.toArray := by
    show (vs.toArray.zip vs.toArray).map (·.2) = vs.toArray
    apply Array.toList_inj.mp
    rw [Array.toList_map, Array.toList_zip]
    exact List.map_snd_zip (Nat.le_refl _)
  rw [hz]
  refine wpAny_bind (seqEpoch_at ho6 rfl ?_)
  refine wpAny_bind (listUpdate_at ho6 rfl ?_ (Nat.zero_le _) (by rw [List.size_toArray, sizeLine_eq]; omega))
  simp only [bne_self_eq_false, Bool.false_eq_true, if_false]
  have s2 := Heap.SameBut.update (((s.heap.update a (Obj.mapSeq fun _ => (#[] : Array Value))).push (seqObj "tuple" vs.toArray 0)).push (seqObj "list" #[] 0)) a (Obj.mapSeq fun _ => vs.toArray)
  obtain ⟨c2, hc2⟩ : ∃ c2, ((((s.heap.update a (Obj.mapSeq fun _ => (#[] : Array Value))).push (seqObj "tuple" vs.toArray 0)).push (seqObj "list" #[] 0)).update a (Obj.mapSeq fun _ => vs.toArray)).get? a = some (seqObj "list" vs.toArray c2) := ⟨_, get?_update_seq ho6 fun _ => vs.toArray⟩
  refine wpAny_pure (h c2 _ (kas_fr F3 s2 haL ha0) ?_)
  exact news_set (pre := []) (post := news) N3 (fun p hp => nomatch hp) (fun p hp => hna p hp) s2 hc2

theorem sorted_short {l : Addr} {Q : Value → Shared → Prop} (F : Fr h₀ L s.heap m) (N : News h₀ L s.heap news) (hl : s.heap.IsList l vs.toArray) (h2 : vs.length < 2)
    (h : ∀ D c h', Fr h₀ L h' m → News h₀ L h' ((D, PySem.W.listOf vs.toArray c) :: news) → (∀ q ∈ news, q.1 < D) → Q (.ref D) { s with heap := h' }) :
    wpAny (model prog w) A (call (.builtin "sorted") [.ref l]) Q E s := by
  refine Calls.call_function_entry kind_sorted plain_sorted entry_sorted (args_sorted1 _) ?_
  unfold Builtin.«sorted»
  refine wpAny_bind (m := checkCount "sorted" 1 1 _) (wpAny_pure ?_)
  refine wpAny_bind (collect_list hl ?_ (by rw [sizeLine_eq]; omega))
  refine wpAny_bind (wpAny_newList ?_ (by rw [sizeLine_eq]; omega))
  have hsz : ((s.heap.push (seqObj "list" #[] 0)).update s.heap.objs.size (Obj.mapSeq (· ++ vs.toArray))).objs.size = s.heap.objs.size + 1 := by
    rw [Heap.size_update, size_push']
  have hoL : (((s.heap.push (seqObj "list" #[] 0)).update s.heap.objs.size (Obj.mapSeq (· ++ vs.toArray))).push (seqObj "list" vs.toArray 0)).get? (s.heap.objs.size + 1) = some (seqObj "list" vs.toArray 0) := by
    rw [← hsz]; exact Heap.get?_push_size _ rfl
  have keep : ∀ b o, s.heap.get? b = some o → (((s.heap.push (seqObj "list" #[] 0)).update s.heap.objs.size (Obj.mapSeq (· ++ vs.toArray))).push (seqObj "list" vs.toArray 0)).get? b = some o := fun b o q => by
    have hlt : b < s.heap.objs.size := Heap.lt_size q
    rw [Heap.get?_push_ne _ _ _ (by rw [hsz]; exact Nat.ne_of_lt (Nat.lt_succ_of_lt hlt)), Heap.get?_update_ne _ _ _ _ (Nat.ne_of_lt hlt), Heap.get?_push_ne _ _ _ (Nat.ne_of_lt hlt)]
    exact q
  have hL : L < s.heap.objs.size := F.ns.lt
  show wpAny _ _ _ _ _ { s with heap := ((s.heap.push (seqObj "list" #[] 0)).update s.heap.objs.size (Obj.mapSeq (· ++ vs.toArray))).push (seqObj "list" vs.toArray 0) }
  rw [hsz]
  refine wpAny_bind (wpAny_holding (wpAny_call_entry slot_list_sort ⟨_, hoL, rfl⟩ entry_list_sort ?body (args_list_sort _)))
  case body =>
    refine list_sort_short (s := { s with heap := ((s.heap.push (seqObj "list" #[] 0)).update s.heap.objs.size (Obj.mapSeq (· ++ vs.toArray))).push (seqObj "list" vs.toArray 0) })
      (F.kept keep) (N.grown keep) hoL (Nat.ne_of_gt (Nat.lt_succ_of_lt hL)) (Heap.get?_none_of_le (Nat.le_trans F.above (Nat.le_succ_of_le (Nat.le_of_lt hL))))
      (fun p hp => Nat.ne_of_lt (Nat.lt_succ_of_lt (Heap.lt_size (N p hp).1))) h2 fun c h' F' N' => ?_
    exact ⟨_, rfl, wpAny_pure ⟨_, rfl, h _ c h' F' N' fun q hq => Nat.lt_succ_of_lt (Heap.lt_size (N q hq).1)⟩⟩

/-- sorted of rows, fewer than 64 -/
theorem sorted_rows' {l : Addr} {rows : List Row} {R : List (Addr × Obj)} {Q : Value → Shared → Prop} (F : Fr h₀ L s.heap m) (N : News h₀ L s.heap news) (hl : s.heap.IsList l vs.toArray) (hv : All2 (RowV R) vs rows)
    (hR : ∀ p ∈ R, p ∈ news) (hn : rows.Nodup) (h64 : rows.length < 64)
    (h : ∀ D vs' rows' c h' tk, Fr h₀ L h' m → News h₀ L h' ((D, PySem.W.listOf vs'.toArray c) :: news) → (∀ q ∈ news, q.1 < D) → All2 (RowV R) vs' rows' → rows'.Perm rows → rows'.Pairwise (fun x y => rowLt x y = true) → Q (.ref D) { s with heap := h', toks := tk }) :
    wpAny (model prog w) A (call (.builtin "sorted") [.ref l]) Q E s := by
  by_cases h2 : 2 ≤ rows.length
  · exact sorted_rows F N hl hv hR hn h2 h64 h
  · refine sorted_short F N hl (by rw [hv.length]; omega) fun D c h' F' N' lt => h D vs rows c h' _ F' N' lt hv (List.Perm.refl _) ?_
    match rows, h2 with
    | [], _ => exact .nil
    | [x], _ => exact List.pairwise_singleton _ _
    | x :: y :: r, h2 => simp at h2
end
end

section
def entRow (d : Int × Ent) : Row := (d.2.1, d.2.2, d.1)
def kdRows (D : Kd → List (Int × Ent)) (ks : List Kd) : List Row := ks.flatMap fun k => (D k).map entRow
def allKd : List Kd := [0, 1, 2]
theorem kdRows_len (D : Kd → List (Int × Ent)) : (kdRows D allKd).length = (D 0).length + ((D 1).length + (D 2).length) := by simp [kdRows, allKd]
theorem kdRows_take (D : Kd → List (Int × Ent)) (j : Nat) : (kdRows D (allKd.take j)).length ≤ (kdRows D allKd).length := by
  match j with
  | 0 => exact Nat.zero_le _
  | 1 => simp [kdRows, allKd]
  | 2 => simp [kdRows, allKd]
  | j + 3 => exact Nat.le_of_eq (by simp [allKd])
theorem kdRows_one (D : Kd → List (Int × Ent)) (k : Kd) : (D k).length ≤ (kdRows D allKd).length := by
  rw [kdRows_len]
  have h : ∀ k : Kd, k = 0 ∨ k = 1 ∨ k = 2 := by decide
  rcases h k with rfl | rfl | rfl <;> omega

section
variable {prog : Program} {w : World} {mean : ExcName → Option Value} {mg mb : Str → Option Value} {dp un : Nat} {gd : Option (List Code)} {cn : Str} {cs : Scope} {a : Addr} {ccd : Value} {cl : List (Str × Addr)} {outer : List Env} {A₀ : Around} {base h₀ : Heap} {L : Addr} {m : Str → Option Value} {s : Shared} {Q E : Value → Shared → Prop} {news : List (Addr × Obj)}
set_option maxHeartbeats 8000000 in
theorem rows_0 {tb dt b p i q : Addr} {k1 k2 k3 k4 : Tok} {e : Nat} {op oi oq : Obj} {R : List (Addr × Obj)} {D : Kd → List (Int × Ent)} (B : Below A₀ base outer h₀) (F : Fr h₀ L s.heap m) (X : (hd.heap_39 w.params).In h₀) (T : Top hd.view_39 (looseW hd.view_39 []) mean mg mb h₀) (hk : cs.kind = .function) (hd : dp + 6 < recursionLimit) (hu : un + 48 < cLine)
    (N : News h₀ L s.heap ((tb, instObj 217 dt) :: (dt, dictOf (tabEs w.params k1 k2 k3 k4 b p i q) e) :: (p, op) :: (i, oi) :: (q, oq) :: R)) (RT : ∀ z ∈ R, z.2.cls = .type "tuple") (lp : (p == sysModules) = false) (li : (i == sysModules) = false) (lq : (q == sysModules) = false)
    (TS : TabS prog w R op oi oq D) (hnd : (kdRows D allKd).Nodup) (h64 : (kdRows D allKd).length < 64)
    (hret : ∀ x vs rows c R2 h' tk', (∀ c o, c ∉ ([] : List Addr) → s.heap.get? c = some o → h'.get? c = some o) → Fr h₀ L h' m → News h₀ L h' ((x, PySem.W.listOf vs.toArray c) :: R2) → (∀ z ∈ R2, z.2.cls = .type "tuple") → All2 (RowV R2) vs rows → rows.Perm (kdRows D allKd) → rows.Pairwise (fun x y => rowLt x y = true) → Q (.ref x) { s with heap := h', toks := tk' }) :
    wpAny (model prog w) (ktrTop dp un gd cn cs L a ccd cl outer) (call (.ref 214) [.ref tb]) Q E s := by
  k_with_none
  w_top off
  k_with "exec For Name Tuple cons nil" => (k_here; k_dflt (refine' For_turns ?w9FZ ?_; (case w9FZ => k_asm)))
  k_with "exec For Tuple Call cons nil" => (k_here; k_dflt (refine' For_turns ?w9FZ ?_; (case w9FZ => k_asm)))
  k_with "pyIter ref" => (refine stop ?_)
  k_with "call builtin:sorted" => (refine stop ?_)
  k_with "eval Name" => (k_here; k_dflt (refine' ld ?w9k1Z ?w9k2Z ?_; (case w9k1Z => k_asm); (case w9k2Z => first | exact rfl | ((repeat (refine (if_neg (by decide +kernel)).trans ?_)); first | exact rfl | assumption)); k_whole))
  k_with "call builtin:dict.items" => (k_here; k_dflt (refine kdx_view (knd := PySem.intKind _ _) (by k_asm) (by k_asm) (by k_mem) (by k_asm) (by k_asm) ?_); intro qDZ qhZ qFZ qNZ ql1Z; (try k_lt ql1Z))
  k_with "getMethod ref" => (k_here; (with_reducible show wpAny _ _ (getMethod (Value.ref _) (Str.ofString "items") _) _ _ _); refine stop ?_)
  refine wpAny_call ?_
  k_dflt cell_enter
  k_steps
  refine Stop.go ?_
  rename News _ _ _ _ => N1
  rename Fr _ _ _ _ => F1
  obtain ⟨fd, N2, q2, q3, q4, q5, q6, m₀, F2, hself, hfound⟩ : ∃ fd, News _ _ _ ((_, tupObj [.ref p, .ref i, .ref q]) :: (fd, PySem.W.listOf #[] 0) :: (tb, instObj 217 dt) :: (dt, dictOf (tabEs w.params k1 k2 k3 k4 b p i q) e) :: (p, op) :: (i, oi) :: (q, oq) :: R) ∧
       @LT.lt Nat _ tb fd ∧ @LT.lt Nat _ dt fd ∧ @LT.lt Nat _ p fd ∧ @LT.lt Nat _ i fd ∧ @LT.lt Nat _ q fd ∧ ∃ m₀ : Str → Option Value, Fr _ _ _ m₀ ∧ m₀ (Str.ofString "self") = some (.ref tb) ∧ m₀ (Str.ofString "found") = some (.ref fd) :=
    ⟨_, N1, by omega, by omega, by omega, by omega, by omega, _, F1, rfl, rfl⟩
  clear N1 F1
  refine turns_tuple (vs := [.ref p, .ref i, .ref q]) (adr := [fd]) (news₀ := (fd, PySem.W.listOf #[] 0) :: (tb, instObj 217 dt) :: (dt, dictOf (tabEs w.params k1 k2 k3 k4 b p i q) e) :: (p, op) :: (i, oi) :: (q, oq) :: R)
    (fun j m nw => ∃ vs n R2, nw = (fd, PySem.W.listOf vs.toArray n) :: (tb, instObj 217 dt) :: (dt, dictOf (tabEs w.params k1 k2 k3 k4 b p i q) e) :: (p, op) :: (i, oi) :: (q, oq) :: (R2 ++ R) ∧ (∀ z ∈ R2, z.2.cls = .type "tuple") ∧ All2 (RowV R2) vs (kdRows D (allKd.take j)) ∧ m (Str.ofString "self") = some (.ref tb) ∧ m (Str.ofString "found") = some (.ref fd))
    rfl F2 (news_sub N2 fun p hp => .tail _ hp) ⟨_, (N2 _ (.head _)).1, rfl, 0, rfl⟩ (N2 _ (.head _)).2.1 ?_ ⟨[], 0, [], rfl, (fun p hp => nomatch hp), .nil, hself, hfound⟩ ?_ ?_
  · intro c hc
    rw [List.mem_singleton.mp hc]
    exact ⟨news_ne N2 (.tail _ (.head _)) (.head _) (by intro h; injection h with h; exact absurd h (by decide)), _, .head _⟩
  · intro j v m₁ nw h tk own hv hP9 hown F5 N5
    obtain ⟨vs, n, R2, e', RT2, hR2, hself₁, hfound₁⟩ := hP9
    subst e'
    obtain ⟨k, d, od, hk9, rfl, hmem, hT, lod, hne⟩ : ∃ k d od, allKd[j]? = some k ∧ v = .ref d ∧ (d, od) ∈ [(p, op), (i, oi), (q, oq)] ∧ Tab prog w R od (D k) ∧ (d == sysModules) = false ∧ @LT.lt Nat _ d fd := by
      match j, hv with
      | 0, hv => exact ⟨0, p, op, rfl, (Option.some.inj hv).symm, by simp, TS.1, lp, by assumption⟩
      | 1, hv => exact ⟨1, i, oi, rfl, (Option.some.inj hv).symm, by simp, TS.2.1, li, by assumption⟩
      | 2, hv => exact ⟨2, q, oq, rfl, (Option.some.inj hv).symm, by simp, TS.2.2, lq, by assumption⟩
    obtain ⟨kvs, hod, hkv⟩ := hT
    have hz : (d == sysModules) = false := lod
    have OS : OwnOff ((tb, instObj 217 dt) :: (dt, dictOf (tabEs w.params k1 k2 k3 k4 b p i q) e) :: (p, op) :: (i, oi) :: (q, oq) :: (R2 ++ R) ++ own) [fd] := by
      refine ownOff_app (fun z hz c hc => ?_) hown
      rw [List.mem_singleton.mp hc]
      simp only [List.mem_cons, List.mem_append] at hz
      rcases hz with rfl | rfl | rfl | rfl | rfl | hz | hz
      · exact neN (by omega)
      · exact neN (by omega)
      · exact neN (by omega)
      · exact neN (by omega)
      · exact neN (by omega)
      · exact news_ne N5 (List.mem_append_left _ (by walk_at "my in")) (List.mem_append_left _ (.head _)) (by rw [RT2 z hz]; intro h; injection h with h; exact absurd h (by decide))
      · exact news_ne N5 (List.mem_append_left _ (by walk_at "my in")) (List.mem_append_left _ (.head _)) (by rw [RT z hz]; intro h; injection h with h; exact absurd h (by decide))
    have N6 : News _ _ h ((fd, PySem.W.listOf vs.toArray n) :: (d, od) :: ((tb, instObj 217 dt) :: (dt, dictOf (tabEs w.params k1 k2 k3 k4 b p i q) e) :: (p, op) :: (i, oi) :: (q, oq) :: (R2 ++ R) ++ own)) := news_sub N5 fun z hz => by
      rcases List.mem_cons.mp hz with rfl | hz
      · exact .head _
      rcases List.mem_cons.mp hz with rfl | hz
      · refine List.mem_append_left _ (.tail _ (.tail _ (.tail _ ?_)))
        simp only [List.mem_cons, List.not_mem_nil, or_false] at hmem
        rcases hmem with h | h | h
        · rw [h]; exact .head _
        · rw [h]; exact .tail _ (.head _)
        · rw [h]; exact .tail _ (.tail _ (.head _))
      · exact .tail _ hz
    have hRS : ∀ z ∈ R, z ∈ ((tb, instObj 217 dt) :: (dt, dictOf (tabEs w.params k1 k2 k3 k4 b p i q) e) :: (p, op) :: (i, oi) :: (q, oq) :: (R2 ++ R) ++ own) := fun z hz => by walk_at "my in"
    generalize hS : ((tb, instObj 217 dt) :: (dt, dictOf (tabEs w.params k1 k2 k3 k4 b p i q) e) :: (p, op) :: (i, oi) :: (q, oq) :: (R2 ++ R) ++ own) = S at N6 OS hRS
    clear N5 N2 F2
    k_steps
    refine Stop.go ?_
    k_dflt (refine' kh_method PySem.F.slot_dict_items PySem.F.type_dict_items ?N ?hm ?hc ?_; (case N => k_asm); (case hm => k_mem); (case hc => exact let ⟨es, ep, hc, _⟩ := hod; hc))
    k_steps
    refine Stop.go ?_
    rename News _ _ _ _ => N7
    rename Fr _ _ _ _ => F7
    obtain ⟨m₂, F8, hself₂, hfound₂⟩ : ∃ m₂ : Str → Option Value, Fr _ _ _ m₂ ∧ m₂ (Str.ofString "self") = some (.ref tb) ∧ m₂ (Str.ofString "found") = some (.ref fd) := ⟨_, F7, (if_neg (by decide +kernel)).trans hself₁, (if_neg (by decide +kernel)).trans hfound₁⟩
    clear F7
    refine turns_items (d := d) (od := od) (kvs := kvs) (adr := [fd]) (news₀ := (fd, PySem.W.listOf vs.toArray n) :: (d, od) :: S)
      (fun j' m nw => ∃ vs' n' R3, nw = (fd, PySem.W.listOf (vs ++ vs').toArray n') :: (d, od) :: (R3 ++ S) ∧ (∀ z ∈ R3, z.2.cls = .type "tuple") ∧ All2 (RowV R3) vs' (((D k).take j').map entRow) ∧ m (Str.ofString "self") = some (.ref tb) ∧ m (Str.ofString "found") = some (.ref fd))
      rfl F8 (news_sub N7 fun p hp => .tail _ hp) ⟨_, (N7 _ (.head _)).1, rfl, rfl⟩ (.tail _ (.head _)) hod ?_ ⟨[], n, [], by simp, (fun p hp => nomatch hp), .nil, hself₂, hfound₂⟩ ?_ ?_
    · intro c hc
      rw [List.mem_singleton.mp hc]
      exact ⟨neN (by omega), _, .head _⟩
    · intro j' x9 v9 T9 key m₃ nw h3 tk3 own3 hv9 hkey hT9 hP9 hown3 F9 N9
      obtain ⟨vs', n', R3, e3, RT3, hR3, hself₃, hfound₃⟩ := hP9
      obtain ⟨d9, hd9, e9, y9, t9, t9', rfl, hm9⟩ := hkv.get hv9
      dsimp only at e9
      subst e9 e3
      obtain ⟨tk9, rfl⟩ := Value.isInt_shape hkey
      have OS3 : OwnOff (R3 ++ S ++ own3) [fd] := by
        refine ownOff_app (ownOff_app (fun z hz c hc => ?_) OS) hown3
        rw [List.mem_singleton.mp hc]
        exact news_ne N9 (List.mem_append_left _ (by walk_at "my in")) (List.mem_append_left _ (.head _)) (by rw [RT3 z hz]; intro h; injection h with h; exact absurd h (by decide))
      have N10 : News _ _ h3 ((fd, PySem.W.listOf (vs ++ vs').toArray n') :: (y9, tupObj [.int d9.2.1 t9, .str (tyStr d9.2.2) t9']) :: (d, od) :: (R3 ++ S ++ own3)) := news_sub N9 fun z hz => by
        rcases List.mem_cons.mp hz with rfl | hz
        · exact .head _
        rcases List.mem_cons.mp hz with rfl | hz
        · exact List.mem_append_left _ (.tail _ (.tail _ (List.mem_append_right _ (hRS _ hm9))))
        · exact .tail _ hz
      have hy9 : @Ne Nat y9 fd := OS3 _ (List.mem_append_left _ (List.mem_append_right _ (hRS _ hm9))) fd (.head _)
      have hz9 : (vs ++ vs').toArray.size ≤ 1000 := by
        rw [List.size_toArray, List.length_append, hR2.length, hR3.length, List.length_map, List.length_take]
        have := kdRows_take D j
        have := kdRows_one D k
        omega
      generalize hS3 : R3 ++ S ++ own3 = S3 at N10 OS3
      generalize hV3 : (vs ++ vs').toArray = V3 at N10 hz9
      clear N9 N7 N6 F8
      k_steps
      rename News _ _ _ _ => N11
      rename Fr _ _ _ _ => F11
      subst hV3
      subst hS3
      obtain ⟨x', n'', N11⟩ : ∃ x' n'', News _ _ _ ((x', tupObj [.int d9.2.1 t9, .str (tyStr d9.2.2) t9', .int d9.1 tk9]) :: (fd, PySem.W.listOf ((vs ++ vs').toArray.push (.ref x')) n'') :: (y9, tupObj [.int d9.2.1 t9, .str (tyStr d9.2.2) t9']) :: (d, od) :: (R3 ++ S ++ own3)) := ⟨_, _, N11⟩
      rw [show (vs ++ vs').toArray.push (Value.ref x') = (vs ++ (vs' ++ [Value.ref x'])).toArray by simp] at N11
      refine turn_next F11 ⟨vs' ++ [.ref x'], n'', (x', tupObj [.int d9.2.1 t9, .str (tyStr d9.2.2) t9', .int d9.1 tk9]) :: R3, rfl, ?_, ?_, ?_, ?_⟩ (news_sub N11 fun z hz => ?_) fun z hz => ?_
      · exact fun z hz => (List.mem_cons.mp hz).elim (fun e => by rw [e]) (RT3 z)
      · rw [List.take_add_one, hd9, List.map_append]
        exact All2.append (hR3.mono fun _ _ h => h.mono fun _ h => .tail _ h) (.cons ⟨x', t9, t9', tk9, rfl, .head _⟩ .nil)
      · exact (if_neg (by decide +kernel)).trans ((if_neg (by decide +kernel)).trans hself₃)
      · exact (if_neg (by decide +kernel)).trans ((if_neg (by decide +kernel)).trans hfound₃)
      · simp only [List.cons_append, List.mem_cons, List.mem_append] at hz ⊢
        rcases hz with h | h | h | (h | h) | h
        · exact .inr (.inl h)
        · exact .inr (.inr (.inr (.inl h)))
        · exact .inl h
        · exact .inr (.inr (.inr (.inr (.inl (.inl h)))))
        · exact .inr (.inr (.inr (.inr (.inl (.inr h)))))
        · exact .inr (.inr (.inr (.inr (.inr h))))
      · revert z hz; walk_at "my adr"
    · clear N7 N6 F8 hself₂ hfound₂
      intro m₃ nw h3 tk3 hP9 F9 N9
      obtain ⟨vs', n', R3, e3, RT3, hR3, hself₃, hfound₃⟩ := hP9
      subst e3
      rw [hkv.length, List.take_length] at hR3
      k_steps
      subst hS
      rename News _ _ _ _ => N11
      rename Fr _ _ _ _ => F11
      refine turn_next F11 ⟨vs ++ vs', n', R3 ++ R2, rfl, ?_, ?_, hself₃, hfound₃⟩ (news_sub N11 fun z hz => ?_) fun z hz => ?_
      · exact fun z hz => (List.mem_append.mp hz).elim (RT3 z) (RT2 z)
      · rw [List.take_add_one, hk9, kdRows, List.flatMap_append]
        refine All2.append (hR2.mono fun _ _ h => h.mono fun _ h => List.mem_append_right _ h) ?_
        simp only [Option.toList_some, List.flatMap_cons, List.flatMap_nil, List.append_nil]
        exact hR3.mono fun _ _ h => h.mono fun _ h => List.mem_append_left _ h
      · revert z hz; walk_at "my sub"
      · revert z hz; walk_at "my adr"
  · clear N2 F2 hself hfound
    intro m₁ nw h tk hP9 F5 N5
    obtain ⟨vs, n, R2, e', RT2, hR2, hself₁, hfound₁⟩ := hP9
    subst e'
    have hR2 : All2 (RowV R2) vs (kdRows D allKd) := hR2
    k_steps
    refine Stop.go ?_
    rename News _ _ _ _ => N6
    k_dflt (refine' sorted_rows' (R := R2) ?F N6 ⟨_, (N6 _ (.head _)).1, rfl, n, rfl⟩ hR2 ?hR hnd h64 ?_; (case F => k_asm); (case hR => exact fun z hz => by walk_at "my in"))
    intro D1 vs1 rows1 c1 h1 tk1 F10 N10 lt1 hv1 hp1 hs1
    k_steps
    rename News _ _ _ _ => N12
    exact hret _ vs1 rows1 c1 R2 _ _ (keep_but [] (by assumption) (by assumption) N N10 fun z hz => .inr (by
      revert z hz; walk_at "my sub")) (by assumption) (news_sub N12 fun z hz => by
      rcases List.mem_cons.mp hz with h | h <;> simp [h]) RT2 hv1 hp1 hs1
theorem rows_c {tb dt b p i q : Addr} {k1 k2 k3 k4 : Tok} {e : Nat} {op oi oq : Obj} {R : List (Addr × Obj)} {D : Kd → List (Int × Ent)} (B : Below A₀ base outer h₀) (F : Fr h₀ L s.heap m) (X : (hd.heap_39 w.params).In h₀) (T : Top hd.view_39 (looseW hd.view_39 []) mean mg mb h₀) (hk : cs.kind = .function) (hd : dp + 6 < recursionLimit) (hu : un + 48 < cLine)
    (N : News h₀ L s.heap news) (m1 : (tb, instObj 217 dt) ∈ news) (m2 : (dt, dictOf (tabEs w.params k1 k2 k3 k4 b p i q) e) ∈ news) (mp : (p, op) ∈ news) (mi : (i, oi) ∈ news) (mq : (q, oq) ∈ news) (hR : ∀ z ∈ R, z ∈ news) (RT : ∀ z ∈ R, z.2.cls = .type "tuple") (lp : (p == sysModules) = false) (li : (i == sysModules) = false) (lq : (q == sysModules) = false)
    (TS : TabS prog w R op oi oq D) (hnd : (kdRows D allKd).Nodup) (h64 : (kdRows D allKd).length < 64)
    (hret : ∀ x vs rows c R2 h' tk', Fr h₀ L h' m → News h₀ L h' ((x, PySem.W.listOf vs.toArray c) :: (R2 ++ news)) → (∀ z ∈ R2, z.2.cls = .type "tuple") → All2 (RowV R2) vs rows → rows.Perm (kdRows D allKd) → rows.Pairwise (fun x y => rowLt x y = true) → Q (.ref x) { s with heap := h', toks := tk' }) :
    wpAny (model prog w) (ktrTop dp un gd cn cs L a ccd cl outer) (call (.ref 214) [.ref tb]) Q E s := by
  have N2 : News h₀ L s.heap ((tb, instObj 217 dt) :: (dt, dictOf (tabEs w.params k1 k2 k3 k4 b p i q) e) :: (p, op) :: (i, oi) :: (q, oq) :: R) := news_sub N fun p hp => by
    simp only [List.mem_cons] at hp
    rcases hp with rfl | rfl | rfl | rfl | rfl | hp
    all_goals first | assumption | exact hR _ hp
  exact rows_0 B F X T hk hd hu N2 RT lp li lq TS hnd h64 fun x vs rows c R2 h' tk' kp F' N' a1 a2 a3 a4 => hret x vs rows c R2 h' tk' F' (news_more N kp N') a1 a2 a3 a4
end
end

section
/-! ## lists of keys and values, in plain Lean -/
section
variable {K V : Type} [DecidableEq K]
def aget (l : List (K × V)) (k : K) : Option V := (l.find? fun d => decide (d.1 = k)).map (·.2)
def aput (l : List (K × V)) (k : K) (v : V) : List (K × V) := if l.any (fun d => decide (d.1 = k)) then l.map (fun d => if d.1 = k then (d.1, v) else d) else l ++ [(k, v)]
def adel (l : List (K × V)) (k : K) : List (K × V) := l.filter fun d => decide (d.1 ≠ k)
theorem any_key {l : List (K × V)} {k : K} : (l.any fun d => decide (d.1 = k)) = true ↔ k ∈ l.map (·.1) := by
  rw [List.any_eq_true, List.mem_map]
  exact ⟨fun ⟨d, h, e⟩ => ⟨d, h, of_decide_eq_true e⟩, fun ⟨d, h, e⟩ => ⟨d, h, decide_eq_true e⟩⟩
theorem mem_aput {l : List (K × V)} {k k' : K} {v v' : V} : (k', v') ∈ aput l k v ↔ (k' = k ∧ v' = v) ∨ (k' ≠ k ∧ (k', v') ∈ l) := by
  unfold aput
  split
  · rename_i h
    obtain ⟨d, hd, e⟩ := List.mem_map.mp (any_key.mp h)
    rw [List.mem_map]
    constructor
    · rintro ⟨y, hy, q⟩
      split at q
      · rename_i e2
        injection q with q1 q2
        exact .inl ⟨by rw [← q1, e2], q2.symm⟩
      · rename_i e2
        subst q
        exact .inr ⟨e2, hy⟩
    · rintro (⟨rfl, rfl⟩ | ⟨h1, h2⟩)
      · exact ⟨d, hd, by rw [if_pos e, e]⟩
      · exact ⟨_, h2, by rw [if_neg h1]⟩
  · rename_i h
    rw [List.mem_append, List.mem_singleton]
    constructor
    · rintro (h1 | h1)
      · refine .inr ⟨fun e => h (any_key.mpr ?_), h1⟩
        rw [← e]; exact List.mem_map.mpr ⟨_, h1, rfl⟩
      · injection h1 with q1 q2
        exact .inl ⟨q1, q2⟩
    · rintro (⟨rfl, rfl⟩ | ⟨_, h2⟩)
      · exact .inr rfl
      · exact .inl h2
theorem mem_adel {l : List (K × V)} {k k' : K} {v' : V} : (k', v') ∈ adel l k ↔ k' ≠ k ∧ (k', v') ∈ l := by
  unfold adel
  rw [List.mem_filter]
  simp [and_comm]
theorem nodup_aput {l : List (K × V)} {k : K} {v : V} (h : (l.map (·.1)).Nodup) : ((aput l k v).map (·.1)).Nodup := by
  unfold aput
  split
  · rw [List.map_map]
    have : (l.map ((fun x => x.1) ∘ fun d => if d.1 = k then (d.1, v) else d)) = l.map (·.1) := List.map_congr_left fun d _ => by simp only [Function.comp]; split <;> rfl
    rw [this]; exact h
  · rename_i q
    rw [List.map_append, List.nodup_append]
    refine ⟨h, by simp, fun a ha b hb e => ?_⟩
    simp only [List.map_cons, List.map_nil, List.mem_singleton] at hb
    subst hb e
    exact q (any_key.mpr ha)
theorem nodup_adel {l : List (K × V)} {k : K} (h : (l.map (·.1)).Nodup) : ((adel l k).map (·.1)).Nodup := List.Sublist.nodup (List.Sublist.map _ List.filter_sublist) h
theorem aget_iff {k : K} {v : V} : ∀ {l : List (K × V)}, (l.map (·.1)).Nodup → (aget l k = some v ↔ (k, v) ∈ l)
  | [], _ => by simp [aget]
  | d :: l, h => by
    rw [List.map_cons, List.nodup_cons] at h
    unfold aget
    rw [List.find?_cons]
    by_cases e : d.1 = k
    · rw [decide_eq_true e]
      subst e
      constructor
      · intro q
        simp only [Option.map_some, Option.some.injEq] at q
        rw [← q]; exact .head _
      · intro q
        rcases List.mem_cons.mp q with q | q
        · rw [← q]; rfl
        · exact absurd (List.mem_map.mpr ⟨_, q, rfl⟩) h.1
    · rw [decide_eq_false e]
      refine (aget_iff (l := l) h.2).trans ⟨fun q => .tail _ q, fun q => ?_⟩
      rcases List.mem_cons.mp q with q | q
      · exact absurd (by rw [← q]) e
      · exact q
theorem aget_none {l : List (K × V)} {k : K} : aget l k = none ↔ k ∉ l.map (·.1) := by
  unfold aget
  rw [Option.map_eq_none_iff, List.find?_eq_none, List.mem_map]
  exact ⟨fun h ⟨d, hd, e⟩ => h d hd (decide_eq_true e), fun h d hd e => h ⟨d, hd, of_decide_eq_true e⟩⟩
theorem adel_none {l : List (K × V)} {k : K} (h : aget l k = none) : adel l k = l :=
  List.filter_eq_self.mpr fun d hd => decide_eq_true fun q => aget_none.mp h (List.mem_map.mpr ⟨d, hd, q⟩)
theorem aput_new {l : List (K × V)} {k : K} {v : V} (h : k ∉ l.map (·.1)) : aput l k v = l ++ [(k, v)] := by
  unfold aput
  rw [if_neg fun q => h (any_key.mp q)]
end
theorem nodup_len {α : Type} [DecidableEq α] : ∀ {l m : List α}, l.Nodup → (∀ x ∈ l, x ∈ m) → l.length ≤ m.length
  | [], _, _, _ => Nat.zero_le _
  | x :: l, m, h, hs => by
    rw [List.nodup_cons] at h
    have := nodup_len (l := l) (m := m.erase x) h.2 fun y hy => (List.mem_erase_of_ne (fun e => h.1 (by rw [← e]; exact hy))).mpr (hs y (.tail _ hy))
    rw [List.length_erase_of_mem (hs x (.head _))] at this
    have h0 : 0 < m.length := List.length_pos_of_mem (hs x (.head _))
    rw [List.length_cons]; omega
theorem sorted_ext : ∀ {a b : List Row}, (∀ x, x ∈ a ↔ x ∈ b) → a.Pairwise (fun x y => rowLt x y = true) → b.Pairwise (fun x y => rowLt x y = true) → a = b := fun {a b} h ha hb => by
  have nd : ∀ {l : List Row}, l.Pairwise (fun x y => rowLt x y = true) → l.Nodup := fun hl => hl.imp fun hxy e => by subst e; rw [rowLt_irr] at hxy; cases hxy
  exact rows_uniq ((List.perm_ext_iff_of_nodup (nd ha) (nd hb)).mpr h) ha hb

/-! ## what the law holds of each operator -/
abbrev HEnt := (Int × Kd) × Ent
theorem dget_eq (D : List (Int × Ent)) (a : Int) : dget D a = aget D a := rfl
theorem dput_eq (D : List (Int × Ent)) (a : Int) (e : Ent) : dput D a e = aput D a e := rfl
theorem ddel_eq (D : List (Int × Ent)) (a : Int) : ddel D a = adel D a := rfl
def five : List Str := [Str.ofString "-", Str.ofString "foo", Str.ofString "is", Str.ofString ";", Str.ofString "+"]
def heldRow (e : HEnt) : Row := (e.2.1, e.2.2, e.1.1)
def rowHeld (r : Row) : HEnt := ((r.2.2, kd r.2.1), (r.1, r.2.1))
structure Inv (std : Bool) (xs : List Str) (D : Kd → List (Int × Ent)) (H : List HEnt) : Prop where
  nd : ∀ k, ((D k).map (·.1)).Nodup
  nh : (H.map (·.1)).Nodup
  ty : ∀ k, ∀ d ∈ D k, kd d.2.2 = k
  ag : ∀ a k e, ((a, k), e) ∈ H ↔ (a, e) ∈ D k
  keys : ∀ k, ∀ d ∈ D k, d.1 ∈ ((stOf std).D k).map (·.1) ∨ ∃ n ∈ five, n ∈ xs ∧ d.1 = ((xs.idxOf n : Nat) : Int)
section
variable {std : Bool} {xs : List Str} {D : Kd → List (Int × Ent)} {H : List HEnt}
theorem Inv.get (I : Inv std xs D H) (a : Int) (k : Kd) : aget H (a, k) = dget (D k) a := by
  cases q : aget H (a, k) with
  | some e => exact ((aget_iff (I.nd k)).mpr ((I.ag a k e).mp ((aget_iff I.nh).mp q))).symm
  | none =>
    cases q2 : dget (D k) a with
    | none => rfl
    | some e =>
      rw [(aget_iff I.nh).mpr ((I.ag a k e).mpr ((aget_iff (I.nd k)).mp q2))] at q; cases q
theorem Inv.atom (I : Inv std xs D H) (y : Str) : Inv std (atomAdd xs y) D H := ⟨I.nd, I.nh, I.ty, I.ag, fun k d hd => (I.keys k d hd).imp id fun ⟨n, h1, h2, h3⟩ => ⟨n, h1, by
    unfold atomAdd; split
    · exact h2
    · exact List.mem_append_left _ h2, by
    rw [h3]; unfold atomAdd; split
    · rfl
    · rw [List.idxOf_append, if_pos h2]⟩⟩
theorem Inv.put (I : Inv std xs D H) {n : Str} (h5 : n ∈ five) (hx : n ∈ xs) (t : Ty) (pr : Int) : Inv std xs (tput D t ((xs.idxOf n : Nat) : Int) pr) (aput H (((xs.idxOf n : Nat) : Int), kd t) (pr, t)) := by
  refine ⟨fun k => ?_, nodup_aput I.nh, fun k d hd => ?_, fun a k e => ?_, fun k d hd => ?_⟩
  · unfold tput; split
    · rw [dput_eq]; exact nodup_aput (I.nd k)
    · exact I.nd k
  · unfold tput at hd
    split at hd
    · rename_i e
      obtain ⟨d1, d2⟩ := d
      rcases mem_aput.mp hd with ⟨_, h⟩ | ⟨_, h⟩
      · rw [h, e]
      · exact I.ty k _ h
    · exact I.ty k d hd
  · unfold tput
    rw [mem_aput, I.ag]
    split
    · rename_i q
      rw [dput_eq, mem_aput]
      subst q
      simp
    · rename_i q
      constructor
      · rintro (⟨h, _⟩ | ⟨_, h⟩)
        · injection h with _ h; exact absurd h q
        · exact h
      · intro h
        exact .inr ⟨fun e => q (by injection e), h⟩
  · unfold tput at hd
    split at hd
    · obtain ⟨d1, d2⟩ := d
      rcases mem_aput.mp hd with ⟨h, _⟩ | ⟨_, h⟩
      · exact .inr ⟨n, h5, hx, h⟩
      · exact I.keys k _ h
    · exact I.keys k d hd
theorem Inv.del (I : Inv std xs D H) (t : Ty) (x : Int) : Inv std xs (tdel D t x) (adel H (x, kd t)) := by
  refine ⟨fun k => ?_, nodup_adel I.nh, fun k d hd => ?_, fun a k e => ?_, fun k d hd => ?_⟩
  · unfold tdel; split
    · rw [ddel_eq]; exact nodup_adel (I.nd k)
    · exact I.nd k
  · unfold tdel at hd
    split at hd
    · exact I.ty k d (List.mem_filter.mp hd).1
    · exact I.ty k d hd
  · unfold tdel
    rw [mem_adel, I.ag]
    split
    · rename_i q
      rw [ddel_eq, mem_adel]
      subst q
      simp
    · rename_i q
      exact ⟨fun h => h.2, fun h => ⟨fun e => q (by injection e), h⟩⟩
  · unfold tdel at hd
    split at hd
    · exact I.keys k d (List.mem_filter.mp hd).1
    · exact I.keys k d hd
theorem Inv.mem (I : Inv std xs D H) (r : Row) : r ∈ kdRows D allKd ↔ r ∈ H.map heldRow := by
  unfold kdRows
  rw [List.mem_flatMap, List.mem_map]
  constructor
  · rintro ⟨k, _, hr⟩
    obtain ⟨d, hd, rfl⟩ := List.mem_map.mp hr
    exact ⟨((d.1, k), d.2), (I.ag _ _ _).mpr hd, rfl⟩
  · rintro ⟨⟨⟨a, k⟩, e⟩, he, rfl⟩
    exact ⟨k, (by decide : ∀ k : Kd, k ∈ allKd) k, List.mem_map.mpr ⟨(a, e), (I.ag _ _ _).mp he, rfl⟩⟩
theorem Inv.hty (I : Inv std xs D H) {e : HEnt} (h : e ∈ H) : kd e.2.2 = e.1.2 := I.ty _ _ ((I.ag e.1.1 e.1.2 e.2).mp h)
theorem Inv.hnd (I : Inv std xs D H) : (H.map heldRow).Nodup := by
  have : ∀ l : List HEnt, (l.map (·.1)).Nodup → (∀ e ∈ l, kd e.2.2 = e.1.2) → (l.map heldRow).Nodup := fun l => by
    induction l with
    | nil => intro _ _; exact .nil
    | cons e l ih =>
      intro h1 h2
      rw [List.map_cons, List.nodup_cons] at h1 ⊢
      refine ⟨fun hm => h1.1 ?_, ih h1.2 fun e he => h2 e (.tail _ he)⟩
      obtain ⟨e', he', q⟩ := List.mem_map.mp hm
      unfold heldRow at q
      injection q with _ q
      injection q with q1 q2
      refine List.mem_map.mpr ⟨e', he', ?_⟩
      have a := h2 e (.head _)
      have b := h2 e' (.tail _ he')
      exact Prod.ext q2 (by rw [← a, ← b, q1])
  exact this H I.nh fun e he => I.hty he
theorem Inv.dnd (I : Inv std xs D H) : (kdRows D allKd).Nodup := by
  have h1 : ∀ k, ((D k).map entRow).Nodup := fun k => by
    have := I.nd k
    refine List.pairwise_map.mpr ((List.pairwise_map.mp this).imp fun hxy e => hxy ?_)
    unfold entRow at e
    injection e with _ e
    injection e
  have h2 : ∀ k k', k ≠ k' → ∀ r ∈ (D k).map entRow, r ∉ (D k').map entRow := fun k k' hne r hr hr' => by
    obtain ⟨d, hd, e⟩ := List.mem_map.mp hr
    obtain ⟨d', hd', e'⟩ := List.mem_map.mp hr'
    have a := I.ty k d hd
    have b := I.ty k' d' hd'
    have c : d.2.2 = d'.2.2 := by have := e.trans e'.symm; unfold entRow at this; injection this with _ q; injection q
    exact hne (by rw [← a, ← b, c])
  show ((D 0).map entRow ++ ((D 1).map entRow ++ ((D 2).map entRow ++ []))).Nodup
  rw [List.append_nil, List.nodup_append, List.nodup_append]
  refine ⟨h1 0, ⟨h1 1, h1 2, fun a ha b hb e => h2 1 2 (by decide) a ha (e ▸ hb)⟩, fun a ha b hb e => ?_⟩
  subst e
  rcases List.mem_append.mp hb with hb | hb
  · exact h2 0 1 (by decide) a ha hb
  · exact h2 0 2 (by decide) a ha hb
theorem init44 (std : Bool) : ((stOf std).D 0).length + (((stOf std).D 1).length + ((stOf std).D 2).length) ≤ 44 := by cases std <;> decide +kernel
theorem Inv.dlen (I : Inv std xs D H) : (kdRows D allKd).length < 64 := by
  have h : ∀ k, (D k).length ≤ ((stOf std).D k).length + 5 := fun k => by
    have := nodup_len (m := ((stOf std).D k).map (·.1) ++ five.map fun n => ((xs.idxOf n : Nat) : Int)) (I.nd k) fun x hx => by
      obtain ⟨d, hd, rfl⟩ := List.mem_map.mp hx
      rcases I.keys k d hd with h | ⟨n, h1, _, h3⟩
      · exact List.mem_append_left _ h
      · exact List.mem_append_right _ (List.mem_map.mpr ⟨n, h1, h3.symm⟩)
    simpa [five] using this
  have hs : ((stOf std).D 0).length + (((stOf std).D 1).length + ((stOf std).D 2).length) ≤ 44 := init44 std
  rw [kdRows_len]
  have h0 := h 0
  have h1 := h 1
  have h2 := h 2
  omega
theorem Inv.hperm (I : Inv std xs D H) : (H.map heldRow).Perm (kdRows D allKd) := (List.perm_ext_iff_of_nodup I.hnd I.dnd).mpr fun r => (I.mem r).symm
theorem Inv.hlen (I : Inv std xs D H) : H.length < 64 := by
  have := I.hperm.length_eq
  rw [List.length_map] at this
  rw [this]; exact I.dlen
theorem Inv.one (I : Inv std xs D H) (k : Kd) : (D k).length ≤ 1000 := Nat.le_trans (kdRows_one D k) (Nat.le_of_lt (Nat.lt_of_lt_of_le I.dlen (by decide)))
end
theorem keys0 (std : Bool) : ((kdRows (stOf std).D allKd).map fun r => (rowHeld r).1).Nodup := by cases std <;> decide +kernel
theorem kinds0 (std : Bool) : ∀ k, ∀ d ∈ (stOf std).D k, kd d.2.2 = k := by cases std <;> decide +kernel
theorem nodup0 (std : Bool) : ∀ k, (((stOf std).D k).map (·.1)).Nodup := by cases std <;> decide +kernel
theorem Inv.init {std : Bool} {rows : List Row} (hp : rows.Perm (kdRows (stOf std).D allKd)) : Inv std (stOf std).xs (stOf std).D (rows.map rowHeld) := by
  refine ⟨nodup0 std, ?_, kinds0 std, fun a k e => ?_, fun k d hd => .inl (List.mem_map.mpr ⟨d, hd, rfl⟩)⟩
  · rw [List.map_map]
    exact (hp.map _).nodup_iff.mpr (keys0 std)
  · rw [List.mem_map]
    constructor
    · rintro ⟨r, hr, q⟩
      have hr := hp.mem_iff.mp hr
      obtain ⟨k', _, hr⟩ := List.mem_flatMap.mp hr
      obtain ⟨d, hd, rfl⟩ := List.mem_map.mp hr
      have hk := kinds0 std k' d hd
      unfold rowHeld entRow at q
      simp only [Prod.mk.injEq] at q
      obtain ⟨⟨q1, q2⟩, q3⟩ := q
      have : k' = k := by rw [← hk, ← q2]
      subst this
      have : d = (a, e) := Prod.ext q1 (by rw [← q3])
      rw [← this]; exact hd
    · intro h
      have hk := kinds0 std k _ h
      refine ⟨entRow (a, e), hp.mem_iff.mpr (List.mem_flatMap.mpr ⟨k, (by decide : ∀ k : Kd, k ∈ allKd) k, List.mem_map.mpr ⟨_, h, rfl⟩⟩), ?_⟩
      unfold rowHeld entRow
      dsimp only at hk ⊢
      rw [hk]
theorem init_nodup (std : Bool) : (kdRows (stOf std).D allKd).Nodup := (Inv.init (List.Perm.refl _)).dnd
theorem init_len (std : Bool) : (kdRows (stOf std).D allKd).length < 64 := (Inv.init (List.Perm.refl _)).dlen
theorem init_len44 (std : Bool) : (kdRows (stOf std).D allKd).length = if std = true then 44 else 1 := by cases std <;> decide +kernel
theorem init_comma (std : Bool) : dget ((stOf std).D 1) 7 = some (1000, 3) := by cases std <;> decide +kernel
theorem init_xs (std : Bool) : (stOf std).xs.length ≤ 60 := by cases std <;> decide +kernel

/-! ## the dict that the law holds -/
def hkey (a : Int) (k : Kd) : List (Int ⊕ Str) := [.inl a, .inr (kdStr k)]
theorem kdStr_inj : ∀ k k' : Kd, kdStr k = kdStr k' → k = k' := by decide +kernel
theorem hkey_iff {a a' : Int} {k k' : Kd} : hkey a k = hkey a' k' ↔ (a, k) = (a', k') := by
  unfold hkey
  simp only [List.cons.injEq, Sum.inl.injEq, Sum.inr.injEq, and_true, Prod.mk.injEq]
  exact ⟨fun ⟨h, h'⟩ => ⟨h, kdStr_inj _ _ h'⟩, fun ⟨h, h'⟩ => ⟨h, by rw [h']⟩⟩
def HeldIs (R : List (Addr × Obj)) (xs : List (List (Int ⊕ Str) × Addr × Value)) (H : List HEnt) : Prop := All2 (fun x e => x.1 = hkey e.1.1 e.1.2 ∧ EntIs R x.2.2 e.2) xs H
section
variable {R R' : List (Addr × Obj)} {xs : List (List (Int ⊕ Str) × Addr × Value)} {H : List HEnt} {a : Int} {k : Kd}
theorem HeldIs.mono (h : HeldIs R xs H) (hR : ∀ p ∈ R, p ∈ R') : HeldIs R' xs H := All2.mono h fun _ _ q => ⟨q.1, q.2.mono hR⟩
theorem held_key {x : List (Int ⊕ Str) × Addr × Value} {e : HEnt} (h : x.1 = hkey e.1.1 e.1.2) : (x.1 = hkey a k) ↔ e.1 = (a, k) := by rw [h]; exact hkey_iff
theorem held_get (h : HeldIs R xs H) : match aget H (a, k) with
    | some e => ∃ p, atKey xs (hkey a k) = some p ∧ EntIs R p.2 e
    | none => atKey xs (hkey a k) = none := by
  induction h with
  | nil => rfl
  | @cons x e l r h1 h2 ih =>
    by_cases q : e.1 = (a, k)
    · have q' : x.1 = hkey a k := (held_key h1.1).mpr q
      simp only [aget, atKey, List.find?_cons, q, q', decide_true, Option.map_some]
      exact ⟨_, rfl, h1.2⟩
    · have q' : ¬ x.1 = hkey a k := fun z => q ((held_key h1.1).mp z)
      simp only [aget, atKey, List.find?_cons, q, q', decide_false] at ih ⊢
      exact ih
theorem held_opt (h : HeldIs R xs H) : OptIs R (((atKey xs (hkey a k)).map (·.2)).getD .none) (aget H (a, k)) := by
  have := held_get (a := a) (k := k) h
  cases q : aget H (a, k) with
  | none => rw [q] at this; dsimp only at this; rw [this]; rfl
  | some e => rw [q] at this; obtain ⟨p, h1, h2⟩ := this; rw [h1]; exact h2
theorem held_some (h : HeldIs R xs H) : (atKey xs (hkey a k)).isSome = (aget H (a, k)).isSome := by
  have := held_get (a := a) (k := k) h
  cases q : aget H (a, k) with
  | none => rw [q] at this; dsimp only at this; rw [this]; rfl
  | some e => rw [q] at this; obtain ⟨p, h1, h2⟩ := this; rw [h1]; rfl
theorem aget_some_any {l : List HEnt} {q : Int × Kd} : (aget l q).isSome = l.any fun d => decide (d.1 = q) := by
  cases h : aget l q with
  | none =>
    symm
    rw [Option.isSome_none, Bool.eq_false_iff]
    exact fun z => aget_none.mp h (any_key.mp z)
  | some e =>
    symm
    rw [Option.isSome_some]
    refine any_key.mpr ?_
    by_cases z : q ∈ l.map (·.1)
    · exact z
    · rw [aget_none.mpr z] at h; cases h
theorem held_put {v : Value} {x : Addr} {e : Ent} (h : HeldIs R xs H) (hv : EntIs R v e) : HeldIs R (storedH xs (hkey a k) x v) (aput H (a, k) e) := by
  unfold storedH aput
  rw [held_some h, aget_some_any]
  split
  · refine all2_map h fun y d h1 => ?_
    by_cases q : d.1 = (a, k)
    · rw [if_pos q, putAt, if_pos ((held_key h1.1).mpr q)]; exact ⟨h1.1, hv⟩
    · rw [if_neg q, putAt, if_neg fun z => q ((held_key h1.1).mp z)]; exact h1
  · exact All2.append h (.cons ⟨rfl, hv⟩ .nil)
theorem held_del (h : HeldIs R xs H) : HeldIs R (withoutH xs (hkey a k)) (adel H (a, k)) := by
  induction h with
  | nil => exact .nil
  | @cons x d l r h1 h2 ih =>
    simp only [withoutH, adel, List.filter_cons] at ih ⊢
    by_cases q : d.1 = (a, k)
    · rw [if_neg (show ¬ decide (x.1 ≠ hkey a k) = true by simp [(held_key h1.1).mpr q]), if_neg (show ¬ decide (d.1 ≠ (a, k)) = true by simp [q])]; exact ih
    · rw [if_pos (show decide (x.1 ≠ hkey a k) = true from decide_eq_true fun z => q ((held_key h1.1).mp z)), if_pos (show decide (d.1 ≠ (a, k)) = true from decide_eq_true q)]; exact .cons h1 ih
theorem tupKey {prog : Program} {w : World} {a : Int} {k : Kd} {t u : Tok} : TupKeyObj (mixKind prog w) (hkey a k) (tupObj [.int a t, .str (kdStr k) u]) :=
  ⟨rfl, _, _, rfl, by
    refine ItemsAre.cons ?_ (ItemsAre.cons ?_ ItemsAre.nil)
    · show Value.isInt a (.int a t) = true
      simp [Value.isInt]
    · show Value.isStrOf (kdStr k) (.str (kdStr k) u) = true
      simp [Value.isStrOf]⟩
end
end

section
def entDat (e : Ent) : Dat := .tuple [.int e.1, .str (tyStr e.2)]
def optDat : Option Ent → Dat
  | none => .none
  | some e => entDat e
def rowDat (r : Row) : Dat := .tuple [.int r.1, .str (tyStr r.2.1), .int r.2.2]
theorem tyOk : ∀ t : Ty, PyData.strOk (tyStr t) = true := by decide +kernel
theorem entDat_inj {e e' : Ent} (h : entDat e = entDat e') : e = e' := by
  unfold entDat at h
  injection h with h
  injection h with h1 h
  injection h with h2
  injection h1 with h1
  injection h2 with h2
  exact Prod.ext h1 (tyStr_inj _ _ h2)
theorem optDat_inj : ∀ {o o' : Option Ent}, optDat o = optDat o' → o = o'
  | none, none, _ => rfl
  | none, some e, h => by cases h
  | some e, none, h => by cases h
  | some e, some e', h => congrArg some (entDat_inj h)
theorem rowDat_inj {e e' : Row} (h : rowDat e = rowDat e') : e = e' := by
  unfold rowDat at h
  injection h with h
  injection h with h1 h
  injection h with h2 h
  injection h with h3
  injection h1 with h1
  injection h2 with h2
  injection h3 with h3
  exact Prod.ext h1 (Prod.ext (tyStr_inj _ _ h2) h3)
theorem map_inj {α β : Type} {f : α → β} (hf : ∀ {a b}, f a = f b → a = b) : ∀ {l l' : List α}, l.map f = l'.map f → l = l'
  | [], [], _ => rfl
  | [], _ :: _, h => by cases h
  | _ :: _, [], h => by cases h
  | a :: l, b :: l', h => by
    rw [List.map_cons, List.map_cons] at h
    injection h with h1 h2
    rw [hf h1, map_inj hf h2]
theorem opt_in {R : List (Addr × Obj)} {v : Value} : ∀ {o : Option Ent}, OptIs R v o → DatIn R v (optDat o)
  | none, h => by rw [show v = .none from h]; exact .none
  | some e, h => by
    obtain ⟨x, t, t', rfl, hm⟩ := h
    exact .tuple hm (.cons (.int _ _) (.cons (.str _ _) .nil))
theorem row_in {R : List (Addr × Obj)} {v : Value} {r : Row} (h : RowV R v r) : DatIn R v (rowDat r) := by
  obtain ⟨x, t1, t2, t3, rfl, hm⟩ := h
  exact .tuple hm (.cons (.int _ _) (.cons (.str _ _) (.cons (.int _ _) .nil)))
theorem dat_all {α : Type} {R : List (Addr × Obj)} {P : Value → α → Prop} {f : α → Dat} (hp : ∀ v a, P v a → DatIn R v (f a)) {vs : List Value} {os : List α} (h : All2 P vs os) : DatAll R vs (os.map f) := by
  induction h with
  | nil => exact .nil
  | cons h1 _ ih => exact .cons (hp _ _ h1) ih
theorem dec_swap {p q : Prop} {inst : Decidable p} {inst' : Decidable q} (e : p ↔ q) : @decide p inst = @decide q inst' := decide_eq_decide.mpr e
theorem opts_in {R : List (Addr × Obj)} {vs : List Value} {os : List (Option Ent)} (h : All2 (OptIs R) vs os) : DatAll R vs (os.map optDat) := dat_all (P := OptIs R) (f := optDat) (fun v o q => opt_in q) h
theorem rows_in {R : List (Addr × Obj)} {vs : List Value} {os : List Row} (h : All2 (RowV R) vs os) : DatAll R vs (os.map rowDat) := dat_all (P := RowV R) (f := rowDat) (fun v o q => row_in q) h
theorem opt_ok (o : Option Ent) : kqdOk 8 (optDat o) = true := by
  cases o with
  | none => rfl
  | some e => simp [optDat, entDat, kqdOk, tyOk]
theorem row_ok (r : Row) : kqdOk 8 (rowDat r) = true := by simp [rowDat, kqdOk, tyOk]
section
variable {prog : Program} {w : World} {A : Around} {E : Value → Shared → Prop} {s : Shared} {h₀ : Heap} {L a b : Addr} {news R R' : List (Addr × Obj)} {xs ys : List Value} {ka kb : Nat} {Q : Value → Shared → Prop}
theorem ne_opts {os os' : List (Option Ent)} (N : News h₀ L s.heap news) (ma : (a, PySem.W.listOf xs.toArray ka) ∈ news) (Ha : All2 (OptIs R) xs os) (sa : ∀ p ∈ R, p ∈ news) (mb : (b, PySem.W.listOf ys.toArray kb) ∈ news) (Hb : All2 (OptIs R) ys os') (hu : A.units + 64 < cLine)
    (h : Q (.bool (!decide (os = os'))) s) : wpAny (model prog w) A (compareOp .NotEq (.ref a) (.ref b)) Q E s := by
  refine kqd_ne N ma rfl rfl (opts_in Ha) sa mb rfl rfl (opts_in Hb) sa (fun d hd => ?_) (fun d hd => ?_) hu ?_
  · obtain ⟨o, _, rfl⟩ := List.mem_map.mp hd; exact opt_ok o
  · obtain ⟨o, _, rfl⟩ := List.mem_map.mp hd; exact opt_ok o
  · rw [dec_swap (q := os = os') ⟨map_inj optDat_inj, fun q => congrArg (List.map optDat) q⟩]; exact h
theorem eq_rows {rs rs' : List Row} (N : News h₀ L s.heap news) (ma : (a, PySem.W.listOf xs.toArray ka) ∈ news) (Ha : All2 (RowV R) xs rs) (sa : ∀ p ∈ R, p ∈ news) (mb : (b, PySem.W.listOf ys.toArray kb) ∈ news) (Hb : All2 (RowV R') ys rs') (sb : ∀ p ∈ R', p ∈ news) (hu : A.units + 64 < cLine)
    (h : Q (.bool (decide (rs = rs'))) s) : wpAny (model prog w) A (compareOp .Eq (.ref a) (.ref b)) Q E s := by
  refine kqd_eq N ma rfl rfl (rows_in Ha) sa mb rfl rfl (rows_in Hb) sb (fun d hd => ?_) (fun d hd => ?_) hu ?_
  · obtain ⟨o, _, rfl⟩ := List.mem_map.mp hd; exact row_ok o
  · obtain ⟨o, _, rfl⟩ := List.mem_map.mp hd; exact row_ok o
  · rw [dec_swap (q := rs = rs') ⟨map_inj rowDat_inj, fun q => congrArg (List.map rowDat) q⟩]; exact h

/-! lists of texts and of ints -/
theorem item_strs {value slice : Expr} {l : Addr} {its : Array Value} {n : Nat} {names : List Str} {k : Int} {u : Tok} (N : News h₀ L s.heap news) (hm : (l, PySem.W.listOf its n) ∈ news) (hv : All2 StrIs its.toList names) (h0 : 0 ≤ k) (h1 : k < names.length) (hz : names.length ≤ 1000)
    (h : ∀ x t, names[k.toNat]? = some x → Q (.str x t) s) (hs : subscripted slice false (.ref l) (.int k u) = operate [.ref l, .int k u] (getItem (.ref l) (.int k u)) := by with_unfolding_all rfl) :
    wpAny (model prog w) A (subscriptTail value slice (.ref l) (.int k u)) Q E s := by
  have hl : s.heap.IsList l its := ⟨_, (N _ hm).1, rfl, _, rfl⟩
  have hk : k.toNat < names.length := by omega
  obtain ⟨v, hv1, t, rfl⟩ := hv.get' (List.getElem?_eq_getElem hk)
  exact tail_any hl.typeIs slot_list_getitem.lookup (wpAny_getItem_list hl h0 (by omega) (by rw [← Array.getElem?_toList]; exact hv1) (h _ _ (List.getElem?_eq_getElem hk))) hs
theorem item_intsM {value slice : Expr} {l : Addr} {its : Array Value} {n : Nat} {names : List Int} {k : Int} {u : Tok} (N : News h₀ L s.heap news) (hm : (l, PySem.W.listOf its n) ∈ news) (hv : All2 (fun v i => ∃ t, v = .int i t) its.toList names) (h0 : 0 ≤ k) (h1 : k < names.length) (hz : names.length ≤ 1000)
    (h : ∀ x t, names[k.toNat]? = some x → Q (.int x t) s) (hs : subscripted slice false (.ref l) (.int k u) = operate [.ref l, .int k u] (getItem (.ref l) (.int k u)) := by with_unfolding_all rfl) :
    wpAny (model prog w) A (subscriptTail value slice (.ref l) (.int k u)) Q E s := by
  have hl : s.heap.IsList l its := ⟨_, (N _ hm).1, rfl, _, rfl⟩
  have hk : k.toNat < names.length := by omega
  obtain ⟨v, hv1, t, rfl⟩ := hv.get' (List.getElem?_eq_getElem hk)
  exact tail_any hl.typeIs slot_list_getitem.lookup (wpAny_getItem_list hl h0 (by omega) (by rw [← Array.getElem?_toList]; exact hv1) (h _ _ (List.getElem?_eq_getElem hk))) hs
def strEq (x : Str) : Value → Bool
  | .str y _ => y == x
  | _ => false
theorem idx_strs {l : Addr} {its : Array Value} {n : Nat} {names : List Str} {x : Str} {u : Tok} {j : Nat} (N : News h₀ L s.heap news) (hm : (l, PySem.W.listOf its n) ∈ news) (hv : All2 StrIs its.toList names) (hj : names[j]? = some x) (hno : ∀ i, i < j → names[i]? ≠ some x) (hz : names.length ≤ 1000)
    (h : Q (.int j s.toks) { s with toks := s.toks + 1 }) : wpAny (model prog w) A (call (.builtin "list.index") [.ref l, .str x u]) Q E s := by
  have hlen : its.size = names.length := by rw [← Array.length_toList]; exact hv.length
  have hjl : j < names.length := (List.getElem?_eq_some_iff.mp hj).1
  refine call_meets PySem.F.slot_list_index ⟨_, (N _ hm).1, rfl⟩ PySem.F.entry_list_index (PySem.F.args_list_index_2 _ _)
    (MeetsSeq.list_index l its n (.str x u) (strEq x) (fun y hy => ?_) j (by omega) (by omega) ?_ (fun i hi hlt => ?_)) ⟨(N _ hm).1, h⟩
  · obtain ⟨z, _, t, rfl⟩ := hv.mem (Array.mem_toList_iff.mpr hy)
    exact eqGives_str z x t u
  · obtain ⟨v, hv1, t, rfl⟩ := hv.get' hj
    rw [Array.getElem?_toList] at hv1
    have := (Array.getElem?_eq_some_iff.mp hv1).2
    rw [this]; simp [strEq]
  · have hi2 : its.toList[i]? = some its[i] := by rw [Array.getElem?_toList]; exact Array.getElem?_eq_getElem hi
    obtain ⟨z, hz1, t, e⟩ := hv.get hi2
    rw [e]
    have : z ≠ x := fun q => hno i hlt (by rw [hz1, q])
    simp [strEq, this]
end
end

section
theorem execs_app_wp {M : Model} {Γ} {env : Env} {l2 : List Stmt} {Q : Flow → _ → Shared → Prop} {E : Value → _ → Shared → Prop} : ∀ (l1 : List Stmt) p s, Sem.wp M Γ (execs l1 env) (fun f p' s' => match f with | .next => Sem.wp M Γ (execs l2 env) Q E p' s' | f => Q f p' s') E p s → Sem.wp M Γ (execs (l1 ++ l2) env) Q E p s
  | [], p, s, h => by
    rw [execs_nil] at h
    exact h
  | st :: l1, p, s, h => by
    rw [List.cons_append, execs_cons, Sem.wp_bind']
    rw [execs_cons, Sem.wp_bind'] at h
    refine Sem.wp_mono M Γ _ (fun f p' s' h' => ?_) (fun _ _ _ h' => h') _ _ h
    cases f with
    | next => exact execs_app_wp l1 p' s' h'
    | _ => exact h'
theorem execs_app {M : Model} {A : Around} {env : Env} {l1 l2 : List Stmt} {Q : Flow → Shared → Prop} {E : Value → Shared → Prop} {s : Shared} (h : wpAny M A (execs l1 env) (fun f s' => match f with | .next => wpAny M A (execs l2 env) Q E s' | f => Q f s') E s) : wpAny M A (execs (l1 ++ l2) env) Q E s := fun Γ p hΓ => by
  refine execs_app_wp l1 p s (Sem.wp_mono M Γ _ (fun f p' s' h' => ?_) (fun _ _ _ h' => h') _ _ (h Γ p hΓ))
  cases f with
  | next => exact h' Γ p' hΓ
  | _ => exact h'
theorem cut_many {prog : Program} {w : World} {A : Around} {env : Env} {body : List Stmt} {Q : Flow → Shared → Prop} {E : Value → Shared → Prop} {s : Shared} {h₀ : Heap} {L : Addr} (k : Nat) (P : (Str → Option Value) → List (Addr × Obj) → Prop)
    (hx : ∀ Q' : Flow → Shared → Prop, (∀ h tk m news, Fr h₀ L h m → News h₀ L h news → P m news → Q' .next { s with heap := h, toks := tk }) → (∀ v s', Q (.ret v) s' → Q' (.ret v) s') → wpAny (model prog w) A (execs (body.take k) env) Q' E s)
    (hr : ∀ h tk m news, Fr h₀ L h m → News h₀ L h news → P m news → wpAny (model prog w) A (execs (body.drop k) env) Q E { s with heap := h, toks := tk }) :
    wpAny (model prog w) A (execs body env) Q E s := by
  rw [← List.take_append_drop k body]
  exact execs_app (hx _ (fun h tk m news F N p => hr h tk m news F N p) fun v s' h => h)
def seqP (z : Addr × Obj) : Bool := match z.2.data with
  | .seq _ _ => true
  | _ => false
def Tups (R : List (Addr × Obj)) : Prop := ∀ z ∈ R, z.2.cls = .type "tuple" ∧ seqP z = true
theorem Tups.filter {R : List (Addr × Obj)} (h : ∀ z ∈ R, z.2.cls = .type "tuple") : Tups (R.filter seqP) := fun z hz => ⟨h z (List.mem_filter.mp hz).1, (List.mem_filter.mp hz).2⟩
theorem EntIs.seqs {R : List (Addr × Obj)} {v : Value} {e : Ent} (h : EntIs R v e) : EntIs (R.filter seqP) v e := let ⟨x, t, t', a, b⟩ := h; ⟨x, t, t', a, List.mem_filter.mpr ⟨b, rfl⟩⟩
theorem RowV.seqs {R : List (Addr × Obj)} {v : Value} {r : Row} (h : RowV R v r) : RowV (R.filter seqP) v r := let ⟨x, t1, t2, t3, a, b⟩ := h; ⟨x, t1, t2, t3, a, List.mem_filter.mpr ⟨b, rfl⟩⟩
theorem Tab.seqs {prog : Program} {w : World} {R : List (Addr × Obj)} {o : Obj} {D : List (Int × Ent)} (h : Tab prog w R o D) : Tab prog w (R.filter seqP) o D := let ⟨kvs, a, b⟩ := h; ⟨kvs, a, b.mono fun _ _ q => ⟨q.1, q.2.seqs⟩⟩
theorem TabS.seqs {prog : Program} {w : World} {R : List (Addr × Obj)} {op oi oq : Obj} {D : Kd → List (Int × Ent)} (h : TabS prog w R op oi oq D) : TabS prog w (R.filter seqP) op oi oq D := ⟨h.1.seqs, h.2.1.seqs, h.2.2.seqs⟩
theorem tups_off {h₀ h : Heap} {L : Addr} {news R mu : List (Addr × Obj)} (N : News h₀ L h news) (hT : Tups R) (hR : ∀ z ∈ R, z ∈ news) (hm : ∀ y ∈ mu, y ∈ news ∧ (y.2.cls ≠ .type "tuple" ∨ seqP y = false)) : OwnOff R (mu.map (·.1)) := fun z hz c hc e => by
  obtain ⟨y, hy, rfl⟩ := List.mem_map.mp hc
  obtain ⟨h1, h2⟩ := hm y hy
  have e2 : z.2 = y.2 := by
    have a := (N z (hR z hz)).1
    have b := (N y h1).1
    rw [e, b] at a
    exact (Option.some.inj a).symm
  rcases h2 with h2 | h2
  · exact h2 (by rw [← e2]; exact (hT z hz).1)
  · have := (hT z hz).2
    unfold seqP at this h2
    rw [e2, h2] at this; cases this
def LawM (m : Str → Option Value) (b cl : Addr) (std : Bool) (tb ty ki : Addr) : Prop := m (Str.ofString "book") = some (.ref b) ∧ m (Str.ofString "cells") = some (.ref cl) ∧ m (Str.ofString "standard") = some (.bool std) ∧ m (Str.ofString "table") = some (.ref tb) ∧ m (Str.ofString "types") = some (.ref ty) ∧ m (Str.ofString "kinds") = some (.ref ki)
def lawNames : List Str := [Str.ofString "book", Str.ofString "cells", Str.ofString "standard", Str.ofString "table", Str.ofString "types", Str.ofString "kinds"]
theorem LawM.set {m : Str → Option Value} {b cl : Addr} {std : Bool} {tb ty ki : Addr} (h : LawM m b cl std tb ty ki) {x : Str} {v : Option Value} (hx : x ∉ lawNames) : LawM (fun y => if y = x then v else m y) b cl std tb ty ki := by
  simp only [lawNames, List.mem_cons, List.not_mem_nil, or_false, not_or] at hx
  obtain ⟨a1, a2, a3, a4, a5, a6⟩ := hx
  obtain ⟨b1, b2, b3, b4, b5, b6⟩ := h
  exact ⟨(if_neg (Ne.symm a1)).trans b1, (if_neg (Ne.symm a2)).trans b2, (if_neg (Ne.symm a3)).trans b3, (if_neg (Ne.symm a4)).trans b4, (if_neg (Ne.symm a5)).trans b5, (if_neg (Ne.symm a6)).trans b6⟩
abbrev lawLed (hd c2 p i q n t : Addr) (ho oh op oi oq : Obj) (ts : Array Value) (n1 : Nat) (o : Obj) (rest : List (Addr × Obj)) : List (Addr × Obj) :=
  (hd, ho) :: (c2, oh) :: (p, op) :: (i, oi) :: (q, oq) :: (t, PySem.W.listOf ts n1) :: (n, o) :: rest
/-- numbers that rise -/
def Asc : List Nat → Prop
  | [] => True
  | [_] => True
  | a :: b :: r => a < b ∧ Asc (b :: r)
theorem Asc.lt : ∀ {l : List Nat}, Asc l → ∀ {i j : Nat} {a b : Nat}, i < j → l[i]? = some a → l[j]? = some b → a < b
  | [], _, _, _, _, _, _, h, _ => by cases h
  | [_], _, i, j, _, _, hij, h, h2 => by
    cases i with
    | succ i => cases h
    | zero => cases j with
      | zero => exact absurd hij (Nat.lt_irrefl _)
      | succ j => cases h2
  | x :: y :: r, hl, i, j, a, b, hij, h, h2 => by
    cases j with
    | zero => exact absurd hij (Nat.not_lt_zero _)
    | succ j =>
      cases i with
      | succ i => exact Asc.lt hl.2 (Nat.lt_of_succ_lt_succ hij) h h2
      | zero =>
        injection h with h; subst h
        cases j with
        | zero => injection h2 with h2; subst h2; exact hl.1
        | succ j => exact Nat.lt_trans hl.1 (Asc.lt hl.2 (Nat.succ_pos _) rfl h2)
theorem Asc.ne {l : List Nat} (h : Asc l) {i j a b : Nat} (hij : i ≠ j) (ha : l[i]? = some a) (hb : l[j]? = some b) : a ≠ b := by
  rcases Nat.lt_or_gt_of_ne hij with q | q
  · exact Nat.ne_of_lt (h.lt q ha hb)
  · exact (Nat.ne_of_lt (h.lt q hb ha)).symm
theorem Asc.off {l : List Nat} (h : Asc l) {X : List (Addr × Obj)} {mu : List Addr} (ix im : List Nat) (e1 : ix.map (fun i => l[i]?) = X.map fun z => some z.1) (e2 : im.map (fun i => l[i]?) = mu.map some) (d : ∀ i ∈ ix, ∀ j ∈ im, i ≠ j) : OwnOff X mu := fun z hz c hc => by
  have h1 : some z.1 ∈ X.map fun z => some z.1 := List.mem_map.mpr ⟨z, hz, rfl⟩
  have h2 : some c ∈ mu.map some := List.mem_map.mpr ⟨c, hc, rfl⟩
  rw [← e1] at h1
  rw [← e2] at h2
  obtain ⟨i, hi, q1⟩ := List.mem_map.mp h1
  obtain ⟨j, hj, q2⟩ := List.mem_map.mp h2
  exact h.ne (d i hi j hj) q1 q2
theorem ty_at : ∀ t : Ty, [tyStr 0, tyStr 1, tyStr 2, tyStr 3, tyStr 4, tyStr 5, tyStr 6][t.val]? = some (tyStr t) := by decide +kernel
theorem kd_at : ∀ t : Ty, [kdStr 0, kdStr 0, kdStr 1, kdStr 1, kdStr 1, kdStr 2, kdStr 2][t.val]? = some (kdStr (kd t)) := by decide +kernel
theorem ty_first : ∀ t : Ty, ∀ i, i < t.val → [tyStr 0, tyStr 1, tyStr 2, tyStr 3, tyStr 4, tyStr 5, tyStr 6][i]? ≠ some (tyStr t) := by
  have : ∀ t : Ty, ∀ i : Fin 7, i.val < t.val → [tyStr 0, tyStr 1, tyStr 2, tyStr 3, tyStr 4, tyStr 5, tyStr 6][i.val]? ≠ some (tyStr t) := by decide +kernel
  exact fun t i hi => this t ⟨i, by omega⟩ hi

theorem idxOf_atomAdd (xs : List Str) (y : Str) : (atomAdd xs y).idxOf y = xs.idxOf y := by
  unfold atomAdd
  split
  · rfl
  · rename_i h
    rw [List.idxOf_append, if_neg h, List.idxOf_eq_length h]
    simp
theorem mem_atomAdd (xs : List Str) (y : Str) : y ∈ atomAdd xs y := by
  unfold atomAdd
  split
  · assumption
  · exact List.mem_append_right _ (.head _)
theorem len_atomAdd (xs : List Str) (y : Str) : (atomAdd xs y).length ≤ xs.length + 1 := by
  unfold atomAdd
  split <;> simp
structure LawSt (prog : Program) (w : World) (std : Bool) (R : List (Addr × Obj)) (xs : List Str) (D : Kd → List (Int × Ent)) (H : List HEnt) (hx : List (List (Int ⊕ Str) × Addr × Value)) (ho op oi oq o oa : Obj) (ts : Array Value) : Prop where
  tups : Tups R
  atoms : Atoms prog w o ts xs
  tabs : TabS prog w R op oi oq D
  held : HTab (mixKind prog w) R ho hx
  heldIs : HeldIs R hx H
  inv : Inv std xs D H
  cell : ∃ v, oa.data = .cell v
theorem LawSt.atom {prog : Program} {w : World} {std : Bool} {R : List (Addr × Obj)} {xs : List Str} {D : Kd → List (Int × Ent)} {H : List HEnt} {hx : List (List (Int ⊕ Str) × Addr × Value)} {ho op oi oq o o' oa : Obj} {ts ts' : Array Value} (S : LawSt prog w std R xs D H hx ho op oi oq o oa ts) {y : Str} (A : Atoms prog w o' ts' (atomAdd xs y)) : LawSt prog w std R (atomAdd xs y) D H hx ho op oi oq o' oa ts' := ⟨S.tups, A, S.tabs, S.held, S.heldIs, S.inv.atom y, S.cell⟩
theorem LawSt.len {prog : Program} {w : World} {std : Bool} {R : List (Addr × Obj)} {xs : List Str} {D : Kd → List (Int × Ent)} {H : List HEnt} {hx : List (List (Int ⊕ Str) × Addr × Value)} {ho op oi oq o oa : Obj} {ts : Array Value} (S : LawSt prog w std R xs D H hx ho op oi oq o oa ts) : hx.length ≤ 1000 := by
  rw [S.heldIs.length]; exact Nat.le_trans (Nat.le_of_lt S.inv.hlen) (by decide)
section
variable {prog : Program} {w : World} {std : Bool} {R : List (Addr × Obj)} {xs : List Str} {D : Kd → List (Int × Ent)} {H : List HEnt} {hx : List (List (Int ⊕ Str) × Addr × Value)} {ho op oi oq o oa : Obj} {ts : Array Value} {hd c2 p i q t n : Addr} {n1 : Nat} {own : List (Addr × Obj)} {h₀ h : Heap} {L : Addr}
theorem LawSt.off (S : LawSt prog w std R xs D H hx ho op oi oq o oa ts) (N : News h₀ L h (lawLed hd c2 p i q n t ho oa op oi oq ts n1 o (R ++ own))) :
    OwnOff R [hd, c2, p, i, q, n, t] := by
  refine tups_off (mu := [(hd, ho), (c2, oa), (p, op), (i, oi), (q, oq), (n, o), (t, PySem.W.listOf ts n1)]) N S.tups (fun z hz => by walk_at "my in") fun y hy => ?_
  have cd : ∀ {o : Obj}, o.cls = .type "dict" → o.cls ≠ .type "tuple" := fun e h => by rw [e] at h; injection h with h; exact absurd h (by decide)
  have hs : y ∈ lawLed hd c2 p i q n t ho oa op oi oq ts n1 o (R ++ own) := (by walk_at "my sub" : ∀ z ∈ [(hd, ho), (c2, oa), (p, op), (i, oi), (q, oq), (n, o), (t, PySem.W.listOf ts n1)], z ∈ lawLed hd c2 p i q n t ho oa op oi oq ts n1 o (R ++ own)) y hy
  refine ⟨hs, ?_⟩
  simp only [List.mem_cons, List.not_mem_nil, or_false] at hy
  obtain ⟨v1, hv1⟩ := S.cell
  rcases hy with rfl | rfl | rfl | rfl | rfl | rfl | rfl
  · exact .inl (cd S.held.cls)
  · exact .inr (by simp [seqP, hv1])
  · exact .inl (cd S.tabs.1.cls)
  · exact .inl (cd S.tabs.2.1.cls)
  · exact .inl (cd S.tabs.2.2.cls)
  · exact .inl (cd (atoms_cls S.atoms))
  · exact .inl (fun h => by injection h with h; exact absurd h (by decide))
end
def LP (prog : Program) (w : World) (std : Bool) (hd c2 p i q n t b cl tb ty ki : Addr) (own : List (Addr × Obj)) (bound : Nat) (X : List Str → (Kd → List (Int × Ent)) → List HEnt → (Str → Option Value) → Prop) (m : Str → Option Value) (nw : List (Addr × Obj)) : Prop :=
  ∃ xs D H R hx ho op oi oq o oa ts n1, nw = lawLed hd c2 p i q n t ho oa op oi oq ts n1 o (R ++ own) ∧ LawSt prog w std R xs D H hx ho op oi oq o oa ts ∧ xs.length ≤ bound ∧ LawM m b cl std tb ty ki ∧ X xs D H m
end

section
/-! ## a dict's keys one after the other, whatever the keys are -/
def DictRaw (h : Heap) (d : Addr) (es : Array DictEntry) (ep : Nat) : Prop := ∃ o, h.get? d = some o ∧ o.ExactDict ∧ o.data = .dict es ep
section
variable {prog : Program} {w : World} {A : Around} {E : Value → Shared → Prop} {s : Shared} {d it : Addr} {es : Array DictEntry} {ep i : Nat}
theorem DictRaw.at {h h' : Heap} (x : DictRaw h d es ep) (e : ∀ o, h.get? d = some o → h'.get? d = some o) : DictRaw h' d es ep := let ⟨o, a, r⟩ := x; ⟨o, e _ a, r⟩
theorem raw_iter {Q : Value → Shared → Prop} (hd : (d == sysModules) = false) (hm : DictRaw s.heap d es ep)
    (hQ : Q (.ref s.heap.objs.size) { s with heap := s.heap.push { cls := .type "dict_keyiterator", data := .fields #[.ref d, .int 0 0, .int es.size 0, .int ep 0] } }) :
    wpAny (model prog w) A (pyIter (.ref d)) Q E s := by
  obtain ⟨o, ho, hc, hdat⟩ := id hm
  have hT : s.TypeIs (.ref d) "dict" := ⟨o, ho, hc.1⟩
  refine wpAny_pyIter_slot hT F.slot_dict_iter (wpAny_call_entry F.slot_dict_iter hT F.entry_dict_iter ?_ (F.args_dict_iter_1 _))
  unfold Builtin.«dict.__iter__»
  refine wpAny_bind ?_
  unfold Builtin.Dict.dictSlotNone
  refine wpAny_bind (wpAny_notOrdered_dict hT ?_)
  show wpAny _ _ (pure (Value.ref d)) _ _ s
  refine wpAny_pure ?_
  show wpAny _ _ (Builtin.Dict.showsAll d >>= _) _ _ s
  unfold Builtin.Dict.showsAll
  rw [if_neg (by rw [hd]; exact Bool.false_ne_true)]
  refine wpAny_bind (wpAny_pure ?_)
  refine wpAny_bind (wpAny_dictEntries ho hdat ?_)
  refine wpAny_bind (wpAny_dictEpoch ho hdat ?_)
  refine wpAny_bind (wpAny_newObj_type (wpAny_pure ⟨_, rfl, "dict_keyiterator", _, ⟨_, Heap.get?_push_size _ rfl, rfl⟩, F.slot_dict_keyiterator_next.lookup, ?_⟩))
  simpa [rawInt] using hQ
theorem raw_next {e : DictEntry} {Q : Option Value → Shared → Prop} (hit : s.heap.IsKeyIter it d i es.size ep) (hm : DictRaw s.heap d es ep) (hx : es[i]? = some e)
    (hQ : ∀ h', h'.IsKeyIter it d (i + 1) es.size ep → Heap.SameBut it s.heap h' → Q (some e.key) { s with heap := h' }) :
    wpAny (model prog w) A (pyNext (.ref it)) Q E s := by
  obtain ⟨o, ho, hc, hd⟩ := id hit
  obtain ⟨od, hod, hcd, hdd⟩ := id hm
  unfold pyNext
  refine wpAny_bind (wpAny_attempt (wpAny_callSpecial?_slot (name := Str.ofString "__next__") hit.typeIs F.slot_dict_keyiterator_next
    (wpAny_call_entry F.slot_dict_keyiterator_next hit.typeIs F.entry_dict_keyiterator_next ?_ (F.args_dict_keyiterator_next_1 _))))
  refine wpAny_bind (wpAny_pure ?_)
  refine wpAny_bind ?_
  refine wpAny_bind ?_
  first | refine wpAny_bind (wpAny_typeNameOfWhole_keyiter hit.typeIs (wpAny_pure ?_)) | refine wpAny_bind (wpAny_typeNameOf_keyiter hit.typeIs (wpAny_pure ?_))
  refine wpAny_bind (wpAny_fieldsOf ho hd ?_)
  have hown : Builtin.Dict_items.ownsTuple "dict_keyiterator" = false := by decide
  simp only [hown, Bool.false_eq_true, if_false]
  show wpAny _ _ (if (Value.ref d == Value.none) = true then _ else _) _ _ s
  rw [if_neg (show ¬ ((Value.ref d == Value.none) = true) from Bool.false_ne_true)]
  refine wpAny_bind (wpAny_pure ?_)
  refine wpAny_bind (wpAny_dictEntries hod hdd ?_)
  rw [if_neg (by simp)]
  refine wpAny_bind (wpAny_pure ?_)
  refine wpAny_bind (wpAny_dictEpoch hod hdd ?_)
  rw [if_neg (by simp)]
  refine wpAny_pure ?_
  simp only [show ¬ ((i : Int) < 0) from by omega, if_false, Int.toNat_natCast, hx]
  refine wpAny_bind ?_
  first | refine wpAny_bind (wpAny_typeNameOfWhole_keyiter hit.typeIs (wpAny_pure ?_)) | refine wpAny_bind (wpAny_typeNameOf_keyiter hit.typeIs (wpAny_pure ?_))
  refine wpAny_bind (wpAny_isOneOf_keyiter hit.typeIs ?_)
  show wpAny _ _ (setField (.ref it) 1 (rawInt ((i : Int) + 1)) >>= _) _ _ s
  refine wpAny_bind (wpAny_setField ho hd (by simp) ?_)
  have hit' : (s.heap.update it (Obj.mapFields (·.setIfInBounds 1 (rawInt ((i : Int) + 1))))).IsKeyIter it d (i + 1) es.size ep :=
    ⟨_, Heap.get?_update_self _ ho (Obj.isFreed_of_fields (Obj.data_mapFields hd _)), (Obj.cls_mapFields ..).trans hc, by rw [Obj.data_mapFields hd]; simp [rawInt]⟩
  refine wpAny_bind (wpAny_holding ?_)
  refine wpAny_bind (wpAny_isOneOf_keyiter (s := { s with heap := s.heap.update it (Obj.mapFields (·.setIfInBounds 1 (rawInt ((i : Int) + 1)))) }) hit'.typeIs ?_)
  show wpAny _ _ (pure e.key) _ _ _
  exact wpAny_pure (wpAny_pure ⟨_, rfl, wpAny_pure (hQ _ hit' (Heap.SameBut.update ..))⟩)
theorem raw_end {Q : Option Value → Shared → Prop} (hh : A.handled = none) (hit : s.heap.IsKeyIter it d es.size es.size ep) (hm : DictRaw s.heap d es ep)
    (hQ : ∀ h', Heap.ExtBut it s.heap h' → Q none { s with heap := h' }) : wpAny (model prog w) A (pyNext (.ref it)) Q E s := by
  obtain ⟨o, ho, hc, hd⟩ := id hit
  obtain ⟨od, hod, hcd, hdd⟩ := id hm
  unfold pyNext
  refine wpAny_bind (wpAny_attempt (wpAny_callSpecial?_slot (name := Str.ofString "__next__") hit.typeIs F.slot_dict_keyiterator_next
    (wpAny_call_entry F.slot_dict_keyiterator_next hit.typeIs F.entry_dict_keyiterator_next ?_ (F.args_dict_keyiterator_next_1 _))))
  refine wpAny_bind (wpAny_pure ?_)
  refine wpAny_bind ?_
  refine wpAny_bind ?_
  first | refine wpAny_bind (wpAny_typeNameOfWhole_keyiter hit.typeIs (wpAny_pure ?_)) | refine wpAny_bind (wpAny_typeNameOf_keyiter hit.typeIs (wpAny_pure ?_))
  refine wpAny_bind (wpAny_fieldsOf ho hd ?_)
  have hown : Builtin.Dict_items.ownsTuple "dict_keyiterator" = false := by decide
  simp only [hown, Bool.false_eq_true, if_false]
  show wpAny _ _ (if (Value.ref d == Value.none) = true then _ else _) _ _ s
  rw [if_neg (show ¬ ((Value.ref d == Value.none) = true) from Bool.false_ne_true)]
  refine wpAny_bind (wpAny_pure ?_)
  refine wpAny_bind (wpAny_dictEntries hod hdd ?_)
  rw [if_neg (by simp)]
  refine wpAny_bind (wpAny_pure ?_)
  refine wpAny_bind (wpAny_dictEpoch hod hdd ?_)
  rw [if_neg (by simp)]
  refine wpAny_pure ?_
  simp only [show ¬ ((es.size : Int) < 0) from by omega, if_false, Int.toNat_natCast, Array.getElem?_eq_none (Nat.le_refl es.size)]
  refine wpAny_bind ?_
  first | refine wpAny_bind (wpAny_typeNameOfWhole_keyiter hit.typeIs (wpAny_pure ?_)) | refine wpAny_bind (wpAny_typeNameOf_keyiter hit.typeIs (wpAny_pure ?_))
  show wpAny _ _ (setField (.ref it) 0 .none >>= _) _ _ s
  refine wpAny_bind (wpAny_setField ho hd (by simp) ?_)
  show wpAny _ _ (newExc (.type "StopIteration") [] >>= _) _ _ _
  refine wpAny_bind ?_
  simp only [newExc, newTuple]
  refine wpAny_bind (wpAny_newObj_type ?_ (by size_fits))
  refine wpAny_bind (m := firstArgMember _ _) (wpAny_of_eq (a := Value.none) (by first | rfl | (simp only [firstArgMember]; rfl)) ?_)
  refine wpAny_newObj_type ?_ (by size_fits)
  simp only [raiseNew]
  refine wpAny_bind (wpAny_handled ?_)
  rw [show A.in1.handled = none from hh]
  refine wpAny_bind (wpAny_pure (wpAny_throw ?_))
  refine wpAny_bind (wpAny_isInstance (T := "StopIteration") (b := true) ⟨_, Heap.get?_push_size _ rfl, rfl⟩ isSubtype_stop ?_)
  exact wpAny_pure (hQ _ (((Heap.SameBut.update ..).extBut.push _).push _))
theorem raw_walks (hh : A.handled = none) (I d : Addr) (hne : d ≠ I) (es : Array DictEntry) (ep : Nat) :
    Walks prog w A I [I, d] [I] es.size (fun i v => ∃ e, es[i]? = some e ∧ v = e.key) (fun i h => h.IsKeyIter I d i es.size ep ∧ DictRaw h d es ep) where
  sub := fun b hb => by simp at hb; simp [hb]
  frame := fun _ _ _ st hk => ⟨st.1.at fun o e => hk I (by simp) o e, st.2.at fun o e => hk d (by simp) o e⟩
  item := fun i s Q E hi st hQ => by
    refine raw_next st.1 st.2 (Array.getElem?_eq_getElem hi) fun h' hit' hs' => ?_
    exact hQ _ h' s.toks ⟨_, Array.getElem?_eq_getElem hi, rfl⟩ ⟨hit', st.2.at fun o e => hs'.extBut _ o hne e⟩ fun b o hb e => hs'.extBut b o (fun h => hb (by simp [h])) e
  done := fun s Q E st hQ => raw_end hh st.1 st.2 fun h' he' => hQ h' s.toks fun b o hb e => he' b o (fun h => hb (by simp [h])) e
  self := fun _ _ _ _ st hQ => wpAny_pyIter_keyiter st.1 hQ
end
end

section
section
variable {prog : Program} {w : World} {A : Around} {E : Value → Shared → Prop} {s : Shared} {h₀ : Heap} {L : Addr} {m : Str → Option Value} {env : Env}
open LCg in
theorem comp_dict {elt iter : Expr} {x : Str} {px : Pos} {scope : Scope} {cl : List (Str × Addr)} {pos : Pos} {Q : Value → Shared → Prop}
    (hclos : closureFor scope env = pure cl) (hcell : ∀ y ∈ scope.names, y.2 ≠ .cell) (hkind : scope.kind = .function)
    (hnames : ∀ y ∈ scope.names, y.2 = .local → scope.names.lookup y.1 = some .local) (hx : scope.names.lookup x = some .local)
    (h : wpAny (model prog w) A (eval iter env) (fun xv s₁ => ∃ ax es ep o news, xv = .ref ax ∧ A.handled = none ∧ (ax == sysModules) = false ∧ Fr h₀ L s₁.heap m ∧ News h₀ L s₁.heap news ∧ (ax, o) ∈ news ∧ o.ExactDict ∧ o.data = .dict es ep ∧ es.size ≤ sizeLine ∧
      ∀ s₂ : Shared, (∃ h, s₂ = { s₁ with heap := h }) → CompRest prog w A h₀ L m env elt x scope cl s₂ (fun nw => (ax, o) ∈ nw) (fun i v => ∃ e, es[i]? = some e ∧ v = e.key) (FinE h₀ L m s₂ Q) es.size 0 [] news) E s)
    (hs : ∀ x, foldedSetIterable iter env x = pure x := by intro _; rfl) :
    wpAny (model prog w) A (eval (.ListComp elt [⟨.Name x px, iter, [], 0⟩] scope pos) env) Q E s := by
  rw [eval_ListComp]
  refine wpAny_comprehension_free (use := none) rfl hs hclos hkind hnames (wpAny_mono h (fun xv s₁ h₁ => ?_) fun _ _ e => e)
  obtain ⟨ax, es, ep, o, news, rfl, hh, hsys, F, N, hm, hc, hd, hsz, R⟩ := h₁
  have hl : DictRaw s₁.heap ax es ep := ⟨o, (N _ hm).1, hc, hd⟩
  have hlt : ax < s₁.heap.objs.size := Heap.lt_size (N _ hm).1
  refine raw_iter hsys hl ?_
  have up : ∀ b o, s₁.heap.get? b = some o → (s₁.heap.push { cls := .type "dict_keyiterator", data := .fields #[.ref ax, .int 0 0, .int es.size 0, .int ep 0] }).get? b = some o := fun b o e => Heap.get?_push_of_some _ e
  refine block_U (raw_walks hh s₁.heap.objs.size ax (Nat.ne_of_lt hlt) es ep) hsz (fun i h st => by obtain ⟨o, e, _⟩ := st.1; exact ⟨o, e⟩) ?_ hcell hkind hx ⟨⟨_, Heap.get?_push_size _ rfl, rfl, rfl⟩, hl.at fun o e => up _ o e⟩ (fun b hb => ?_)
    (F.keeps up) (N.grown up) (Nat.ne_of_lt F.ns.lt) (next_is_new F) (fun p hp => Nat.ne_of_lt (Heap.lt_size (N p hp).1)) hm (R _ ⟨_, rfl⟩) ?_
  · intro i h h' oI nw st e e' _ N' hm'
    refine ⟨?_, o, (N' _ hm').1, hc, hd⟩
    obtain ⟨o1, e1, r⟩ := st.1
    rw [e] at e1
    obtain rfl := Option.some.inj e1
    exact ⟨_, e', r⟩
  · show b < (s₁.heap.push _).objs.size
    rw [Heap.size_push]
    rcases List.mem_cons.mp hb with rfl | hb
    · exact Nat.lt_succ_self _
    · rw [List.mem_singleton.mp hb]; exact Nat.lt_succ_of_lt hlt
  · intro D C h tk m' ys news' F' N' o1 hn hC₀ hD₀ hCL hDL hCD offC fin
    refine ⟨m', hn, fun h'' hs'' => fin D h'' tk (F'.change hs'' hCL hC₀) (fun p hp => ?_) o1⟩
    refine ⟨hs''.extBut _ _ ?_ (N' p hp).1, (N' p hp).2⟩
    rcases List.mem_cons.mp hp with rfl | hp
    · exact Ne.symm hCD
    · exact offC p hp
open LCg in
/-- the turns of a comprehension, by a relation that holds between them -/
theorem comp_all {elt : Expr} {x : Str} {scope : Scope} {cl : List (Str × Addr)} {S : List (Addr × Obj) → Prop} {P : Nat → Value → Prop} {Fin : List Value → List (Addr × Obj) → Prop} {n : Nat} (J : Nat → List Value → List (Addr × Obj) → Prop)
    (step : ∀ i ys news v I oI C oC D m₂ h tk (E' : Value → Shared → Prop), i < n → J i ys news → P i v → NsObj oC m₂ → m₂ x = some v → Fr h₀ L h m → News h₀ L h ((I, oI) :: (C, oC) :: (D, lst ys) :: news) → Off3 I C D news → ((@Ne Nat I C) ∧ (@Ne Nat I D) ∧ (@Ne Nat C D)) →
      wpAny (model prog w) A (eval elt (compEnvC scope cl C env)) (CompEnd h₀ L m { s with heap := h, toks := tk } I oI C oC D (lst ys) S (fun y news' => J (i + 1) (ys ++ [y]) news')) E' { s with heap := h, toks := tk })
    (fin : ∀ ys news, J n ys news → Fin ys news) : ∀ k i ys news, i + k = n → J i ys news → CompRest prog w A h₀ L m env elt x scope cl s S P Fin k i ys news
  | 0, i, ys, news, e, j => fin ys news (by rw [← e]; exact j)
  | k + 1, i, ys, news, e, j => fun v I oI C oC D m₂ h tk E' hP hC hx F N off ne => by
    refine wpAny_mono (step i ys news v I oI C oC D m₂ h tk E' (by omega) j hP hC hx F N off ne) (fun y s₂ hy => ?_) fun _ _ e => e
    obtain ⟨h', tk', news', es, F', N', off', hS, r⟩ := hy
    exact ⟨h', tk', news', es, F', N', off', hS, comp_all J step fin k (i + 1) (ys ++ [y]) news' (by omega) r⟩
end
end

section
section
variable {prog : Program} {w : World} {A : Around} {E : Value → Shared → Prop} {s : Shared} {h₀ : Heap} {L : Addr} {news : List (Addr × Obj)}
theorem key_shape {a : Int} {k : Kd} {ok : Obj} (h : TupKeyObj (mixKind prog w) (hkey a k) ok) : ok.cls = .type "tuple" ∧ ∃ n t u, ok.data = .seq #[.int a t, .str (kdStr k) u] n := by
  obtain ⟨hc, items, n, hd, hi⟩ := h
  refine ⟨hc, ?_⟩
  generalize hl : items.toList = l at hi
  unfold hkey at hi
  cases hi with
  | cons h1 hi =>
    cases hi with
    | cons h2 hi =>
      cases hi
      obtain ⟨t, rfl⟩ := Value.isInt_shape h1
      obtain ⟨u, rfl⟩ := Value.isStrOf_shape h2
      exact ⟨n, t, u, by rw [hd, ← Array.toArray_toList (xs := items), hl]⟩
theorem item_tup {value slice : Expr} {t : Addr} {o : Obj} {items : Array Value} {n : Nat} {k : Int} {u : Tok} {j : Nat} {x : Value} {Q : Value → Shared → Prop} (N : News h₀ L s.heap news) (hm : (t, o) ∈ news) (hc : o.cls = .type "tuple") (hd : o.data = .seq items n)
    (hlo : -(2 ^ 63) ≤ k) (hhi : k < 2 ^ 63) (hj : seqIndex? k items.size = some j) (hx : items[j]? = some x) (h : Q x s)
    (hs : subscripted slice false (.ref t) (.int k u) = operate [.ref t, .int k u] (getItem (.ref t) (.int k u)) := by with_unfolding_all rfl) :
    wpAny (model prog w) A (subscriptTail value slice (.ref t) (.int k u)) Q E s :=
  have ht : IsTup s.heap t items := ⟨o, (N _ hm).1, hc, n, hd⟩
  tail_any ht.typeIs slot_tuple_getitem.lookup (getItem_tuple ht hlo hhi hj hx h) hs
/-- an entry of the dict, at its place -/
theorem held_at {R : List (Addr × Obj)} {es : Array DictEntry} {hx : List (List (Int ⊕ Str) × Addr × Value)} {H : List HEnt} {i : Nat} {en : DictEntry} (he : es.toList = hx.map (entryOfKey (tupleKind (mixKind prog w))))
    (hk : ∀ x ∈ hx, ∃ ok, (x.2.1, ok) ∈ R ∧ TupKeyObj (mixKind prog w) x.1 ok) (hH : HeldIs R hx H) (hn : (H.map (·.1)).Nodup) (hi : es[i]? = some en) :
    ∃ e, H[i]? = some e ∧ ∃ a ok, en.key = .ref a ∧ (a, ok) ∈ R ∧ TupKeyObj (mixKind prog w) (hkey e.1.1 e.1.2) ok ∧ ∃ p, atKey hx (hkey e.1.1 e.1.2) = some p ∧ EntIs R p.2 e.2 := by
  rw [← Array.getElem?_toList, he, List.getElem?_map] at hi
  obtain ⟨x, hx1, rfl⟩ := Option.map_eq_some_iff.mp hi
  obtain ⟨e, he1, he2⟩ := hH.get hx1
  refine ⟨e, he1, ?_⟩
  obtain ⟨ok, h1, h2⟩ := hk x (List.mem_of_getElem? hx1)
  refine ⟨x.2.1, ok, rfl, h1, by rw [← he2.1]; exact h2, ?_⟩
  have := held_get (a := e.1.1) (k := e.1.2) hH
  rw [(aget_iff hn).mpr (List.mem_of_getElem? he1)] at this
  exact this
theorem comp_end_tup {h' : Heap} {I C D y : Addr} {m : Str → Option Value} {s₁ : Shared} {oI oC oD oy : Obj} {S : List (Addr × Obj) → Prop} {rest : Value → List (Addr × Obj) → Prop} {tk : Nat} {all nw : List (Addr × Obj)}
    (F : Fr h₀ L h' m) (N : News h₀ L h' ((y, oy) :: (I, oI) :: (C, oC) :: (D, oD) :: all)) (hI : @LT.lt Nat _ I y) (hC : @LT.lt Nat _ C y) (hD : @LT.lt Nat _ D y) (off : LCg.Off3 I C D nw) (sub : ∀ p ∈ nw, p ∈ all) (f : Addr × Obj → List (Addr × Obj)) (hf : ∀ p ∈ f (y, oy), p ∈ (y, oy) :: nw)
    (hS : S (f (y, oy))) (r : rest (.ref y) (f (y, oy))) : LCg.CompEnd h₀ L m s₁ I oI C oC D oD S rest (.ref y) { s₁ with heap := h', toks := tk } := by
  refine LCg.CompEnd.intro F N (f (y, oy)) (fun p hp => ?_) (LCg.Off3.of fun p hp => ?_) hS r
  · simp only [List.mem_cons] at hp ⊢
    rcases hp with h | h | h | h
    · exact .inr (.inl h)
    · exact .inr (.inr (.inl h))
    · exact .inr (.inr (.inr (.inl h)))
    · rcases List.mem_cons.mp (hf p h) with h | h
      · exact .inl h
      · exact .inr (.inr (.inr (.inr (sub p h))))
  · rcases List.mem_cons.mp (hf p hp) with h | h
    · subst h
      exact ⟨Nat.ne_of_gt hI, Nat.ne_of_gt hC, Nat.ne_of_gt hD⟩
    · exact off.mem p h
end
end

section
inductive HaltNe : Prop
  | mk : HaltNe
inductive Halt (P : Prop) : Prop
  | mk : P → Halt P
theorem halt {P : Prop} (h : Halt P) : P := match h with | .mk p => p

theorem news_tl {h₀ h : Heap} {L : Addr} {a : Addr × Obj} {l : List (Addr × Obj)} (N : News h₀ L h (a :: l)) : News h₀ L h l := news_sub N fun p hp => .tail _ hp
theorem comp_sub {a I C D : Addr × Obj} {X : List (Addr × Obj)} : ∀ p ∈ I :: C :: D :: a :: X, p ∈ a :: I :: C :: D :: X := fun p hp => by
  revert p hp; walk_at "my sub"
theorem any_some (a b c : Option Ent) : (!decide ([a, b, c] = [none, none, none])) = (a.isSome || b.isSome || c.isSome) := by
  cases a <;> cases b <;> cases c <;> simp
theorem news_drop2 {h₀ h : Heap} {L : Addr} {a b : Addr × Obj} {l : List (Addr × Obj)} (N : News h₀ L h (a :: b :: l)) : News h₀ L h (a :: l) := news_sub N fun p hp => (List.mem_cons.mp hp).elim (fun e => e ▸ .head _) fun h => .tail _ (.tail _ h)
theorem off_cons {a h c p i q n t : Addr} {o : Obj} {X : List (Addr × Obj)} (A : @Ne Nat a h ∧ @Ne Nat a c ∧ @Ne Nat a p ∧ @Ne Nat a i ∧ @Ne Nat a q ∧ @Ne Nat a n ∧ @Ne Nat a t) (O : OwnOff X [h, c, p, i, q, n, t]) : OwnOff ((a, o) :: X) [h, c, p, i, q, n, t] := fun z hz c hc => by
  rcases List.mem_cons.mp hz with rfl | hz
  · obtain ⟨a1, a2, a3, a4, a5, a6, a7⟩ := A
    simp only [List.mem_cons, List.not_mem_nil, or_false] at hc
    rcases hc with rfl | rfl | rfl | rfl | rfl | rfl | rfl <;> assumption
  · exact O z hz c hc
theorem cut_next {prog : Program} {w : World} {A : Around} {env : Env} {st : Stmt} {rest : List Stmt} {Q : Flow → Shared → Prop} {E : Value → Shared → Prop} {s : Shared} {h₀ : Heap} {L : Addr} (P : (Str → Option Value) → List (Addr × Obj) → Prop)
    (hx : ∀ Q' : Flow → Shared → Prop, (∀ h tk m news, Fr h₀ L h m → News h₀ L h news → P m news → Q' .next { s with heap := h, toks := tk }) → wpAny (model prog w) A (exec st env) Q' E s)
    (hr : ∀ h tk m news, Fr h₀ L h m → News h₀ L h news → P m news → wpAny (model prog w) A (execs rest env) Q E { s with heap := h, toks := tk }) :
    wpAny (model prog w) A (execs (st :: rest) env) Q E s :=
  wpAny_execs_cons (hx _ fun h tk m news F N p => hr h tk m news F N p)

set_option maxHeartbeats 16000000 in
theorem law_all : PySem.Challenge.rw_rr0017_01.Holds := hd (by
  k_with_none
  w_top off
  k_with "newTuple" => (k_here; k_dflt (refine' kup_newTuple ?w9FZ ?w9NZ ?_ ?w9zZ; (case w9FZ => k_asm); (case w9NZ => k_asm); (case w9zZ => kmk_size)); intro qDZ qhZ qFZ qNZ ql1Z; (try k_lt ql1Z); (try k_sweep))
  k_with "exec For Name Name cons nil" => (k_here; k_dflt (refine' For_turns ?w9FZ ?_; (case w9FZ => k_asm)))
  k_with "exec For Tuple Call cons nil" => (k_here; k_dflt (refine' For_turns ?w9FZ ?_; (case w9FZ => k_asm)))
  k_with "call ref" => (k_here; (with_reducible show wpAny _ _ (call (Value.ref 217) _) _ _ _); refine halt ?_)
  k_with "call ref" => (k_here; (with_reducible show wpAny _ _ (call (Value.ref 214) _) _ _ _); refine halt ?_)
  k_with "call ref" => (k_here; (with_reducible show wpAny _ _ (call (Value.ref 122) _) _ _ _); refine halt ?_)
  k_with "pyIter ref" => (refine halt ?_)
  k_with "my l_steps" => repeat' ((fail_if_success (with_reducible show Halt _)); (fail_if_success (with_reducible show wpAny _ _ (execs (_ :: _) _) _ _ _)); first | walk1 | (dsimp only; walk1) | (k_unfold; (try dsimp only)) | (leave1; walk_say "STEP leave1"; (try dsimp only)) | fail "no step")
  k_with "my n_steps" => repeat' ((fail_if_success (with_reducible show Halt _)); (fail_if_success (with_reducible show wpAny _ _ (execs (_ :: _) _) _ _ _)); first | (dsimp only; walk1) | walk1 | (k_unfold; (try dsimp only)) | (leave1; walk_say "STEP leave1"; (try dsimp only)) | fail "no step")
  k_with "my n_st" => (walk1; (try ((with_reducible show wpAny _ _ (execs (_ :: _) _) _ _ _); walk1)); walk_at "my n_steps")
  k_with "my m_lo" => first | omega | exact fmod_lo _ (by decide)
  k_with "my m_hi" => first | exact Int.lt_of_lt_of_le (fmod_hi _ (by decide)) (by decide +kernel) | (simp only [List.length_cons, List.length_nil]; omega)
  k_with "call ref" => (k_here; (with_reducible show wpAny _ _ (call (Value.ref 56) _) _ _ _); k_dflt (refine' atom_c ?w9k1Z ?w9k2Z ?w9k3Z ?w9k4Z ?w9k5Z ?w9k6Z ?w9k7Z ?w9NZ ?w9m1Z ?w9m2Z ?w9UZ ?w9VZ ?w9d5Z ?w9loZ ?w9AZ ?w9hzZ ?_; (case w9k1Z => k_asm); (case w9k2Z => k_asm); (case w9k3Z => k_asm); (case w9k4Z => k_asm); (case w9k5Z => exact rfl); (case w9k6Z => ktr_room); (case w9k7Z => ktr_units); (case w9NZ => k_asm); (case w9m1Z => k_mem); (case w9m2Z => k_mem); (case w9UZ => k_updF); (case w9VZ => (intro qo9Z; k_updF)); (case w9d5Z => k_ne); (case w9loZ => k_asm); (case w9AZ => k_asm); (case w9hzZ => assumption); k_whole); intro qhZ qtkZ qoZ qtsZ qn1Z qtkZ qFZ qNZ qAZ; (try dsimp only at qNZ); (try k_sweep))
  k_with "call ref" => (k_here; (with_reducible show wpAny _ _ (call (Value.ref 207) _) _ _ _); k_dflt (refine' add_le_s _ ?w9k1Z ?w9k2Z ?w9k3Z ?w9k4Z ?w9k5Z ?w9k6Z ?w9k7Z ?w9NZ ?w9m1Z ?w9m2Z ?w9U1Z ?w9U2Z ?w9U3Z ?w9d1Z ?w9d2Z ?w9d3Z ?w9d4Z ?w9d5Z ?w9d6Z ?w9lpZ ?w9liZ ?w9lqZ ?w9TSZ ?w9hzZ ?w9hpZ ?_; (case w9hpZ => assumption); (case w9k1Z => k_asm); (case w9k2Z => k_asm); (case w9k3Z => k_asm); (case w9k4Z => k_asm); (case w9k5Z => exact rfl); (case w9k6Z => ktr_room); (case w9k7Z => ktr_units); (case w9NZ => k_asm); (case w9m1Z => k_mem); (case w9m2Z => k_mem); (case w9U1Z => k_updF); (case w9U2Z => (intro qo9Z; k_updF)); (case w9U3Z => (intro qo9Z qo8Z; k_updF)); (case w9d1Z => k_ne); (case w9d2Z => k_ne); (case w9d3Z => k_ne); (case w9d4Z => k_ne); (case w9d5Z => k_ne); (case w9d6Z => k_ne); (case w9lpZ => k_asm); (case w9liZ => k_asm); (case w9lqZ => k_asm); (case w9TSZ => k_asm); (case w9hzZ => assumption); k_whole); intro qhZ qtkZ qopZ qoiZ qoqZ qFZ qNZ qTSZ; (try dsimp only at qNZ); (try k_sweep))
  k_with "call ref" => (k_here; (with_reducible show wpAny _ _ (call (Value.ref 207) _) _ _ _); k_dflt (refine' add_set_s _ ?w9k1Z ?w9k2Z ?w9k3Z ?w9k4Z ?w9k5Z ?w9k6Z ?w9k7Z ?w9NZ ?w9m1Z ?w9m2Z ?w9U1Z ?w9U2Z ?w9U3Z ?w9d1Z ?w9d2Z ?w9d3Z ?w9d4Z ?w9d5Z ?w9d6Z ?w9lpZ ?w9liZ ?w9lqZ ?w9TSZ ?w9hzZ ?w9hpZ ?_; (case w9hpZ => assumption); (case w9k1Z => k_asm); (case w9k2Z => k_asm); (case w9k3Z => k_asm); (case w9k4Z => k_asm); (case w9k5Z => exact rfl); (case w9k6Z => ktr_room); (case w9k7Z => ktr_units); (case w9NZ => k_asm); (case w9m1Z => k_mem); (case w9m2Z => k_mem); (case w9U1Z => k_updF); (case w9U2Z => (intro qo9Z; k_updF)); (case w9U3Z => (intro qo9Z qo8Z; k_updF)); (case w9d1Z => k_ne); (case w9d2Z => k_ne); (case w9d3Z => k_ne); (case w9d4Z => k_ne); (case w9d5Z => k_ne); (case w9d6Z => k_ne); (case w9lpZ => k_asm); (case w9liZ => k_asm); (case w9lqZ => k_asm); (case w9TSZ => k_asm); (case w9hzZ => assumption); k_whole); intro qxZ qhZ qtkZ qopZ qoiZ qoqZ qFZ qNZ qTSZ; (try dsimp only at qNZ); (try k_sweep))
  k_with "compareOp In ref ref" => (k_here; refine halt ?_)
  k_with "call ref" => (k_here; (with_reducible show wpAny _ _ (call (Value.ref 143) _) _ _ _); k_dflt (refine' fixity_c ?w9k1Z ?w9k2Z ?w9k3Z ?w9k4Z ?w9k5Z ?w9k6Z ?w9k7Z ?w9NZ ?_; (case w9k1Z => k_asm); (case w9k2Z => k_asm); (case w9k3Z => k_asm); (case w9k4Z => k_asm); (case w9k5Z => exact rfl); (case w9k6Z => ktr_room); (case w9k7Z => ktr_units); (case w9NZ => k_asm); k_whole); intro qhZ qtkZ qtkZ qFZ qNZ; (try k_sweep))
  k_with "call ref" => (k_here; (with_reducible show wpAny _ _ (call (Value.ref 150) _) _ _ _); refine halt ?_)
  k_with "call ref" => (k_here; (with_reducible show wpAny _ _ (call (Value.ref 172) _) _ _ _); k_dflt (refine' get_c 0 rfl ?w9k1Z ?w9k2Z ?w9k3Z ?w9k4Z ?w9k5Z ?w9k6Z ?w9k7Z ?w9NZ ?w9m1Z ?w9m2Z ?w9mpZ ?w9miZ ?w9mqZ ?w9lpZ ?w9liZ ?w9lqZ ?w9TSZ ?_; (case w9k1Z => k_asm); (case w9k2Z => k_asm); (case w9k3Z => k_asm); (case w9k4Z => k_asm); (case w9k5Z => exact rfl); (case w9k6Z => ktr_room); (case w9k7Z => ktr_units); (case w9NZ => k_asm); (case w9m1Z => k_mem); (case w9m2Z => k_mem); (case w9mpZ => k_mem); (case w9miZ => k_mem); (case w9mqZ => k_mem); (case w9lpZ => assumption); (case w9liZ => assumption); (case w9lqZ => assumption); (case w9TSZ => k_asm); k_whole); intro qhZ qtkZ qvZ qFZ qNZ qOZ; (try k_sweep))
  k_with "call ref" => (k_here; (with_reducible show wpAny _ _ (call (Value.ref 179) _) _ _ _); k_dflt (refine' get_c 1 rfl ?w9k1Z ?w9k2Z ?w9k3Z ?w9k4Z ?w9k5Z ?w9k6Z ?w9k7Z ?w9NZ ?w9m1Z ?w9m2Z ?w9mpZ ?w9miZ ?w9mqZ ?w9lpZ ?w9liZ ?w9lqZ ?w9TSZ ?_; (case w9k1Z => k_asm); (case w9k2Z => k_asm); (case w9k3Z => k_asm); (case w9k4Z => k_asm); (case w9k5Z => exact rfl); (case w9k6Z => ktr_room); (case w9k7Z => ktr_units); (case w9NZ => k_asm); (case w9m1Z => k_mem); (case w9m2Z => k_mem); (case w9mpZ => k_mem); (case w9miZ => k_mem); (case w9mqZ => k_mem); (case w9lpZ => assumption); (case w9liZ => assumption); (case w9lqZ => assumption); (case w9TSZ => k_asm); k_whole); intro qhZ qtkZ qvZ qFZ qNZ qOZ; (try k_sweep))
  k_with "call ref" => (k_here; (with_reducible show wpAny _ _ (call (Value.ref 186) _) _ _ _); k_dflt (refine' get_c 2 rfl ?w9k1Z ?w9k2Z ?w9k3Z ?w9k4Z ?w9k5Z ?w9k6Z ?w9k7Z ?w9NZ ?w9m1Z ?w9m2Z ?w9mpZ ?w9miZ ?w9mqZ ?w9lpZ ?w9liZ ?w9lqZ ?w9TSZ ?_; (case w9k1Z => k_asm); (case w9k2Z => k_asm); (case w9k3Z => k_asm); (case w9k4Z => k_asm); (case w9k5Z => exact rfl); (case w9k6Z => ktr_room); (case w9k7Z => ktr_units); (case w9NZ => k_asm); (case w9m1Z => k_mem); (case w9m2Z => k_mem); (case w9mpZ => k_mem); (case w9miZ => k_mem); (case w9mqZ => k_mem); (case w9lpZ => assumption); (case w9liZ => assumption); (case w9lqZ => assumption); (case w9TSZ => k_asm); k_whole); intro qhZ qtkZ qvZ qFZ qNZ qOZ; (try k_sweep))
  k_with "call ref" => (k_here; (with_reducible show wpAny _ _ (call (Value.ref 193) _) _ _ _); k_dflt (refine' isop_c ?w9k1Z ?w9k2Z ?w9k3Z ?w9k4Z ?w9k5Z ?w9k6Z ?w9k7Z ?w9NZ ?w9m1Z ?w9m2Z ?w9mpZ ?w9miZ ?w9mqZ ?w9lpZ ?w9liZ ?w9lqZ ?w9TSZ ?_; (case w9k1Z => k_asm); (case w9k2Z => k_asm); (case w9k3Z => k_asm); (case w9k4Z => k_asm); (case w9k5Z => exact rfl); (case w9k6Z => ktr_room); (case w9k7Z => ktr_units); (case w9NZ => k_asm); (case w9m1Z => k_mem); (case w9m2Z => k_mem); (case w9mpZ => k_mem); (case w9miZ => k_mem); (case w9mqZ => k_mem); (case w9lpZ => assumption); (case w9liZ => assumption); (case w9lqZ => assumption); (case w9TSZ => k_asm); k_whole); intro qhZ qtkZ qFZ qNZ; (try k_sweep))
  k_with "compareOp NotEq ref ref" => (k_here; (have hne9 : HaltNe := by assumption); refine halt ?_)
  k_with "compareOp Eq ref ref" => (k_here; (have hne9 : HaltNe := by assumption); refine halt ?_)
  k_with "eval ListComp" => (k_here; (have hne9 : HaltNe := by assumption); refine halt ?_)
  k_with "my l_st" => (walk1; (try ((with_reducible show wpAny _ _ (execs (_ :: _) _) _ _ _); walk1)); walk_at "my l_steps")
  k_with "my l_stmt" => (walk1; walk_at "my l_steps")
  k_with "subscriptTail Name Constant ref int" => (k_here; (with_reducible show wpAny _ _ (subscriptTail _ _ (Value.ref _) (Value.int _ _)) _ _ _); refine halt ?_)
  k_with "subscriptTail" => (k_here; (with_reducible show wpAny _ _ (subscriptTail _ _ (Value.ref _) (Value.int _ _)) _ _ _); refine halt ?_)
  k_with "subscriptTail" => (k_here; (with_reducible show wpAny _ _ (subscriptTail _ _ (Value.ref _) (Value.ref _)) _ _ _); (have hne9 : HaltNe := by assumption); refine halt ?_)
  k_with "subscriptTail Name Name ref ref" => (k_here; (with_reducible show wpAny _ _ (subscriptTail _ _ (Value.ref _) (Value.ref _)) _ _ _); (have hne9 : HaltNe := by assumption); refine halt ?_)
  k_with "call builtin:sorted" => (k_here; (have hne9 : HaltNe := by assumption); refine halt ?_)
  k_with "eval Name" => (k_here; k_dflt (first
  | (refine' nameX_L ?w9FZ ?w9vZ ?_ ?w9aZ ?w9bZ; (case w9FZ => k_asm); (case w9aZ => rfl); (case w9bZ => rfl); (case w9vZ => (repeat (refine (if_neg (by decide +kernel)).trans ?_)); first | assumption | exact rfl | exact if_pos rfl); k_whole)
  | (refine' nameX_C ?w9NZ ?w9cZ ?w9mZ ?w9dZ ?_ ?w9aZ ?w9bZ; (case w9aZ => rfl); (case w9bZ => rfl); (case w9NZ => k_asm); (case w9cZ => rfl); (case w9mZ => k_mem); (case w9dZ => k_asm); k_whole)
  | (refine' nameX_K ?w9FZ ?w9XZ ?w9TZ ?w9eZ ?_ ?w9aZ ?w9bZ; (case w9FZ => k_asm); (case w9XZ => k_asm); (case w9TZ => k_asm); (case w9aZ => rfl); (case w9bZ => rfl); (case w9eZ => k_is); k_whole)
  | (refine' nameX_B ?w9FZ ?w9XZ ?w9TZ ?w9eZ ?w9vZ ?w9nZ ?_ ?w9aZ ?w9bZ; (case w9FZ => k_asm); (case w9XZ => k_asm); (case w9TZ => k_asm); (case w9aZ => rfl); (case w9bZ => rfl); (case w9eZ => k_is); (case w9vZ => boot_fast); (case w9nZ => decide); k_whole)))
  k_with "setItem ref ref" => (k_here; (with_reducible show wpAny _ _ (setItem (Value.ref _) (Value.ref _) _) _ _ _); refine halt ?_)
  k_with "call builtin:list.index" => (k_here; refine halt ?_)
  k_with "call builtin:dict.get" => (k_here; refine halt ?_)
  k_with "call builtin:dict.pop" => (k_here; refine halt ?_)
  k_with "call builtin:len" => (k_here; refine halt ?_)
  k_with "getMethod ref" => (k_here; (with_reducible show wpAny _ _ (getMethod (Value.ref _) (Str.ofString "get") _) _ _ _); refine halt ?_)
  k_with "getMethod ref" => (k_here; (with_reducible show wpAny _ _ (getMethod (Value.ref _) (Str.ofString "pop") _) _ _ _); refine halt ?_)
  k_go0
  (all_goals try k_fold)
  rename Shared => s1
  rename World => w
  rename News _ _ _ _ => N0
  obtain ⟨oh, oa, N0, hoh, hoa⟩ : ∃ oh oa : Obj, News s1.heap s1.heap.objs.size _ [(s1.heap.objs.size + 1 + 1, oh), (s1.heap.objs.size + 1, oa)] ∧ oh.data = .cell none ∧ oa.data = .cell none := ⟨_, _, N0, by assumption, by assumption⟩
  walk_at "my l_steps"
  walk_at "my l_stmt"
  refine Halt.mk ?_
  k_dflt (refine' symbols_new ?k1 ?k2 ?k3 ?k4 ?k5 ?k6 ?k7 ?k8 ?_; (case k1 => k_asm); (case k2 => k_asm); (case k3 => k_asm); (case k4 => k_asm); (case k5 => exact rfl); (case k6 => ktr_room); (case k7 => ktr_units); (case k8 => k_asm); k_whole)
  intro b db t n f fn h1 tk1 k1 k2 k3 k4 e1 n1 o ts F1 N1 A1 lon lall l2 l3 l4
  k_lt2 l2
  k_lt2 l3
  k_lt2 l4
  walk_at "my l_steps"
  walk_at "my l_stmt"
  rename News _ _ _ _ => N2
  rename Fr _ _ _ _ => F2
  rename IntsAre ys _ => hIy
  obtain ⟨cs, hIy, hcs0, hcs30⟩ : ∃ cs : List Int, IntsAre ys cs ∧ (∀ c ∈ cs, 0 ≤ c) ∧ cs.length ≤ 30 := ⟨_, hIy, (fun c hc => by
      obtain ⟨k, _, rfl⟩ := List.mem_map.mp hc
      split <;> omega), (by rw [List.length_map, List.length_take]; omega)⟩
  obtain ⟨cl, N3, q3, q4, q5, q6, m₀, F3, hbook, hcells⟩ : ∃ cl, News s1.heap s1.heap.objs.size _ [(cl, LCg.lst ys), (b, instObj 122 db), (db, dictOf (symEs w.params k1 k2 k3 k4 t n f fn) e1), (t, PySem.W.listOf ts n1), (n, o), (s1.heap.objs.size + 1 + 1, oh), (s1.heap.objs.size + 1, oa)] ∧
      @Ne Nat cl t ∧ @Ne Nat cl n ∧ @Ne Nat cl (s1.heap.objs.size + 1 + 1) ∧ @Ne Nat cl (s1.heap.objs.size + 1) ∧
      ∃ m₀ : Str → Option Value, Fr _ _ _ m₀ ∧ m₀ (Str.ofString "book") = some (.ref b) ∧ m₀ (Str.ofString "cells") = some (.ref cl) := ⟨_, news_drop2 N2, (by omega), (by omega), (by omega), (by omega), _, F2, rfl, rfl⟩
  clear N2 F2
  refine cut_next (h₀ := s1.heap) (L := s1.heap.objs.size) (fun m nw => ∃ std : Bool, nw = [(cl, LCg.lst ys), (b, instObj 122 db), (db, dictOf (symEs w.params k1 k2 k3 k4 t n f fn) e1), (t, PySem.W.listOf ts n1), (n, o), (s1.heap.objs.size + 1 + 1, oh), (s1.heap.objs.size + 1, oa)] ∧
      m (Str.ofString "book") = some (.ref b) ∧ m (Str.ofString "cells") = some (.ref cl) ∧ m (Str.ofString "standard") = some (.bool std)) ?_ ?_
  · intro Q' hQ'
    walk_at "my l_steps"
    · rename News _ _ _ _ => N9
      rename Fr _ _ _ _ => F9
      exact hQ' _ _ _ _ F9 (news_sub N9 fun p hp => .tail _ hp) ⟨_, rfl, (if_neg (by decide +kernel)).trans hbook, (if_neg (by decide +kernel)).trans hcells, rfl⟩
    · refine Halt.mk ?_
      rename decide (_ = []) = false => hne
      rename News _ _ _ _ => N8
      k_dflt (refine' item_list_ints (vs := ys) (ns := cs) ?k1 hIy ?k3 ?k4 ?k5 ?_; (case k1 => exact ⟨_, (N8 _ (.tail _ (.head _))).1, rfl, _, rfl⟩); (case k3 => decide); (case k5 => decide); (case k4 => exact Int.ofNat_lt.mpr (List.length_pos_iff.mpr (by simpa using hne))))
      intro t9
      walk_at "my l_steps"
      rename News _ _ _ _ => N9
      rename Fr _ _ _ _ => F9
      exact hQ' _ _ _ _ F9 (news_sub N9 fun p hp => .tail _ hp) ⟨_, rfl, (if_neg (by decide +kernel)).trans hbook, (if_neg (by decide +kernel)).trans hcells, rfl⟩
  clear F3 N3 hbook hcells
  intro h2 tk2 m₁ nw F4 N4 hP9
  obtain ⟨std, enw, hbook, hcells, hstd⟩ := hP9
  subst enw
  have lall2 : @LT.lt Nat _ (s1.heap.objs.size + 1 + 1) db := lall _ (.head _)
  walk_at "my l_stmt"
  refine Halt.mk ?_
  rename News _ _ _ _ => N4
  have N4' : News s1.heap s1.heap.objs.size _ ((b, instObj 122 db) :: (db, dictOf (symEs w.params k1 k2 k3 k4 t n f fn) e1) :: (t, PySem.W.listOf ts n1) :: (n, o) :: [(cl, LCg.lst ys), (s1.heap.objs.size + 1 + 1, oh), (s1.heap.objs.size + 1, oa)]) := news_sub N4 fun p hp => by
    revert p hp; walk_at "my sub"
  have ON4 : OwnOff [(cl, LCg.lst ys), (s1.heap.objs.size + 1 + 1, oh), (s1.heap.objs.size + 1, oa)] [n, t] := fun z hz c hc => by
    simp only [List.mem_cons, List.not_mem_nil, or_false] at hz hc
    rcases hz with rfl | rfl | rfl <;> rcases hc with rfl | rfl <;> exact neN (by dsimp only; omega)
  k_dflt (refine' table_new ?k1 ?k2 ?k3 ?k4 ?k5 ?k6 ?k7 N4' A1 lon ON4 ?e1 ?e2 ?e3 ?e4 ?e5 ?_; (case k1 => k_asm); (case k2 => k_asm); (case k3 => k_asm); (case k4 => k_asm); (case k5 => exact rfl); (case k6 => ktr_room); (case k7 => ktr_units); (case e1 => omega); (case e2 => omega); (case e3 => omega); (case e4 => omega); (case e5 => omega); k_whole)
  intro tb dt p i q h3 tk3 j1 j2 j3 j4 ee op oi oq n1' o' ts' R F5 N5 RT A2 TS lp li lq lall3 r1 r2 r3 r4
  k_lt2 r1
  k_lt2 r2
  k_lt2 r3
  k_lt2 r4
  walk_at "my l_steps"
  iterate 5 walk_at "my l_stmt"
  rename News _ _ _ _ => N6
  rename Fr _ _ _ _ => F6
  have t1 : @LT.lt Nat _ n dt := lall3 (n, o) (by walk_at "my in")
  have t2 : @LT.lt Nat _ cl dt := lall3 (cl, LCg.lst ys) (by walk_at "my in")
  obtain ⟨ty, ki, tyA, kiA, uty, uki, N7, htyV, hkiV, q7, q8, m₂, F7, g1, g2, g3, g4, g5, g6⟩ : ∃ (ty ki : Addr) (tyA kiA : Array Value) (uty uki : Nat), News s1.heap s1.heap.objs.size _ ((ki, PySem.W.listOf kiA uki) :: (ty, PySem.W.listOf tyA uty) :: tabLed w.params tb dt p i q b db t n f fn j1 j2 j3 j4 k1 k2 k3 k4 ee e1 op oi oq ts' n1' o' (R ++ [(cl, LCg.lst ys), (s1.heap.objs.size + 1 + 1, oh), (s1.heap.objs.size + 1, oa)])) ∧
      All2 StrIs tyA.toList [tyStr 0, tyStr 1, tyStr 2, tyStr 3, tyStr 4, tyStr 5, tyStr 6] ∧ All2 StrIs kiA.toList [kdStr 0, kdStr 0, kdStr 1, kdStr 1, kdStr 1, kdStr 2, kdStr 2] ∧ @LT.lt Nat _ q ty ∧ @LT.lt Nat _ ty ki ∧
      ∃ m₂ : Str → Option Value, Fr _ _ _ m₂ ∧ m₂ (Str.ofString "book") = some (.ref b) ∧ m₂ (Str.ofString "cells") = some (.ref cl) ∧ m₂ (Str.ofString "standard") = some (.bool std) ∧ m₂ (Str.ofString "table") = some (.ref tb) ∧ m₂ (Str.ofString "types") = some (.ref ty) ∧ m₂ (Str.ofString "kinds") = some (.ref ki) := by
    refine ⟨_, _, _, _, _, _, N6, ?_, ?_, ?_, ?_, _, F6, ?_, ?_, ?_, ?_, ?_, ?_⟩
    · exact .cons ⟨_, rfl⟩ (.cons ⟨_, rfl⟩ (.cons ⟨_, rfl⟩ (.cons ⟨_, rfl⟩ (.cons ⟨_, rfl⟩ (.cons ⟨_, rfl⟩ (.cons ⟨_, rfl⟩ .nil))))))
    · exact .cons ⟨_, rfl⟩ (.cons ⟨_, rfl⟩ (.cons ⟨_, rfl⟩ (.cons ⟨_, rfl⟩ (.cons ⟨_, rfl⟩ (.cons ⟨_, rfl⟩ (.cons ⟨_, rfl⟩ .nil))))))
    · omega
    · omega
    · exact (if_neg (by decide +kernel)).trans ((if_neg (by decide +kernel)).trans ((if_neg (by decide +kernel)).trans hbook))
    · exact (if_neg (by decide +kernel)).trans ((if_neg (by decide +kernel)).trans ((if_neg (by decide +kernel)).trans hcells))
    · exact (if_neg (by decide +kernel)).trans ((if_neg (by decide +kernel)).trans ((if_neg (by decide +kernel)).trans hstd))
    · rfl
    · rfl
    · rfl
  have N8 : News s1.heap s1.heap.objs.size _ ((s1.heap.objs.size + 1 + 1, oh) :: (s1.heap.objs.size + 1, oa) :: (ty, PySem.W.listOf tyA uty) :: (ki, PySem.W.listOf kiA uki) :: (cl, LCg.lst ys) :: tabLed w.params tb dt p i q b db t n f fn j1 j2 j3 j4 k1 k2 k3 k4 ee e1 op oi oq ts' n1' o' (R.filter seqP)) := news_sub N7 fun z hz => by
    revert z hz; walk_at "my sub"
  have RT' : Tups (R.filter seqP) := Tups.filter RT
  have TS' := TS.seqs
  generalize R.filter seqP = R' at N8 RT' TS'
  clear N7 N6 F6 TS RT
  have OR : OwnOff R' [s1.heap.objs.size + 1 + 1, s1.heap.objs.size + 1, p, i, q, n, t] := tups_off (mu := [(s1.heap.objs.size + 1 + 1, oh), (s1.heap.objs.size + 1, oa), (p, op), (i, oi), (q, oq), (n, o'), (t, PySem.W.listOf ts' n1')]) N8 RT' (fun z hz => by walk_at "my in") fun y hy => by
    simp only [List.mem_cons, List.not_mem_nil, or_false] at hy
    have cd : ∀ {o : Obj}, o.cls = .type "dict" → o.cls ≠ .type "tuple" := fun e h => by rw [e] at h; injection h with h; exact absurd h (by decide)
    rcases hy with rfl | rfl | rfl | rfl | rfl | rfl | rfl
    · exact ⟨by simp, .inr (by simp [seqP, hoh])⟩
    · exact ⟨by simp, .inr (by simp [seqP, hoa])⟩
    · exact ⟨by simp, .inl (cd TS'.1.cls)⟩
    · exact ⟨by simp, .inl (cd TS'.2.1.cls)⟩
    · exact ⟨by simp, .inl (cd TS'.2.2.cls)⟩
    · exact ⟨by simp, .inl (cd (atoms_cls A2))⟩
    · exact ⟨by simp, .inl (fun h => by injection h with h; exact absurd h (by decide))⟩
  dsimp only [tabLed] at N8
  walk_at "my l_stmt"
  rename News _ _ _ _ => N9
  rename Fr _ _ _ _ => F9
  obtain ⟨hd, ho, oc, N9, loh, hho, hoc, q9, F9⟩ : ∃ (hd : Addr) (ho oc : Obj), News s1.heap s1.heap.objs.size _ ((hd, ho) :: (s1.heap.objs.size + 1 + 1, oh) :: (s1.heap.objs.size + 1, oc) :: (ty, PySem.W.listOf tyA uty) :: (ki, PySem.W.listOf kiA uki) :: (cl, LCg.lst ys) :: tabLed w.params tb dt p i q b db t n f fn j1 j2 j3 j4 k1 k2 k3 k4 ee e1 op oi oq ts' n1' o' R') ∧
      (hd == sysModules) = false ∧ ho.IsDictOf (PySem.strKind PySem.Challenge.rw_rr0017_01.row.prog w) [] ∧ oc.data = .cell (some (.ref hd)) ∧ @LT.lt Nat _ ki hd ∧ Fr _ _ _ m₂ := ⟨_, _, _, N9, by assumption, by assumption, by assumption, by omega, F9⟩
  have LM : LawM m₂ b cl std tb ty ki := ⟨g1, g2, g3, g4, g5, g6⟩
  have AS : Asc [s1.heap.objs.size + 1, s1.heap.objs.size + 1 + 1, db, b, t, n, dt, tb, p, i, q, ty, ki, hd] := ⟨Nat.lt_succ_self _, lall2, l2, l3, l4, t1, r1, r2, r3, r4, q7, q8, q9, trivial⟩
  have ne0 : @Ne Nat (hd) (s1.heap.objs.size + 1 + 1) := AS.ne (i := 13) (j := 1) (by decide) rfl rfl
  have ne1 : @Ne Nat (hd) (p) := AS.ne (i := 13) (j := 8) (by decide) rfl rfl
  have ne2 : @Ne Nat (hd) (i) := AS.ne (i := 13) (j := 9) (by decide) rfl rfl
  have ne3 : @Ne Nat (hd) (q) := AS.ne (i := 13) (j := 10) (by decide) rfl rfl
  have ne4 : @Ne Nat (hd) (n) := AS.ne (i := 13) (j := 5) (by decide) rfl rfl
  have ne5 : @Ne Nat (hd) (t) := AS.ne (i := 13) (j := 4) (by decide) rfl rfl
  have ne6 : @Ne Nat (s1.heap.objs.size + 1 + 1) (p) := AS.ne (i := 1) (j := 8) (by decide) rfl rfl
  have ne7 : @Ne Nat (s1.heap.objs.size + 1 + 1) (i) := AS.ne (i := 1) (j := 9) (by decide) rfl rfl
  have ne8 : @Ne Nat (s1.heap.objs.size + 1 + 1) (q) := AS.ne (i := 1) (j := 10) (by decide) rfl rfl
  have ne9 : @Ne Nat (s1.heap.objs.size + 1 + 1) (n) := AS.ne (i := 1) (j := 5) (by decide) rfl rfl
  have ne10 : @Ne Nat (s1.heap.objs.size + 1 + 1) (t) := AS.ne (i := 1) (j := 4) (by decide) rfl rfl
  have ne11 : @Ne Nat (p) (i) := AS.ne (i := 8) (j := 9) (by decide) rfl rfl
  have ne12 : @Ne Nat (p) (q) := AS.ne (i := 8) (j := 10) (by decide) rfl rfl
  have ne13 : @Ne Nat (p) (n) := AS.ne (i := 8) (j := 5) (by decide) rfl rfl
  have ne14 : @Ne Nat (p) (t) := AS.ne (i := 8) (j := 4) (by decide) rfl rfl
  have ne15 : @Ne Nat (i) (q) := AS.ne (i := 9) (j := 10) (by decide) rfl rfl
  have ne16 : @Ne Nat (i) (n) := AS.ne (i := 9) (j := 5) (by decide) rfl rfl
  have ne17 : @Ne Nat (i) (t) := AS.ne (i := 9) (j := 4) (by decide) rfl rfl
  have ne18 : @Ne Nat (q) (n) := AS.ne (i := 10) (j := 5) (by decide) rfl rfl
  have ne19 : @Ne Nat (q) (t) := AS.ne (i := 10) (j := 4) (by decide) rfl rfl
  have ne20 : @Ne Nat (n) (t) := AS.ne (i := 5) (j := 4) (by decide) rfl rfl
  have ne21 : @Ne Nat (dt) (p) := AS.ne (i := 6) (j := 8) (by decide) rfl rfl
  have ne22 : @Ne Nat (dt) (i) := AS.ne (i := 6) (j := 9) (by decide) rfl rfl
  have ne23 : @Ne Nat (dt) (q) := AS.ne (i := 6) (j := 10) (by decide) rfl rfl
  have ne24 : @Ne Nat (db) (n) := AS.ne (i := 2) (j := 5) (by decide) rfl rfl
  have AD : Asc [cl, dt, tb, p, i, q, ty, ki, hd] := ⟨t2, r1, r2, r3, r4, q7, q8, q9, trivial⟩
  have AC : @Ne Nat cl hd ∧ @Ne Nat cl (s1.heap.objs.size + 1 + 1) ∧ @Ne Nat cl p ∧ @Ne Nat cl i ∧ @Ne Nat cl q ∧ @Ne Nat cl n ∧ @Ne Nat cl t := ⟨AD.ne (i := 0) (j := 8) (by decide) rfl rfl, q5, AD.ne (i := 0) (j := 3) (by decide) rfl rfl, AD.ne (i := 0) (j := 4) (by decide) rfl rfl, AD.ne (i := 0) (j := 5) (by decide) rfl rfl, q4, q3⟩
  obtain ⟨X, x1, x2, x3, x4, x5, x6, x7, x8, XO, N9⟩ : ∃ X : List (Addr × Obj), (s1.heap.objs.size + 1, oc) ∈ X ∧ (ty, PySem.W.listOf tyA uty) ∈ X ∧ (ki, PySem.W.listOf kiA uki) ∈ X ∧ (cl, LCg.lst ys) ∈ X ∧ (tb, instObj 217 dt) ∈ X ∧ (dt, dictOf (tabEs w.params j1 j2 j3 j4 b p i q) ee) ∈ X ∧ (b, instObj 122 db) ∈ X ∧ (db, dictOf (symEs w.params k1 k2 k3 k4 t n f fn) e1) ∈ X ∧
      OwnOff X [hd, s1.heap.objs.size + 1 + 1, p, i, q, n, t] ∧ News s1.heap s1.heap.objs.size _ (lawLed hd (s1.heap.objs.size + 1 + 1) p i q n t ho oh op oi oq ts' n1' o' (R' ++ X)) :=
    ⟨(cl, LCg.lst ys) :: [(s1.heap.objs.size + 1, oc), (ty, PySem.W.listOf tyA uty), (ki, PySem.W.listOf kiA uki), (tb, instObj 217 dt), (dt, dictOf (tabEs w.params j1 j2 j3 j4 b p i q) ee), (b, instObj 122 db), (db, dictOf (symEs w.params k1 k2 k3 k4 t n f fn) e1)],
      by walk_at "my in", by walk_at "my in", by walk_at "my in", by walk_at "my in", by walk_at "my in", by walk_at "my in", by walk_at "my in", by walk_at "my in",
      off_cons AC (AS.off [0, 11, 12, 7, 6, 3, 2] [13, 1, 8, 9, 10, 5, 4] rfl rfl (by decide)), news_sub N9 (by walk_at "my sub")⟩
  clear AS AD q3 q4 q5 q6

  refine cut_next (h₀ := s1.heap) (L := s1.heap.objs.size) (fun m nw => ∃ (rows : List Row) (R1 : List (Addr × Obj)) (hx : List (List (Int ⊕ Str) × Addr × Value)) (ho : Obj), rows.Perm (kdRows (stOf std).D allKd) ∧ nw = lawLed hd (s1.heap.objs.size + 1 + 1) p i q n t ho oh op oi oq ts' n1' o' (R1 ++ X) ∧
      Tups R1 ∧ (∀ z ∈ R', z ∈ R1) ∧ HTab (mixKind PySem.Challenge.rw_rr0017_01.row.prog w) R1 ho hx ∧ HeldIs R1 hx (rows.map rowHeld) ∧ LawM m b cl std tb ty ki) ?_ ?_
  · intro Q' hQ'
    walk_at "my n_steps"
    refine Halt.mk ?_
    k_dflt (refine' rows_c (R := R') (D := (stOf std).D) ?k1 ?k2 ?k3 ?k4 ?k5 ?k6 ?k7 N9 ?m1 ?m2 ?mp ?mi ?mq ?hR ?RT lp li lq TS' (init_nodup std) (init_len std) ?_; (case k1 => k_asm); (case k2 => k_asm); (case k3 => k_asm); (case k4 => k_asm); (case k5 => exact rfl); (case k6 => ktr_room); (case k7 => ktr_units); (case m1 => k_mem); (case m2 => k_mem); (case mp => k_mem); (case mi => k_mem); (case mq => k_mem); (case hR => exact fun z hz => by walk_at "my in"); (case RT => exact fun z hz => (RT' z hz).1); k_whole)
    intro x vs rows c R2 h4 tk4 F10 N10 RT2 hvr hperm hsort
    walk_at "my n_steps"
    refine Halt.mk ?_
    rename News _ _ _ _ => N11
    rename Fr _ _ _ _ => F11
    have hvr := hvr.mono fun v r (h : RowV R2 v r) => h.seqs
    have TR0 : Tups (R2.filter seqP ++ R') := fun z hz => (List.mem_append.mp hz).elim (Tups.filter RT2 z) (RT' z)
    refine turns_list (vs := vs) (adr := [hd]) (news₀ := lawLed hd (s1.heap.objs.size + 1 + 1) p i q n t ho oh op oi oq ts' n1' o' (R2.filter seqP ++ R' ++ X))
      (fun j m nw => ∃ (R1 : List (Addr × Obj)) (hx : List (List (Int ⊕ Str) × Addr × Value)) (ho : Obj), nw = lawLed hd (s1.heap.objs.size + 1 + 1) p i q n t ho oh op oi oq ts' n1' o' (R1 ++ X) ∧
        Tups R1 ∧ (∀ z ∈ R2.filter seqP ++ R', z ∈ R1) ∧ HTab (mixKind PySem.Challenge.rw_rr0017_01.row.prog w) R1 ho hx ∧ HeldIs R1 hx ((rows.take j).map rowHeld) ∧ LawM m b cl std tb ty ki) rfl F11 (news_sub N11 fun z hz => ?_) ⟨_, (N11 _ (.head _)).1, rfl, _, rfl⟩ (N11 _ (.head _)).2.1 (fun z hz => ?_) ⟨_, [], ho, rfl, TR0, fun z hz => hz, HTab.empty hho, .nil, LM⟩ ?_ ?_
    · revert z hz; walk_at "my sub"
    · rw [List.mem_singleton.mp hz]
      exact ⟨news_ne N11 (.tail _ (List.mem_append_right _ (.head _))) (.head _) (by dsimp only; rw [isDict_cls hho]; intro h; injection h with h; exact absurd h (by decide)), _, .head _⟩
    · clear F9
      intro j v m₃ nw h5 tk5 own hv hP9 hown F12 N12
      obtain ⟨R1, hx, ho, e, TR, hsub, HT, HH, LM⟩ := hP9
      subst e
      obtain ⟨r, hr, y, u1, u2, u3, rfl, hm⟩ := hvr.get hv
      have hmR := hsub _ (List.mem_append_left _ hm)
      have hoff : OwnOff (R1 ++ X ++ own) [hd] := ownOff_app (ownOff_app (tups_off (mu := [(hd, ho)]) N12 TR (fun z hz => List.mem_append_left _ (by walk_at "my in")) fun y hy => by
        rw [List.mem_singleton.mp hy]
        exact ⟨List.mem_append_left _ (.head _), .inl (by dsimp only; rw [HT.cls]; intro h; injection h with h; exact absurd h (by decide))⟩) (ownOff_sub XO fun c hc => by rw [List.mem_singleton.mp hc]; exact .head _)) hown
      have N13 : News _ _ h5 ((y, tupObj [.int r.1 u1, .str (tyStr r.2.1) u2, .int r.2.2 u3]) :: lawLed hd (s1.heap.objs.size + 1 + 1) p i q n t ho oh op oi oq ts' n1' o' (R1 ++ X ++ own)) := news_sub N12 fun z hz => by
        rcases List.mem_cons.mp hz with rfl | hz
        · exact List.mem_append_left _ (by walk_at "my in")
        · exact hz
      have hyd : @Ne Nat y hd := hoff _ (List.mem_append_left _ (List.mem_append_left _ hmR)) hd (.head _)
      have hRS : ∀ z ∈ R1, z ∈ R1 ++ X ++ own := fun z hz => List.mem_append_left _ (List.mem_append_left _ hz)
      have hXS : ∀ z ∈ X, z ∈ R1 ++ X ++ own := fun z hz => List.mem_append_left _ (List.mem_append_right _ hz)
      have hz9 : hx.length ≤ 1000 := by
        rw [HH.length, List.length_map, List.length_take]
        have := init_len std
        rw [← hperm.length_eq] at this
        omega
      have TR9 : ∀ z ∈ R1, z.2.cls = .type "tuple" := fun z hz => (TR z hz).1
      generalize hS : R1 ++ X ++ own = S at N13 hoff hRS hXS
      replace x1 := hXS _ x1
      replace x2 := hXS _ x2
      replace x3 := hXS _ x3
      clear N12
      dsimp only [lawLed] at N13
      have LM' := LM
      obtain ⟨g1, g2, g3, g4, g5, g6⟩ := LM
      walk_at "my n_steps"
      walk_at "my n_st"
      refine Halt.mk ?_
      rename News _ _ _ _ => N14
      k_dflt (refine' idx_strs (x := tyStr r.2.1) (j := r.2.1.val) N14 ?hm htyV (ty_at _) (ty_first _) ?hz ?_; (case hm => k_mem); (case hz => decide))
      walk_at "my n_steps"
      refine Halt.mk ?_
      k_dflt (refine' item_strs N14 ?hm hkiV ?h0 ?h1 ?hz ?_; (case hm => k_mem); (case h0 => omega); (case h1 => (have := r.2.1.isLt; simp only [List.length_cons, List.length_nil]; omega)); (case hz => decide))
      intro kx kt hkx
      rw [Int.toNat_natCast, kd_at] at hkx
      obtain rfl := Option.some.inj hkx
      walk_at "my n_steps"
      refine Halt.mk ?_
      rename News _ _ _ _ => N15
      k_dflt (refine' kh_set (R := R1) (ks := hkey r.2.2 (kd r.2.1)) ?hu ?F N15 ?U ?hR HT ?hka tupKey hz9 ?_; (case hu => exact Nat.le_of_ble_eq_true rfl); (case F => k_asm); (case U => k_updF); (case hka => k_mem); (case hR => exact fun z hz => by have h9 := hRS z hz; walk_at "my in"))
      intro h6 ho6 F16 N16 HT6
      (try dsimp only at N16)
      walk_at "my n_steps"
      rename News _ _ _ _ => N17
      rename Fr _ _ _ _ => F17
      obtain ⟨kx', vx', ho', N17, HT'⟩ : ∃ (kx' vx' : Addr) (ho' : Obj), News s1.heap _ _ ((kx', tupObj [.int r.2.2 u3, .str (kdStr (kd r.2.1)) kt]) :: (vx', tupObj [.int r.1 u1, .str (tyStr r.2.1) u2]) :: (y, tupObj [.int r.1 u1, .str (tyStr r.2.1) u2, .int r.2.2 u3]) :: lawLed hd (s1.heap.objs.size + 1 + 1) p i q n t ho' oh op oi oq ts' n1' o' S) ∧
        HTab (mixKind PySem.Challenge.rw_rr0017_01.row.prog w) ((kx', tupObj [.int r.2.2 u3, .str (kdStr (kd r.2.1)) kt]) :: R1) ho' (storedH hx (hkey r.2.2 (kd r.2.1)) kx' (.ref vx')) := ⟨_, _, _, N17, HT6⟩
      subst hS
      have hnew : r.2.2 = r.2.2 := rfl
      have htk : (rows.take (j + 1)).map rowHeld = (rows.take j).map rowHeld ++ [rowHeld r] := by rw [List.take_add_one, hr, List.map_append]; rfl
      have hnn : (r.2.2, kd r.2.1) ∉ ((rows.take j).map rowHeld).map (·.1) := by
        have h1 : (((rows.take (j + 1)).map rowHeld).map (·.1)).Nodup := List.Sublist.nodup (List.Sublist.map _ (List.Sublist.map _ (List.take_sublist _ _))) (Inv.init hperm).nh
        rw [htk, List.map_append, List.nodup_append] at h1
        exact fun hm => h1.2.2 _ hm _ (.head _) rfl
      have HH' := held_put (a := r.2.2) (k := kd r.2.1) (x := kx') (v := .ref vx') (e := (r.1, r.2.1)) (HH.mono (R' := (kx', tupObj [.int r.2.2 u3, .str (kdStr (kd r.2.1)) kt]) :: (vx', tupObj [.int r.1 u1, .str (tyStr r.2.1) u2]) :: R1) fun z hz => .tail _ (.tail _ hz)) ⟨vx', u1, u2, rfl, .tail _ (.head _)⟩
      rw [aput_new hnn] at HH'
      refine turn_next F17 ⟨(kx', tupObj [.int r.2.2 u3, .str (kdStr (kd r.2.1)) kt]) :: (vx', tupObj [.int r.1 u1, .str (tyStr r.2.1) u2]) :: R1, _, ho', rfl, ?_, ?_, HT'.mono ?_, ?_, ?_⟩ (news_sub N17 fun z hz => ?_) fun z hz => ?_
      · intro z hz
        rcases List.mem_cons.mp hz with rfl | hz
        · exact ⟨rfl, rfl⟩
        rcases List.mem_cons.mp hz with rfl | hz
        · exact ⟨rfl, rfl⟩
        · exact TR z hz
      · exact fun z hz => .tail _ (.tail _ (hsub z hz))
      · intro z hz
        rcases List.mem_cons.mp hz with rfl | hz
        · exact .head _
        · exact .tail _ (.tail _ hz)
      · rw [htk]; exact HH'
      · exact ((LM'.set (by decide +kernel)).set (by decide +kernel)).set (by decide +kernel)
      · clear hmR; revert z hz; walk_at "my sub"
      · revert z hz; walk_at "my adr"
    · intro m₃ nw h5 tk5 hP9 F12 N12
      obtain ⟨R1, hx, ho, e, TR, hsub, HT, HH, LM⟩ := hP9
      subst e
      rw [hvr.length, List.take_length] at HH
      exact hQ' _ _ _ _ F12 N12 ⟨rows, R1, hx, ho, hperm, rfl, TR, fun z hz => hsub z (List.mem_append_right _ hz), HT, HH, LM⟩
  --CUT2
  intro h6 tk6 m₃ nw F6 N6 hP9
  obtain ⟨rows, R1, hx, ho1, hperm, e, TR, hsub, HT, HH, LM⟩ := hP9
  subst e
  have I0 := Inv.init hperm
  have TS1 := TS'.mono hsub
  have hlen : hx.length = if std = true then 44 else 1 := by rw [HH.length, List.length_map, hperm.length_eq]; exact init_len44 std
  obtain ⟨yc, pc, u1, u2, hpc, epc, hmc⟩ : ∃ yc pc u1 u2, atKey hx (hkey 7 1) = some pc ∧ pc.2 = .ref yc ∧ (yc, tupObj [.int 1000 u1, .str (tyStr 3) u2]) ∈ R1 := by
    have := held_get (a := 7) (k := 1) HH
    rw [I0.get, init_comma] at this
    obtain ⟨p, h1, x, t1, t2, h2, h3⟩ := this
    exact ⟨x, p, t1, t2, h1, h2, h3⟩
  refine cut_next (h₀ := s1.heap) (L := s1.heap.objs.size) (fun m nw => nw = lawLed hd (s1.heap.objs.size + 1 + 1) p i q n t ho1 oh op oi oq ts' n1' o' (R1 ++ X) ∧ LawM m b cl std tb ty ki) ?_ ?_
  --BEG3
  · intro Q' hQ'
    have N7 : News _ _ h6 ((yc, tupObj [.int 1000 u1, .str (tyStr 3) u2]) :: lawLed hd (s1.heap.objs.size + 1 + 1) p i q n t ho1 oh op oi oq ts' n1' o' (R1 ++ X)) := news_sub N6 fun z hz => by
      rcases List.mem_cons.mp hz with rfl | hz
      · walk_at "my in"
      · exact hz
    have hRS : ∀ z ∈ R1, z ∈ lawLed hd (s1.heap.objs.size + 1 + 1) p i q n t ho1 oh op oi oq ts' n1' o' (R1 ++ X) := fun z hz => by walk_at "my in"
    have hXS : ∀ z ∈ X, z ∈ lawLed hd (s1.heap.objs.size + 1 + 1) p i q n t ho1 oh op oi oq ts' n1' o' (R1 ++ X) := fun z hz => by walk_at "my in"
    have x9 : (hd, ho1) ∈ lawLed hd (s1.heap.objs.size + 1 + 1) p i q n t ho1 oh op oi oq ts' n1' o' (R1 ++ X) := .head _
    generalize hS : lawLed hd (s1.heap.objs.size + 1 + 1) p i q n t ho1 oh op oi oq ts' n1' o' (R1 ++ X) = S at N7 hRS hXS x9
    replace x1 := hXS _ x1
    clear N6
    have LM' := LM
    obtain ⟨g1, g2, g3, g4, g5, g6⟩ := LM
    have hx9 : (atKey hx (hkey 7 1)).map (·.2) = some (.ref yc) := by rw [hpc]; exact congrArg some epc
    have hz9 : hx.length ≤ 1000 := by rw [hlen]; split <;> decide
    cases std
    all_goals
      simp only [if_true, Bool.false_eq_true, if_false] at hlen
      walk_at "my n_steps"
      refine Halt.mk ?_
      rename News _ _ _ _ => N8
      k_dflt (refine' kh_method PySem.F.slot_dict_get PySem.F.type_dict_get N8 ?hm HT.exact ?_; (case hm => k_mem))
      walk_at "my n_steps"
      refine Halt.mk ?_
      rename News _ _ _ _ => N9
      k_dflt (refine' kh_get1 (R := R1) (ks := hkey 7 1) ?hu N9 ?hd ?hR HT loh ?hka tupKey _ hx9 ?_; (case hu => exact Nat.le_of_ble_eq_true rfl); (case hd => k_mem); (case hka => k_mem); (case hR => exact fun z hz => by have h9 := hRS z hz; walk_at "my in"))
      simp only [Option.getD_some]
      walk_at "my n_steps"
      repeat
        refine Halt.mk ?_
        rename News _ _ _ _ => N10
        k_dflt (refine' kh_len N10 ?hd ?hR HT loh hz9 ?_; (case hd => k_mem); (case hR => exact fun z hz => by have h9 := hRS z hz; walk_at "my in"))
        rw [hlen]
        walk_at "my n_steps"
      rename News _ _ _ _ => N11
      rename Fr _ _ _ _ => F11
      subst hS
      exact hQ' _ _ _ _ F11 (news_sub N11 fun z hz => .tail _ (.tail _ (.tail _ hz))) ⟨rfl, LM'⟩
  --CUT3
  clear N6 F6 LM
  intro h7 tk7 m₄ nw F7 N7 hP9
  obtain ⟨e, LM⟩ := hP9
  subst e
  have ST0 : LawSt PySem.Challenge.rw_rr0017_01.row.prog w std R1 (stOf std).xs (stOf std).D (rows.map rowHeld) hx ho1 op oi oq o' oh ts' := ⟨TR, A2, TS1, HT, HH, I0, ⟨_, hoh⟩⟩
  refine cut_next (h₀ := s1.heap) (L := s1.heap.objs.size) (LP PySem.Challenge.rw_rr0017_01.row.prog w std hd (s1.heap.objs.size + 1 + 1) p i q n t b cl tb ty ki X 200 fun _ _ _ _ => True) ?_ ?_
  --BEG4
  · intro Q' hQ'
    have LM' := LM
    obtain ⟨g1, g2, g3, g4, g5, g6⟩ := LM
    walk_at "my n_steps"
    refine Halt.mk ?_
    rename News _ _ _ _ => N8
    rename Fr _ _ _ _ => F8
    refine turns_list (vs := ys) (adr := [hd, s1.heap.objs.size + 1 + 1, p, i, q, n, t]) (news₀ := lawLed hd (s1.heap.objs.size + 1 + 1) p i q n t ho1 oh op oi oq ts' n1' o' (R1 ++ X))
      (fun j m nw => LP PySem.Challenge.rw_rr0017_01.row.prog w std hd (s1.heap.objs.size + 1 + 1) p i q n t b cl tb ty ki X (100 + 2 * j) (fun _ _ _ _ => True) m nw) rfl F8 N8 ⟨_, (N8 (cl, LCg.lst ys) (by walk_at "my in")).1, rfl, _, rfl⟩ (N8 (cl, LCg.lst ys) (by walk_at "my in")).2.1 (fun z hz => ?_) ⟨_, _, _, R1, hx, ho1, op, oi, oq, o', oh, ts', n1', rfl, ST0, Nat.le_trans (init_xs std) (by decide), LM', trivial⟩ ?_ ?_
    · simp only [List.mem_cons, List.not_mem_nil, or_false] at hz
      rcases hz with rfl | rfl | rfl | rfl | rfl | rfl | rfl
      · exact ⟨AC.1.symm, ho1, by walk_at "my in"⟩
      · exact ⟨AC.2.1.symm, oh, by walk_at "my in"⟩
      · exact ⟨AC.2.2.1.symm, op, by walk_at "my in"⟩
      · exact ⟨AC.2.2.2.1.symm, oi, by walk_at "my in"⟩
      · exact ⟨AC.2.2.2.2.1.symm, oq, by walk_at "my in"⟩
      · exact ⟨AC.2.2.2.2.2.1.symm, o', by walk_at "my in"⟩
      · exact ⟨AC.2.2.2.2.2.2.symm, _, by walk_at "my in"⟩
    · clear N8 F8 ST0 LM' g1 g2 g3 g4 g5 g6 A2 TS' TS1 HT HH I0 TR hpc epc hmc
      intro j v m₅ nw h8 tk8 own hv hP9 hown F9 N9
      obtain ⟨xs, D, H, R1, hx, ho, op, oi, oq, o, oa, ts, n1, e, ST, hxl, LM, _⟩ := hP9
      subst e
      have hjl : j < cs.length := by rw [← hIy.length]; exact (List.getElem?_eq_some_iff.mp hv).1
      obtain ⟨tc, hvc⟩ := hIy.get j _ (List.getElem?_eq_getElem hjl)
      rw [hvc] at hv
      obtain rfl := Option.some.inj hv
      have hc0 := hcs0 _ (List.getElem_mem hjl)
      generalize cs[j] = c at hc0
      have N10 : News _ _ h8 (lawLed hd (s1.heap.objs.size + 1 + 1) p i q n t ho oa op oi oq ts n1 o (R1 ++ (X ++ own))) := news_sub N9 (by walk_at "my sub")
      clear N9
      replace hown := ownOff_app XO hown
      have hXS : ∀ z ∈ X, z ∈ X ++ own := fun z hz => List.mem_append_left _ hz
      generalize hO : X ++ own = own2 at N10 hown hXS
      have z2 := hXS _ x2
      have z3 := hXS _ x3
      have z1 := hXS _ x1
      have z5 := hXS _ x5
      have z6 := hXS _ x6
      have z7 := hXS _ x7
      have z8 := hXS _ x8
      walk_at "my n_steps"
      rename News _ _ _ _ => N11
      rename Fr _ _ _ _ => F11
      have LMc := LM.set (x := Str.ofString "cell") (v := some (.int c tc)) (by decide +kernel)
      obtain ⟨m₆, F11, LMc, gc⟩ : ∃ m₆ : Str → Option Value, Fr _ _ _ m₆ ∧ LawM m₆ b cl std tb ty ki ∧ m₆ (Str.ofString "cell") = some (.int c tc) := ⟨_, F11, LMc, rfl⟩
      refine cut_many (h₀ := s1.heap) (L := s1.heap.objs.size) 3 (LP PySem.Challenge.rw_rr0017_01.row.prog w std hd (s1.heap.objs.size + 1 + 1) p i q n t b cl tb ty ki own2 (101 + 2 * j) fun xs D H m => ∃ (nm : Str) (T : Ty) (pr : Int) (ta tsp tp : Tok), nm ∈ five ∧ nm ∈ xs ∧ m (Str.ofString "a") = some (.int ((xs.idxOf nm : Nat) : Int) ta) ∧ m (Str.ofString "spot") = some (.int (T.val : Int) tsp) ∧ m (Str.ofString "priority") = some (.int pr tp) ∧ 0 ≤ pr ∧ m (Str.ofString "cell") = some (.int c tc)) ?_ ?_
      --BEG5
      · intro Q'' hQ'' _
        dsimp only [List.take]
        have TU : ∀ z ∈ R1, z.2.cls = .type "tuple" := fun z hz => (ST.tups z hz).1
        have OS : OwnOff (R1 ++ own2) [hd, s1.heap.objs.size + 1 + 1, p, i, q, n, t] := ownOff_app (ST.off N11) hown
        have hRS : ∀ z ∈ R1, z ∈ R1 ++ own2 := fun z hz => List.mem_append_left _ hz
        have hXR : ∀ z ∈ own2, z ∈ R1 ++ own2 := fun z hz => List.mem_append_right _ hz
        have LM' := LMc
        have hA := ST.atoms
        have hz1 : xs.length ≤ 900 := by have := hIy.length; omega
        generalize hS : R1 ++ own2 = S at N11 OS hRS hXR
        replace z2 := hXR _ z2
        replace z3 := hXR _ z3
        replace z1 := hXR _ z1
        replace z5 := hXR _ z5
        replace z6 := hXR _ z6
        replace z7 := hXR _ z7
        replace z8 := hXR _ z8
        obtain ⟨g1, g2, g3, g4, g5, g6⟩ := LMc
        dsimp only [lawLed] at N11
        walk_at "my n_st"
        refine Halt.mk ?_
        rename News _ _ _ _ => N12
        k_dflt (refine' item_strs (names := five) N12 ?hm ?hv ?h0 ?h1 ?hz ?_; (case hm => k_mem); (case hv => exact .cons ⟨_, rfl⟩ (.cons ⟨_, rfl⟩ (.cons ⟨_, rfl⟩ (.cons ⟨_, rfl⟩ (.cons ⟨_, rfl⟩ .nil))))); (case h0 => walk_at "my m_lo"); (case h1 => walk_at "my m_hi"); (case hz => decide +kernel))
        intro nm ta0 hnm
        have hnm5 : nm ∈ five := List.mem_of_getElem? hnm
        walk_at "my n_steps"
        walk_at "my n_st"
        walk_at "my n_st"
        refine Halt.mk ?_
        rename News _ _ _ _ => N13
        k_dflt (refine' item_intsM (names := [0, 200, 700, 1200, 1]) N13 ?hm ?hv ?h0 ?h1 ?hz ?_; (case hm => k_mem); (case hv => exact .cons ⟨_, rfl⟩ (.cons ⟨_, rfl⟩ (.cons ⟨_, rfl⟩ (.cons ⟨_, rfl⟩ (.cons ⟨_, rfl⟩ .nil))))); (case h0 => walk_at "my m_lo"); (case h1 => walk_at "my m_hi"); (case hz => decide))
        intro pr tp0 hpr
        have hpr0 : 0 ≤ pr := (by decide : ∀ x ∈ [(0 : Int), 200, 700, 1200, 1], 0 ≤ x) pr (List.mem_of_getElem? hpr)
        walk_at "my n_steps"
        rename News _ _ _ _ => N14
        rename Fr _ _ _ _ => F14
        rename Atoms _ _ _ _ (atomAdd _ _) => A14
        obtain ⟨m₇, F14, LM7, gc7, ⟨ta, ga⟩, ⟨tp, gp⟩, k, tk, gs, hk0, hk7⟩ : ∃ m₇ : Str → Option Value, Fr _ _ _ m₇ ∧ LawM m₇ b cl std tb ty ki ∧ m₇ (Str.ofString "cell") = some (.int c tc) ∧ (∃ ta, m₇ (Str.ofString "a") = some (.int ((xs.idxOf nm : Nat) : Int) ta)) ∧ (∃ tp, m₇ (Str.ofString "priority") = some (.int pr tp)) ∧ ∃ k tsp, m₇ (Str.ofString "spot") = some (.int k tsp) ∧ 0 ≤ k ∧ k < 7 :=
          ⟨_, F14, ((LM'.set (by decide +kernel)).set (by decide +kernel)).set (by decide +kernel), (if_neg (by decide +kernel)).trans ((if_neg (by decide +kernel)).trans ((if_neg (by decide +kernel)).trans gc)), ⟨_, rfl⟩, ⟨_, rfl⟩, _, _, rfl, (by walk_at "my m_lo"), (by first | exact fmod_hi _ (by decide) | omega)⟩
        subst hS
        obtain ⟨o2, ts2, n2, N15, A15⟩ : ∃ (o2 : Obj) (ts2 : Array Value) (n2 : Nat), News s1.heap _ _ (lawLed hd (s1.heap.objs.size + 1 + 1) p i q n t ho oa op oi oq ts2 n2 o2 (R1 ++ own2)) ∧ Atoms PySem.Challenge.rw_rr0017_01.row.prog w o2 ts2 (atomAdd xs nm) := ⟨_, _, _, news_tl (news_tl N14), A14⟩
        refine hQ'' _ _ _ _ F14 N15 ⟨atomAdd xs nm, D, H, R1, hx, ho, op, oi, oq, o2, oa, ts2, n2, rfl, ST.atom A15, ?_, LM7, nm, ⟨k.toNat, by omega⟩, pr, ta, tk, tp, hnm5, mem_atomAdd xs nm, ?_, ?_, gp, hpr0, gc7⟩
        · have := len_atomAdd xs nm
          omega
        · rw [idxOf_atomAdd]; exact ga
        · rw [gs]; show some (Value.int k tk) = some (Value.int ((k.toNat : Nat) : Int) tk); rw [Int.toNat_of_nonneg hk0]
      --CUT5
      clear N11 F11 ST hxl LM LMc gc N10 F9
      intro h9 tk9 m₇ nw F9 N9 hP9
      obtain ⟨xs, D, H, R1, hx, ho, op, oi, oq, o, oa, ts, n1, e, ST, hxl, LM, nm, T, pr, ta, tsp, tp, hnm5, hnmx, ga, gs, gp, hpr0, gc⟩ := hP9
      subst e
      dsimp only [List.drop]
      refine cut_many (h₀ := s1.heap) (L := s1.heap.objs.size) 3 (LP PySem.Challenge.rw_rr0017_01.row.prog w std hd (s1.heap.objs.size + 1 + 1) p i q n t b cl tb ty ki own2 (101 + 2 * j) fun xs D H m => ∃ (T : Ty) (pr : Int) (tsp tp : Tok), m (Str.ofString "spot") = some (.int (T.val : Int) tsp) ∧ m (Str.ofString "priority") = some (.int pr tp) ∧ 0 ≤ pr ∧ m (Str.ofString "cell") = some (.int c tc)) ?_ ?_
      --BEG6
      · intro Q'' hQ'' _
        dsimp only [List.take]
        have OS : OwnOff (R1 ++ own2) [hd, s1.heap.objs.size + 1 + 1, p, i, q, n, t] := ownOff_app (ST.off N9) hown
        have hRS : ∀ z ∈ R1, z ∈ R1 ++ own2 := fun z hz => List.mem_append_left _ hz
        have hXR : ∀ z ∈ own2, z ∈ R1 ++ own2 := fun z hz => List.mem_append_right _ hz
        have LM' := LM
        have hTS := ST.tabs
        have hone := ST.inv.one
        generalize hS : R1 ++ own2 = S at N9 OS hRS hXR
        replace z2 := hXR _ z2
        replace z3 := hXR _ z3
        replace z1 := hXR _ z1
        replace z5 := hXR _ z5
        replace z6 := hXR _ z6
        obtain ⟨g1, g2, g3, g4, g5, g6⟩ := LM
        dsimp only [lawLed] at N9
        have hT7 : (T.val : Int) < 7 := by have := T.isLt; omega
        by_cases hp : 0 < pr
        · walk_at "my n_st"
          refine Halt.mk ?_
          rename News _ _ _ _ => N10
          k_dflt (refine' item_strs N10 ?hm htyV ?h0 ?h1 ?hz ?_; (case hm => k_mem); (case h0 => omega); (case h1 => exact hT7); (case hz => decide))
          intro kx kt hkx
          rw [Int.toNat_natCast, ty_at] at hkx
          obtain rfl := Option.some.inj hkx
          walk_at "my n_steps"
          walk_at "my n_st"
          refine Halt.mk ?_
          rename News _ _ _ _ => N11
          k_dflt (refine' item_strs N11 ?hm hkiV ?h0 ?h1 ?hz ?_; (case hm => k_mem); (case h0 => omega); (case h1 => exact hT7); (case hz => decide))
          intro kx kt2 hkx
          rw [Int.toNat_natCast, kd_at] at hkx
          obtain rfl := Option.some.inj hkx
          walk_at "my n_steps"
          rename News _ _ _ _ => N12
          have hkd : @Ne Nat _ hd := news_ne N12 (.head _) (.tail _ (.tail _ (.head _))) (by dsimp only; rw [ST.held.cls]; intro h; injection h with h; exact absurd h (by decide))
          have hxd : @Ne Nat _ hd := news_ne N12 (.tail _ (.head _)) (.tail _ (.tail _ (.head _))) (by dsimp only; rw [ST.held.cls]; intro h; injection h with h; exact absurd h (by decide))
          dsimp only at hkd hxd
          walk_at "my n_st"
          walk_at "my n_st"
          refine Halt.mk ?_
          rename News _ _ _ _ => N12
          k_dflt (refine' item_strs N12 ?hm htyV ?h0 ?h1 ?hz ?_; (case hm => k_mem); (case h0 => omega); (case h1 => exact hT7); (case hz => decide))
          intro kx kt3 hkx
          rw [Int.toNat_natCast, ty_at] at hkx
          obtain rfl := Option.some.inj hkx
          walk_at "my n_steps"
          refine Halt.mk ?_
          rename News _ _ _ _ => N13
          rename TabS _ _ _ _ _ _ (tput _ _ _ _) => TS9
          k_dflt (refine' kh_set (R := R1) (ks := hkey ((xs.idxOf nm : Nat) : Int) (kd T)) ?hu ?F N13 ?U ?hR ST.held ?hka tupKey ST.len ?_; (case hu => exact Nat.le_of_ble_eq_true rfl); (case F => k_asm); (case U => k_updF); (case hka => k_mem); (case hR => exact fun z hz => by have h9 := hRS z hz; walk_at "my in"))
          intro h10 ho10 F14 N14 HT10
          (try dsimp only at N14)
          walk_at "my n_steps"
          rename News _ _ _ _ => N15
          rename Fr _ _ _ _ => F15
          obtain ⟨vx, kx', x', tv, tv2, ta3, ho', op', oi', oq', N15, HT', TS'', m₈, F15, LM8, gs8, gp8, gc8⟩ : ∃ (vx kx' x' : Addr) (tv tv2 ta3 : Tok) (ho' op' oi' oq' : Obj), News s1.heap _ _ ((vx, tupObj [.int pr tp, .str (tyStr T) tv]) :: (kx', tupObj [.int ((xs.idxOf nm : Nat) : Int) ta, .str (kdStr (kd T)) tv2]) :: (x', tupObj [.int pr tp, .str (tyStr T) ta3]) :: lawLed hd (s1.heap.objs.size + 1 + 1) p i q n t ho' oa op' oi' oq' ts n1 o S) ∧
            HTab (mixKind PySem.Challenge.rw_rr0017_01.row.prog w) ((kx', tupObj [.int ((xs.idxOf nm : Nat) : Int) ta, .str (kdStr (kd T)) tv2]) :: R1) ho' (storedH hx (hkey ((xs.idxOf nm : Nat) : Int) (kd T)) kx' (.ref vx)) ∧
            TabS PySem.Challenge.rw_rr0017_01.row.prog w ((x', tupObj [.int pr tp, .str (tyStr T) ta3]) :: R1) op' oi' oq' (tput D T ((xs.idxOf nm : Nat) : Int) pr) ∧
            ∃ m₈ : Str → Option Value, Fr _ _ _ m₈ ∧ LawM m₈ b cl std tb ty ki ∧ m₈ (Str.ofString "spot") = some (.int (T.val : Int) tsp) ∧ m₈ (Str.ofString "priority") = some (.int pr tp) ∧ m₈ (Str.ofString "cell") = some (.int c tc) :=
            ⟨_, _, _, _, _, _, _, _, _, _, N15, HT10, TS9, _, F15, LM'.set (by decide +kernel), (if_neg (by decide +kernel)).trans gs, (if_neg (by decide +kernel)).trans gp, (if_neg (by decide +kernel)).trans gc⟩
          subst hS
          have hm1 : ∀ z ∈ R1, z ∈ (vx, tupObj [.int pr tp, .str (tyStr T) tv]) :: (kx', tupObj [.int ((xs.idxOf nm : Nat) : Int) ta, .str (kdStr (kd T)) tv2]) :: (x', tupObj [.int pr tp, .str (tyStr T) ta3]) :: R1 := fun z hz => .tail _ (.tail _ (.tail _ hz))
          refine hQ'' _ _ _ _ F15 (news_sub N15 fun z hz => ?_) ⟨xs, tput D T ((xs.idxOf nm : Nat) : Int) pr, aput H (((xs.idxOf nm : Nat) : Int), kd T) (pr, T), (vx, tupObj [.int pr tp, .str (tyStr T) tv]) :: (kx', tupObj [.int ((xs.idxOf nm : Nat) : Int) ta, .str (kdStr (kd T)) tv2]) :: (x', tupObj [.int pr tp, .str (tyStr T) ta3]) :: R1, _, ho', op', oi', oq', o, oa, ts, n1, rfl, ⟨?_, ST.atoms, TS''.mono ?_, HT'.mono ?_, held_put (ST.heldIs.mono hm1) ⟨vx, tp, tv, rfl, .head _⟩, ST.inv.put hnm5 hnmx T pr, ST.cell⟩, hxl, LM8, T, pr, tsp, tp, gs8, gp8, hpr0, gc8⟩
          · revert z hz; walk_at "my sub"
          · intro z hz
            rcases List.mem_cons.mp hz with rfl | hz
            · exact ⟨rfl, rfl⟩
            rcases List.mem_cons.mp hz with rfl | hz
            · exact ⟨rfl, rfl⟩
            rcases List.mem_cons.mp hz with rfl | hz
            · exact ⟨rfl, rfl⟩
            · exact ST.tups z hz
          · intro z hz
            rcases List.mem_cons.mp hz with rfl | hz
            · exact .tail _ (.tail _ (.head _))
            · exact hm1 z hz
          · intro z hz
            rcases List.mem_cons.mp hz with rfl | hz
            · exact .tail _ (.head _)
            · exact hm1 z hz
        · have hp' : pr ≤ 0 := by omega
          walk_at "my n_st"
          refine Halt.mk ?_
          rename News _ _ _ _ => N10
          k_dflt (refine' item_strs N10 ?hm htyV ?h0 ?h1 ?hz ?_; (case hm => k_mem); (case h0 => omega); (case h1 => exact hT7); (case hz => decide))
          intro kx kt hkx
          rw [Int.toNat_natCast, ty_at] at hkx
          obtain rfl := Option.some.inj hkx
          walk_at "my n_steps"
          walk_at "my n_st"
          refine Halt.mk ?_
          rename News _ _ _ _ => N11
          k_dflt (refine' item_strs N11 ?hm hkiV ?h0 ?h1 ?hz ?_; (case hm => k_mem); (case h0 => omega); (case h1 => exact hT7); (case hz => decide))
          intro kx kt2 hkx
          rw [Int.toNat_natCast, kd_at] at hkx
          obtain rfl := Option.some.inj hkx
          walk_at "my n_steps"
          walk_at "my n_st"
          rename News _ _ _ _ => N12
          rename Fr _ _ _ _ => F12
          rename TabS _ _ _ _ _ _ (tdel _ _ _) => TS9
          obtain ⟨kx', tv2, op', oi', oq', N12, TS9, m₈, F12, LM8, gk8, gs8, gp8, gc8⟩ : ∃ (kx' : Addr) (tv2 : Tok) (op' oi' oq' : Obj), News s1.heap _ _ ((kx', tupObj [.int ((xs.idxOf nm : Nat) : Int) ta, .str (kdStr (kd T)) tv2]) :: lawLed hd (s1.heap.objs.size + 1 + 1) p i q n t ho oa op' oi' oq' ts n1 o S) ∧
            TabS PySem.Challenge.rw_rr0017_01.row.prog w R1 op' oi' oq' (tdel D T ((xs.idxOf nm : Nat) : Int)) ∧
            ∃ m₈ : Str → Option Value, Fr _ _ _ m₈ ∧ LawM m₈ b cl std tb ty ki ∧ m₈ (Str.ofString "key") = some (.ref kx') ∧ m₈ (Str.ofString "spot") = some (.int (T.val : Int) tsp) ∧ m₈ (Str.ofString "priority") = some (.int pr tp) ∧ m₈ (Str.ofString "cell") = some (.int c tc) :=
            ⟨_, _, _, _, _, N12, TS9, _, F12, LM'.set (by decide +kernel), rfl, (if_neg (by decide +kernel)).trans gs, (if_neg (by decide +kernel)).trans gp, (if_neg (by decide +kernel)).trans gc⟩
          have hkd : @Ne Nat kx' hd := news_ne N12 (.head _) (.tail _ (.head _)) (by dsimp only; rw [ST.held.cls]; intro h; injection h with h; exact absurd h (by decide))
          dsimp only [lawLed] at N12
          cases hq : aget H (((xs.idxOf nm : Nat) : Int), kd T) with
          | none =>
            have hin : (atKey hx (hkey ((xs.idxOf nm : Nat) : Int) (kd T))).isSome = false := by rw [held_some ST.heldIs, hq]; rfl
            walk_at "my n_st"
            refine Halt.mk ?_
            rename News _ _ _ _ => N13
            k_dflt (refine' kh_in (R := R1) (ks := hkey ((xs.idxOf nm : Nat) : Int) (kd T)) ?hu N13 ?hd ?hR ST.held loh ?hka tupKey _ hin ?_; (case hu => exact Nat.le_of_ble_eq_true rfl); (case hd => k_mem); (case hka => k_mem); (case hR => exact fun z hz => by have h9 := hRS z hz; walk_at "my in"))
            walk_at "my n_steps"
            rename News _ _ _ _ => N14
            rename Fr _ _ _ _ => F14
            subst hS
            have hinv := ST.inv.del T ((xs.idxOf nm : Nat) : Int)
            rw [adel_none hq] at hinv
            exact hQ'' _ _ _ _ F14 (news_tl N14) ⟨xs, tdel D T ((xs.idxOf nm : Nat) : Int), H, R1, hx, ho, op', oi', oq', o, oa, ts, n1, rfl, ⟨ST.tups, ST.atoms, TS9, ST.held, ST.heldIs, hinv, ST.cell⟩, hxl, LM8, T, pr, tsp, tp, gs8, gp8, hpr0, gc8⟩
          | some e9 =>
            have hin : (atKey hx (hkey ((xs.idxOf nm : Nat) : Int) (kd T))).isSome = true := by rw [held_some ST.heldIs, hq]; rfl
            obtain ⟨p9, hp9, _⟩ : ∃ p, atKey hx (hkey ((xs.idxOf nm : Nat) : Int) (kd T)) = some p ∧ EntIs R1 p.2 e9 := by
              have := held_get (a := ((xs.idxOf nm : Nat) : Int)) (k := kd T) ST.heldIs
              rw [hq] at this; exact this
            walk_at "my n_st"
            refine Halt.mk ?_
            rename News _ _ _ _ => N13
            k_dflt (refine' kh_in (R := R1) (ks := hkey ((xs.idxOf nm : Nat) : Int) (kd T)) ?hu N13 ?hd ?hR ST.held loh ?hka tupKey _ hin ?_; (case hu => exact Nat.le_of_ble_eq_true rfl); (case hd => k_mem); (case hka => k_mem); (case hR => exact fun z hz => by have h9 := hRS z hz; walk_at "my in"))
            walk_at "my n_steps"
            walk_at "my n_st"
            refine Halt.mk ?_
            rename News _ _ _ _ => N14
            k_dflt (refine' kh_method PySem.F.slot_dict_pop PySem.F.type_dict_pop N14 ?hm ST.held.exact ?_; (case hm => k_mem))
            walk_at "my n_steps"
            refine Halt.mk ?_
            rename News _ _ _ _ => N15
            k_dflt (refine' kh_pop (R := R1) (ks := hkey ((xs.idxOf nm : Nat) : Int) (kd T)) ?hu ?F N15 ?U ?hR ST.held ?hka tupKey ST.len hp9 ?_; (case hu => exact Nat.le_of_ble_eq_true rfl); (case F => k_asm); (case U => k_updF); (case hka => k_mem); (case hR => exact fun z hz => by have h9 := hRS z hz; walk_at "my in"))
            intro h16 ho16 F16 N16 HT16
            (try dsimp only at N16)
            walk_at "my n_steps"
            rename News _ _ _ _ => N17
            rename Fr _ _ _ _ => F17
            subst hS
            exact hQ'' _ _ _ _ F17 (news_tl N17) ⟨xs, tdel D T ((xs.idxOf nm : Nat) : Int), adel H (((xs.idxOf nm : Nat) : Int), kd T), R1, _, ho16, op', oi', oq', o, oa, ts, n1, rfl, ⟨ST.tups, ST.atoms, TS9, HT16, held_del ST.heldIs, ST.inv.del T _, ST.cell⟩, hxl, LM8, T, pr, tsp, tp, gs8, gp8, hpr0, gc8⟩
      --CUT6
      clear N9 F9 ST hxl LM ga gs gp gc
      intro h10 tk10 m₈ nw F10 N10 hP9
      obtain ⟨xs, D, H, R1, hx, ho, op, oi, oq, o, oa, ts, n1, e, ST, hxl, LM, T, pr, tsp, tp, gs, gp, hpr0, gc⟩ := hP9
      subst e
      dsimp only [List.drop]
      refine cut_many (h₀ := s1.heap) (L := s1.heap.objs.size) 5 (LP PySem.Challenge.rw_rr0017_01.row.prog w std hd (s1.heap.objs.size + 1 + 1) p i q n t b cl tb ty ki own2 (101 + 2 * j) fun xs D H m => m (Str.ofString "cell") = some (.int c tc)) ?_ ?_
      --BEG7
      · intro Q'' hQ'' _
        dsimp only [List.take]
        have LM' := LM
        have gc' := gc
        have z2 := (by walk_at "my in" : (ty, PySem.W.listOf tyA uty) ∈ lawLed hd (s1.heap.objs.size + 1 + 1) p i q n t ho oa op oi oq ts n1 o (R1 ++ own2))
        have z3 := (by walk_at "my in" : (ki, PySem.W.listOf kiA uki) ∈ lawLed hd (s1.heap.objs.size + 1 + 1) p i q n t ho oa op oi oq ts n1 o (R1 ++ own2))
        generalize hS : lawLed hd (s1.heap.objs.size + 1 + 1) p i q n t ho oa op oi oq ts n1 o (R1 ++ own2) = S at N10 z2 z3
        obtain ⟨g1, g2, g3, g4, g5, g6⟩ := LM
        have hT7 : (T.val : Int) < 7 := by have := T.isLt; omega
        have hT0 : 0 ≤ (T.val : Int) := by omega
        walk_at "my n_st"
        refine Halt.mk ?_
        rename News _ _ _ _ => N10
        k_dflt (refine' item_strs N10 ?hm htyV ?h0 ?h1 ?hz ?_; (case hm => k_mem); (case h0 => exact hT0); (case h1 => exact hT7); (case hz => decide))
        intro kx kt hkx
        rw [Int.toNat_natCast, ty_at] at hkx
        obtain rfl := Option.some.inj hkx
        walk_at "my n_steps"
        refine Halt.mk ?_
        rename News _ _ _ _ => N11
        k_dflt (refine' item_strs N11 ?hm hkiV ?h0 ?h1 ?hz ?_; (case hm => k_mem); (case h0 => exact hT0); (case h1 => exact hT7); (case hz => decide))
        intro kx kt hkx
        rw [Int.toNat_natCast, kd_at] at hkx
        obtain rfl := Option.some.inj hkx
        walk_at "my n_steps"
        · rename (_ != _) = true => hcT
          exact absurd hcT (by simp)
        walk_at "my n_st"
        refine Halt.mk ?_
        rename News _ _ _ _ => N12
        k_dflt (refine' item_strs N12 ?hm htyV ?h0 ?h1 ?hz ?_; (case hm => k_mem); (case h0 => exact hT0); (case h1 => exact hT7); (case hz => decide))
        intro kx kt hkx
        rw [Int.toNat_natCast, ty_at] at hkx
        obtain rfl := Option.some.inj hkx
        walk_at "my n_steps"
        refine Halt.mk ?_
        rename News _ _ _ _ => N17
        k_dflt (refine' bounds_0 ?k1 ?k2 ?k3 ?k4 ?k5 ?k6 ?k7 N17 ?_; (case k1 => k_asm); (case k2 => k_asm); (case k3 => k_asm); (case k4 => k_asm); (case k5 => exact rfl); (case k6 => ktr_room); (case k7 => ktr_units); k_whole)
        intro x17 h17 tk17 t17 t18 F18 N18
        generalize hlo : lowOf pr T = lo at N18
        generalize hhi : highOf pr T = hi at N18
        (try k_sweep)
        walk_at "my n_steps"
        walk_at "my n_st"
        rcases ty_cases T with rfl | rfl | rfl | rfl | rfl | rfl | rfl
        all_goals
          dsimp only [lowOf] at hlo
          dsimp only [highOf] at hhi
          subst hlo
          subst hhi
          walk_at "my n_st"
          refine Halt.mk ?_
          rename News _ _ _ _ => N13
          k_dflt (refine' item_strs N13 ?hm htyV ?h0 ?h1 ?hz ?_; (case hm => k_mem); (case h0 => exact hT0); (case h1 => exact hT7); (case hz => decide))
          intro kx kt hkx
          rw [Int.toNat_natCast, ty_at] at hkx
          obtain rfl := Option.some.inj hkx
          dsimp only [tyStr]
          walk_at "my n_steps"
          refine Halt.mk ?_
          rename News _ _ _ _ => N14
          k_dflt (refine' item_strs N14 ?hm htyV ?h0 ?h1 ?hz ?_; (case hm => k_mem); (case h0 => exact hT0); (case h1 => exact hT7); (case hz => decide))
          intro kx kt hkx
          rw [Int.toNat_natCast, ty_at] at hkx
          obtain rfl := Option.some.inj hkx
          dsimp only [tyStr]
          walk_at "my n_steps"
          walk_at "my n_st"
          subst hS
          rename News _ _ _ _ => N15
          rename Fr _ _ _ _ => F15
          obtain ⟨m₉, F15, LM9, gc9⟩ : ∃ m₉ : Str → Option Value, Fr _ _ _ m₉ ∧ LawM m₉ b cl std tb ty ki ∧ m₉ (Str.ofString "cell") = some (.int c tc) :=
            ⟨_, F15, (by repeat (first | exact LM' | refine LawM.set ?_ (by decide +kernel))), (by repeat (first | exact gc' | refine (if_neg (by decide +kernel)).trans ?_))⟩
          exact hQ'' _ _ _ _ F15 (news_sub N15 fun z hz => by first | exact .tail _ (.tail _ (.tail _ hz)) | exact .tail _ (.tail _ (.tail _ (.tail _ hz))) | exact .tail _ (.tail _ (.tail _ (.tail _ (.tail _ hz)))) | exact .tail _ (.tail _ (.tail _ (.tail _ (.tail _ (.tail _ hz)))))) ⟨xs, D, H, R1, hx, ho, op, oi, oq, o, oa, ts, n1, rfl, ST, hxl, LM9, gc9⟩
      --CUT7
      clear N10 F10 ST hxl LM gs gp gc
      intro h11 tk11 m₉ nw F11 N11 hP9
      obtain ⟨xs, D, H, R1, hx, ho, op, oi, oq, o, oa, ts, n1, e, ST, hxl, LM, gc⟩ := hP9
      subst e
      dsimp only [List.drop]
      --BEG8
      · have OS : OwnOff (R1 ++ own2) [hd, s1.heap.objs.size + 1 + 1, p, i, q, n, t] := ownOff_app (ST.off N11) hown
        have hRS : ∀ z ∈ R1, z ∈ R1 ++ own2 := fun z hz => List.mem_append_left _ hz
        have hXR : ∀ z ∈ own2, z ∈ R1 ++ own2 := fun z hz => List.mem_append_right _ hz
        have TU : ∀ z ∈ R1, z.2.cls = .type "tuple" := fun z hz => (ST.tups z hz).1
        have LM' := LM
        have hTS := ST.tabs
        have hA := ST.atoms
        have hz1 : xs.length ≤ 900 := by have := hIy.length; omega
        obtain ⟨v9, hoa⟩ := ST.cell
        generalize hS : R1 ++ own2 = S at N11 OS hRS hXR
        replace z2 := hXR _ z2
        replace z3 := hXR _ z3
        replace z1 := hXR _ z1
        replace z5 := hXR _ z5
        replace z6 := hXR _ z6
        replace z7 := hXR _ z7
        replace z8 := hXR _ z8
        obtain ⟨g1, g2, g3, g4, g5, g6⟩ := LM
        dsimp only [lawLed] at N11
        walk_at "my n_st"
        refine Halt.mk ?_
        rename News _ _ _ _ => N12
        k_dflt (refine' item_strs (names := [Str.ofString "-", Str.ofString "foo", Str.ofString "is", Str.ofString ";", Str.ofString "+", Str.ofString ","]) N12 ?hm ?hv ?h0 ?h1 ?hz ?_; (case hm => k_mem); (case hv => exact .cons ⟨_, rfl⟩ (.cons ⟨_, rfl⟩ (.cons ⟨_, rfl⟩ (.cons ⟨_, rfl⟩ (.cons ⟨_, rfl⟩ (.cons ⟨_, rfl⟩ .nil)))))); (case h0 => walk_at "my m_lo"); (case h1 => walk_at "my m_hi"); (case hz => decide +kernel))
        intro nm ta0 hnm
        walk_at "my n_steps"
        walk_at "my n_st"
        walk_at "my n_st"
        refine Halt.mk ?_
        rename News _ _ _ _ => N20
        k_dflt (refine' kh_method PySem.F.slot_dict_get PySem.F.type_dict_get N20 ?hm ST.held.exact ?_; (case hm => k_mem))
        walk_at "my n_steps"
        refine Halt.mk ?_
        rename News _ _ _ _ => N30
        k_dflt (refine' kh_get1 (R := R1) (ks := hkey ((xs.idxOf nm : Nat) : Int) 0) ?hu N30 ?hd ?hR ST.held loh ?hka tupKey _ rfl ?_; (case hu => exact Nat.le_of_ble_eq_true rfl); (case hd => k_mem); (case hka => k_mem); (case hR => exact fun z hz => by have h9 := hRS z hz; walk_at "my in"))
        have hw0 := held_opt (a := ((xs.idxOf nm : Nat) : Int)) (k := 0) ST.heldIs
        generalize ((atKey hx (hkey ((xs.idxOf nm : Nat) : Int) 0)).map (·.2)).getD .none = w0 at hw0
        (try k_unfold)
        (try dsimp only)
        refine LCg.CompEnd.intro (by k_asm) N30 (_ :: _) comp_sub ?off0 ?src0 ?_
        case off0 => (refine ⟨⟨?_, ?_, ?_⟩, by simpa only [LCg.Off3, and_true] using (by assumption)⟩ <;> omega)
        case src0 => lcg_src
        walk_at "my n_steps"
        refine Halt.mk ?_
        rename News _ _ _ _ => N21
        k_dflt (refine' kh_method PySem.F.slot_dict_get PySem.F.type_dict_get N21 ?hm ST.held.exact ?_; (case hm => k_mem))
        walk_at "my n_steps"
        refine Halt.mk ?_
        rename News _ _ _ _ => N31
        k_dflt (refine' kh_get1 (R := R1) (ks := hkey ((xs.idxOf nm : Nat) : Int) 1) ?hu N31 ?hd ?hR ST.held loh ?hka tupKey _ rfl ?_; (case hu => exact Nat.le_of_ble_eq_true rfl); (case hd => k_mem); (case hka => k_mem); (case hR => exact fun z hz => by have h9 := hRS z hz; walk_at "my in"))
        have hw1 := held_opt (a := ((xs.idxOf nm : Nat) : Int)) (k := 1) ST.heldIs
        generalize ((atKey hx (hkey ((xs.idxOf nm : Nat) : Int) 1)).map (·.2)).getD .none = w1 at hw1
        (try k_unfold)
        (try dsimp only)
        refine LCg.CompEnd.intro (by k_asm) N31 (_ :: _) comp_sub ?off1 ?src1 ?_
        case off1 => (refine ⟨⟨?_, ?_, ?_⟩, by simpa only [LCg.Off3, and_true] using (by assumption)⟩ <;> omega)
        case src1 => lcg_src
        walk_at "my n_steps"
        refine Halt.mk ?_
        rename News _ _ _ _ => N22
        k_dflt (refine' kh_method PySem.F.slot_dict_get PySem.F.type_dict_get N22 ?hm ST.held.exact ?_; (case hm => k_mem))
        walk_at "my n_steps"
        refine Halt.mk ?_
        rename News _ _ _ _ => N32
        k_dflt (refine' kh_get1 (R := R1) (ks := hkey ((xs.idxOf nm : Nat) : Int) 2) ?hu N32 ?hd ?hR ST.held loh ?hka tupKey _ rfl ?_; (case hu => exact Nat.le_of_ble_eq_true rfl); (case hd => k_mem); (case hka => k_mem); (case hR => exact fun z hz => by have h9 := hRS z hz; walk_at "my in"))
        have hw2 := held_opt (a := ((xs.idxOf nm : Nat) : Int)) (k := 2) ST.heldIs
        generalize ((atKey hx (hkey ((xs.idxOf nm : Nat) : Int) 2)).map (·.2)).getD .none = w2 at hw2
        (try k_unfold)
        (try dsimp only)
        refine LCg.CompEnd.intro (by k_asm) N32 (_ :: _) comp_sub ?off2 ?src2 ?_
        case off2 => (refine ⟨⟨?_, ?_, ?_⟩, by simpa only [LCg.Off3, and_true] using (by assumption)⟩ <;> omega)
        case src2 => lcg_src
        walk_at "my n_steps"
        have hne : HaltNe := .mk
        walk_at "my n_st"
        refine Halt.mk ?_
        rename News _ _ _ _ => N40
        have heq : [dget (D 0) ((xs.idxOf nm : Nat) : Int), dget (D 1) ((xs.idxOf nm : Nat) : Int), dget (D 2) ((xs.idxOf nm : Nat) : Int)] = [aget H (((xs.idxOf nm : Nat) : Int), 0), aget H (((xs.idxOf nm : Nat) : Int), 1), aget H (((xs.idxOf nm : Nat) : Int), 2)] := by rw [ST.inv.get, ST.inv.get, ST.inv.get]
        k_dflt (refine' ne_opts (R := R1) (xs := [_, _, _]) (ys := [_, _, _]) (os := [dget (D 0) ((xs.idxOf nm : Nat) : Int), dget (D 1) ((xs.idxOf nm : Nat) : Int), dget (D 2) ((xs.idxOf nm : Nat) : Int)]) (os' := [aget H (((xs.idxOf nm : Nat) : Int), 0), aget H (((xs.idxOf nm : Nat) : Int), 1), aget H (((xs.idxOf nm : Nat) : Int), 2)]) N40 ?ma ?Ha ?sa ?mb ?Hb ?hu ?_; (case ma => k_mem); (case mb => k_mem); (case Ha => exact .cons (by assumption) (.cons (by assumption) (.cons (by assumption) .nil))); (case Hb => exact .cons hw0 (.cons hw1 (.cons hw2 .nil))); (case hu => exact Nat.le_of_ble_eq_true rfl); (case sa => exact fun z hz => by have h9 := hRS z hz; walk_at "my in"))
        rw [decide_eq_true heq]
        walk_at "my n_steps"
        refine Halt.mk ?_
        rename News _ _ _ _ => N41
        k_dflt (refine' ne_opts (R := R1) (xs := [_, _, _]) (ys := [.none, .none, .none]) (os := [aget H (((xs.idxOf nm : Nat) : Int), 0), aget H (((xs.idxOf nm : Nat) : Int), 1), aget H (((xs.idxOf nm : Nat) : Int), 2)]) (os' := [none, none, none]) N41 ?ma ?Ha ?sa ?mb ?Hb ?hu ?_; (case ma => k_mem); (case mb => k_mem); (case Ha => exact .cons hw0 (.cons hw1 (.cons hw2 .nil))); (case Hb => exact .cons rfl (.cons rfl (.cons rfl .nil))); (case hu => exact Nat.le_of_ble_eq_true rfl); (case sa => exact fun z hz => by have h9 := hRS z hz; walk_at "my in"))
        rw [any_some, ST.inv.get, ST.inv.get, ST.inv.get]
        generalize ((dget (D 0) ((xs.idxOf nm : Nat) : Int)).isSome || (dget (D 1) ((xs.idxOf nm : Nat) : Int)).isSome || (dget (D 2) ((xs.idxOf nm : Nat) : Int)).isSome) = e9
        rename Atoms _ _ _ _ (atomAdd _ _) => A14
        subst hS
        cases e9
        all_goals
          walk_at "my n_steps"
          rename News _ _ _ _ => N42
          rename Fr _ _ _ _ => F42
          obtain ⟨oa2, o2, ts2, n2, N42, A15, hoa2, m₁₀, F42, LM10⟩ : ∃ (oa2 o2 : Obj) (ts2 : Array Value) (n2 : Nat), News s1.heap _ _ (lawLed hd (s1.heap.objs.size + 1 + 1) p i q n t ho oa2 op oi oq ts2 n2 o2 (R1 ++ own2)) ∧ Atoms PySem.Challenge.rw_rr0017_01.row.prog w o2 ts2 (atomAdd xs nm) ∧ (∃ v, oa2.data = .cell v) ∧ ∃ m₁₀ : Str → Option Value, Fr _ _ _ m₁₀ ∧ LawM m₁₀ b cl std tb ty ki :=
            ⟨_, _, _, _, (by repeat (first | exact N42 | replace N42 := news_tl N42)), A14, ⟨_, by assumption⟩, _, F42, (by repeat (first | exact LM' | refine LawM.set ?_ (by decide +kernel)))⟩
          have hle := len_atomAdd xs nm
          refine turn_next F42 ⟨atomAdd xs nm, D, H, R1, hx, ho, op, oi, oq, o2, oa2, ts2, n2, rfl, ⟨ST.tups, A15, ST.tabs, ST.held, ST.heldIs, ST.inv.atom nm, hoa2⟩, by omega, LM10, trivial⟩ (news_sub N42 fun z hz => ?_) fun z hz => ?_
          · subst hO
            revert z hz; walk_at "my sub"
          · revert z hz; walk_at "my adr"
      --CUT8
    · intro m₅ nw h8 tk8 hP9 F9 N9
      obtain ⟨xs, D, H, R1, hx, ho, op, oi, oq, o, oa, ts, n1, e, ST, hxl, LM, _⟩ := hP9
      refine hQ' _ _ _ _ F9 N9 ⟨xs, D, H, R1, hx, ho, op, oi, oq, o, oa, ts, n1, e, ST, ?_, LM, trivial⟩
      have := hIy.length
      omega
  --CUT4
  clear F7 N7 ST0
  intro h8 tk8 m₅ nw F8 N8 hP9
  obtain ⟨xs, D, H, R1, hx, ho, op, oi, oq, o, oa, ts, n1, e, ST, hxl, LM, _⟩ := hP9
  subst e
  obtain ⟨g1, g2, g3, g4, g5, g6⟩ := LM
  have hR0 : ∀ z ∈ R1, z ∈ R1 ++ X := fun z hz => List.mem_append_left _ hz
  have hX0 : ∀ z ∈ X, z ∈ R1 ++ X := fun z hz => List.mem_append_right _ hz
  generalize hS0 : R1 ++ X = S0 at N8 hR0 hX0
  replace x1 := hX0 _ x1
  replace x5 := hX0 _ x5
  replace x6 := hX0 _ x6
  dsimp only [lawLed] at N8
  have hne : HaltNe := .mk
  walk_at "my n_st"
  refine Halt.mk ?_
  rename News _ _ _ _ => N9
  k_dflt (refine' rows_c (R := R1) (D := D) ?k1 ?k2 ?k3 ?k4 ?k5 ?k6 ?k7 N9 ?m1 ?m2 ?mp ?mi ?mq ?hR ?RT lp li lq ST.tabs ST.inv.dnd ST.inv.dlen ?_; (case k1 => k_asm); (case k2 => k_asm); (case k3 => k_asm); (case k4 => k_asm); (case k5 => exact rfl); (case k6 => ktr_room); (case k7 => ktr_units); (case m1 => k_mem); (case m2 => k_mem); (case mp => k_mem); (case mi => k_mem); (case mq => k_mem); (case hR => exact fun z hz => by have h9 := hR0 z hz; walk_at "my in"); (case RT => exact fun z hz => (ST.tups z hz).1); k_whole)
  intro x2 vs2 rows2 c2' R2 h9 tk9 F10 N10 RT2 hvr2 hperm2 hsort2
  walk_at "my n_steps"
  refine Halt.mk ?_
  rename News _ _ _ _ => N11
  rename Fr _ _ _ _ => F11
  obtain ⟨hcD, esD, epD, hdD, heD, hkD, hnD⟩ := id ST.held
  have hszD : esD.size = hx.length := by rw [← List.length_map, ← heD, Array.length_toList]
  have hHl : hx.length = H.length := ST.heldIs.length
  have hSz : esD.size = H.length := hszD.trans hHl
  have hH64 := ST.inv.hlen
  have hS1 : ∀ z ∈ R1, z ∈ R2 ++ S0 := fun z hz => List.mem_append_right _ (hR0 _ hz)
  have hS2 : ∀ z ∈ R2, z ∈ R2 ++ S0 := fun z hz => List.mem_append_left _ hz
  have hSX : (s1.heap.objs.size + 1, oc) ∈ R2 ++ S0 := List.mem_append_right _ x1
  have NB : News s1.heap s1.heap.objs.size h9 ((x2, PySem.W.listOf vs2.toArray c2') :: lawLed hd (s1.heap.objs.size + 1 + 1) p i q n t ho oa op oi oq ts n1 o ([] ++ (R2 ++ S0))) := news_sub N11 fun z hz => by
    revert z hz; walk_at "my sub"
  generalize hS2e : R2 ++ S0 = S2 at NB hS1 hS2 hSX
  clear N11 N9
  refine comp_dict (h₀ := s1.heap) (L := s1.heap.objs.size) (m := m₅) (by with_unfolding_all rfl) (by decide) (by rfl) (by decide) (by rfl) ?_
  have LWm : (s1.heap.objs.size + 1, oc) ∈ (x2, PySem.W.listOf vs2.toArray c2') :: lawLed hd (s1.heap.objs.size + 1 + 1) p i q n t ho oa op oi oq ts n1 o ([] ++ S2) := by walk_at "my in"
  walk1
  try dsimp only
  refine ⟨_, esD, epD, ho, _, rfl, rfl, loh, F11, NB, .tail _ (.head _), hcD, hdD, by rw [hSz, sizeLine_eq]; omega, ?_⟩
  intro s₂ hP9
  obtain ⟨g, e⟩ := hP9
  subst e
  refine comp_all (n := esD.size) (fun j9 us9 nw => ∃ Rn, nw = (x2, PySem.W.listOf vs2.toArray c2') :: lawLed hd (s1.heap.objs.size + 1 + 1) p i q n t ho oa op oi oq ts n1 o (Rn ++ S2) ∧ All2 (RowV Rn) us9 ((H.take j9).map heldRow)) ?_ ?_ esD.size 0 [] _ (Nat.zero_add _) ⟨[], rfl, .nil⟩
  --BEG9
  · clear NB F11
    intro i9 ys9 nw v9 I oI C oC D9 m₂9 h10 tk10 E' hi9 hP9 hP8 hC hx9 F12 N12 off12 ne12
    obtain ⟨Rn, e, hAll⟩ := hP9
    obtain ⟨en, hen, hv9⟩ := hP8
    subst e hv9
    obtain ⟨e9, he9, ka, ok, hka, hkm, htk, p9, hp9, x9, t91, t92, hpv, hxm⟩ := held_at heD hkD ST.heldIs ST.inv.nh hen
    rw [hka] at hx9
    obtain ⟨hokc, nok, tk1, tk2, hokd⟩ := key_shape htk
    have off13 : LCg.Off3 I C D9 [] := trivial
    have hkm9 := hS1 _ hkm
    have hxm9 := hS1 _ hxm
    have N13 : News s1.heap s1.heap.objs.size h10 ((I, oI) :: (C, oC) :: (D9, LCg.lst ys9) :: (ka, ok) :: (x9, tupObj [.int e9.2.1 t91, .str (tyStr e9.2.2) t92]) :: (x2, PySem.W.listOf vs2.toArray c2') :: lawLed hd (s1.heap.objs.size + 1 + 1) p i q n t ho oa op oi oq ts n1 o (Rn ++ S2)) := news_sub N12 (by walk_at "my sub")
    have hR9 : ∀ z ∈ R1, z ∈ lawLed hd (s1.heap.objs.size + 1 + 1) p i q n t ho oa op oi oq ts n1 o (Rn ++ S2) := fun z hz => by have h9 := hS1 z hz; walk_at "my in"
    have x9 : (hd, ho) ∈ lawLed hd (s1.heap.objs.size + 1 + 1) p i q n t ho oa op oi oq ts n1 o (Rn ++ S2) := .head _
    replace hSX : (s1.heap.objs.size + 1, oc) ∈ lawLed hd (s1.heap.objs.size + 1 + 1) p i q n t ho oa op oi oq ts n1 o (Rn ++ S2) := by walk_at "my in"
    generalize hS : lawLed hd (s1.heap.objs.size + 1 + 1) p i q n t ho oa op oi oq ts n1 o (Rn ++ S2) = S at N13 hR9 x9 hSX
    clear N12
    walk_at "my n_steps"
    refine Halt.mk ?_
    rename News _ _ _ _ => N14
    k_dflt (refine' kh_item (R := R1) (ks := hkey e9.1.1 e9.1.2) ?hu N14 ?hd ?hR ST.held ?hka htk hp9 ?_; (case hu => exact Nat.le_of_ble_eq_true rfl); (case hd => k_mem); (case hka => k_mem); (case hR => exact fun z hz => by have h9 := hR9 z hz; walk_at "my in"))
    rw [hpv]
    walk_at "my n_steps"
    refine Halt.mk ?_
    rename News _ _ _ _ => N15
    k_dflt (refine' item_tup (j := 0) N15 ?hm ?hc ?hd ?lo ?hi ?hj ?hx ?_; (case hm => k_mem); (case hc => rfl); (case hd => rfl); (case lo => decide); (case hi => decide); (case hj => rfl); (case hx => rfl))
    walk_at "my n_steps"
    refine Halt.mk ?_
    rename News _ _ _ _ => N14
    k_dflt (refine' kh_item (R := R1) (ks := hkey e9.1.1 e9.1.2) ?hu N14 ?hd ?hR ST.held ?hka htk hp9 ?_; (case hu => exact Nat.le_of_ble_eq_true rfl); (case hd => k_mem); (case hka => k_mem); (case hR => exact fun z hz => by have h9 := hR9 z hz; walk_at "my in"))
    rw [hpv]
    walk_at "my n_steps"
    refine Halt.mk ?_
    rename News _ _ _ _ => N15
    k_dflt (refine' item_tup (j := 1) N15 ?hm ?hc ?hd ?lo ?hi ?hj ?hx ?_; (case hm => k_mem); (case hc => rfl); (case hd => rfl); (case lo => decide); (case hi => decide); (case hj => rfl); (case hx => rfl))
    walk_at "my n_steps"
    refine Halt.mk ?_
    rename News _ _ _ _ => N16
    k_dflt (refine' item_tup (j := 0) N16 ?hm hokc hokd ?lo ?hi ?hj ?hx ?_; (case hm => k_mem); (case lo => decide); (case hi => decide); (case hj => rfl); (case hx => rfl))
    walk_at "my n_steps"
    rename News _ _ _ _ => N17
    rename Fr _ _ _ _ => F17
    subst hS
    refine comp_end_tup F17 N17 (by omega) (by omega) (by omega) off12 (fun z hz => ?_) (fun z => (x2, PySem.W.listOf vs2.toArray c2') :: lawLed hd (s1.heap.objs.size + 1 + 1) p i q n t ho oa op oi oq ts n1 o ((z :: Rn) ++ S2)) (fun z hz => ?_) (.tail _ (.head _)) ⟨_, rfl, ?_⟩
    · exact .tail _ (.tail _ hz)
    · revert z hz; walk_at "my sub"
    · rw [List.take_add_one, he9, List.map_append]
      exact All2.append (hAll.mono fun _ _ h => h.mono fun _ h => .tail _ h) (.cons ⟨_, t91, t92, tk1, rfl, .head _⟩ .nil)
  --CUT9
  · intro us9 nw hP9
    obtain ⟨Rn, e, hAll⟩ := hP9
    subst e
    rw [hSz, List.take_length] at hAll
    dsimp only [lawLed]
    unfold LCg.FinE
    intro D9 h10 tk10 F12 N12 off12
    walk_at "my n_steps"
    refine Halt.mk ?_
    rename News _ _ _ _ => N13
    rename Fr _ _ _ _ => F13
    k_dflt (refine' sorted_rows' (R := Rn) F13 N13 ⟨_, (N13 _ (.head _)).1, rfl, _, rfl⟩ hAll ?hR ST.inv.hnd ?hl ?_; (case hR => exact fun z hz => by walk_at "my in"); (case hl => rw [List.length_map]; exact hH64))
    intro D10 vs10 rows10 c10 h11 tk11 F14 N14 lt10 hv10 hp10 hs10
    walk_at "my n_steps"
    refine Halt.mk ?_
    rename News _ _ _ _ => N15
    have heq : rows2 = rows10 := sorted_ext (fun r => by rw [hperm2.mem_iff, hp10.mem_iff]; exact ST.inv.mem r) hsort2 hs10
    k_dflt (refine' eq_rows (R := R2) (R' := Rn) N15 ?ma hvr2 ?sa ?mb hv10 ?sb ?hu ?_; (case ma => k_mem); (case mb => k_mem); (case sa => exact fun z hz => by have h9 := hS2 z hz; walk_at "my in"); (case sb => exact fun z hz => by walk_at "my in"); (case hu => exact Nat.le_of_ble_eq_true rfl))
    rw [decide_eq_true heq]
    walk_at "my n_steps"
    k_end
    wrow_close)
end

end Mine
theorem PySem.Challenge.cw_rr0017_01_holds : PySem.Challenge.rw_rr0017_01.Holds := by
  exact Mine.law_all
