import PyProof.Rows.All
import Wide.All
import OpenK.AllK
import Wide.FinOn
import PySem.Challenge.RW_pb0233_02
open PySem PySem.W PyProof.Rows
set_option Elab.async false
set_option maxRecDepth 100000
set_option maxHeartbeats 8000000
namespace Mine
/-- the dict of an open sequential file -/
def IsRF (P : Params) (D : Obj) (c : Addr) (mode : Str) (a : Int) (v : Bool) (l : Int) : Prop :=
  ∃ t1 t2 t3 t4 t5 tm ta tl, D = dictOf [⟨PyData.keyHash P (Str.ofString "content"), .str (Str.ofString "content") t1, .ref c⟩,
    ⟨PyData.keyHash P (Str.ofString "mode"), .str (Str.ofString "mode") t2, .str mode tm⟩,
    ⟨PyData.keyHash P (Str.ofString "at"), .str (Str.ofString "at") t3, .int a ta⟩,
    ⟨PyData.keyHash P (Str.ofString "is_valid"), .str (Str.ofString "is_valid") t4, .bool v⟩,
    ⟨PyData.keyHash P (Str.ofString "last"), .str (Str.ofString "last") t5, .int l tl⟩] 5

section
variable {M : Model} {A : Around} {E : Value → Shared → Prop} {s : Shared}
/-- a ledger is only made smaller -/
theorem news_sub {h₀ h : Heap} {L : Addr} {l l' : List (Addr × Obj)} (N : News h₀ L h l) (hs : ∀ p ∈ l', p ∈ l) : News h₀ L h l' := fun p hp => N p (hs p hp)
end
section
variable {prog : Program} {w : World} {A : Around} {E : Value → Shared → Prop} {s : Shared} {K : Frag} {h₀ : Heap} {L : Addr} {m : Str → Option Value} {a : Addr} {l : List Value} {n : Nat} {dd : Option Addr} {sl : Array (Option Value)} {ys : List Str} {x : Str} {u : Tok} {Q : Value → Shared → Prop}
theorem notin_K_has (X : K.In h₀) (F : Fr h₀ L s.heap m) (hl : K.lookup a = some ⟨.type "tuple", dd, .seq l.toArray n, sl⟩) (hi : StrsAre l ys) (hb : ys.any (· == x) = true) (h : Q (.bool false) s) :
    wpAny (model prog w) A (compareOp .NotIn (.str x u) (.ref a)) Q E s := notin_tuple_strs (tupK (X.keeps F.keep) hl) (by simpa using hi) (by rw [hb]; exact h)
theorem notin_K_not (X : K.In h₀) (F : Fr h₀ L s.heap m) (hl : K.lookup a = some ⟨.type "tuple", dd, .seq l.toArray n, sl⟩) (hi : StrsAre l ys) (hb : ys.any (· == x) = false) (h : Q (.bool true) s) :
    wpAny (model prog w) A (compareOp .NotIn (.str x u) (.ref a)) Q E s := notin_tuple_strs (tupK (X.keeps F.keep) hl) (by simpa using hi) (by rw [hb]; exact h)
end
abbrev tupO (xs : List Value) : Obj := { cls := .type "tuple", data := .seq xs.toArray }
section
variable {prog : Program} {w : World} {A : Around} {E : Value → Shared → Prop} {s : Shared} {h₀ : Heap} {L : Addr} {news : List (Addr × Obj)} {a : Addr} {vs : List Value} {n : Nat} {k : Int} {u : Tok} {Q : Value → Shared → Prop}
theorem len_led (N : News h₀ L s.heap news) (hm : (a, listOf vs.toArray n) ∈ news) (hsz : vs.length ≤ 16777216) (h : Q (.int (vs.length : Int) (s.toks + 1)) { s with toks := s.toks + 1 + 1 }) :
    wpAny (model prog w) A (call (.builtin "len") [.ref a]) Q E s :=
  len_list (items := vs.toArray) ⟨_, (N _ hm).1, rfl, n, rfl⟩ (by rw [List.size_toArray]; omega) (by rw [List.size_toArray]; exact h)
theorem item_led {value slice : PySem.Expr} (N : News h₀ L s.heap news) (hm : (a, listOf vs.toArray n) ∈ news) (h0 : 0 ≤ k) (h1 : k < (vs.length : Int)) (hsz : vs.length ≤ 16777216) (h : ∀ x, vs[k.toNat]? = some x → Q x s)
    (hs : subscripted slice false (.ref a) (.int k u) = operate [.ref a, .int k u] (getItem (.ref a) (.int k u))) (hg : ∀ r, letTemporaryGo value (.ref a) r = pure ()) :
    wpAny (model prog w) A (subscriptTail value slice (.ref a) (.int k u)) Q E s := by
  have hlt : k.toNat < vs.length := by omega
  exact kim_list N hm rfl rfl h0 (by omega) (List.getElem?_eq_getElem hlt) (h _ (List.getElem?_eq_getElem hlt)) hs hg
theorem getItem_led (N : News h₀ L s.heap news) (hm : (a, listOf vs.toArray n) ∈ news) (h0 : 0 ≤ k) (h1 : k < (vs.length : Int)) (hsz : vs.length ≤ 16777216) (h : ∀ x, vs[k.toNat]? = some x → Q x s) :
    wpAny (model prog w) A (getItem (.ref a) (.int k u)) Q E s := by
  have hlt : k.toNat < vs.length := by omega
  exact wpAny_getItem_list (l := a) (items := vs.toArray) ⟨_, (N _ hm).1, rfl, n, rfl⟩ h0 (by omega) (by simpa using List.getElem?_eq_getElem hlt) (h _ (List.getElem?_eq_getElem hlt))
end
abbrev Bs := Array UInt8
inductive BAre : List Value → List Bs → Prop where
  | nil : BAre [] []
  | cons {vs : List Value} {bs : List Bs} (b : Bs) (t : Tok) : BAre vs bs → BAre (.bytes b t :: vs) (b :: bs)
theorem BAre.length {vs : List Value} {bs : List Bs} (h : BAre vs bs) : vs.length = bs.length := by
  induction h with
  | nil => rfl
  | cons b t _ ih => simp [ih]
theorem BAre.get {vs : List Value} {bs : List Bs} (h : BAre vs bs) : ∀ {k : Nat} {y : Value}, vs[k]? = some y → ∃ b t, bs[k]? = some b ∧ y = .bytes b t := by
  induction h with
  | nil => intro k y e; simp at e
  | cons b t _ ih =>
    intro k y e
    cases k with
    | zero => simp at e; exact ⟨b, t, by simp, e.symm⟩
    | succ k => simp at e; simpa using ih e
theorem BAre.set {vs : List Value} {bs : List Bs} (h : BAre vs bs) (b : Bs) (t : Tok) : ∀ k : Nat, BAre (vs.set k (.bytes b t)) (bs.set k b) := by
  induction h with
  | nil => intro k; exact .nil
  | cons b' t' h ih =>
    intro k
    cases k with
    | zero => exact .cons _ _ h
    | succ k => exact .cons _ _ (ih k)
theorem BAre.append {vs us : List Value} {bs cs : List Bs} (h : BAre vs bs) (g : BAre us cs) : BAre (vs ++ us) (bs ++ cs) := by
  induction h with
  | nil => exact g
  | cons b t _ ih => exact .cons _ _ ih
theorem BAre.one (b : Bs) (t : Tok) : BAre [.bytes b t] [b] := .cons _ _ .nil
theorem BAre.dat {news : List (Addr × Obj)} {vs : List Value} {bs : List Bs} (h : BAre vs bs) : DatAll news vs (bs.map Dat.bytes) := by
  induction h with
  | nil => exact .nil
  | cons b t _ ih => exact .cons (.bytes b t) ih
theorem bb_dunder : typeLookup (.type "bytes") "__bytes__" = pure (some (.builtin "bytes.__bytes__")) := by rw [typeLookup_type, builtinLookup_eq_fast]; kernel_rfl
section
variable {prog : Program} {w : World} {A : Around} {E : Value → Shared → Prop} {s : Shared} {b : Array UInt8} {t : Tok}
theorem bb_new {Q : Value → Shared → Prop} (hQ : Q (.bytes b t) s) :
    codeAny (model prog w) A (.call (.builtin "bytes.__new__") ⟨[.type "bytes", .bytes b t], []⟩) (wants Q E) s := by
  refine codeAny_of_tree ?_
  show wpAny _ A.in1 (do checkBuiltinCall "bytes.__new__" ⟨[.type "bytes", .bytes b t], []⟩; again (.builtin "bytes.__new__" ⟨[.type "bytes", .bytes b t], []⟩)) _ _ s
  refine wpAny_bind (wpAny_of_eq (F.bm_newCall _) (wpAny_pure ⟨plainId_quiet F.bm_plain _, codeAny_builtin F.bm_entry ?_⟩))
  rw [Around.under_plainId F.bm_plain _]
  unfold Builtin.«bytes.__new__»
  refine wpAny_bind (wpAny_of_eq (a := true) rfl ?_)
  refine bm_if_false rfl ?_
  refine wpAny_bind (wpAny_of_eq F.bm_sub ?_)
  refine bm_if_false rfl ?_
  refine wpAny_bind (wpAny_of_eq (F.bm_bind _) ?_)
  refine wpAny_bind (wpAny_of_eq (a := ()) rfl ?_)
  refine wpAny_bind (wpAny_of_eq (a := ()) rfl ?_)
  refine bm_if_false rfl ?_
  refine wpAny_bind (wpAny_of_eq (KBy.special_eq bb_dunder) ?_)
  refine wpAny_bind (wpAny_rule ?_)
  refine wpAny_bind (wpAny_of_eq (a := .type "bytes") rfl ?_)
  refine bm_if_true (by decide +kernel) ?_
  show wpAny _ _ (if (Value.type "bytes" == Value.type "bytes") = true then _ else _) _ _ _
  refine bm_if_true (by decide +kernel) ?_
  refine wpAny_bind (wpAny_pure ?_)
  exact wpAny_pure hQ
theorem call_bb {Q : Value → Shared → Prop} (hQ : Q (.bytes b t) s) : wpAny (model prog w) A (call (.type "bytes") [.bytes b t]) Q E s := by
  refine callType_codes (Q₁ := fun obj s₁ => s₁.TypeIs obj "bytes" ∧ Q obj s₁) F.bm_called (F.bm_typeCall _) F.entry_object_init
    (bb_new ⟨PySem.W.typeIs_bytes _ _ _, hQ⟩) fun obj s₁ h₁ => ?_
  exact ⟨h₁.1, F.args_object_init_2 obj _, object_init_meets F.bm_called.init.lookup F.bm_called.made (by decide) prog w A.in1 _ s₁ ⟨h₁.1, rfl, h₁.2⟩⟩
end
section
variable {prog : Program} {w : World} {A : Around} {E : Value → Shared → Prop} {s : Shared} {h₀ : Heap} {L : Addr} {m : Str → Option Value} {news news' : List (Addr × Obj)} {a D : Addr} {vs : List Value} {R : List Bs} {n : Nat} {k : Int} {t u : Tok} {b : Bs}
theorem getItem_by {Q : Value → Shared → Prop} (N : News h₀ L s.heap news) (hm : (a, listOf vs.toArray n) ∈ news) (hR : BAre vs R) (h0 : 0 ≤ k) (h1 : k < (R.length : Int)) (hsz : R.length ≤ 16777216) (h : ∀ t', Q (.bytes (R.getD k.toNat #[]) t') s) :
    wpAny (model prog w) A (getItem (.ref a) (.int k u)) Q E s := by
  have hl := hR.length
  refine getItem_led N hm h0 (by omega) (by omega) fun x hx => ?_
  obtain ⟨b, t, hb, rfl⟩ := hR.get hx
  have : R.getD k.toNat #[] = b := by rw [List.getD_eq_getElem?_getD, hb]; rfl
  rw [← this]; exact h t
theorem item_by {value slice : PySem.Expr} {Q : Value → Shared → Prop} (N : News h₀ L s.heap news) (hm : (a, listOf vs.toArray n) ∈ news) (hR : BAre vs R) (h0 : 0 ≤ k) (h1 : k < (R.length : Int)) (hsz : R.length ≤ 16777216) (h : ∀ t', Q (.bytes (R.getD k.toNat #[]) t') s)
    (hs : subscripted slice false (.ref a) (.int k u) = operate [.ref a, .int k u] (getItem (.ref a) (.int k u))) (hg : ∀ r, letTemporaryGo value (.ref a) r = pure ()) :
    wpAny (model prog w) A (subscriptTail value slice (.ref a) (.int k u)) Q E s := by
  have hl := hR.length
  refine item_led N hm h0 (by omega) (by omega) (fun x hx => ?_) hs hg
  obtain ⟨b, t, hb, rfl⟩ := hR.get hx
  have : R.getD k.toNat #[] = b := by rw [List.getD_eq_getElem?_getD, hb]; rfl
  rw [← this]; exact h t
theorem set_by {Q : Unit → Shared → Prop} (F : Fr h₀ L s.heap m) (N : News h₀ L s.heap news) (U : Upd D (listOf vs.toArray n) (listOf (vs.set k.toNat (.bytes b u)).toArray n) news news') (hR : BAre vs R) (h0 : 0 ≤ k) (h1 : k < (R.length : Int)) (hsz : R.length ≤ 16777216)
    (h : ∀ h', Fr h₀ L h' m → News h₀ L h' news' → BAre (vs.set k.toNat (.bytes b u)) (R.set k.toNat b) → Q () { s with heap := h' }) :
    wpAny (model prog w) A (setItem (.ref D) (.int k t) (.bytes b u)) Q E s := by
  obtain ⟨pre, post, rfl, rfl, a, b'⟩ := U.split
  have z := N (D, listOf vs.toArray n) (List.mem_append.mpr (.inr (.head _)))
  have hl : vs.length = R.length := hR.length
  have hs : vs.toArray.size = R.length := by rw [List.size_toArray]; exact hl
  have hj : k.toNat < R.length := by omega
  refine ki_setAt z.1 h0 (by omega) (by omega) (h _ (F.change (Heap.SameBut.update ..) z.2.1 z.2.2) (ki_turn _ N a b' ?_ ?_) (hR.set _ _ _))
  · show vs.toArray.setIfInBounds k.toNat (.bytes b u) = (vs.set k.toNat (.bytes b u)).toArray
    apply Array.toList_inj.mp
    simp
  · simp
end
theorem lt_all {d : Nat} : ∀ {l : List (Addr × Obj)}, AllLt d l → ∀ p ∈ l, p.1 < d
  | [], _, _, h => nomatch h
  | q :: r, h, p, hp => by
    rcases List.mem_cons.mp hp with rfl | hp
    · exact h.1
    · exact lt_all h.2 p hp
def SzAll (R : List Bs) : Prop := ∀ r ∈ R, r.size ≤ 100
theorem sz_getD {R : List Bs} (h : SzAll R) (k : Nat) : (R.getD k #[]).size ≤ 100 := by
  rw [List.getD_eq_getElem?_getD]
  cases e : R[k]? with
  | none => simp
  | some b => exact h b (List.mem_of_getElem? e)
theorem SzAll.set {R : List Bs} (h : SzAll R) {b : Bs} (hb : b.size ≤ 100) (k : Nat) : SzAll (R.set k b) := by
  intro r hr
  rcases List.mem_or_eq_of_mem_set hr with h1 | h1
  · exact h r h1
  · rw [h1]; exact hb
local macro_rules | `(tactic| k_room) => `(tactic| ((try simp only [depth_under_make, depth_under_kw, depth_in1, depth_deeper, depth_caller]); (try dsimp only [ktrTop]); (simp only [recursionLimit] at *); omega))
local macro_rules | `(tactic| k_units) => `(tactic| ((have hcL9 := cLine_is); (try simp only [units_in1, units_deeper, Around.mark_units, units_caller] at *); (try dsimp only [ktrTop] at *); omega))
local macro_rules | `(tactic| walk_at "compareOp NotIn str ref") => `(tactic| (k_here; k_dflt (first
  | (refine' notin_K_has ?k1 ?k2 ?k3 ?k4 ?k5 ?_; (case k1 => k_asm); (case k2 => k_asm); (case k3 => k_is); (case k4 => (repeat constructor)); (case k5 => first | decide +kernel | (rcases ‹_ = Str.ofString "i-o" ∨ _ = Str.ofString "input"› with h9 | h9 <;> (subst h9; decide +kernel))); k_whole)
  | (refine' notin_K_not ?k1 ?k2 ?k3 ?k4 ?k5 ?_; (case k1 => k_asm); (case k2 => k_asm); (case k3 => k_is); (case k4 => (repeat constructor)); (case k5 => decide +kernel); k_whole))))
local macro_rules | `(tactic| walk_at "call builtin:len") => `(tactic| (k_here; (with_reducible show wpAny _ _ (call (Value.builtin "len") [Value.ref _]) _ _ _); k_dflt (refine' len_led ?k1 ?k2 ?k3 ?_; (case k1 => k_asm); (case k2 => k_mem); (case k3 => omega); k_whole)))
local macro_rules | `(tactic| walk_at "subscriptTail") => `(tactic| (k_here; (with_reducible show wpAny _ _ (subscriptTail _ _ (Value.ref _) (Value.int _ _)) _ _ _); (with_unfolding_all refine' item_by ?k1 ?k2 ?k3 ?k4 ?k5 ?k6 ?_ ?k7 ?k8; (case k1 => k_asm); (case k2 => k_mem); (case k3 => with_reducible assumption); (case k4 => omega); (case k5 => omega); (case k6 => omega); (case k7 => with_unfolding_all rfl); (case k8 => (intro _; with_unfolding_all rfl)); k_whole); intro t9))
local macro_rules | `(tactic| walk_at "getItem ref int") => `(tactic| (k_here; (with_reducible show wpAny _ _ (getItem (Value.ref _) (Value.int _ _)) _ _ _); (with_unfolding_all refine' getItem_by ?k1 ?k2 ?k3 ?k4 ?k5 ?k6 ?_; (case k1 => k_asm); (case k2 => k_mem); (case k3 => with_reducible assumption); (case k4 => omega); (case k5 => omega); (case k6 => omega); k_whole); intro t9))
local macro_rules | `(tactic| walk_at "setItem ref int") => `(tactic| (k_here; (with_reducible show wpAny _ _ (setItem (Value.ref _) (Value.int _ _) (Value.bytes _ _)) _ _ _); k_dflt (refine' set_by ?k1 ?k2 ?k3 ?k4 ?k5 ?k6 ?k7 ?_; (case k1 => k_asm); (case k2 => k_asm); (case k3 => k_upd); (case k4 => with_reducible assumption); (case k5 => omega); (case k6 => omega); (case k7 => omega); k_whole); intro h' F' N' hB'; (try k_sweep)))
local macro_rules | `(tactic| walk_at "call type:bytes") => `(tactic| (k_here; (with_reducible show wpAny _ _ (call (Value.type "bytes") [Value.bytes _ _]) _ _ _); refine call_bb ?_))
local macro_rules | `(tactic| walk_at "call builtin:len") => `(tactic| (k_here; (with_reducible show wpAny _ _ (call (Value.builtin "len") [Value.bytes _ _]) _ _ _); (refine len_bytes ?szb ?_; (case szb => first | omega | exact Nat.le_trans (sz_getD (by assumption) _) (by decide)))))
local macro_rules | `(tactic| walk_at "binaryOp Add bytes bytes") => `(tactic| (k_here; (with_reducible show wpAny _ _ (binaryOp Operator.Add (Value.bytes _ _) (Value.bytes _ _)) _ _ _); (refine KBy.add_bytes ?szb ?_; (case szb => ((try simp only [List.size_toArray, List.length_cons, List.length_nil]); omega)); intro _ _)))
section
variable {prog : Program} {w : World} {A : Around} {E : Value → Shared → Prop} {s : Shared} {h₀ : Heap} {L : Addr} {m : Str → Option Value} {env : Env}
theorem compEnd_mono {I C D : Addr} {s₁ : Shared} {oI oC oD : Obj} {S : List (Addr × Obj) → Prop} {r r' : Value → List (Addr × Obj) → Prop} {y : Value} {s₂ : Shared} (hr : ∀ y n, r y n → r' y n) (h : LCg.CompEnd h₀ L m s₁ I oI C oC D oD S r y s₂) :
    LCg.CompEnd h₀ L m s₁ I oI C oC D oD S r' y s₂ := by
  obtain ⟨h', tk, news', e, F, N, o, hS, g⟩ := h
  exact ⟨h', tk, news', e, F, N, o, hS, hr _ _ g⟩
theorem comp_inv {elt : PySem.Expr} {x : Str} {scope : Scope} {cl : List (Str × Addr)} {S : List (Addr × Obj) → Prop} {P : Nat → Value → Prop} {Fin : List Value → List (Addr × Obj) → Prop} {n : Nat} (Inv : Nat → List Value → List (Addr × Obj) → Prop)
    (fin : ∀ ys news, Inv n ys news → Fin ys news)
    (turn : ∀ i ys news v I oI C oC D m₂ h tk (E' : Value → Shared → Prop), i < n → Inv i ys news → P i v → LCg.NsObj oC m₂ → m₂ x = some v → Fr h₀ L h m → News h₀ L h ((I, oI) :: (C, oC) :: (D, LCg.lst ys) :: news) → LCg.Off3 I C D news → ((@Ne Nat I C) ∧ (@Ne Nat I D) ∧ (@Ne Nat C D)) →
      wpAny (model prog w) A (eval elt (compEnvC scope cl C env)) (LCg.CompEnd h₀ L m { s with heap := h, toks := tk } I oI C oC D (LCg.lst ys) S (fun y news' => Inv (i + 1) (ys ++ [y]) news')) E' { s with heap := h, toks := tk }) :
    ∀ k i ys news, i + k = n → Inv i ys news → LCg.CompRest prog w A h₀ L m env elt x scope cl s S P Fin k i ys news := by
  intro k
  induction k with
  | zero =>
    intro i ys news e hI
    obtain rfl : i = n := e
    exact LCg.CompRest.zero (fin _ _ hI)
  | succ k ih =>
    intro i ys news e hI
    refine LCg.CompRest.succ fun v I oI C oC D m₂ h tk E' hP hC hx F N o ne => ?_
    exact wpAny_mono (turn i ys news v I oI C oC D m₂ h tk E' (by omega) hI hP hC hx F N o ne) (fun y s₂ g => compEnd_mono (fun y n hn => ih (i + 1) _ _ (by omega) hn) g) fun _ _ e => e

def CompSrcB (prog : Program) (w : World) (A : Around) (h₀ : Heap) (L : Addr) (m : Str → Option Value) (env : Env) (elt : PySem.Expr) (x : Str) (scope : Scope) (cl : List (Str × Addr)) (Fin : Shared → List Value → List (Addr × Obj) → Prop) (xv : Value) (s₁ : Shared) : Prop :=
  ∃ b t news, xv = .bytes b t ∧ A.handled = none ∧ Fr h₀ L s₁.heap m ∧ News h₀ L s₁.heap news ∧ b.size ≤ sizeLine ∧
    ∀ s₂ : Shared, (∃ h, s₂ = { s₁ with heap := h }) → LCg.CompRest prog w A h₀ L m env elt x scope cl s₂ (fun _ => True) (fun i v => ∃ c u, b[i]? = some c ∧ v = .int (c.toNat : Int) u) (Fin s₂) b.size 0 [] news
theorem ListComp_B {elt iter : PySem.Expr} {x : Str} {px : Pos} {scope : Scope} {cl : List (Str × Addr)} {pos : Pos} {Q : Value → Shared → Prop} (F₀ : Fr h₀ L s.heap m)
    (hclos : closureFor scope env = pure cl) (hcell : ∀ y ∈ scope.names, y.2 ≠ .cell) (hkind : scope.kind = .function)
    (hnames : ∀ y ∈ scope.names, y.2 = .local → scope.names.lookup y.1 = some .local) (hx : scope.names.lookup x = some .local)
    (h : wpAny (model prog w) A (eval iter env) (CompSrcB prog w A h₀ L m env elt x scope cl (fun s₂ => LCg.FinE h₀ L m s₂ Q)) E s)
    (hs : ∀ x, foldedSetIterable iter env x = pure x := by intro _; rfl) :
    wpAny (model prog w) A (eval (.ListComp elt [⟨.Name x px, iter, [], 0⟩] scope pos) env) Q E s := by
  rw [eval_ListComp]
  refine wpAny_comprehension_free (use := none) rfl hs hclos hkind hnames (wpAny_mono h (fun xv s₁ h₁ => ?_) fun _ _ e => e)
  obtain ⟨b, t, news, rfl, hh, F, N, hsz, R⟩ := h₁
  refine KBw.pyIter_bytes ?_
  have up : ∀ c o, s₁.heap.get? c = some o → (s₁.heap.push { cls := .type "bytes_iterator", data := .fields #[.bytes b t, .int 0 0] }).get? c = some o := fun c o e => Heap.get?_push_of_some _ e
  refine LCg.block_U (KBw.walks hh s₁.heap.objs.size b t) hsz (fun i h st => by obtain ⟨o, e, _⟩ := st; exact ⟨o, e⟩) (fun i h h' o nw st e e' _ _ _ => ?_) hcell hkind hx ⟨_, Heap.get?_push_size _ rfl, rfl, rfl⟩ (fun c hb => ?_)
    (F.keeps up) (N.grown up) (Nat.ne_of_lt F.ns.lt) (next_is_new F) (fun p hp => Nat.ne_of_lt (Heap.lt_size (N p hp).1)) trivial (R _ ⟨_, rfl⟩) ?_
  · obtain ⟨o', q, r⟩ := st
    rw [e] at q; cases q
    exact ⟨o, e', r⟩
  · rw [List.mem_singleton.mp hb]
    show s₁.heap.objs.size < (s₁.heap.push _).objs.size
    rw [Heap.size_push]; exact Nat.lt_succ_self _
  · intro D C h tk m' ys news' F' N' o1 hn hC₀ hD₀ hCL hDL hCD offC fin
    refine ⟨m', hn, fun h'' hs'' => fin D h'' tk (F'.change hs'' hCL hC₀) (fun p hp => ?_) o1⟩
    refine ⟨hs''.extBut _ _ ?_ (N' p hp).1, (N' p hp).2⟩
    rcases List.mem_cons.mp hp with rfl | hp
    · exact Ne.symm hCD
    · exact offC p hp
end
theorem intsAre_snoc {vs : List Value} {ns : List Int} (h : IntsAre vs ns) (n : Int) (t : Tok) : IntsAre (vs ++ [.int n t]) (ns ++ [n]) := by
  induction h with
  | nil => exact .cons _ _ .nil
  | cons _ _ _ ih => exact .cons _ _ ih
theorem item_lit {prog : Program} {w : World} {A : Around} {E : Value → Shared → Prop} {s : Shared} {h₀ : Heap} {L : Addr} {news : List (Addr × Obj)} {a : Addr} {vs : List Value} {n : Nat} {k : Int} {u : Tok} {x : Value} {value slice : PySem.Expr} {Q : Value → Shared → Prop} (N : News h₀ L s.heap news) (hm : (a, listOf vs.toArray n) ∈ news) (h0 : 0 ≤ k) (h1 : k < 1000) (hx : vs[k.toNat]? = some x) (h : Q x s)
    (hs : subscripted slice false (.ref a) (.int k u) = operate [.ref a, .int k u] (getItem (.ref a) (.int k u))) (hg : ∀ r, letTemporaryGo value (.ref a) r = pure ()) :
    wpAny (model prog w) A (subscriptTail value slice (.ref a) (.int k u)) Q E s := kim_list N hm rfl rfl h0 (by omega) hx h hs hg
theorem pw_ne (n : Nat) : (720720 : Int) ^ n ≠ 0 := Int.pow_ne_zero (by decide)
theorem pw_log {n : Nat} (h : n ≤ 400) : ((720720 : Int) ^ n).natAbs.log2 < 9000 := by
  rw [Int.natAbs_pow]
  show (720720 ^ n : Nat).log2 < 9000
  have h0 : (720720 ^ n : Nat) ≠ 0 := Nat.pos_iff_ne_zero.mp (Nat.pow_pos (by decide))
  rw [Nat.log2_lt h0]
  calc (720720 ^ n : Nat) ≤ (2 ^ 20) ^ n := Nat.pow_le_pow_left (by decide) n
    _ = 2 ^ (20 * n) := by rw [← Nat.pow_mul]
    _ < 2 ^ 9000 := Nat.pow_lt_pow_right (by decide) (by omega)
theorem lst_listOf (ys : List Value) : LCg.lst ys = listOf ys.toArray ys.length := rfl
inductive Pick (p : Addr × Obj) : List (Addr × Obj) → List (Addr × Obj) → Prop where
  | head {r} : Pick p (p :: r) r
  | tail {q r r'} : Pick p r r' → Pick p (q :: r) (q :: r')
theorem Pick.mem {p q : Addr × Obj} {l l' : List (Addr × Obj)} (h : Pick p l l') : q ∈ p :: l' → q ∈ l := by
  induction h with
  | head => exact fun h => h
  | tail h ih =>
    intro hq
    rcases List.mem_cons.mp hq with rfl | hq
    · exact List.mem_cons_of_mem _ (ih (.head _))
    · rcases List.mem_cons.mp hq with rfl | hq
      · exact .head _
      · exact List.mem_cons_of_mem _ (ih (List.mem_cons_of_mem _ hq))
theorem Pick.news {p : Addr × Obj} {l l' : List (Addr × Obj)} {h₀ h : Heap} {L : Addr} (k : Pick p l l') (N : News h₀ L h l) : News h₀ L h (p :: l') := fun _ hq => N _ (k.mem hq)
theorem ownOff_cons {p : Addr × Obj} {l : List (Addr × Obj)} {adr : List Addr} (h : ∀ b ∈ adr, p.1 ≠ b) (t : OwnOff l adr) : OwnOff (p :: l) adr := by
  intro q hq b hb
  rcases List.mem_cons.mp hq with rfl | hq
  · exact h b hb
  · exact t q hq b hb
theorem ownOff_nil {adr : List Addr} : OwnOff [] adr := fun _ h => nomatch h
theorem ownOff_sub {l : List (Addr × Obj)} {adr adr' : List Addr} (t : OwnOff l adr) (h : ∀ b ∈ adr', b ∈ adr) : OwnOff l adr' := fun q hq b hb => t q hq b (h b hb)
theorem sub_tail {q : Addr × Obj} {t l : List (Addr × Obj)} (h : ∀ x ∈ t, x ∈ l) : ∀ x ∈ t, x ∈ q :: l := fun x hx => List.mem_cons_of_mem _ (h x hx)
theorem all_succ2 {d : Nat} {l : List (Addr × Obj)} (h : AllLt d l) : ∀ p ∈ l, (p.1 : Addr) ≠ d + 1 + 1 := fun p hp => Nat.ne_of_lt (Nat.lt_succ_of_lt (Nat.lt_succ_of_lt (lt_all h p hp)))
theorem all_succ1 {d : Nat} {l : List (Addr × Obj)} (h : AllLt d l) : ∀ p ∈ l, (p.1 : Addr) ≠ d + 1 := fun p hp => Nat.ne_of_lt (Nat.lt_succ_of_lt (lt_all h p hp))
theorem allLt_trans {d x : Nat} {l : List (Addr × Obj)} (h : d < x) (t : AllLt d l) : AllLt x l := by
  induction l with
  | nil => trivial
  | cons p r ih => exact ⟨Nat.lt_trans t.1 h, ih t.2⟩
theorem ownOff_adr {l : List (Addr × Obj)} : OwnOff l [] := fun _ _ _ h => nomatch h
theorem ownOff_lt {l : List (Addr × Obj)} {b : Addr} {adr : List Addr} (h : AllLt b l) (t : OwnOff l adr) : OwnOff l (b :: adr) := by
  intro q hq c hc
  rcases List.mem_cons.mp hc with rfl | hc
  · have h2 : @LT.lt Nat _ q.1 c := lt_all h q hq
    exact Nat.ne_of_lt h2
  · exact t q hq c hc
theorem ne_all {a : Nat} {b : Addr} {r : List Addr} (h : @Ne Nat a b) (t : ∀ c ∈ r, a ≠ c) : ∀ c ∈ (b :: r), (a : Addr) ≠ c := List.forall_mem_cons.mpr ⟨h, t⟩
def rfL (P : Params) (c : Addr) (mode : Str) (a : Int) (v : Bool) (l : Int) (t1 t2 t3 t4 t5 tm ta tl : Tok) : List DictEntry := [⟨PyData.keyHash P (Str.ofString "content"), .str (Str.ofString "content") t1, .ref c⟩,
    ⟨PyData.keyHash P (Str.ofString "mode"), .str (Str.ofString "mode") t2, .str mode tm⟩,
    ⟨PyData.keyHash P (Str.ofString "at"), .str (Str.ofString "at") t3, .int a ta⟩,
    ⟨PyData.keyHash P (Str.ofString "is_valid"), .str (Str.ofString "is_valid") t4, .bool v⟩,
    ⟨PyData.keyHash P (Str.ofString "last"), .str (Str.ofString "last") t5, .int l tl⟩]
section
variable {prog : Program} {w : World} {A : Around} {E : Value → Shared → Prop} {s : Shared} {K : Frag} {h₀ : Heap} {L x dx C c f : Addr} {m : Str → Option Value} {news : List (Addr × Obj)} {D : Obj} {mode name : Str} {i l : Int} {v : Bool}
theorem method_rf {pl : Sem Bool} {Q : Value × List Value → Shared → Prop} (F : Fr h₀ L s.heap m) (X : K.In h₀) (N : News h₀ L s.heap news) (h1 : (x, instObj C dx) ∈ news) (h2 : (dx, D) ∈ news) (hD : IsRF w.params D c mode i v l) (hg : plainGet K C name = true)
    (hf : findIn K (.ref C) name = some (some (.ref f))) (ht : isFn K (.ref f) = true) (hl : ∀ P c mode a v l t1 t2 t3 t4 t5 tm ta tl, getL name (rfL P c mode a v l t1 t2 t3 t4 t5 tm ta tl) = some none) (h : Q (.ref f, [.ref x]) s) : wpAny (model prog w) A (getMethod (.ref x) name pl) Q E s := by
  obtain ⟨t1, t2, t3, t4, t5, tm, ta, tl, rfl⟩ := hD
  exact method_inst F X (InstAt.of_news N h1 h2) hg hf ht (hl w.params c mode i v l t1 t2 t3 t4 t5 tm ta tl) h
end
local macro_rules | `(tactic| walk_at "getMethod ref") => `(tactic| (k_here; k_dflt (refine' method_rf ?k1 ?k2 ?k3 ?k4 ?k5 ?kD ?k6 ?k7 ?k8 ?k9 ?_; (case k1 => k_asm); (case k2 => k_asm); (case k3 => k_asm); (case k4 => k_mem); (case k5 => k_mem); (case kD => with_reducible assumption); (case k6 => k_is); (case k7 => k_is); (case k8 => k_is); (case k9 => (intros; rfl)); k_whole)))
local macro_rules | `(tactic| tb_rel) => `(tactic| first | assumption | exact And.left (by assumption) | exact And.left (And.right (by assumption)) | exact And.left (And.right (And.right (by assumption))) | exact And.left (And.right (And.right (And.right (by assumption)))) | exact And.left (And.right (And.right (And.right (And.right (by assumption))))) | exact And.left (And.right (And.right (And.right (And.right (And.right (by assumption)))))) | exact And.left (And.right (And.right (And.right (And.right (And.right (And.right (by assumption))))))) | exact And.left (And.right (And.right (And.right (And.right (And.right (And.right (And.right (by assumption)))))))) | exact And.left (And.right (And.right (And.right (And.right (And.right (And.right (And.right (And.right (by assumption))))))))) | exact And.left (And.right (And.right (And.right (And.right (And.right (And.right (And.right (And.right (And.right (by assumption)))))))))) | exact And.left (And.right (And.right (And.right (And.right (And.right (And.right (And.right (And.right (And.right (And.right (by assumption))))))))))) | exact And.left (And.right (And.right (And.right (And.right (And.right (And.right (And.right (And.right (And.right (And.right (And.right (by assumption)))))))))))) | exact And.left (And.right (And.right (And.right (And.right (And.right (And.right (And.right (And.right (And.right (And.right (And.right (And.right (by assumption))))))))))))) | exact And.left (And.right (And.right (And.right (And.right (And.right (And.right (And.right (And.right (And.right (And.right (And.right (And.right (And.right (by assumption)))))))))))))) | exact And.left (And.right (And.right (And.right (And.right (And.right (And.right (And.right (And.right (And.right (And.right (And.right (And.right (And.right (And.right (by assumption))))))))))))))) | exact And.left (And.right (And.right (And.right (And.right (And.right (And.right (And.right (And.right (And.right (And.right (And.right (And.right (And.right (And.right (And.right (by assumption)))))))))))))))) | exact And.left (And.right (And.right (And.right (And.right (And.right (And.right (And.right (And.right (And.right (And.right (And.right (And.right (And.right (And.right (And.right (And.right (by assumption))))))))))))))))) | exact And.left (And.right (And.right (And.right (And.right (And.right (And.right (And.right (And.right (And.right (And.right (And.right (And.right (And.right (And.right (And.right (And.right (And.right (by assumption)))))))))))))))))) | exact And.right (by assumption) | exact And.right (And.right (by assumption)) | exact And.right (And.right (And.right (by assumption))) | exact And.right (And.right (And.right (And.right (by assumption)))) | exact And.right (And.right (And.right (And.right (And.right (by assumption))))) | exact And.right (And.right (And.right (And.right (And.right (And.right (by assumption)))))) | exact And.right (And.right (And.right (And.right (And.right (And.right (And.right (by assumption))))))) | exact And.right (And.right (And.right (And.right (And.right (And.right (And.right (And.right (by assumption)))))))) | exact And.right (And.right (And.right (And.right (And.right (And.right (And.right (And.right (And.right (by assumption))))))))) | exact And.right (And.right (And.right (And.right (And.right (And.right (And.right (And.right (And.right (And.right (by assumption)))))))))) | exact And.right (And.right (And.right (And.right (And.right (And.right (And.right (And.right (And.right (And.right (And.right (by assumption))))))))))) | exact And.right (And.right (And.right (And.right (And.right (And.right (And.right (And.right (And.right (And.right (And.right (And.right (by assumption)))))))))))) | exact And.right (And.right (And.right (And.right (And.right (And.right (And.right (And.right (And.right (And.right (And.right (And.right (And.right (by assumption))))))))))))) | exact And.right (And.right (And.right (And.right (And.right (And.right (And.right (And.right (And.right (And.right (And.right (And.right (And.right (And.right (by assumption)))))))))))))) | exact And.right (And.right (And.right (And.right (And.right (And.right (And.right (And.right (And.right (And.right (And.right (And.right (And.right (And.right (And.right (by assumption))))))))))))))) | exact And.right (And.right (And.right (And.right (And.right (And.right (And.right (And.right (And.right (And.right (And.right (And.right (And.right (And.right (And.right (And.right (by assumption)))))))))))))))) | exact And.right (And.right (And.right (And.right (And.right (And.right (And.right (And.right (And.right (And.right (And.right (And.right (And.right (And.right (And.right (And.right (And.right (by assumption))))))))))))))))))
local macro_rules | `(tactic| k_ne) => `(tactic| (refine neN ?_; (try dsimp only); first | tb_rel | exact Ne.symm (by tb_rel) | exact Nat.ne_of_lt (by tb_rel) | exact Nat.ne_of_gt (by tb_rel) | omega))
section
open PySem.SeqAt
mutual
inductive HIn (h : Heap) : Value → Dat → Prop
  | none : HIn h Value.none Dat.none
  | bool (b : Bool) : HIn h (Value.bool b) (Dat.bool b)
  | int (i : Int) (t : Tok) : HIn h (Value.int i t) (Dat.int i)
  | str (x : Str) (t : Tok) : HIn h (Value.str x t) (Dat.str x)
  | bytes (b : Array UInt8) (t : Tok) : HIn h (Value.bytes b t) (Dat.bytes b)
  | tuple {a : Addr} {vs : List Value} {ds : List Dat} : h.IsTuple a vs.toArray → HAll h vs ds → HIn h (Value.ref a) (Dat.tuple ds)
  | list {a : Addr} {vs : List Value} {ds : List Dat} : h.IsList a vs.toArray → HAll h vs ds → HIn h (Value.ref a) (Dat.list ds)
inductive HAll (h : Heap) : List Value → List Dat → Prop
  | nil : HAll h [] []
  | cons {v : Value} {vs : List Value} {d : Dat} {ds : List Dat} : HIn h v d → HAll h vs ds → HAll h (v :: vs) (d :: ds)
end
mutual
theorem hin_of {h₀ h : Heap} {L : Addr} {news n1 : List (Addr × Obj)} (N : News h₀ L h news) (hs : ∀ p ∈ n1, p ∈ news) : ∀ {v : Value} {d : Dat}, DatIn n1 v d → HIn h v d
  | _, _, .none => .none
  | _, _, .bool b => .bool b
  | _, _, .int i t => .int i t
  | _, _, .str x t => .str x t
  | _, _, .bytes b t => .bytes b t
  | _, _, .tuple hm r => .tuple ⟨_, (N _ (hs _ hm)).1, rfl, _, rfl⟩ (hall_of N hs r)
  | _, _, .list hm r => .list ⟨_, (N _ (hs _ hm)).1, rfl, _, rfl⟩ (hall_of N hs r)
theorem hall_of {h₀ h : Heap} {L : Addr} {news n1 : List (Addr × Obj)} (N : News h₀ L h news) (hs : ∀ p ∈ n1, p ∈ news) : ∀ {vs : List Value} {ds : List Dat}, DatAll n1 vs ds → HAll h vs ds
  | _, _, .nil => .nil
  | _, _, .cons a r => .cons (hin_of N hs a) (hall_of N hs r)
end
theorem HAll.length {h : Heap} {vs : List Value} {ds : List Dat} (x : HAll h vs ds) : vs.length = ds.length := by
  induction vs generalizing ds with
  | nil => cases x; rfl
  | cons v vs ih =>
    cases x with
    | cons _ r => rw [List.length_cons, List.length_cons, ih r]
theorem hall_bytes {h : Heap} {vs : List Value} {bs : List Bs} (x : BAre vs bs) : HAll h vs (bs.map Dat.bytes) := by
  induction x with
  | nil => exact .nil
  | cons b t _ ih => exact .cons (.bytes b t) ih
mutual
def ddep : Dat → Nat
  | .tuple ds => ddeps ds + 1
  | .list ds => ddeps ds + 1
  | _ => 0
def ddeps : List Dat → Nat
  | [] => 0
  | d :: ds => max (ddep d) (ddeps ds)
end
theorem eqAt_bytes {A : Around} {s : Shared} (b : Array UInt8) (t u : Tok) : EqAt A s (.bytes b t) (.bytes b u) true := fun prog w E Q hq => by
  unfold eqBool
  refine wpAny_holding ?_
  refine wpAny_ite_split (fun _ => ?_) (fun hab => ?_)
  · exact wpAny_bind (wpAny_rule (wpAny_pure hq))
  · have h1 : wpAny (model prog w) A (compareOp .Eq (.bytes b t) (.bytes b u)) (fun v s' => wpAny (model prog w) A (truthOfDropped v) Q E s') E s := eq_bytes (by
      rw [beq_self_eq_true]
      exact wpAny_truthy_bool hq)
    have h2 : wpAny (model prog w) A (richCompare .Eq (.bytes b t) (.bytes b u)) (fun v s' => wpAny (model prog w) A (truthOfDropped v) Q E s') E s := h1
    exact wpAny_bind h2
theorem eqAt_ref {A : Around} {s : Shared} {a b : Addr} (h : RcAt A s (.ref a) (.ref b) true) : EqAt A s (.ref a) (.ref b) true := by
  by_cases hab : a = b
  · subst hab; exact EqAt.same _
  · exact EqAt.of_refs hab h
theorem range_true (n : Nat) : (List.range n).all (fun _ => true) = true := by simp
mutual
theorem heq {A : Around} {s : Shared} : ∀ {v v' : Value} {d : Dat}, HIn s.heap v d → HIn s.heap v' d → A.units + ddep d < cLine → EqAt A s v v' true
  | _, _, _, .none, .none, _ => EqAt.same _
  | _, _, _, .bool b, .bool _, _ => EqAt.same _
  | _, _, _, .int i t, .int _ u, _ => by
    have := (MeetsSeq.EqGives.int i i t u).at A s
    simpa using this
  | _, _, _, .str x t, .str _ u, _ => by
    have := (eqGives_str x x t u).at A s
    simpa using this
  | _, _, _, .bytes b t, .bytes _ u, _ => eqAt_bytes b t u
  | _, _, _, .tuple (a := a) (vs := vs) (ds := ds) ha ra, .tuple (a := b) (vs := us) hb rb, hu => by
    have hu' : A.units + (ddeps ds + 1) < cLine := by simpa [ddep] using hu
    have e := RcAt.tuples (A := A) (e := fun _ => true) ha hb (by omega) fun j h1 h2 => by
      have := heqs (A := A.in1) ra rb (by rw [units_in1]; omega) j (by simpa using h1) (by simpa using h2)
      simpa using this
    have hsz : vs.toArray.size = us.toArray.size := by rw [List.size_toArray, List.size_toArray, ra.length, rb.length]
    rw [range_true, hsz, beq_self_eq_true, Bool.and_true] at e
    exact eqAt_ref e
  | _, _, _, .list (a := a) (vs := vs) (ds := ds) ha ra, .list (a := b) (vs := us) hb rb, hu => by
    have hu' : A.units + (ddeps ds + 1) < cLine := by simpa [ddep] using hu
    have hsz : vs.toArray.size = us.toArray.size := by rw [List.size_toArray, List.size_toArray, ra.length, rb.length]
    have e := RcAt.lists (A := A) (e := fun _ => true) ha hb hsz (by omega) fun j h1 h2 => by
      have := heqs (A := A.in1) ra rb (by rw [units_in1]; omega) j (by simpa using h1) (by simpa using h2)
      simpa using this
    rw [range_true] at e
    exact eqAt_ref e
theorem heqs {A : Around} {s : Shared} : ∀ {vs us : List Value} {ds : List Dat}, HAll s.heap vs ds → HAll s.heap us ds → A.units + ddeps ds < cLine → ∀ j (h1 : j < vs.length) (h2 : j < us.length), EqAt A s vs[j] us[j] true
  | _, _, _, .nil, .nil, _, j, h1, _ => absurd h1 (Nat.not_lt_zero _)
  | _, _, _, .cons (ds := ds) a r, .cons b t, hu, j, h1, h2 => by
    simp only [ddeps] at hu
    cases j with
    | zero => exact heq a b (by omega)
    | succ j => exact heqs r t (by omega) j (Nat.lt_of_succ_lt_succ h1) (Nat.lt_of_succ_lt_succ h2)
end
section
variable {prog : Program} {w : World} {A : Around} {E : Value → Shared → Prop} {s : Shared} {a b : Addr} {ds : List Dat} {Q : Value → Shared → Prop}
theorem cmp_list_eq {vs us : List Value} (ha : s.heap.IsList a vs.toArray) (ra : HAll s.heap vs ds) (hb : s.heap.IsList b us.toArray) (rb : HAll s.heap us ds) (hu : A.units + (ddeps ds + 1) < cLine) (h : Q (.bool true) s) : wpAny (model prog w) A (compareOp .Eq (.ref a) (.ref b)) Q E s := by
  have hsz : vs.toArray.size = us.toArray.size := by rw [List.size_toArray, List.size_toArray, ra.length, rb.length]
  refine RcAt.lists (A := A) (e := fun _ => true) ha hb hsz (by omega) (fun j h1 h2 => ?_) prog w E Q (by rw [range_true]; exact h)
  have := heqs (A := A.in1) ra rb (by rw [units_in1]; omega) j (by simpa using h1) (by simpa using h2)
  simpa using this
theorem cmp_list_ne {vs us : List Value} (ha : s.heap.IsList a vs.toArray) (ra : HAll s.heap vs ds) (hb : s.heap.IsList b us.toArray) (rb : HAll s.heap us ds) (hu : A.units + (ddeps ds + 1) < cLine) (h : Q (.bool false) s) : wpAny (model prog w) A (compareOp .NotEq (.ref a) (.ref b)) Q E s := by
  have hsz : vs.toArray.size = us.toArray.size := by rw [List.size_toArray, List.size_toArray, ra.length, rb.length]
  refine RcNeAt.lists (A := A) (e := fun _ => true) ha hb hsz (by omega) (fun j h1 h2 => ?_) prog w E Q (by rw [range_true]; exact h)
  have := heqs (A := A.in1) ra rb (by rw [units_in1]; omega) j (by simpa using h1) (by simpa using h2)
  simpa using this
theorem cmp_tuple_eq {vs us : List Value} (ha : s.heap.IsTuple a vs.toArray) (ra : HAll s.heap vs ds) (hb : s.heap.IsTuple b us.toArray) (rb : HAll s.heap us ds) (hu : A.units + (ddeps ds + 1) < cLine) (h : Q (.bool true) s) : wpAny (model prog w) A (compareOp .Eq (.ref a) (.ref b)) Q E s := by
  have hsz : vs.toArray.size = us.toArray.size := by rw [List.size_toArray, List.size_toArray, ra.length, rb.length]
  refine RcAt.tuples (A := A) (e := fun _ => true) ha hb (by omega) (fun j h1 h2 => ?_) prog w E Q (by rw [range_true, hsz, beq_self_eq_true]; exact h)
  have := heqs (A := A.in1) ra rb (by rw [units_in1]; omega) j (by simpa using h1) (by simpa using h2)
  simpa using this
theorem cmp_tuple_ne {vs us : List Value} (ha : s.heap.IsTuple a vs.toArray) (ra : HAll s.heap vs ds) (hb : s.heap.IsTuple b us.toArray) (rb : HAll s.heap us ds) (hu : A.units + (ddeps ds + 1) < cLine) (h : Q (.bool false) s) : wpAny (model prog w) A (compareOp .NotEq (.ref a) (.ref b)) Q E s := by
  have hsz : vs.toArray.size = us.toArray.size := by rw [List.size_toArray, List.size_toArray, ra.length, rb.length]
  refine RcNeAt.tuples (A := A) (e := fun _ => true) ha hb (by omega) (fun j h1 h2 => ?_) prog w E Q (by rw [range_true, hsz, beq_self_eq_true]; exact h)
  have := heqs (A := A.in1) ra rb (by rw [units_in1]; omega) j (by simpa using h1) (by simpa using h2)
  simpa using this
end
end
def Held (h₀ : Heap) (news : List (Addr × Obj)) (a : Addr) (o : Obj) : Prop := h₀.get? a = some o ∨ (a, o) ∈ news
theorem Held.get {h₀ h : Heap} {L a : Addr} {o : Obj} {m : Str → Option Value} {news : List (Addr × Obj)} (x : Held h₀ news a o) (F : Fr h₀ L h m) (N : News h₀ L h news) : h.get? a = some o := by
  rcases x with x | x
  · exact F.keep _ _ x
  · exact (N _ x).1
theorem Held.mono {h₀ : Heap} {a : Addr} {o : Obj} {news news' : List (Addr × Obj)} (x : Held h₀ news a o) (h : ∀ q ∈ news, q ∈ news') : Held h₀ news' a o := by
  rcases x with x | x
  · exact .inl x
  · exact .inr (h _ x)
def SeqO (o : Obj) (vs : List Value) : Prop := (o.cls = .type "list" ∨ o.cls = .type "tuple") ∧ ∃ n, o.data = .seq vs.toArray n
section
variable {prog : Program} {w : World} {A : Around} {E : Value → Shared → Prop} {s : Shared} {h₀ : Heap} {L : Addr} {m : Str → Option Value} {env : Env}
def CompSrcS (prog : Program) (w : World) (A : Around) (h₀ : Heap) (L : Addr) (m : Str → Option Value) (env : Env) (elt : PySem.Expr) (x : Str) (scope : Scope) (cl : List (Str × Addr)) (Fin : Shared → List Value → List (Addr × Obj) → Prop) (xv : Value) (s₁ : Shared) : Prop :=
  ∃ a o vs news, xv = .ref a ∧ A.handled = none ∧ Fr h₀ L s₁.heap m ∧ News h₀ L s₁.heap news ∧ Held h₀ news a o ∧ SeqO o vs ∧ vs.length ≤ sizeLine ∧
    ∀ s₂ : Shared, (∃ h, s₂ = { s₁ with heap := h }) → LCg.CompRest prog w A h₀ L m env elt x scope cl s₂ (fun nw => Held h₀ nw a o) (fun i v => vs[i]? = some v) (Fin s₂) vs.length 0 [] news
theorem ListComp_S {elt iter : PySem.Expr} {x : Str} {px : Pos} {scope : Scope} {cl : List (Str × Addr)} {pos : Pos} {Q : Value → Shared → Prop} (F₀ : Fr h₀ L s.heap m)
    (hclos : closureFor scope env = pure cl) (hcell : ∀ y ∈ scope.names, y.2 ≠ .cell) (hkind : scope.kind = .function)
    (hnames : ∀ y ∈ scope.names, y.2 = .local → scope.names.lookup y.1 = some .local) (hx : scope.names.lookup x = some .local)
    (h : wpAny (model prog w) A (eval iter env) (CompSrcS prog w A h₀ L m env elt x scope cl (fun s₂ => LCg.FinE h₀ L m s₂ Q)) E s)
    (hs : ∀ x, foldedSetIterable iter env x = pure x := by intro _; rfl) :
    wpAny (model prog w) A (eval (.ListComp elt [⟨.Name x px, iter, [], 0⟩] scope pos) env) Q E s := by
  rw [eval_ListComp]
  refine wpAny_comprehension_free (use := none) rfl hs hclos hkind hnames (wpAny_mono h (fun xv s₁ h₁ => ?_) fun _ _ e => e)
  obtain ⟨a, o, vs, news, rfl, hh, F, N, hH, ⟨hc, k, hd⟩, hsz, R⟩ := h₁
  have hg := hH.get F N
  have hlt : a < s₁.heap.objs.size := Heap.lt_size hg
  have hsize : vs.toArray.size = vs.length := by simp
  have back : ∀ {D C : Addr} {h h'' : Heap} {ys : List Value} {news' : List (Addr × Obj)}, News h₀ L h ((D, LCg.lst ys) :: news') → C ≠ D → (∀ p ∈ news', p.1 ≠ C) → h.SameBut C h'' → News h₀ L h'' ((D, LCg.lst ys) :: news') := by
    intro D C h h'' ys news' N' hCD offC hs'' p hp
    refine ⟨hs''.extBut _ _ ?_ (N' p hp).1, (N' p hp).2⟩
    rcases List.mem_cons.mp hp with rfl | hp
    · exact Ne.symm hCD
    · exact offC p hp
  rcases hc with hc | hc
  · have hl : s₁.heap.IsList a vs.toArray := ⟨o, hg, hc, k, hd⟩
    refine wpAny_pyIter_list hl ?_
    have up : ∀ b o, s₁.heap.get? b = some o → (s₁.heap.push { cls := .type "list_iterator", data := .fields #[.ref a, .int 0 0] }).get? b = some o := fun b o e => Heap.get?_push_of_some _ e
    have W := Walks.list (prog := prog) (w := w) hh s₁.heap.objs.size a (Nat.ne_of_lt hlt) vs.toArray
    rw [hsize] at W
    refine LCg.block_U W hsz (fun i h st => by obtain ⟨o, e, _⟩ := st.1; exact ⟨o, e⟩) (S := fun nw => Held h₀ nw a o) (fun i h h' o' nw st e e' kk N' S' => ?_) hcell hkind hx ⟨⟨_, Heap.get?_push_size _ rfl, rfl, rfl⟩, hl.push _⟩ (fun b hb => ?_)
      (F.keeps up) (N.grown up) (Nat.ne_of_lt F.ns.lt) (next_is_new F) (fun p hp => Nat.ne_of_lt (Heap.lt_size (N p hp).1)) hH (by simpa using R _ ⟨_, rfl⟩) ?_
    · refine ⟨by obtain ⟨o2, q, r⟩ := st.1; rw [e] at q; cases q; exact ⟨o', e', r⟩, ⟨o, ?_, hc, k, hd⟩⟩
      rcases S' with S' | S'
      · exact kk _ _ S'
      · exact (N' _ S').1
    · show b < (s₁.heap.push _).objs.size
      rw [Heap.size_push]
      rcases List.mem_cons.mp hb with rfl | hb
      · exact Nat.lt_succ_self _
      · rw [List.mem_singleton.mp hb]; exact Nat.lt_succ_of_lt hlt
    · intro D C h tk m' ys news' F' N' o1 hn hC₀ hD₀ hCL hDL hCD offC fin
      exact ⟨m', hn, fun h'' hs'' => fin D h'' tk (F'.change hs'' hCL hC₀) (back N' hCD offC hs'') o1⟩
  · have hl : s₁.heap.IsTuple a vs.toArray := ⟨o, hg, hc, k, hd⟩
    refine wpAny_pyIter_tuple hl ?_
    have up : ∀ b o, s₁.heap.get? b = some o → (s₁.heap.push { cls := .type "tuple_iterator", data := .fields #[.ref a, .int 0 0] }).get? b = some o := fun b o e => Heap.get?_push_of_some _ e
    have W := Walks.tuple (prog := prog) (w := w) hh s₁.heap.objs.size a (Nat.ne_of_lt hlt) vs.toArray
    rw [hsize] at W
    refine LCg.block_U W hsz (fun i h st => by obtain ⟨o, e, _⟩ := st.1; exact ⟨o, e⟩) (S := fun nw => Held h₀ nw a o) (fun i h h' o' nw st e e' kk N' S' => ?_) hcell hkind hx ⟨⟨_, Heap.get?_push_size _ rfl, rfl, rfl⟩, hl.push _⟩ (fun b hb => ?_)
      (F.keeps up) (N.grown up) (Nat.ne_of_lt F.ns.lt) (next_is_new F) (fun p hp => Nat.ne_of_lt (Heap.lt_size (N p hp).1)) hH (by simpa using R _ ⟨_, rfl⟩) ?_
    · refine ⟨by obtain ⟨o2, q, r⟩ := st.1; rw [e] at q; cases q; exact ⟨o', e', r⟩, ⟨o, ?_, hc, k, hd⟩⟩
      rcases S' with S' | S'
      · exact kk _ _ S'
      · exact (N' _ S').1
    · show b < (s₁.heap.push _).objs.size
      rw [Heap.size_push]
      rcases List.mem_cons.mp hb with rfl | hb
      · exact Nat.lt_succ_self _
      · rw [List.mem_singleton.mp hb]; exact Nat.lt_succ_of_lt hlt
    · intro D C h tk m' ys news' F' N' o1 hn hC₀ hD₀ hCL hDL hCD offC fin
      exact ⟨m', hn, fun h'' hs'' => fin D h'' tk (F'.change hs'' hCL hC₀) (back N' hCD offC hs'') o1⟩
end
def Tells (ys : List Value) (code : Str) (n : Nat) : Prop := ys.length = n ∧ ∀ y ∈ ys, ∃ t, y = .str code t
theorem Tells.nil {code : Str} : Tells [] code 0 := ⟨rfl, fun _ h => nomatch h⟩
theorem Tells.snoc {ys : List Value} {code : Str} {n : Nat} (h : Tells ys code n) (t : Tok) : Tells (ys ++ [.str code t]) code (n + 1) := by
  refine ⟨by simp [h.1], fun y hy => ?_⟩
  rcases List.mem_append.mp hy with hy | hy
  · exact h.2 y hy
  · exact ⟨t, List.mem_singleton.mp hy⟩
section
variable {prog : Program} {w : World} {A : Around} {E : Value → Shared → Prop} {s : Shared} {h₀ : Heap} {L : Addr} {m : Str → Option Value} {env : Env} {a : Addr} {o : Obj} {vs : List Value} {led news : List (Addr × Obj)}
theorem item_held {i : Nat} {u : Tok} {x : Value} {value slice : PySem.Expr} {Q : Value → Shared → Prop} (F : Fr h₀ L s.heap m) (N : News h₀ L s.heap news) (hH : Held h₀ led a o) (hs : ∀ q ∈ led, q ∈ news) (hO : SeqO o vs) (hi : i < 1000) (hx : vs[i]? = some x) (h : Q x s)
    (hsub : subscripted slice false (.ref a) (.int (i : Int) u) = operate [.ref a, .int (i : Int) u] (getItem (.ref a) (.int (i : Int) u))) (hg : ∀ r, letTemporaryGo value (.ref a) r = pure ()) :
    wpAny (model prog w) A (subscriptTail value slice (.ref a) (.int (i : Int) u)) Q E s := by
  have g := (hH.mono hs).get F N
  obtain ⟨hc, k, hd⟩ := hO
  have hlt : i < vs.length := (List.getElem?_eq_some_iff.mp hx).1
  rcases hc with hc | hc
  · exact item_listL ⟨o, g, hc, k, hd⟩ (by omega) (by omega) (by simpa using hx) h hsub hg
  · refine item_tupleT (j := i) ⟨o, g, hc, k, hd⟩ (by omega) (by omega) ?_ hx h hsub
    unfold seqIndex?
    simp only [show ¬ (i : Int) < 0 by omega, if_false]
    rw [if_pos (by simp only [Bool.and_eq_true, decide_eq_true_eq]; omega)]
    simp
theorem len_held {Q : Value → Shared → Prop} (F : Fr h₀ L s.heap m) (N : News h₀ L s.heap news) (hH : Held h₀ led a o) (hs : ∀ q ∈ led, q ∈ news) (hO : SeqO o vs) (hsz : vs.length ≤ 1000) (h : Q (.int (vs.length : Int) (s.toks + 1)) { s with toks := s.toks + 1 + 1 }) :
    wpAny (model prog w) A (call (.builtin "len") [.ref a]) Q E s := by
  have g := (hH.mono hs).get F N
  obtain ⟨hc, k, hd⟩ := hO
  rcases hc with hc | hc
  · exact len_list (items := vs.toArray) ⟨_, g, hc, k, hd⟩ (by rw [List.size_toArray]; omega) (by rw [List.size_toArray]; exact h)
  · exact PyProof.Rows.len_tuple (items := vs.toArray) ⟨_, g, hc, k, hd⟩ (by rw [List.size_toArray]; omega) (by rw [List.size_toArray]; exact h)
theorem held_tup {h : Heap} (F : Fr h₀ L h m) (N : News h₀ L h news) (hH : Held h₀ led a o) (hs : ∀ q ∈ led, q ∈ news) (hc : o.cls = .type "tuple") (hd : ∃ n, o.data = .seq vs.toArray n) : h.IsTuple a vs.toArray := ⟨o, (hH.mono hs).get F N, hc, hd⟩
theorem rng_iter {x : Str} {body : List Stmt} {Q : Flow → Shared → Prop} {r : Addr} {b₀ : Int} {t₀ u₀ v₀ : Tok} {n : Nat} {m₀ : Str → Option Value} (J : Nat → (Str → Option Value) → List (Addr × Obj) → Prop)
    (hh : A.handled = none) (hr : IsRange s.heap r 0 b₀ 1 t₀ u₀ v₀) (hsmall : Builtin.Range.small 0 b₀ 1 = true) (hsz : Builtin.Range.rangeSize 0 b₀ 1 = (n : Int)) (F : Fr h₀ env.locals s.heap m₀) (N : News h₀ env.locals s.heap news) (hj : J 0 m₀ news)
    (turn : ∀ i t m₁ nx h tk own, i < n → OwnOff own (nx.map (·.1)) → J i m₁ nx → Fr h₀ env.locals h (fun y => if y = x then some (.int (i : Int) t) else m₁ y) → News h₀ env.locals h (nx ++ own) →
      wpAny (model prog w) A (execs body env) (InvPostG h₀ env.locals (J (i + 1)) own { s with heap := h, toks := tk } Q) E { s with heap := h, toks := tk })
    (done : ∀ m₁ nx h tk, J n m₁ nx → Fr h₀ env.locals h m₁ → News h₀ env.locals h nx → Q .next { s with heap := h, toks := tk }) :
    wpAny (model prog w) A (pyIter (.ref r)) (fun it s₂ => LoopAtV prog w A h₀ env x body Q E it s₂) E s := by
  refine wpAny_pyIter_range hr hsmall ?_
  have W : Walks prog w A s.heap.objs.size [s.heap.objs.size] [s.heap.objs.size] n (fun i v => i < n ∧ ∃ t, v = .int ((0 : Int) + i * 1) t)
      (fun i h => IsRangeIter h s.heap.objs.size ((0 : Int) + (i : Nat) * 1) ((n : Int) - (i : Nat)) 1) := (Walks.range hh _ 0 1 n).bound
  refine kdr_loop J W (fun _ h => h) (fun _ h => h) ?_ ?_ ?_ ?_ (by show IsRangeIter _ _ _ _ _; rw [hsz]; simpa using Heap.get?_push_size _ rfl) (F.push _) (fun p hp => ⟨Heap.get?_push_of_some _ (N p hp).1, (N p hp).2⟩) hj ?_ ?_
  · intro i h hi b hb
    rw [List.mem_singleton.mp hb]
    exact ⟨_, hi⟩
  · intro hm
    exact absurd F.ns.lt ((List.mem_singleton.mp hm) ▸ Nat.lt_irrefl _)
  · intro b hb
    rw [List.mem_singleton.mp hb]
    exact next_is_new F
  · intro p hp hI
    exact absurd (Heap.lt_size (N p hp).1) ((List.mem_singleton.mp hI) ▸ Nat.lt_irrefl _)
  · rintro i v m₁ nx h tk own hi ⟨_, t, rfl⟩ hoff hj' F₁ N₁
    have e1 : (0 : Int) + (i : Int) * 1 = (i : Int) := by omega
    rw [e1] at F₁
    exact turn i t m₁ nx h tk own hi hoff hj' F₁ N₁
  · rintro m₁ nx h tk hj' F₁ N₁
    exact done m₁ nx h tk hj' F₁ N₁
end
theorem left_run {p q : Program} {loose : List Str} {Xt : Shared → Bool} {α : Type} {Yf : Shared → α} {Ya : World → α} {N : Nat} {H₀ : Params → Heap} {gs₀ : Array GenState} {d₀ : Drawn} {k₀ m₀ : Nat} {ann : Option Value}
    (opn : ∀ w : World, (fencedOpening treeTable p w N).map (fun s => (s.heap, s.gens, s.drawn, s.toks)) = some (H₀ w.params, gs₀, d₀, k₀))
    (size : ∀ w : World, ((H₀ w.params).isNs mainGlobals && gs₀.size == 0, (H₀ w.params).objs.size, (H₀ w.params).nsMap mainGlobals "__annotations__") = (true, m₀, ann))
    (run : ∀ (w : World) (os : OsState), (topRun treeTable p w m₀ ann N ⟨H₀ w.params, gs₀, d₀, k₀, os⟩ (topStub p)).map (fun s => (staticsOk (importedModules p.main.body) (H₀ w.params) s.heap && namesBound p s.heap && gensDone s && laidKept (H₀ w.params) s.heap, openSeen q loose (importedModules p.main.body) Xt true s, Yf s)) = some (true, openGood q loose, Ya w)) :
    LeftO p q loose Xt Yf Ya N := fun w => by
  obtain ⟨⟨h, gs, d, k, os⟩, e, e'⟩ := Option.map_eq_some_iff.mp (opn w)
  obtain ⟨rfl, rfl, rfl, rfl⟩ : h = H₀ w.params ∧ gs = gs₀ ∧ d = d₀ ∧ k = k₀ := by simpa using e'
  obtain ⟨z1, z2, z3⟩ : _ ∧ _ ∧ _ := by simpa only [Prod.mk.injEq] using size w
  obtain ⟨s, r, r'⟩ := Option.map_eq_some_iff.mp (run w os)
  obtain ⟨l1, l2, l3⟩ : _ ∧ _ ∧ _ := by simpa only [Prod.mk.injEq] using r'
  have t : topFrom treeTable p w N ⟨H₀ w.params, gs, d, k, os⟩ = some s := by
    unfold topFrom
    dsimp only
    rw [z1, z2, z3, r]
    dsimp only [Option.bind_some]
    rw [l1]
  unfold openEnds
  rw [e, Option.bind_some, t]
  exact congrArg some (Prod.ext l2 l3)
def vw : Program := view PySem.Challenge.rw_pb0233_02.row.prog [0, 2, 3, 4, 6, 7, 9, 10, 12, 13, 14, 15, 16, 17, 18, 19, 20]
local macro_rules | `(tactic| o_head $H) => `(tactic| (
  refine holds_open (q := vw) (loose := [Str.ofString "LedgerError"]) (Xt := fun s => xlAt vw [] s && recOk (RowW.records (OpenRow.toRowW PySem.Challenge.rw_pb0233_02.row)) s) (XP := XL vw []) (Yf := Hook.obs $H) (Ya := Hook.val $H) (YP := Hook.says $H) (N := 3632) ?hl (Hook.of $H) (Hook.keeps $H) (fun s e => xl_of s (Bool.and_eq_true_iff.mp e).1) XL.keeps (by rfl) (by rfl) (by rfl) (fun s e => recFacts_of (Bool.and_eq_true_iff.mp e).2) (by rfl) (by first | assumption | decide +kernel) (by decide +kernel) ⟨rfl, rfl, rfl, rfl, rfl, by decide +kernel⟩ ?hw ?hc;
  (case hl =>
    refine left_run (H₀ := boot_heap) (gs₀ := Array.mk []) (d₀ := boot_drawn) (k₀ := boot_toks) (m₀ := 11) (ann := some (Value.ref 6)) (boot_open (by kernel_rfl) (by decide) (fun s => by kernel_rfl)) (fun w => by kernel_rfl) (fun w os => ?_)
    rw [vw, Fast.te14082659384304107361, Fast.te14364793385576792824, Fast.te4187177175401517315, Fast.te5923862056798008813]
    kernel_rfl)))
open_top hd2 for PySem.Challenge.rw_pb0233_02
theorem off_E1 : True := by
  w_top off
  k_with_none
  trivial
def rd (R : List Bs) (i : Int) (v : Bool) : Str × Bs × Int × Bool × Int :=
  if v = false then (Str.ofString "46", #[], i, false, -1) else
  if (R.length : Int) ≤ i then (Str.ofString "10", #[], i, false, -1) else (Str.ofString "00", R.getD i.toNat #[], i + 1, true, i)
section
variable {w : World} {p : Program} {loose : List Str} {mean : ExcName → Option Value} {mg mb : Str → Option Value}
    {dp un : Nat} {gd : Option (List Code)} {cn : Str} {cs : Scope} {a : Addr} {ccd : Value} {cl : List (Str × Addr)} {outer : List Env} {A₀ : Around} {base h₀ : Heap} {L : Addr} {m : Str → Option Value} {rest : List (Addr × Obj)} {s : Shared}
    {Q E : Value → Shared → Prop}
theorem c_read {x dx c : Addr} {D : Obj} {vs : List Value} {R : List Bs} {n : Nat} {i l : Int} {v : Bool} {mode : Str}
    (B : Below A₀ base outer h₀) (F : Fr h₀ L s.heap m) (X : (Mine.hd2.heap_39 w.params).In h₀) (N : News h₀ L s.heap ((dx, D) :: (x, instObj 68 dx) :: (c, listOf vs.toArray n) :: rest))
    (T : Top p loose mean mg mb h₀) (hk : cs.kind = .function)
    (hd : dp + 20 < recursionLimit) (hu : un + 200 < cLine) (hD : IsRF w.params D c mode i v l) (hm : mode = Str.ofString "i-o" ∨ mode = Str.ofString "input")
    (hr : OwnOff rest [dx]) (hxd : @Ne Nat x dx) (hcd : @Ne Nat c dx) (h0 : 0 ≤ i) (hv : R.length ≤ 64) (hR : BAre vs R)
    (post : ∀ code by' i' v' l' D' r t t' h' tk', rd R i v = (code, by', i', v', l') → IsRF w.params D' c mode i' v' l' → Fr h₀ L h' m → News h₀ L h' ((r, tupO [.str code t, .bytes by' t']) :: (dx, D') :: (x, instObj 68 dx) :: (c, listOf vs.toArray n) :: rest) →
      (∀ p ∈ ((dx, D') :: (x, instObj 68 dx) :: (c, listOf vs.toArray n) :: rest), p.1 < r) → Q (.ref r) { s with heap := h', toks := tk' }) :
    wpAny (model PySem.Challenge.rw_pb0233_02.row.prog w) (ktrTop dp un gd cn cs L a ccd cl outer) (call (.ref 44) [.ref x]) Q E s := by
  obtain ⟨t1, t2, t3, t4, t5, tm, ta, tl, rfl⟩ := hD
  have hlen := hR.length
  refine wpAny_call ?_
  k_dflt ktr_enter
  k_steps
  · obtain rfl : v = true := by assumption
    refine post (Str.ofString "10") #[] i false (-1) _ _ _ _ _ _ ?_ ?_ (by k_asm) (by k_asm) ?_
    · simp only [rd]; rw [if_neg (by decide), if_pos (by omega)]
    · exact ⟨_, _, _, _, _, _, _, _, rfl⟩
    · exact lt_all (by simpa only [AllLt, and_true] using ‹_›)
  · obtain rfl : v = true := by assumption
    refine post (Str.ofString "00") (R.getD i.toNat #[]) (i + 1) true i _ _ _ _ _ _ ?_ ?_ (by k_asm) (by k_asm) ?_
    · simp only [rd]; rw [if_neg (by decide), if_neg (by omega)]
    · exact ⟨_, _, _, _, _, _, _, _, rfl⟩
    · exact lt_all (by simpa only [AllLt, and_true] using ‹_›)
  · obtain rfl : v = false := by assumption
    refine post (Str.ofString "46") #[] i false (-1) _ _ _ _ _ _ ?_ ?_ (by k_asm) (by k_asm) ?_
    · simp only [rd]; rw [if_pos trivial]
    · exact ⟨_, _, _, _, _, _, _, _, rfl⟩
    · exact lt_all (by simpa only [AllLt, and_true] using ‹_›)
local macro_rules | `(tactic| walk_at "compareOp NotIn str ref") => `(tactic| (k_here; k_dflt (first
  | (refine' notin_K_has ?k1 ?k2 ?k3 ?k4 ?k5 ?_; (case k1 => k_asm); (case k2 => k_asm); (case k3 => k_is); (case k4 => (repeat constructor)); (case k5 => (rcases ‹_ = Str.ofString "output" ∨ _ = Str.ofString "extend"› with h9 | h9 <;> (subst h9; decide +kernel))); k_whole)
  | (refine' notin_K_not ?k1 ?k2 ?k3 ?k4 ?k5 ?_; (case k1 => k_asm); (case k2 => k_asm); (case k3 => k_is); (case k4 => (repeat constructor)); (case k5 => (rcases ‹_ = Str.ofString "input" ∨ _ = Str.ofString "i-o"› with h9 | h9 <;> (subst h9; decide +kernel))); k_whole))))
local macro_rules | `(tactic| walk_at "call builtin:list.append") => `(tactic| (k_here; (with_reducible show wpAny _ _ (call (Value.builtin _) [Value.ref _, _]) _ _ _); k_dflt (refine' append_K ?k1 ?k2 ?k3 ?_ ?z; (case k1 => k_asm); (case k2 => k_asm); (case k3 => k_upd); (case z => (simp only [Array.size_push, List.size_toArray, List.length_cons, List.length_nil, PySem.sizeLine_eq]; omega)); k_whole); intro h' F' N'; (try k_sweep)))
theorem c_write {x dx c : Addr} {D : Obj} {vs : List Value} {n : Nat} {i l : Int} {v : Bool} {b : Bs} {tb : Tok} {mode : Str}
    (B : Below A₀ base outer h₀) (F : Fr h₀ L s.heap m) (X : (Mine.hd2.heap_39 w.params).In h₀) (N : News h₀ L s.heap ((dx, D) :: (x, instObj 68 dx) :: (c, listOf vs.toArray n) :: rest))
    (T : Top p loose mean mg mb h₀) (hk : cs.kind = .function)
    (hd : dp + 20 < recursionLimit) (hu : un + 200 < cLine) (hD : IsRF w.params D c mode i v l) (hm : mode = Str.ofString "output" ∨ mode = Str.ofString "extend")
    (hr : OwnOff rest [dx, c]) (hxd : @Ne Nat x dx) (hcd : @Ne Nat c dx) (hxc : @Ne Nat x c) (hv : vs.length ≤ 100)
    (post : ∀ D' n' t h' tk', IsRF w.params D' c mode i v (-1) → Fr h₀ L h' m → News h₀ L h' ((dx, D') :: (x, instObj 68 dx) :: (c, listOf (vs ++ [Value.bytes b tb]).toArray n') :: rest) → Q (.str (Str.ofString "00") t) { s with heap := h', toks := tk' }) :
    wpAny (model PySem.Challenge.rw_pb0233_02.row.prog w) (ktrTop dp un gd cn cs L a ccd cl outer) (call (.ref 51) [.ref x, .bytes b tb]) Q E s := by
  obtain ⟨t1, t2, t3, t4, t5, tm, ta, tl, rfl⟩ := hD
  refine wpAny_call ?_
  k_dflt ktr_enter
  k_steps
  rename News _ _ _ _ => N9
  rw [List.push_toArray] at N9
  exact post _ _ _ _ _ ⟨_, _, _, _, _, _, _, _, rfl⟩ (by k_asm) N9
theorem c_writeI {x dx c : Addr} {D : Obj} {i l : Int} {v : Bool} {b : Bs} {tb : Tok} {mode : Str}
    (B : Below A₀ base outer h₀) (F : Fr h₀ L s.heap m) (X : (Mine.hd2.heap_39 w.params).In h₀) (N : News h₀ L s.heap ((dx, D) :: (x, instObj 68 dx) :: rest))
    (T : Top p loose mean mg mb h₀) (hk : cs.kind = .function)
    (hd : dp + 20 < recursionLimit) (hu : un + 200 < cLine) (hD : IsRF w.params D c mode i v l) (hm : mode = Str.ofString "input" ∨ mode = Str.ofString "i-o")
    (hr : OwnOff rest [dx]) (hxd : @Ne Nat x dx)
    (post : ∀ D' t h' tk', IsRF w.params D' c mode i v (-1) → Fr h₀ L h' m → News h₀ L h' ((dx, D') :: (x, instObj 68 dx) :: rest) → Q (.str (Str.ofString "48") t) { s with heap := h', toks := tk' }) :
    wpAny (model PySem.Challenge.rw_pb0233_02.row.prog w) (ktrTop dp un gd cn cs L a ccd cl outer) (call (.ref 51) [.ref x, .bytes b tb]) Q E s := by
  obtain ⟨t1, t2, t3, t4, t5, tm, ta, tl, rfl⟩ := hD
  refine wpAny_call ?_
  k_dflt ktr_enter
  k_steps
  rename News _ _ _ _ => N9
  exact post _ _ _ _ ⟨_, _, _, _, _, _, _, _, rfl⟩ (by k_asm) N9
end
theorem off_E2 : True := by
  w_top off
  k_with_none
  trivial
/-- the dict of a shelf -/
def IsSD (P : Params) (SD : Obj) (fd : Addr) : Prop := ∃ t, SD = dictOf [⟨PyData.keyHash P (Str.ofString "files"), .str (Str.ofString "files") t, .ref fd⟩] 1
/-- a shelf's files: one sequential file -/
def IsFD (w : World) (FD : Obj) (fd : Addr) (path : Str) (tp : Addr) : Prop := Obj.IsDictOf (PySem.strKind PySem.Challenge.rw_pb0233_02.row.prog w) FD [(path, .ref tp)] ∧ (fd == sysModules) = false
def IsTP (TP : Obj) (c : Addr) : Prop := ∃ t, TP = tupO [.str (Str.ofString "sequential") t, .ref c]
theorem led_dup4 {h₀ h : Heap} {L : Addr} {a b c d : Addr × Obj} {led : List (Addr × Obj)} (N : News h₀ L h led) (ha : a ∈ led) (hb : b ∈ led) (hc : c ∈ led) (hd : d ∈ led) : News h₀ L h (a :: b :: c :: d :: led) := by
  intro p hp
  simp only [List.mem_cons] at hp
  rcases hp with rfl | rfl | rfl | rfl | hp
  · exact N _ ha
  · exact N _ hb
  · exact N _ hc
  · exact N _ hd
  · exact N _ hp
theorem led_dup5 {h₀ h : Heap} {L : Addr} {a b c d e : Addr × Obj} {led : List (Addr × Obj)} (N : News h₀ L h led) (ha : a ∈ led) (hb : b ∈ led) (hc : c ∈ led) (hd : d ∈ led) (he : e ∈ led) : News h₀ L h (a :: b :: c :: d :: e :: led) := by
  have N4 := led_dup4 N ha hb hc hd
  intro p hp
  simp only [List.mem_cons] at hp
  rcases hp with rfl | rfl | rfl | rfl | rfl | hp
  · exact N _ ha
  · exact N _ hb
  · exact N _ hc
  · exact N _ hd
  · exact N _ he
  · exact N _ hp
theorem led_dup3 {h₀ h : Heap} {L : Addr} {a b c : Addr × Obj} {led : List (Addr × Obj)} (N : News h₀ L h led) (ha : a ∈ led) (hb : b ∈ led) (hc : c ∈ led) : News h₀ L h (a :: b :: c :: led) := by
  intro p hp
  simp only [List.mem_cons] at hp
  rcases hp with rfl | rfl | rfl | hp
  · exact N _ ha
  · exact N _ hb
  · exact N _ hc
  · exact N _ hp
theorem led_tail3 {h₀ h : Heap} {L : Addr} {a b c : Addr × Obj} {led : List (Addr × Obj)} (N : News h₀ L h (a :: b :: c :: led)) : News h₀ L h led := fun p hp => N p (.tail _ (.tail _ (.tail _ hp)))
theorem led_one3 {h₀ h : Heap} {L : Addr} {r a b c : Addr × Obj} {led : List (Addr × Obj)} (N : News h₀ L h (r :: a :: b :: c :: led)) : News h₀ L h (r :: led) := fun p hp => by
  rcases List.mem_cons.mp hp with rfl | hp
  · exact N _ (.head _)
  · exact N p (.tail _ (.tail _ (.tail _ (.tail _ hp))))
theorem led_tail4 {h₀ h : Heap} {L : Addr} {a b c d : Addr × Obj} {led : List (Addr × Obj)} (N : News h₀ L h (a :: b :: c :: d :: led)) : News h₀ L h led := fun p hp => N p (.tail _ (.tail _ (.tail _ (.tail _ hp))))
theorem led_one4 {h₀ h : Heap} {L : Addr} {r a b c d : Addr × Obj} {led : List (Addr × Obj)} (N : News h₀ L h (r :: a :: b :: c :: d :: led)) : News h₀ L h (r :: led) := fun p hp => by
  rcases List.mem_cons.mp hp with rfl | hp
  · exact N _ (.head _)
  · exact N p (.tail _ (.tail _ (.tail _ (.tail _ (.tail _ hp)))))
theorem led_one6 {h₀ h : Heap} {L : Addr} {r a b c d e f : Addr × Obj} {led : List (Addr × Obj)} (N : News h₀ L h (r :: a :: b :: c :: d :: e :: f :: led)) : News h₀ L h (r :: led) := fun p hp => by
  rcases List.mem_cons.mp hp with rfl | hp
  · exact N _ (.head _)
  · exact N p (.tail _ (.tail _ (.tail _ (.tail _ (.tail _ (.tail _ (.tail _ hp)))))))
section
variable {w : World} {p : Program} {loose : List Str} {mean : ExcName → Option Value} {mg mb : Str → Option Value}
    {dp un : Nat} {gd : Option (List Code)} {cn : Str} {cs : Scope} {a : Addr} {ccd : Value} {cl : List (Str × Addr)} {outer : List Env} {A₀ : Around} {base h₀ : Heap} {L : Addr} {m : Str → Option Value} {led : List (Addr × Obj)} {s : Shared}
    {Q E : Value → Shared → Prop}
theorem c_content {sx sd fd tp c : Addr} {SD FD TP : Obj} {tt : Tok}
    (B : Below A₀ base outer h₀) (F : Fr h₀ L s.heap m) (X : (Mine.hd2.heap_39 w.params).In h₀) (N : News h₀ L s.heap led) (h1 : (fd, FD) ∈ led) (h2 : (tp, TP) ∈ led) (h3 : (sx, instObj 190 sd) ∈ led) (h4 : (sd, SD) ∈ led) (T : Top p loose mean mg mb h₀) (hk : cs.kind = .function)
    (hd : dp + 20 < recursionLimit) (hu : un + 200 < cLine)
    (hS : IsSD w.params SD fd) (hF : IsFD w FD fd (Str.ofString "journal") tp) (hT : IsTP TP c)
    (post : ∀ h' tk', Fr h₀ L h' m → News h₀ L h' led → Q (.ref c) { s with heap := h', toks := tk' }) :
    wpAny (model PySem.Challenge.rw_pb0233_02.row.prog w) (ktrTop dp un gd cn cs L a ccd cl outer) (call (.ref 149) [.ref sx, .str (Str.ofString "journal") tt]) Q E s := by
  obtain ⟨t1, rfl⟩ := hS
  obtain ⟨hf1, hf2⟩ := hF
  obtain ⟨t3, rfl⟩ := hT
  replace N := led_dup4 N h1 h2 h3 h4
  clear h1 h2 h3 h4
  refine wpAny_call ?_
  k_dflt ktr_enter
  k_steps
  rename News _ _ _ _ => N9
  exact post _ _ (by k_asm) (led_tail4 N9)
theorem c_kind {sx sd fd tp c : Addr} {SD FD TP : Obj} {tt : Tok}
    (B : Below A₀ base outer h₀) (F : Fr h₀ L s.heap m) (X : (Mine.hd2.heap_39 w.params).In h₀) (N : News h₀ L s.heap led) (h1 : (fd, FD) ∈ led) (h2 : (tp, TP) ∈ led) (h3 : (sx, instObj 190 sd) ∈ led) (h4 : (sd, SD) ∈ led) (T : Top p loose mean mg mb h₀) (hk : cs.kind = .function)
    (hd : dp + 20 < recursionLimit) (hu : un + 200 < cLine)
    (hS : IsSD w.params SD fd) (hF : IsFD w FD fd (Str.ofString "journal") tp) (hT : IsTP TP c)
    (post : ∀ t h' tk', Fr h₀ L h' m → News h₀ L h' led → Q (.str (Str.ofString "sequential") t) { s with heap := h', toks := tk' }) :
    wpAny (model PySem.Challenge.rw_pb0233_02.row.prog w) (ktrTop dp un gd cn cs L a ccd cl outer) (call (.ref 142) [.ref sx, .str (Str.ofString "journal") tt]) Q E s := by
  obtain ⟨t1, rfl⟩ := hS
  obtain ⟨hf1, hf2⟩ := hF
  obtain ⟨t3, rfl⟩ := hT
  replace N := led_dup4 N h1 h2 h3 h4
  clear h1 h2 h3 h4
  refine wpAny_call ?_
  k_dflt ktr_enter
  k_steps
  rename News _ _ _ _ => N9
  exact post _ _ _ (by k_asm) (led_tail4 N9)
theorem wordsD1 : True := by
  k_with "call ref" => (k_here; k_dflt (show wpAny _ _ (call (Value.ref 149) [Value.ref _, Value.str _ _]) _ _ _); k_dflt (refine' c_content ?k1 ?k2 ?k3 ?k4 ?h1 ?h2 ?h3 ?h4 ?k5 ?k6 ?k7 ?k8 ?kA ?kB ?kC ?_; (case k1 => k_asm); (case k2 => k_asm); (case k3 => k_asm); (case k4 => k_asm); (case k5 => k_asm); (case k6 => first | exact rfl | assumption); (case k7 => ktr_room); (case k8 => ktr_units); (case h3 => k_mem); (case kA => assumption); (case kB => assumption); (case kC => assumption); (case h1 => k_mem); (case h2 => k_mem); (case h4 => k_mem); k_whole); intro h' tk' F' N'; (try dsimp only); (try k_fold))
  k_with "call ref" => (k_here; k_dflt (show wpAny _ _ (call (Value.ref 142) [Value.ref _, Value.str _ _]) _ _ _); k_dflt (refine' c_kind ?k1 ?k2 ?k3 ?k4 ?h1 ?h2 ?h3 ?h4 ?k5 ?k6 ?k7 ?k8 ?kA ?kB ?kC ?_; (case k1 => k_asm); (case k2 => k_asm); (case k3 => k_asm); (case k4 => k_asm); (case k5 => k_asm); (case k6 => first | exact rfl | assumption); (case k7 => ktr_room); (case k8 => ktr_units); (case h3 => k_mem); (case kA => assumption); (case kB => assumption); (case kC => assumption); (case h1 => k_mem); (case h2 => k_mem); (case h4 => k_mem); k_whole); intro t9 h' tk' F' N'; (try dsimp only); (try k_fold))
  k_with "call type:tuple" => (k_here; (with_reducible show wpAny _ _ (call (Value.type _) [Value.ref _]) _ _ _); k_dflt (refine' kde_tupleOf ?k1 ?k2 ?k3 ?k4 ?k5 ?_; (case k1 => k_asm); (case k2 => k_asm); (case k3 => exact News.isList (by k_asm) (by k_mem)); (case k4 => (simp only [List.size_toArray]; omega)); (case k5 => exact rfl); k_whole); intro D' h' F' N' l1)
  trivial
local macro_rules | `(tactic| k_all) => `(tactic| ((fail_if_success (refine List.forall_mem_cons.mpr ?_)); (fail_if_success (exact List.forall_mem_nil _)); first | exact all_succ1 (by assumption) | exact all_succ2 (by assumption)))
theorem c_rows {sx sd fd tp c : Addr} {SD FD TP : Obj} {tt : Tok} {vs : List Value} {n : Nat}
    (B : Below A₀ base outer h₀) (F : Fr h₀ L s.heap m) (X : (Mine.hd2.heap_39 w.params).In h₀) (N : News h₀ L s.heap led) (h1 : (fd, FD) ∈ led) (h2 : (tp, TP) ∈ led) (h3 : (sx, instObj 190 sd) ∈ led) (h4 : (sd, SD) ∈ led) (h5 : (c, listOf vs.toArray n) ∈ led) (T : Top p loose mean mg mb h₀) (hk : cs.kind = .function)
    (hd : dp + 40 < recursionLimit) (hu : un + 400 < cLine) (hv : vs.length ≤ 1000)
    (hS : IsSD w.params SD fd) (hF : IsFD w FD fd (Str.ofString "journal") tp) (hT : IsTP TP c)
    (post : ∀ r h' tk', Fr h₀ L h' m → News h₀ L h' ((r, tupO vs) :: led) → (∀ p ∈ led, p.1 < r) → Q (.ref r) { s with heap := h', toks := tk' }) :
    wpAny (model PySem.Challenge.rw_pb0233_02.row.prog w) (ktrTop dp un gd cn cs L a ccd cl outer) (call (.ref 175) [.ref sx, .str (Str.ofString "journal") tt]) Q E s := by
  have hF' := hF
  obtain ⟨hf1, hf2⟩ := hF'
  have hS' := hS
  obtain ⟨t1, rfl⟩ := hS'
  replace N := led_dup5 N h1 h2 h3 h4 h5
  clear h1 h2 h3 h4 h5
  refine wpAny_call ?_
  k_dflt (refine' code_defC ?k1 ?k2 ?k3 ?k4 ?k5 ?kA ?kF ?kK ?k6 ?k7 ?k8 ?k9 ?kB ?kN ?_ ?c2 ?c3 ?c4; (case kA => exact rfl); (case kF => exact rfl); (case kK => assumption); (case k1 => k_asm); (case k2 => k_asm); (case k3 => k_asm); (case k4 => k_asm); (case k5 => k_asm); (case k6 => k_is); (case k7 => k_is); (case k8 => ktr_room); (case k9 => exact BindsTo.of_eq rfl); (case kB => exact rfl); (case kN => decide); (case c2 => exact rfl); (case c3 => exact rfl); (case c4 => exact rfl); k_whole)
  intro g' L' h' tk' cells' FG' F' N' Y' B' X' T' l1
  have l0 := allLt_of l1
  simp only [AllLt] at l0
  obtain ⟨l01, l02, l03, l04, l05, l06⟩ := l0
  clear l1
  k_cells Y'
  (try simp only [List.cons_append, List.nil_append] at N')
  (try dsimp only)
  (try k_fold)
  k_steps
  rename News _ _ _ _ => N9
  exact post _ _ _ (by k_asm) (led_one6 N9) (fun p hp => l1 p (.tail _ (.tail _ (.tail _ (.tail _ (.tail _ (.tail _ hp)))))))
def NotOut (mode : Str) : Prop := mode = Str.ofString "extend" ∨ mode = Str.ofString "input" ∨ mode = Str.ofString "i-o"
theorem c_kind0 {sx sd fd : Addr} {SD FD : Obj} {tt : Tok}
    (B : Below A₀ base outer h₀) (F : Fr h₀ L s.heap m) (X : (Mine.hd2.heap_39 w.params).In h₀) (N : News h₀ L s.heap led) (h1 : (fd, FD) ∈ led) (h3 : (sx, instObj 190 sd) ∈ led) (h4 : (sd, SD) ∈ led) (T : Top p loose mean mg mb h₀) (hk : cs.kind = .function)
    (hd : dp + 20 < recursionLimit) (hu : un + 200 < cLine) (hS : IsSD w.params SD fd) (hf1 : Obj.IsDictOf (PySem.strKind PySem.Challenge.rw_pb0233_02.row.prog w) FD []) (hf2 : (fd == sysModules) = false)
    (post : ∀ t h' tk', Fr h₀ L h' m → News h₀ L h' led → Q (.str (Str.ofString "") t) { s with heap := h', toks := tk' }) :
    wpAny (model PySem.Challenge.rw_pb0233_02.row.prog w) (ktrTop dp un gd cn cs L a ccd cl outer) (call (.ref 142) [.ref sx, .str (Str.ofString "journal") tt]) Q E s := by
  obtain ⟨t1, rfl⟩ := hS
  replace N := led_dup3 N h1 h3 h4
  clear h1 h3 h4
  refine wpAny_call ?_
  k_dflt ktr_enter
  k_steps
  rename News _ _ _ _ => N9
  exact post _ _ _ (by k_asm) (led_tail3 N9)
theorem c_open35 {sx sd fd : Addr} {SD FD : Obj} {tt tu tv : Tok} {mode : Str}
    (B : Below A₀ base outer h₀) (F : Fr h₀ L s.heap m) (X : (Mine.hd2.heap_39 w.params).In h₀) (N : News h₀ L s.heap led) (h1 : (fd, FD) ∈ led) (h3 : (sx, instObj 190 sd) ∈ led) (h4 : (sd, SD) ∈ led) (T : Top p loose mean mg mb h₀) (hk : cs.kind = .function)
    (hd : dp + 40 < recursionLimit) (hu : un + 400 < cLine) (hm : NotOut mode) (hS : IsSD w.params SD fd) (hf1 : Obj.IsDictOf (PySem.strKind PySem.Challenge.rw_pb0233_02.row.prog w) FD []) (hf2 : (fd == sysModules) = false)
    (post : ∀ r t h' tk', Fr h₀ L h' m → News h₀ L h' ((r, tupO [.str (Str.ofString "35") t, .none]) :: led) → Q (.ref r) { s with heap := h', toks := tk' }) :
    wpAny (model PySem.Challenge.rw_pb0233_02.row.prog w) (ktrTop dp un gd cn cs L a ccd cl outer) (call (.ref 170) [.ref sx, .str (Str.ofString "journal") tt, .str (Str.ofString "sequential") tu, .str mode tv]) Q E s := by
  obtain ⟨t1, rfl⟩ := hS
  replace N := led_dup3 N h1 h3 h4
  clear h1 h3 h4
  rcases hm with rfl | rfl | rfl
  all_goals
    refine wpAny_call ?_
    k_dflt ktr_enter
    k_steps
    rename News _ _ _ _ => N9
    exact post _ _ _ _ (by k_asm) (led_one3 N9)
theorem c_openE {sx sd fd tp c : Addr} {SD FD TP : Obj} {tt tu tv : Tok} {mode : Str}
    (B : Below A₀ base outer h₀) (F : Fr h₀ L s.heap m) (X : (Mine.hd2.heap_39 w.params).In h₀) (N : News h₀ L s.heap led) (h1 : (fd, FD) ∈ led) (h2 : (tp, TP) ∈ led) (h3 : (sx, instObj 190 sd) ∈ led) (h4 : (sd, SD) ∈ led) (T : Top p loose mean mg mb h₀) (hk : cs.kind = .function)
    (hd : dp + 40 < recursionLimit) (hu : un + 400 < cLine) (hm : NotOut mode)
    (hS : IsSD w.params SD fd) (hF : IsFD w FD fd (Str.ofString "journal") tp) (hT : IsTP TP c)
    (post : ∀ r t h' tk', Fr h₀ L h' m → News h₀ L h' ((r, tupO [.str (Str.ofString "00") t, .ref c]) :: led) → (∀ p ∈ led, p.1 < r) → Q (.ref r) { s with heap := h', toks := tk' }) :
    wpAny (model PySem.Challenge.rw_pb0233_02.row.prog w) (ktrTop dp un gd cn cs L a ccd cl outer) (call (.ref 170) [.ref sx, .str (Str.ofString "journal") tt, .str (Str.ofString "sequential") tu, .str mode tv]) Q E s := by
  have hF' := hF
  obtain ⟨hf1, hf2⟩ := hF'
  have hS' := hS
  obtain ⟨t1, rfl⟩ := hS'
  replace N := led_dup4 N h1 h2 h3 h4
  clear h1 h2 h3 h4
  rcases hm with rfl | rfl | rfl
  all_goals
    refine wpAny_call ?_
    k_dflt ktr_enter
    k_steps
    rename News _ _ _ _ => N9
    rename (_ < _ ∧ _) => l9
    exact post _ _ _ _ (by k_asm) (led_one4 N9) (lt_all l9.2.2.2.2)
end
theorem off_E3 : True := by
  w_top off
  k_with_none
  trivial
theorem clear_nil {prog : Program} {w : World} {A : Around} {E : Value → Shared → Prop} {s : Shared} {h₀ : Heap} {L D : Addr} {m : Str → Option Value} {news : List (Addr × Obj)} {n : Nat} {Q : Value → Shared → Prop} (F : Fr h₀ L s.heap m) (N : News h₀ L s.heap news) (hm : (D, listOf #[] n) ∈ news)
    (h : ∀ h', Fr h₀ L h' m → News h₀ L h' news → Q .none { s with heap := h' }) : wpAny (model prog w) A (call (.builtin "list.clear") [.ref D]) Q E s := by
  have z := N _ hm
  refine call_meets PySem.F.slot_list_clear ⟨_, z.1, rfl⟩ PySem.F.entry_list_clear (PySem.F.args_list_clear_1 _) (PySem.AutoSeq1.list_clear_list_0 D #[] n (by decide)) ⟨z.1, h _ (F.change (Heap.SameBut.update ..) z.2.1 z.2.2) fun p hp => ?_⟩
  have q := PySem.IsL.update z.1 (fun _ => #[])
  rw [if_pos (by simp)] at q
  have y := N p hp
  by_cases e : p.1 = D
  · have y1 := y.1
    rw [e, z.1] at y1
    refine ⟨?_, y.2⟩
    rw [e, ← Option.some.inj y1]
    exact q
  · exact ⟨(Heap.SameBut.update ..).extBut _ _ e y.1, y.2⟩
local macro_rules | `(tactic| k_mem) => `(tactic| first | with_reducible assumption | (change _ ∈ (_ : List (Addr × Obj)); with_reducible assumption))
local macro_rules | `(tactic| k_all) => `(tactic| ((fail_if_success (refine List.forall_mem_cons.mpr ?_)); (fail_if_success (exact List.forall_mem_nil _)); exact fun p hp => by have h9 := ‹OwnOff _ _› p hp _ (.head _); exact h9))
local macro_rules | `(tactic| walk_at "call builtin:list.clear") => `(tactic| (k_here; (with_reducible show wpAny _ _ (call (Value.builtin _) [Value.ref _]) _ _ _); k_dflt (refine' clear_nil ?F ?N ?U ?_; (case F => k_asm); (case N => k_asm); (case U => k_mem)); intro h' F' N'; (try dsimp only)))
section
variable {w : World} {p : Program} {loose : List Str} {mean : ExcName → Option Value} {mg mb : Str → Option Value}
    {dp un : Nat} {gd : Option (List Code)} {cn : Str} {cs : Scope} {a : Addr} {ccd : Value} {cl : List (Str × Addr)} {outer : List Env} {A₀ : Around} {base h₀ : Heap} {L : Addr} {m : Str → Option Value} {news led : List (Addr × Obj)} {s : Shared}
    {Q E : Value → Shared → Prop}
theorem c_rfN {c : Addr} {mode : Str} {tt : Tok}
    (B : Below A₀ base outer h₀) (F : Fr h₀ L s.heap m) (X : (Mine.hd2.heap_39 w.params).In h₀) (N : News h₀ L s.heap led) (T : Top p loose mean mg mb h₀) (hk : cs.kind = .function)
    (hd : dp + 40 < recursionLimit) (hu : un + 400 < cLine) (hm : NotOut mode)
    (post : ∀ x dx D h' tk', IsRF w.params D c mode 0 true (-1) → Fr h₀ L h' m → News h₀ L h' ((x, instObj 68 dx) :: (dx, D) :: led) → (∀ p ∈ led, p.1 < dx) → @LT.lt Nat _ dx x → Q (.ref x) { s with heap := h', toks := tk' }) :
    wpAny (model PySem.Challenge.rw_pb0233_02.row.prog w) (ktrTop dp un gd cn cs L a ccd cl outer) (call (.ref 68) [.ref c, .str mode tt]) Q E s := by
  rcases hm with rfl | rfl | rfl
  all_goals
    k_dflt (refine' call_cls ?k1 ?k2 ?k3 ?k4 ?k5 ?k6 ?_; (case k1 => k_asm); (case k2 => k_asm); (case k3 => k_asm); (case k4 => k_is); (case k5 => k_is); (case k6 => k_is); k_whole)
    intro x' d' h' F' N' l1 l2
    clear N
    k_dflt ktr_enter
    k_steps
  all_goals
    rename News _ _ _ _ => N9
    exact post _ _ _ _ _ ⟨_, _, _, _, _, _, _, _, rfl⟩ (by k_asm) N9 l1 l2
theorem c_rfO {c : Addr} {n : Nat} {tt : Tok}
    (B : Below A₀ base outer h₀) (F : Fr h₀ L s.heap m) (X : (Mine.hd2.heap_39 w.params).In h₀) (N : News h₀ L s.heap led) (hc : (c, listOf #[] n) ∈ led) (T : Top p loose mean mg mb h₀) (hk : cs.kind = .function)
    (hd : dp + 40 < recursionLimit) (hu : un + 400 < cLine)
    (post : ∀ x dx D h' tk', IsRF w.params D c (Str.ofString "output") 0 true (-1) → Fr h₀ L h' m → News h₀ L h' ((x, instObj 68 dx) :: (dx, D) :: led) → (∀ p ∈ led, p.1 < dx) → @LT.lt Nat _ dx x → Q (.ref x) { s with heap := h', toks := tk' }) :
    wpAny (model PySem.Challenge.rw_pb0233_02.row.prog w) (ktrTop dp un gd cn cs L a ccd cl outer) (call (.ref 68) [.ref c, .str (Str.ofString "output") tt]) Q E s := by
  k_dflt (refine' call_cls ?k1 ?k2 ?k3 ?k4 ?k5 ?k6 ?_; (case k1 => k_asm); (case k2 => k_asm); (case k3 => k_asm); (case k4 => k_is); (case k5 => k_is); (case k6 => k_is); k_whole)
  intro x' d' h' F' N' l1 l2
  clear N
  k_dflt ktr_enter
  k_steps
  rename News _ _ _ _ => N9
  exact post _ _ _ _ _ ⟨_, _, _, _, _, _, _, _, rfl⟩ (by k_asm) N9 l1 l2
theorem c_shelf2 
    (B : Below A₀ base outer h₀) (F : Fr h₀ L s.heap m) (X : (Mine.hd2.heap_39 w.params).In h₀) (N : News h₀ L s.heap led) (T : Top p loose mean mg mb h₀) (hk : cs.kind = .function)
    (hd : dp + 40 < recursionLimit) (hu : un + 400 < cLine)
    (post : ∀ sx sd fd SD FD h' tk', IsSD w.params SD fd → Obj.IsDictOf (PySem.strKind PySem.Challenge.rw_pb0233_02.row.prog w) FD [] → (fd == sysModules) = false → Fr h₀ L h' m → News h₀ L h' ((fd, FD) :: (sx, instObj 190 sd) :: (sd, SD) :: led) → (∀ p ∈ led, p.1 < sd) → @LT.lt Nat _ sd sx → @LT.lt Nat _ sx fd → Q (.ref sx) { s with heap := h', toks := tk' }) :
    wpAny (model PySem.Challenge.rw_pb0233_02.row.prog w) (ktrTop dp un gd cn cs L a ccd cl outer) (call (.ref 190) []) Q E s := by
  k_dflt (refine' call_cls ?k1 ?k2 ?k3 ?k4 ?k5 ?k6 ?_; (case k1 => k_asm); (case k2 => k_asm); (case k3 => k_asm); (case k4 => k_is); (case k5 => k_is); (case k6 => k_is); k_whole)
  intro x' d' h' F' N' l1 l2
  clear N
  k_dflt ktr_enter
  k_steps
  rename News _ _ _ _ => N9
  rename (_ < _ ∧ _) => l9
  exact post _ _ _ _ _ _ _ ⟨_, rfl⟩ (by assumption) (by assumption) (by k_asm) N9 l1 l2 l9.1
theorem c_openO {sx sd fd : Addr} {SD FD : Obj} {tt tu tv : Tok} {es : List (Str × Value)}
    (B : Below A₀ base outer h₀) (F : Fr h₀ L s.heap m) (X : (Mine.hd2.heap_39 w.params).In h₀) (N : News h₀ L s.heap news) (p1 : Pick (fd, FD) news led) (h3 : (sx, instObj 190 sd) ∈ led) (h4 : (sd, SD) ∈ led) (T : Top p loose mean mg mb h₀) (hk : cs.kind = .function)
    (hd : dp + 40 < recursionLimit) (hu : un + 400 < cLine) (hS : IsSD w.params SD fd) (hF : Obj.IsDictOf (PySem.strKind PySem.Challenge.rw_pb0233_02.row.prog w) FD es) (hes : es = [] ∨ ∃ tp, es = [(Str.ofString "journal", .ref tp)]) (hlo : (fd == sysModules) = false)
    (hof : OwnOff led [fd])
    (post : ∀ r t c tp n FD' TP h' tk', IsFD w FD' fd (Str.ofString "journal") tp → IsTP TP c → Fr h₀ L h' m → News h₀ L h' ((r, tupO [.str (Str.ofString "00") t, .ref c]) :: (c, listOf #[] n) :: (tp, TP) :: (fd, FD') :: led) → (∀ p ∈ (fd, FD) :: led, p.1 < c) → @LT.lt Nat _ c tp → @LT.lt Nat _ tp r → Q (.ref r) { s with heap := h', toks := tk' }) :
    wpAny (model PySem.Challenge.rw_pb0233_02.row.prog w) (ktrTop dp un gd cn cs L a ccd cl outer) (call (.ref 170) [.ref sx, .str (Str.ofString "journal") tt, .str (Str.ofString "sequential") tu, .str (Str.ofString "output") tv]) Q E s := by
  have hS' := hS
  obtain ⟨t1, rfl⟩ := hS'
  have hsx : @Ne Nat sx fd := hof _ h3 _ (.head _)
  have hsd : @Ne Nat sd fd := hof _ h4 _ (.head _)
  have N0 := p1.news N
  have N1 : News h₀ L s.heap ((fd, FD) :: (sx, instObj 190 sd) :: (sd, dictOf [⟨PyData.keyHash w.params (Str.ofString "files"), .str (Str.ofString "files") t1, .ref fd⟩] 1) :: led) := fun q hq => by
    simp only [List.mem_cons] at hq
    rcases hq with h | h | h | h
    · exact N0 _ (h ▸ .head _)
    · exact N0 _ (h ▸ .tail _ h3)
    · exact N0 _ (h ▸ .tail _ h4)
    · exact N0 _ (.tail _ h)
  clear N0 N p1 h3 h4
  rcases hes with rfl | ⟨tp0, rfl⟩
  all_goals
    refine wpAny_call ?_
    k_dflt ktr_enter
    k_steps
    rename News _ _ _ _ => N9
    rename (_ < _ ∧ _) => lr
    revert lr
    rename (_ < _ ∧ _) => lt
    revert lt
    rename (_ < _ ∧ _) => lc
    intro lt lr
    exact post _ _ _ _ _ _ _ _ _ ⟨by assumption, hlo⟩ ⟨_, rfl⟩ (by k_asm) (news_sub N9 (fun p hp => by simp only [List.mem_cons] at hp ⊢; rcases hp with h | h | h | h | h; exact .inl h; exact .inr (.inr (.inl h)); exact .inr (.inl h); exact .inr (.inr (.inr (.inl h))); exact .inr (.inr (.inr (.inr (.inr (.inr h))))))) (lt_all ⟨lc.1, lc.2.2.2⟩) lt.1 lr.1
end
theorem off_E4 : True := by
  w_top off
  k_with_none
  trivial
theorem off3_own {I C D : Addr} {oI oC oD : Obj} {l rest : List (Addr × Obj)} {adr : List Addr} (off : LCg.Off3 I C D l) (h : ∀ b ∈ adr, ∃ o, (b, o) ∈ l) (ho : OwnOff rest adr) : OwnOff ((I, oI) :: (C, oC) :: (D, oD) :: rest) adr := by
  intro q hq b hb
  obtain ⟨o, hbo⟩ := h b hb
  have z := off.mem _ hbo
  rcases List.mem_cons.mp hq with rfl | hq
  · exact Ne.symm z.1
  · rcases List.mem_cons.mp hq with rfl | hq
    · exact Ne.symm z.2.1
    · rcases List.mem_cons.mp hq with rfl | hq
      · exact Ne.symm z.2.2
      · exact ho q hq b hb
theorem ownOff_gt {l : List (Addr × Obj)} {b : Addr} {adr : List Addr} (h : ∀ p ∈ l, p.1 < b) (t : OwnOff l adr) : OwnOff l (b :: adr) := by
  intro q hq c hc
  rcases List.mem_cons.mp hc with rfl | hc
  · exact Nat.ne_of_lt (h q hq)
  · exact t q hq c hc
section
variable {w : World} {p : Program} {loose : List Str} {mean : ExcName → Option Value} {mg mb : Str → Option Value}
    {dp un : Nat} {gd : Option (List Code)} {cn : Str} {cs : Scope} {a : Addr} {ccd : Value} {cl : List (Str × Addr)} {outer : List Env} {A₀ : Around} {base h₀ : Heap} {L : Addr} {m : Str → Option Value} {news n1 n2 rest led : List (Addr × Obj)} {s : Shared}
    {Q E : Value → Shared → Prop}
theorem p_write {x dx c : Addr} {D : Obj} {vs : List Value} {n : Nat} {i l : Int} {v : Bool} {b : Bs} {tb : Tok} {mode : Str}
    (B : Below A₀ base outer h₀) (F : Fr h₀ L s.heap m) (X : (Mine.hd2.heap_39 w.params).In h₀) (N : News h₀ L s.heap news) (T : Top p loose mean mg mb h₀) (hk : cs.kind = .function)
    (hd : dp + 20 < recursionLimit) (hu : un + 200 < cLine) (p1 : Pick (x, instObj 68 dx) news n1) (p2 : Pick (dx, D) n1 n2) (p3 : Pick (c, listOf vs.toArray n) n2 rest) (hD : IsRF w.params D c mode i v l) (hm : mode = Str.ofString "output" ∨ mode = Str.ofString "extend")
    (hr : OwnOff rest [dx, c]) (hxd : @Ne Nat x dx) (hcd : @Ne Nat c dx) (hxc : @Ne Nat x c) (hv : vs.length ≤ 100)
    (post : ∀ D' n' t h' tk', IsRF w.params D' c mode i v (-1) → Fr h₀ L h' m → News h₀ L h' ((dx, D') :: (x, instObj 68 dx) :: (c, listOf (vs ++ [Value.bytes b tb]).toArray n') :: rest) → Q (.str (Str.ofString "00") t) { s with heap := h', toks := tk' }) :
    wpAny (model PySem.Challenge.rw_pb0233_02.row.prog w) (ktrTop dp un gd cn cs L a ccd cl outer) (call (.ref 51) [.ref x, .bytes b tb]) Q E s := by
  have N1 := p1.news N
  refine c_write (n := n) (vs := vs) (c := c) (rest := rest) B F X (fun q hq => ?_) T hk hd hu hD hm hr hxd hcd hxc hv post
  rcases List.mem_cons.mp hq with rfl | hq
  · exact N1 _ (.tail _ (p2.mem (.head _)))
  · rcases List.mem_cons.mp hq with rfl | hq
    · exact N1 _ (.head _)
    · exact N1 _ (.tail _ (p2.mem (.tail _ (p3.mem hq))))
theorem p_writeI {x dx c : Addr} {D : Obj} {i l : Int} {v : Bool} {b : Bs} {tb : Tok} {mode : Str}
    (B : Below A₀ base outer h₀) (F : Fr h₀ L s.heap m) (X : (Mine.hd2.heap_39 w.params).In h₀) (N : News h₀ L s.heap news) (T : Top p loose mean mg mb h₀) (hk : cs.kind = .function)
    (hd : dp + 20 < recursionLimit) (hu : un + 200 < cLine) (p1 : Pick (x, instObj 68 dx) news n1) (p2 : Pick (dx, D) n1 rest) (hD : IsRF w.params D c mode i v l) (hm : mode = Str.ofString "input" ∨ mode = Str.ofString "i-o")
    (hr : OwnOff rest [dx]) (hxd : @Ne Nat x dx)
    (post : ∀ D' t h' tk', IsRF w.params D' c mode i v (-1) → Fr h₀ L h' m → News h₀ L h' ((dx, D') :: (x, instObj 68 dx) :: rest) → Q (.str (Str.ofString "48") t) { s with heap := h', toks := tk' }) :
    wpAny (model PySem.Challenge.rw_pb0233_02.row.prog w) (ktrTop dp un gd cn cs L a ccd cl outer) (call (.ref 51) [.ref x, .bytes b tb]) Q E s := by
  have N1 := p1.news N
  refine c_writeI (c := c) (rest := rest) B F X (fun q hq => ?_) T hk hd hu hD hm hr hxd post
  rcases List.mem_cons.mp hq with rfl | hq
  · exact N1 _ (.tail _ (p2.mem (.head _)))
  · rcases List.mem_cons.mp hq with rfl | hq
    · exact N1 _ (.head _)
    · exact N1 _ (.tail _ (p2.mem (.tail _ hq)))
end
local macro_rules | `(tactic| ktr_unf) => `(tactic| first | exact Pick.head | (apply Pick.tail; ktr_unf))
local macro_rules | `(tactic| walk_at "call ref") => `(tactic| (k_here; k_dflt (show wpAny _ _ (call (Value.ref 170) [Value.ref _, Value.str _ _, Value.str _ _, Value.str _ _]) _ _ _); k_dflt (refine' c_open35 ?k1 ?k2 ?k3 ?k4 ?h1 ?h3 ?h4 ?k5 ?k6 ?k7 ?k8 ?hm ?kA ?kB ?kC ?_; (case k1 => k_asm); (case k2 => k_asm); (case k3 => k_asm); (case k4 => k_asm); (case k5 => k_asm); (case k6 => first | exact rfl | assumption); (case k7 => ktr_room); (case k8 => ktr_units); (case h3 => k_mem); (case hm => assumption); (case kA => assumption); (case kB => assumption); (case kC => assumption); (case h1 => k_mem); (case h4 => k_mem); k_whole); intro r9 t9 h' tk' F' N'; (try dsimp only); (try k_fold)))
section
variable {w : World} {p : Program} {loose : List Str} {mean : ExcName → Option Value} {mg mb : Str → Option Value}
    {dp un : Nat} {gd : Option (List Code)} {cn : Str} {cs : Scope} {a : Addr} {ccd : Value} {cl : List (Str × Addr)} {outer : List Env} {A₀ : Around} {base h₀ : Heap} {L : Addr} {m : Str → Option Value} {news n1 n2 rest led : List (Addr × Obj)} {s : Shared}
    {Q E : Value → Shared → Prop}
theorem c_ses35 {sx sd fd rr : Addr} {SD FD : Obj} {tv : Tok} {mode : Str}
    (B : Below A₀ base outer h₀) (F : Fr h₀ L s.heap m) (X : (Mine.hd2.heap_39 w.params).In h₀) (N : News h₀ L s.heap led) (h1 : (fd, FD) ∈ led) (h3 : (sx, instObj 190 sd) ∈ led) (h4 : (sd, SD) ∈ led) (T : Top p loose mean mg mb h₀) (hk : cs.kind = .function)
    (hd : dp + 60 < recursionLimit) (hu : un + 600 < cLine) (hm : NotOut mode) (hS : IsSD w.params SD fd) (hf1 : Obj.IsDictOf (PySem.strKind PySem.Challenge.rw_pb0233_02.row.prog w) FD []) (hf2 : (fd == sysModules) = false)
    (post : ∀ r tl t n h' tk', Fr h₀ L h' m → News h₀ L h' ((r, tupO [.str (Str.ofString "35") t, .ref tl, .none]) :: (tl, listOf #[] n) :: led) → Q (.ref r) { s with heap := h', toks := tk' }) :
    wpAny (model PySem.Challenge.rw_pb0233_02.row.prog w) (ktrTop dp un gd cn cs L a ccd cl outer) (call (.ref 235) [.ref sx, .str mode tv, .ref rr]) Q E s := by
  have hS' := hS
  obtain ⟨t1, rfl⟩ := hS'
  refine wpAny_call ?_
  k_dflt (refine' code_defC ?k1 ?k2 ?k3 ?k4 ?k5 ?kA ?kF ?kK ?k6 ?k7 ?k8 ?k9 ?kB ?kN ?_ ?c2 ?c3 ?c4; (case kA => exact rfl); (case kF => exact rfl); (case kK => assumption); (case k1 => k_asm); (case k2 => k_asm); (case k3 => k_asm); (case k4 => k_asm); (case k5 => k_asm); (case k6 => k_is); (case k7 => k_is); (case k8 => ktr_room); (case k9 => exact BindsTo.of_eq rfl); (case kB => exact rfl); (case kN => decide); (case c2 => exact rfl); (case c3 => exact rfl); (case c4 => exact rfl); k_whole)
  intro g' L' h' tk' cells' FG' F' N' Y' B' X' T' l1
  k_cells Y'
  (try simp only [List.cons_append, List.nil_append] at N')
  (try dsimp only)
  (try k_fold)
  k_steps
  rename News _ _ _ _ => N9
  exact post _ _ _ _ _ _ (by k_asm) (news_sub N9 (fun p hp => by simp only [List.mem_cons] at hp ⊢; rcases hp with h | h | h; exact .inl h; exact .inr (.inl h); exact .inr (.inr (.inr (.inr h)))))
end
theorem off_E5 : True := by
  w_top off
  k_with_none
  trivial
local macro_rules | `(tactic| walk_at "eval ListComp") => `(tactic| (k_here; k_dflt (refine ListComp_S (F₀ := by k_asm) (by with_unfolding_all rfl) (by decide) (by rfl) (by decide) (by rfl) ?_)))
local macro_rules | `(tactic| k_all) => `(tactic| ((fail_if_success (refine List.forall_mem_cons.mpr ?_)); (fail_if_success (exact List.forall_mem_nil _)); with_reducible assumption))
theorem ses_pack {h₀ h : Heap} {L x d r e c : Addr} {ox od og oe oc : Obj} {led : List (Addr × Obj)} (N : News h₀ L h ((x, ox) :: (d, od) :: (r, og) :: (e, oe) :: (c, oc) :: led)) (hrd : @LT.lt Nat _ r d) (hed : @LT.lt Nat _ e d) (hcd : @LT.lt Nat _ c d) (hld : ∀ p ∈ led, p.1 < d) (l8 : @LT.lt Nat _ d x) (he : @LT.lt Nat _ c e) (hr : @LT.lt Nat _ c r) (ho : OwnOff led [c]) :
    ∃ rest, OwnOff rest [d, c] ∧ (∀ q ∈ led, q ∈ rest) ∧ (e, oe) ∈ rest ∧ @Ne Nat x d ∧ @Ne Nat c d ∧ @Ne Nat x c ∧ News h₀ L h ((d, od) :: (x, ox) :: (c, oc) :: rest) := by
  refine ⟨(r, og) :: (e, oe) :: led, ownOff_gt (fun p hp => ?_) (ownOff_cons (fun b hb => ?_) (ownOff_cons (fun b hb => ?_) ho)), fun q hq => .tail _ (.tail _ hq), .tail _ (.head _), Nat.ne_of_gt l8, Nat.ne_of_lt hcd, Nat.ne_of_gt (Nat.lt_trans hcd l8), fun p hp => N p ?_⟩
  · simp only [List.mem_cons] at hp
    rcases hp with rfl | rfl | hp
    · exact hrd
    · exact hed
    · exact hld p hp
  · rw [List.mem_singleton.mp hb]; exact Nat.ne_of_gt hr
  · rw [List.mem_singleton.mp hb]; exact Nat.ne_of_gt he
  · simp only [List.mem_cons] at hp ⊢
    rcases hp with h | h | h | h | h | h
    · exact .inr (.inl h)
    · exact .inl h
    · exact .inr (.inr (.inr (.inr (.inl h))))
    · exact .inr (.inr (.inl h))
    · exact .inr (.inr (.inr (.inl h)))
    · exact .inr (.inr (.inr (.inr (.inr h))))
theorem ses_off {d c r tl : Addr} {og ot : Obj} {led rest : List (Addr × Obj)} (h1 : @Ne Nat r d) (h2 : @Ne Nat r c) (h3 : @Ne Nat tl d) (h4 : @Ne Nat tl c) (ho : OwnOff rest [d, c]) (hs : ∀ q ∈ led, q ∈ rest) : OwnOff ((r, og) :: (tl, ot) :: led) [d, c] :=
  ownOff_cons (fun b hb => by simp only [List.mem_cons, List.not_mem_nil, or_false] at hb; rcases hb with rfl | rfl; exact h1; exact h2) (ownOff_cons (fun b hb => by simp only [List.mem_cons, List.not_mem_nil, or_false] at hb; rcases hb with rfl | rfl; exact h3; exact h4) fun q hq => ho q (hs q hq))
theorem off1_mem2 {D : Addr} : ∀ {l : List (Addr × Obj)}, LCg.Off1 D l → ∀ p ∈ l, @Ne Nat p.1 D
  | [], _, _, h => nomatch h
  | _ :: _, x, p, h => by
    rcases List.mem_cons.mp h with rfl | h
    · exact x.1
    · exact off1_mem2 x.2 p h
theorem new_off {d x r tl : Addr} {l : List (Addr × Obj)} (hd : ∀ p ∈ l, p.1 < d) (hx : @LT.lt Nat _ d x) (hr : ∀ p ∈ l, p.1 < r) (ht : ∀ p ∈ l, @Ne Nat p.1 tl) : OwnOff l [d, x, r, tl] := by
  intro p hp b hb
  simp only [List.mem_cons, List.not_mem_nil, or_false] at hb
  rcases hb with rfl | rfl | rfl | rfl
  · exact Nat.ne_of_lt (hd p hp)
  · exact Nat.ne_of_lt (Nat.lt_trans (hd p hp) hx)
  · exact Nat.ne_of_lt (hr p hp)
  · exact ht p hp
def WrInv (P : Params) (d x c : Addr) (mode : Str) (vs rvs : List Value) (rest : List (Addr × Obj)) (i : Nat) (ys : List Value) (nw : List (Addr × Obj)) : Prop :=
  ∃ D n, nw = (d, D) :: (x, instObj 68 d) :: (c, listOf (vs ++ rvs.take i).toArray n) :: rest ∧ IsRF P D c mode 0 true (-1) ∧ Tells ys (Str.ofString "00") i
theorem comp_sub {I C D d x c : Addr} {oI oC oD od ox oc : Obj} {rest : List (Addr × Obj)} : ∀ p ∈ (I, oI) :: (C, oC) :: (D, oD) :: (d, od) :: (x, ox) :: (c, oc) :: rest, p ∈ (d, od) :: (x, ox) :: (c, oc) :: (I, oI) :: (C, oC) :: (D, oD) :: rest := by
  intro p hp
  simp only [List.mem_cons] at hp ⊢
  rcases hp with h | h | h | h | h | h | h
  · exact .inr (.inr (.inr (.inl h)))
  · exact .inr (.inr (.inr (.inr (.inl h))))
  · exact .inr (.inr (.inr (.inr (.inr (.inl h)))))
  · exact .inl h
  · exact .inr (.inl h)
  · exact .inr (.inr (.inl h))
  · exact .inr (.inr (.inr (.inr (.inr (.inr h)))))
theorem wr_next {vs rvs : List Value} {i : Nat} {v : Value} (hv : rvs[i]? = some v) : vs ++ rvs.take (i + 1) = (vs ++ rvs.take i) ++ [v] := by
  rw [List.take_add_one, hv, List.append_assoc]; rfl
theorem wordsE5 : True := by
  k_with_none
  k_with "call ref" => (k_here; k_dflt (show wpAny _ _ (call (Value.ref 170) [Value.ref _, Value.str _ _, Value.str _ _, Value.str _ _]) _ _ _); k_dflt (refine' c_openE ?k1 ?k2 ?k3 ?k4 ?h1 ?h2 ?h3 ?h4 ?k5 ?k6 ?k7 ?k8 ?hm ?kA ?kB ?kC ?_; (case k1 => k_asm); (case k2 => k_asm); (case k3 => k_asm); (case k4 => k_asm); (case k5 => k_asm); (case k6 => first | exact rfl | assumption); (case k7 => ktr_room); (case k8 => ktr_units); (case h3 => k_mem); (case hm => assumption); (case kA => assumption); (case kB => assumption); (case kC => assumption); (case h1 => k_mem); (case h2 => k_mem); (case h4 => k_mem); k_whole); intro r9 t9 h' tk' F' N' l6; (try dsimp only); (try k_fold))
  k_with "call ref" => (k_here; k_dflt (show wpAny _ _ (call (Value.ref 68) [Value.ref _, Value.str _ _]) _ _ _); k_dflt (refine' c_rfN ?k1 ?k2 ?k3 ?k4 ?k5 ?k6 ?k7 ?k8 ?km ?_; (case k1 => k_asm); (case k2 => k_asm); (case k3 => k_asm); (case k4 => k_asm); (case k5 => k_asm); (case k6 => first | exact rfl | assumption); (case k7 => ktr_room); (case k8 => ktr_units); (case km => assumption); k_whole); intro x9 d9 D9 h' tk' hD9 F' N' l7 l8; (try dsimp only); (try k_fold))
  k_with "call ref" => (k_here; k_dflt (show wpAny _ _ (call (Value.ref 51) [Value.ref _, Value.bytes _ _]) _ _ _); k_dflt (refine' p_write ?k1 ?k2 ?k3 ?k4 ?k5 ?k6 ?k7 ?k8 ?p1 ?p2 ?p3 ?kD ?km ?kr ?ka ?kb ?kc ?kv ?_; (case k1 => k_asm); (case k2 => k_asm); (case k3 => k_asm); (case k4 => k_asm); (case k5 => k_asm); (case k6 => first | exact rfl | assumption); (case k7 => ktr_room); (case k8 => ktr_units); (case kD => assumption); (case p1 => ktr_unf); (case p2 => ktr_unf); (case p3 => ktr_unf); (case km => assumption); (case kr => assumption); (case ka => assumption); (case kb => assumption); (case kc => assumption); (case kv => assumption); k_whole); intro D8 n8 t8 h' tk' hD8 F' N'; (try dsimp only); (try k_fold))
  trivial
section
variable {w : World} {p : Program} {loose : List Str} {mean : ExcName → Option Value} {mg mb : Str → Option Value}
    {dp un : Nat} {gd : Option (List Code)} {cn : Str} {cs : Scope} {a : Addr} {ccd : Value} {cl : List (Str × Addr)} {outer : List Env} {A₀ : Around} {base h₀ : Heap} {L : Addr} {m : Str → Option Value} {news n1 n2 rest led : List (Addr × Obj)} {s : Shared}
    {Q E : Value → Shared → Prop}
theorem c_sesE {sx sd fd tp c rr : Addr} {SD FD TP o : Obj} {tv : Tok} {vs rvs : List Value} {bs : List Bs} {n : Nat}
    (B : Below A₀ base outer h₀) (F : Fr h₀ L s.heap m) (X : (Mine.hd2.heap_39 w.params).In h₀) (N : News h₀ L s.heap ((c, listOf vs.toArray n) :: led)) (h1 : (fd, FD) ∈ led) (h2 : (tp, TP) ∈ led) (h3 : (sx, instObj 190 sd) ∈ led) (h4 : (sd, SD) ∈ led) (T : Top p loose mean mg mb h₀) (hk : cs.kind = .function)
    (hd : dp + 60 < recursionLimit) (hu : un + 600 < cLine) (hS : IsSD w.params SD fd) (hF : IsFD w FD fd (Str.ofString "journal") tp) (hT : IsTP TP c) (ho : OwnOff led [c])
    (hH : Held h₀ led rr o) (hO : SeqO o rvs) (hB : BAre rvs bs) (hr : rvs.length ≤ 10) (hv : vs.length ≤ 90)
    (post : ∀ r tl hx hd' D' n' tvs t h' tk', IsRF w.params D' c (Str.ofString "extend") 0 true (-1) → Tells tvs (Str.ofString "00") rvs.length → @Ne Nat hx hd' → @Ne Nat c hd' → @Ne Nat hx c → OwnOff ((r, tupO [.str (Str.ofString "00") t, .ref tl, .ref hx]) :: (tl, LCg.lst tvs) :: led) [hd', c] → OwnOff ((c, listOf vs.toArray n) :: led) [hd', hx, r, tl] → Fr h₀ L h' m →
      News h₀ L h' ((hd', D') :: (hx, instObj 68 hd') :: (c, listOf (vs ++ rvs).toArray n') :: (r, tupO [.str (Str.ofString "00") t, .ref tl, .ref hx]) :: (tl, LCg.lst tvs) :: led) → Q (.ref r) { s with heap := h', toks := tk' }) :
    wpAny (model PySem.Challenge.rw_pb0233_02.row.prog w) (ktrTop dp un gd cn cs L a ccd cl outer) (call (.ref 235) [.ref sx, .str (Str.ofString "extend") tv, .ref rr]) Q E s := by
  have hS' := hS
  obtain ⟨t1, rfl⟩ := hS'
  have hm : NotOut (Str.ofString "extend") := .inl rfl
  have hm2 : Str.ofString "extend" = Str.ofString "output" ∨ Str.ofString "extend" = Str.ofString "extend" := .inr rfl
  have hc0 : (c, listOf vs.toArray n) ∈ (c, listOf vs.toArray n) :: led := .head _
  refine wpAny_call ?_
  k_dflt (refine' code_defC ?k1 ?k2 ?k3 ?k4 ?k5 ?kA ?kF ?kK ?k6 ?k7 ?k8 ?k9 ?kB ?kN ?_ ?c2 ?c3 ?c4; (case kA => exact rfl); (case kF => exact rfl); (case kK => assumption); (case k1 => k_asm); (case k2 => k_asm); (case k3 => k_asm); (case k4 => k_asm); (case k5 => k_asm); (case k6 => k_is); (case k7 => k_is); (case k8 => ktr_room); (case k9 => exact BindsTo.of_eq rfl); (case kB => exact rfl); (case kN => decide); (case c2 => exact rfl); (case c3 => exact rfl); (case c4 => exact rfl); k_whole)
  intro g' L' h' tk' cells' FG' F' N' Y' B' X' T' l1
  k_cells Y'
  (try simp only [List.cons_append, List.nil_append] at N')
  (try dsimp only)
  (try k_fold)
  clear N
  iterate 46 (first | (k_unfold; (try dsimp only)) | (k_end; wrow_close) | walk1 | (dsimp only; walk1) | (leave1; walk_say "STEP leave1"; try dsimp only) | fail "no step")
  have e1 : @LT.lt Nat _ (L' + 1) r9 := l6 _ (.head _)
  have e2 : @LT.lt Nat _ (L' + 1) d9 := l7 _ (.tail _ (.head _))
  have e3 : @LT.lt Nat _ (L' + 1) x9 := Nat.lt_trans e2 l8
  have e4 : @LT.lt Nat _ c (L' + 1) := Nat.lt_succ_of_lt (l1 _ (.head _))
  have e5 : ∀ p ∈ led, (p.1 : Addr) ≠ L' + 1 := fun p hp => Nat.ne_of_lt (Nat.lt_succ_of_lt (l1 p (.tail _ hp)))
  iterate 10 (first | (k_unfold; (try dsimp only)) | (k_end; wrow_close) | walk1 | (dsimp only; walk1) | (leave1; walk_say "STEP leave1"; try dsimp only) | fail "no step")
  rename News _ _ _ _ => N1
  obtain ⟨rest, hown, hsub, hcell, hx1, hc1, hxc, N2⟩ := ses_pack N1 (l7 _ (.head _)) e2 (Nat.lt_trans e4 e2) (fun p hp => l7 p (.tail _ (.tail _ (.tail _ hp)))) l8 e4 (Nat.lt_trans e4 e1) ho
  have hH' : Held g' led rr o := hH.imp (fun e => FG'.keep _ _ e) id
  have hH2 : Held g' rest rr o := hH'.mono hsub
  clear N1 hH hH'
  refine ⟨rr, o, rvs, _, rfl, rfl, by k_asm, N2, hH2.mono (fun q hq => .tail _ (.tail _ (.tail _ hq))), hO, ?len, ?_⟩
  case len => (rw [PySem.sizeLine_eq]; omega)
  rintro s₂ ⟨gg, rfl⟩
  refine comp_inv (WrInv w.params d9 x9 c (Str.ofString "extend") vs rvs rest) ?fin ?turn _ _ _ _ (Nat.zero_add _) ?ini
  case ini => exact ⟨D9, n, by simp only [List.take_zero, List.append_nil], hD9, Tells.nil⟩
  case turn =>
    clear N2 hD9
    rintro i ys news v I oI C oC D m₂ h tk E' hi ⟨D', n', rfl, hD', hTl⟩ hv1 hC hx F' N' off ne
    obtain ⟨b, t, hb, rfl⟩ := hB.get hv1
    have hr := off3_own (oI := oI) (oC := oC) (oD := LCg.lst ys) (adr := [d9, c]) off (fun b hb => by
      simp only [List.mem_cons, List.not_mem_nil, or_false] at hb
      rcases hb with rfl | rfl
      · exact ⟨_, .head _⟩
      · exact ⟨_, .tail _ (.tail _ (.head _))⟩) hown
    have hvl : (vs ++ rvs.take i).length ≤ 100 := by rw [List.length_append, List.length_take]; omega
    iterate 11 (first | (k_unfold; (try dsimp only)) | (k_end; wrow_close) | walk1 | (dsimp only; walk1) | (leave1; walk_say "STEP leave1"; try dsimp only) | fail "no step")
    rename News _ _ _ _ => N9
    rw [← wr_next hv1] at N9
    refine LCg.CompEnd.intro (by k_asm) N9 _ comp_sub ?off ?held ⟨_, _, rfl, hD8, hTl.snoc _⟩
    case off => exact off
    case held => exact hH2.mono (fun q hq => .tail _ (.tail _ (.tail _ hq)))
  case fin =>
    clear N2 hD9
    rintro ys news ⟨D', n', rfl, hD', hTl⟩
    rw [List.take_length]
    k_steps
    rename News _ _ _ _ => N9
    rename (_ ≠ _ ∧ _) => o1
    rename (_ < _ ∧ _) => lr
    refine post _ _ x9 d9 D' n' ys t9 _ _ hD' hTl hx1 hc1 hxc (ses_off (Nat.ne_of_gt lr.2.1) (Nat.ne_of_gt lr.2.2.2.1) (Ne.symm o1.1) (Ne.symm o1.2.2.1) hown hsub) (new_off (List.forall_mem_cons.mpr ⟨l7 _ (.tail _ (.tail _ (.head _))), fun p hp => l7 p (.tail _ (.tail _ (.tail _ hp)))⟩) l8 (List.forall_mem_cons.mpr ⟨lr.2.2.2.1, fun p hp => lt_all lr.2.2.2.2 p (hsub p hp)⟩) (List.forall_mem_cons.mpr ⟨o1.2.2.1, fun p hp => off1_mem2 o1.2.2.2 p (hsub p hp)⟩)) (by k_asm) (news_sub N9 (fun p hp => by
      simp only [List.mem_cons] at hp ⊢
      rcases hp with h | h | h | h | h | h
      · exact .inr (.inr (.inl h))
      · exact .inr (.inr (.inr (.inl h)))
      · exact .inr (.inr (.inr (.inr (.inl h))))
      · exact .inl h
      · exact .inr (.inl h)
      · exact .inr (.inr (.inr (.inr (.inr (hsub p h)))))))
end
theorem off_E6 : True := by
  w_top off
  k_with_none
  trivial
theorem ses_packI {h₀ h : Heap} {L x d r e : Addr} {ox od og oe : Obj} {led : List (Addr × Obj)} (N : News h₀ L h ((x, ox) :: (d, od) :: (r, og) :: (e, oe) :: led)) (hrd : @LT.lt Nat _ r d) (hed : @LT.lt Nat _ e d) (hld : ∀ p ∈ led, p.1 < d) (l8 : @LT.lt Nat _ d x) :
    ∃ rest, OwnOff rest [d] ∧ (∀ q ∈ led, q ∈ rest) ∧ (e, oe) ∈ rest ∧ @Ne Nat x d ∧ News h₀ L h ((d, od) :: (x, ox) :: rest) := by
  refine ⟨(r, og) :: (e, oe) :: led, ownOff_gt (fun p hp => ?_) ownOff_adr, fun q hq => .tail _ (.tail _ hq), .tail _ (.head _), Nat.ne_of_gt l8, fun p hp => N p ?_⟩
  · simp only [List.mem_cons] at hp
    rcases hp with rfl | rfl | hp
    · exact hrd
    · exact hed
    · exact hld p hp
  · simp only [List.mem_cons] at hp ⊢
    rcases hp with h | h | h | h | h
    · exact .inr (.inl h)
    · exact .inl h
    · exact .inr (.inr (.inl h))
    · exact .inr (.inr (.inr (.inl h)))
    · exact .inr (.inr (.inr (.inr h)))
def WrInvI (P : Params) (d x c : Addr) (mode : Str) (rest : List (Addr × Obj)) (i : Nat) (ys : List Value) (nw : List (Addr × Obj)) : Prop :=
  ∃ D, nw = (d, D) :: (x, instObj 68 d) :: rest ∧ IsRF P D c mode 0 true (-1) ∧ Tells ys (Str.ofString "48") i
theorem comp_subI {I C D d x : Addr} {oI oC oD od ox : Obj} {rest : List (Addr × Obj)} : ∀ p ∈ (I, oI) :: (C, oC) :: (D, oD) :: (d, od) :: (x, ox) :: rest, p ∈ (d, od) :: (x, ox) :: (I, oI) :: (C, oC) :: (D, oD) :: rest := by
  intro p hp
  simp only [List.mem_cons] at hp ⊢
  rcases hp with h | h | h | h | h | h
  · exact .inr (.inr (.inl h))
  · exact .inr (.inr (.inr (.inl h)))
  · exact .inr (.inr (.inr (.inr (.inl h))))
  · exact .inl h
  · exact .inr (.inl h)
  · exact .inr (.inr (.inr (.inr (.inr h))))
theorem new_offI {r tl : Addr} {l : List (Addr × Obj)} (hr : ∀ p ∈ l, p.1 < r) (ht : ∀ p ∈ l, @Ne Nat p.1 tl) : OwnOff l [r, tl] := by
  intro p hp b hb
  simp only [List.mem_cons, List.not_mem_nil, or_false] at hb
  rcases hb with rfl | rfl
  · exact Nat.ne_of_lt (hr p hp)
  · exact ht p hp
theorem wordsE6 : True := by
  k_with_none
  k_with "call ref" => (k_here; k_dflt (show wpAny _ _ (call (Value.ref 170) [Value.ref _, Value.str _ _, Value.str _ _, Value.str _ _]) _ _ _); k_dflt (refine' c_openE ?k1 ?k2 ?k3 ?k4 ?h1 ?h2 ?h3 ?h4 ?k5 ?k6 ?k7 ?k8 ?hm ?kA ?kB ?kC ?_; (case k1 => k_asm); (case k2 => k_asm); (case k3 => k_asm); (case k4 => k_asm); (case k5 => k_asm); (case k6 => first | exact rfl | assumption); (case k7 => ktr_room); (case k8 => ktr_units); (case h3 => k_mem); (case hm => assumption); (case kA => assumption); (case kB => assumption); (case kC => assumption); (case h1 => k_mem); (case h2 => k_mem); (case h4 => k_mem); k_whole); intro r9 t9 h' tk' F' N' l6; (try dsimp only); (try k_fold))
  k_with "call ref" => (k_here; k_dflt (show wpAny _ _ (call (Value.ref 68) [Value.ref _, Value.str _ _]) _ _ _); k_dflt (refine' c_rfN ?k1 ?k2 ?k3 ?k4 ?k5 ?k6 ?k7 ?k8 ?km ?_; (case k1 => k_asm); (case k2 => k_asm); (case k3 => k_asm); (case k4 => k_asm); (case k5 => k_asm); (case k6 => first | exact rfl | assumption); (case k7 => ktr_room); (case k8 => ktr_units); (case km => assumption); k_whole); intro x9 d9 D9 h' tk' hD9 F' N' l7 l8; (try dsimp only); (try k_fold))
  k_with "call ref" => (k_here; k_dflt (show wpAny _ _ (call (Value.ref 51) [Value.ref _, Value.bytes _ _]) _ _ _); k_dflt (refine' p_writeI ?k1 ?k2 ?k3 ?k4 ?k5 ?k6 ?k7 ?k8 ?p1 ?p2 ?kD ?km ?kr ?ka ?_; (case k1 => k_asm); (case k2 => k_asm); (case k3 => k_asm); (case k4 => k_asm); (case k5 => k_asm); (case k6 => first | exact rfl | assumption); (case k7 => ktr_room); (case k8 => ktr_units); (case kD => assumption); (case p1 => ktr_unf); (case p2 => ktr_unf); (case km => assumption); (case kr => assumption); (case ka => assumption); k_whole); intro D8 t8 h' tk' hD8 F' N'; (try dsimp only); (try k_fold))
  trivial
section
variable {w : World} {p : Program} {loose : List Str} {mean : ExcName → Option Value} {mg mb : Str → Option Value}
    {dp un : Nat} {gd : Option (List Code)} {cn : Str} {cs : Scope} {a : Addr} {ccd : Value} {cl : List (Str × Addr)} {outer : List Env} {A₀ : Around} {base h₀ : Heap} {L : Addr} {m : Str → Option Value} {news n1 n2 rest led : List (Addr × Obj)} {s : Shared}
    {Q E : Value → Shared → Prop}
theorem c_sesI {sx sd fd tp c rr : Addr} {SD FD TP o : Obj} {tv : Tok} {rvs : List Value} {bs : List Bs} {mode : Str}
    (B : Below A₀ base outer h₀) (F : Fr h₀ L s.heap m) (X : (Mine.hd2.heap_39 w.params).In h₀) (N : News h₀ L s.heap led) (h1 : (fd, FD) ∈ led) (h2 : (tp, TP) ∈ led) (h3 : (sx, instObj 190 sd) ∈ led) (h4 : (sd, SD) ∈ led) (T : Top p loose mean mg mb h₀) (hk : cs.kind = .function)
    (hd : dp + 60 < recursionLimit) (hu : un + 600 < cLine) (hS : IsSD w.params SD fd) (hF : IsFD w FD fd (Str.ofString "journal") tp) (hT : IsTP TP c) (hm2 : mode = Str.ofString "input" ∨ mode = Str.ofString "i-o")
    (hH : Held h₀ led rr o) (hO : SeqO o rvs) (hB : BAre rvs bs) (hr : rvs.length ≤ 10)
    (post : ∀ r tl hx tvs t h' tk', Tells tvs (Str.ofString "48") rvs.length → OwnOff led [r, tl] → Fr h₀ L h' m →
      News h₀ L h' ((r, tupO [.str (Str.ofString "00") t, .ref tl, .ref hx]) :: (tl, LCg.lst tvs) :: led) → Q (.ref r) { s with heap := h', toks := tk' }) :
    wpAny (model PySem.Challenge.rw_pb0233_02.row.prog w) (ktrTop dp un gd cn cs L a ccd cl outer) (call (.ref 235) [.ref sx, .str mode tv, .ref rr]) Q E s := by
  have hS' := hS
  obtain ⟨t1, rfl⟩ := hS'
  have hm : NotOut mode := .inr hm2
  refine wpAny_call ?_
  k_dflt (refine' code_defC ?k1 ?k2 ?k3 ?k4 ?k5 ?kA ?kF ?kK ?k6 ?k7 ?k8 ?k9 ?kB ?kN ?_ ?c2 ?c3 ?c4; (case kA => exact rfl); (case kF => exact rfl); (case kK => assumption); (case k1 => k_asm); (case k2 => k_asm); (case k3 => k_asm); (case k4 => k_asm); (case k5 => k_asm); (case k6 => k_is); (case k7 => k_is); (case k8 => ktr_room); (case k9 => exact BindsTo.of_eq rfl); (case kB => exact rfl); (case kN => decide); (case c2 => exact rfl); (case c3 => exact rfl); (case c4 => exact rfl); k_whole)
  intro g' L' h' tk' cells' FG' F' N' Y' B' X' T' l1
  k_cells Y'
  (try simp only [List.cons_append, List.nil_append] at N')
  (try dsimp only)
  (try k_fold)
  clear N
  iterate 46 (first | (k_unfold; (try dsimp only)) | (k_end; wrow_close) | walk1 | (dsimp only; walk1) | (leave1; walk_say "STEP leave1"; try dsimp only) | fail "no step")
  have e2 : @LT.lt Nat _ (L' + 1) d9 := l7 _ (.tail _ (.head _))
  have e1 : @LT.lt Nat _ (L' + 1) r9 := l6 _ (.head _)
  have e3 : @LT.lt Nat _ (L' + 1) x9 := Nat.lt_trans e2 l8
  have e5 : ∀ p ∈ led, (p.1 : Addr) ≠ L' + 1 := fun p hp => Nat.ne_of_lt (Nat.lt_succ_of_lt (l1 p hp))
  iterate 10 (first | (k_unfold; (try dsimp only)) | (k_end; wrow_close) | walk1 | (dsimp only; walk1) | (leave1; walk_say "STEP leave1"; try dsimp only) | fail "no step")
  rename News _ _ _ _ => N1
  obtain ⟨rest, hown, hsub, hcell, hx1, N2⟩ := ses_packI N1 (l7 _ (.head _)) e2 (fun p hp => l7 p (.tail _ (.tail _ hp))) l8
  have hH' : Held g' led rr o := hH.imp (fun e => FG'.keep _ _ e) id
  have hH2 : Held g' rest rr o := hH'.mono hsub
  clear N1 hH hH'
  refine ⟨rr, o, rvs, _, rfl, rfl, by k_asm, N2, hH2.mono (fun q hq => .tail _ (.tail _ hq)), hO, ?len, ?_⟩
  case len => (rw [PySem.sizeLine_eq]; omega)
  rintro s₂ ⟨gg, rfl⟩
  refine comp_inv (WrInvI w.params d9 x9 c mode rest) ?fin ?turn _ _ _ _ (Nat.zero_add _) ?ini
  case ini => exact ⟨D9, rfl, hD9, Tells.nil⟩
  case turn =>
    clear N2 hD9
    rintro i ys news v I oI C oC D m₂ h tk E' hi ⟨D', rfl, hD', hTl⟩ hv1 hC hx F' N' off ne
    obtain ⟨b, t, hb, rfl⟩ := hB.get hv1
    have hr := off3_own (oI := oI) (oC := oC) (oD := LCg.lst ys) (adr := [d9]) off (fun b hb => by
      simp only [List.mem_cons, List.not_mem_nil, or_false] at hb
      subst hb
      exact ⟨_, .head _⟩) hown
    iterate 11 (first | (k_unfold; (try dsimp only)) | (k_end; wrow_close) | walk1 | (dsimp only; walk1) | (leave1; walk_say "STEP leave1"; try dsimp only) | fail "no step")
    rename News _ _ _ _ => N9
    refine LCg.CompEnd.intro (by k_asm) N9 _ comp_subI ?off ?held ⟨_, rfl, hD8, hTl.snoc _⟩
    case off => exact off
    case held => exact hH2.mono (fun q hq => .tail _ (.tail _ hq))
  case fin =>
    clear N2 hD9
    rintro ys news ⟨D', rfl, hD', hTl⟩
    k_steps
    rename News _ _ _ _ => N9
    rename (_ ≠ _ ∧ _) => o1
    rename (_ < _ ∧ _) => lr
    refine post _ _ x9 ys t9 _ _ hTl (new_offI (fun p hp => lt_all lr.2.2.2 p (hsub p hp)) (fun p hp => off1_mem2 o1.2.2 p (hsub p hp))) (by k_asm) (news_sub N9 (fun p hp => by
      simp only [List.mem_cons] at hp ⊢
      rcases hp with h | h | h
      · exact .inl h
      · exact .inr (.inl h)
      · exact .inr (.inr (.inr (.inr (hsub p h))))))
end
theorem off_E7 : True := by
  w_top off
  k_with_none
  trivial
theorem ses_packO {h₀ h : Heap} {L x d r e c tp fd : Addr} {ox od og oe oc ot of : Obj} {led : List (Addr × Obj)} (N : News h₀ L h ((x, ox) :: (d, od) :: (r, og) :: (c, oc) :: (tp, ot) :: (fd, of) :: (e, oe) :: led)) (l7 : ∀ p ∈ [(r, og), (c, oc), (tp, ot), (fd, of)], p.1 < d) (hed : @LT.lt Nat _ e d) (hld : ∀ p ∈ led, p.1 < d) (l8 : @LT.lt Nat _ d x) (he : @LT.lt Nat _ e c) (hf : @LT.lt Nat _ fd c) (hl : ∀ p ∈ led, p.1 < c) (ht : @LT.lt Nat _ c tp) (hr : @LT.lt Nat _ tp r) :
    ∃ rest, OwnOff rest [d, c] ∧ (∀ q ∈ (tp, ot) :: (fd, of) :: led, q ∈ rest) ∧ (e, oe) ∈ rest ∧ @Ne Nat x d ∧ @Ne Nat c d ∧ @Ne Nat x c ∧ News h₀ L h ((d, od) :: (x, ox) :: (c, oc) :: rest) := by
  have hcd : @LT.lt Nat _ c d := l7 (c, oc) (by simp)
  refine ⟨(r, og) :: (tp, ot) :: (fd, of) :: (e, oe) :: led, ownOff_gt (fun p hp => ?_) (ownOff_cons (fun b hb => ?_) (ownOff_cons (fun b hb => ?_) (ownOff_cons (fun b hb => ?_) (ownOff_cons (fun b hb => ?_) (ownOff_gt hl ownOff_adr))))), fun q hq => ?_, by simp, Nat.ne_of_gt l8, Nat.ne_of_lt hcd, Nat.ne_of_gt (Nat.lt_trans hcd l8), fun p hp => N p ?_⟩
  · simp only [List.mem_cons] at hp
    rcases hp with rfl | rfl | rfl | rfl | hp
    · exact l7 _ (by simp)
    · exact l7 _ (by simp)
    · exact l7 _ (by simp)
    · exact hed
    · exact hld p hp
  · rw [List.mem_singleton.mp hb]; exact Nat.ne_of_gt (Nat.lt_trans ht hr)
  · rw [List.mem_singleton.mp hb]; exact Nat.ne_of_gt ht
  · rw [List.mem_singleton.mp hb]; exact Nat.ne_of_lt hf
  · rw [List.mem_singleton.mp hb]; exact Nat.ne_of_lt he
  · simp only [List.mem_cons] at hq ⊢
    rcases hq with h | h | h
    · exact .inr (.inl h)
    · exact .inr (.inr (.inl h))
    · exact .inr (.inr (.inr (.inr h)))
  · simp only [List.mem_cons] at hp ⊢
    rcases hp with h | h | h | h | h | h | h | h
    · exact .inr (.inl h)
    · exact .inl h
    · exact .inr (.inr (.inr (.inl h)))
    · exact .inr (.inr (.inl h))
    · exact .inr (.inr (.inr (.inr (.inl h))))
    · exact .inr (.inr (.inr (.inr (.inr (.inl h)))))
    · exact .inr (.inr (.inr (.inr (.inr (.inr (.inl h))))))
    · exact .inr (.inr (.inr (.inr (.inr (.inr (.inr h))))))
theorem wordsE7 : True := by
  k_with_none
  k_with "call ref" => (k_here; k_dflt (show wpAny _ _ (call (Value.ref 170) [Value.ref _, Value.str _ _, Value.str _ _, Value.str _ _]) _ _ _); k_dflt (refine' c_openO ?k1 ?k2 ?k3 ?k4 ?p1 ?h3 ?h4 ?k5 ?k6 ?k7 ?k8 ?kA ?kB ?kC ?kD ?kO ?_; (case k1 => k_asm); (case k2 => k_asm); (case k3 => k_asm); (case k4 => k_asm); (case k5 => k_asm); (case k6 => first | exact rfl | assumption); (case k7 => ktr_room); (case k8 => ktr_units); (case kA => assumption); (case kB => assumption); (case kC => assumption); (case kD => assumption); (case p1 => ktr_unf); (case h3 => k_mem); (case h4 => k_mem); (case kO => first | assumption | exact hof' _); k_whole); intro r9 t9 c9 tp9 n9 FD9 TP9 h' tk' hF9 hT9 F' N' l4 l5 l6; (try dsimp only); (try k_fold))
  k_with "call ref" => (k_here; k_dflt (show wpAny _ _ (call (Value.ref 68) [Value.ref _, Value.str _ _]) _ _ _); k_dflt (refine' c_rfO ?k1 ?k2 ?k3 ?k4 ?kc ?k5 ?k6 ?k7 ?k8 ?_; (case k1 => k_asm); (case k2 => k_asm); (case k3 => k_asm); (case k4 => k_asm); (case k5 => k_asm); (case k6 => first | exact rfl | assumption); (case k7 => ktr_room); (case k8 => ktr_units); (case kc => k_mem); k_whole); intro x9 d9 D9 h' tk' hD9 F' N' l7 l8; (try dsimp only); (try k_fold))
  k_with "call ref" => (k_here; k_dflt (show wpAny _ _ (call (Value.ref 51) [Value.ref _, Value.bytes _ _]) _ _ _); k_dflt (refine' p_write ?k1 ?k2 ?k3 ?k4 ?k5 ?k6 ?k7 ?k8 ?p1 ?p2 ?p3 ?kD ?km ?kr ?ka ?kb ?kc ?kv ?_; (case k1 => k_asm); (case k2 => k_asm); (case k3 => k_asm); (case k4 => k_asm); (case k5 => k_asm); (case k6 => first | exact rfl | assumption); (case k7 => ktr_room); (case k8 => ktr_units); (case kD => assumption); (case p1 => ktr_unf); (case p2 => ktr_unf); (case p3 => ktr_unf); (case km => assumption); (case kr => assumption); (case ka => assumption); (case kb => assumption); (case kc => assumption); (case kv => assumption); k_whole); intro D8 n8 t8 h' tk' hD8 F' N'; (try dsimp only); (try k_fold))
  trivial
section
variable {w : World} {p : Program} {loose : List Str} {mean : ExcName → Option Value} {mg mb : Str → Option Value}
    {dp un : Nat} {gd : Option (List Code)} {cn : Str} {cs : Scope} {a : Addr} {ccd : Value} {cl : List (Str × Addr)} {outer : List Env} {A₀ : Around} {base h₀ : Heap} {L : Addr} {m : Str → Option Value} {news n1 n2 rest led : List (Addr × Obj)} {s : Shared}
    {Q E : Value → Shared → Prop}
theorem c_sesO {sx sd fd rr : Addr} {SD FD o : Obj} {tv : Tok} {rvs : List Value} {bs : List Bs} {es : List (Str × Value)}
    (B : Below A₀ base outer h₀) (F : Fr h₀ L s.heap m) (X : (Mine.hd2.heap_39 w.params).In h₀) (N : News h₀ L s.heap ((fd, FD) :: led)) (h3 : (sx, instObj 190 sd) ∈ led) (h4 : (sd, SD) ∈ led) (T : Top p loose mean mg mb h₀) (hk : cs.kind = .function)
    (hd : dp + 60 < recursionLimit) (hu : un + 600 < cLine) (hS : IsSD w.params SD fd) (hF : Obj.IsDictOf (PySem.strKind PySem.Challenge.rw_pb0233_02.row.prog w) FD es) (hes : es = [] ∨ ∃ tp, es = [(Str.ofString "journal", .ref tp)]) (hlo : (fd == sysModules) = false) (hof : OwnOff led [fd])
    (hH : Held h₀ led rr o) (hO : SeqO o rvs) (hB : BAre rvs bs) (hr : rvs.length ≤ 10)
    (post : ∀ r tl hx hd' c tp D' TP FD' n' tvs t h' tk', IsFD w FD' fd (Str.ofString "journal") tp → IsTP TP c → IsRF w.params D' c (Str.ofString "output") 0 true (-1) → Tells tvs (Str.ofString "00") rvs.length → @Ne Nat hx hd' → @Ne Nat c hd' → @Ne Nat hx c → OwnOff ((r, tupO [.str (Str.ofString "00") t, .ref tl, .ref hx]) :: (tl, LCg.lst tvs) :: (tp, TP) :: (fd, FD') :: led) [hd', c] → OwnOff ((fd, FD) :: led) [hd', hx, r, tl] → OwnOff ((fd, FD) :: led) [c, tp] → Fr h₀ L h' m →
      News h₀ L h' ((hd', D') :: (hx, instObj 68 hd') :: (c, listOf rvs.toArray n') :: (r, tupO [.str (Str.ofString "00") t, .ref tl, .ref hx]) :: (tl, LCg.lst tvs) :: (tp, TP) :: (fd, FD') :: led) → Q (.ref r) { s with heap := h', toks := tk' }) :
    wpAny (model PySem.Challenge.rw_pb0233_02.row.prog w) (ktrTop dp un gd cn cs L a ccd cl outer) (call (.ref 235) [.ref sx, .str (Str.ofString "output") tv, .ref rr]) Q E s := by
  have hS' := hS
  obtain ⟨t1, rfl⟩ := hS'
  have hm2 : Str.ofString "output" = Str.ofString "output" ∨ Str.ofString "output" = Str.ofString "extend" := .inl rfl
  refine wpAny_call ?_
  k_dflt (refine' code_defC ?k1 ?k2 ?k3 ?k4 ?k5 ?kA ?kF ?kK ?k6 ?k7 ?k8 ?k9 ?kB ?kN ?_ ?c2 ?c3 ?c4; (case kA => exact rfl); (case kF => exact rfl); (case kK => assumption); (case k1 => k_asm); (case k2 => k_asm); (case k3 => k_asm); (case k4 => k_asm); (case k5 => k_asm); (case k6 => k_is); (case k7 => k_is); (case k8 => ktr_room); (case k9 => exact BindsTo.of_eq rfl); (case kB => exact rfl); (case kN => decide); (case c2 => exact rfl); (case c3 => exact rfl); (case c4 => exact rfl); k_whole)
  intro g' L' h' tk' cells' FG' F' N' Y' B' X' T' l1
  k_cells Y'
  (try simp only [List.cons_append, List.nil_append] at N')
  (try dsimp only)
  (try k_fold)
  clear N
  have hof' : ∀ oq, OwnOff ((L' + 1, oq) :: led) [fd] := fun oq => ownOff_cons (fun b hb => by rw [List.mem_singleton.mp hb]; exact Nat.ne_of_gt (Nat.lt_succ_of_lt (l1 _ (.head _)))) hof
  iterate 46 (first | (k_unfold; (try dsimp only)) | (k_end; wrow_close) | walk1 | (dsimp only; walk1) | (leave1; walk_say "STEP leave1"; try dsimp only) | fail "no step")
  have e4 : @LT.lt Nat _ (L' + 1) c9 := l4 _ (.tail _ (.head _))
  have e6 : @LT.lt Nat _ (L' + 1) tp9 := Nat.lt_trans e4 l5
  have e1 : @LT.lt Nat _ (L' + 1) r9 := Nat.lt_trans e6 l6
  have e2 : @LT.lt Nat _ (L' + 1) d9 := Nat.lt_trans e1 (l7 _ (.head _))
  have e3 : @LT.lt Nat _ (L' + 1) x9 := Nat.lt_trans e2 l8
  have e7 : @LT.lt Nat _ fd (L' + 1) := Nat.lt_succ_of_lt (l1 _ (.head _))
  have e5 : ∀ p ∈ led, (p.1 : Addr) ≠ L' + 1 := fun p hp => Nat.ne_of_lt (Nat.lt_succ_of_lt (l1 p (.tail _ hp)))
  have q1 : ∀ p ∈ led, p.1 < c9 := fun p hp => l4 p (.tail _ (.tail _ hp))
  have q2 : ∀ p ∈ led, p.1 < d9 := fun p hp => l7 p (.tail _ (.tail _ (.tail _ (.tail _ (.tail _ hp)))))
  have q3 : @LT.lt Nat _ r9 d9 := l7 _ (.head _)
  have q4 : @LT.lt Nat _ c9 d9 := l7 _ (.tail _ (.head _))
  have q5 : @LT.lt Nat _ tp9 d9 := l7 _ (.tail _ (.tail _ (.head _)))
  have q6 : @LT.lt Nat _ fd d9 := l7 _ (.tail _ (.tail _ (.tail _ (.head _))))
  have q7 : @LT.lt Nat _ fd c9 := l4 _ (.head _)
  iterate 10 (first | (k_unfold; (try dsimp only)) | (k_end; wrow_close) | walk1 | (dsimp only; walk1) | (leave1; walk_say "STEP leave1"; try dsimp only) | fail "no step")
  rename News _ _ _ _ => N1
  obtain ⟨rest, hown, hsub, hcell, hx1, hc1, hxc, N2⟩ := ses_packO N1 (by intro p hp; simp only [List.mem_cons, List.not_mem_nil, or_false] at hp; rcases hp with rfl | rfl | rfl | rfl; exact q3; exact q4; exact q5; exact q6) e2 q2 l8 e4 q7 q1 l5 l6
  have hH' : Held g' led rr o := hH.imp (fun e => FG'.keep _ _ e) id
  have hH2 : Held g' rest rr o := hH'.mono (fun q hq => hsub q (.tail _ (.tail _ hq)))
  clear N1 hH hH'
  refine ⟨rr, o, rvs, _, rfl, rfl, by k_asm, N2, hH2.mono (fun q hq => .tail _ (.tail _ (.tail _ hq))), hO, ?len, ?_⟩
  case len => (rw [PySem.sizeLine_eq]; omega)
  rintro s₂ ⟨gg, rfl⟩
  refine comp_inv (WrInv w.params d9 x9 c9 (Str.ofString "output") [] rvs rest) ?fin ?turn _ _ _ _ (Nat.zero_add _) ?ini
  case ini => exact ⟨D9, n9, by simp only [List.take_zero, List.append_nil], hD9, Tells.nil⟩
  case turn =>
    clear N2 hD9
    rintro i ys news v I oI C oC D m₂ h tk E' hi ⟨D', n', rfl, hD', hTl⟩ hv1 hC hx F' N' off ne
    obtain ⟨b, t, hb, rfl⟩ := hB.get hv1
    have hr := off3_own (oI := oI) (oC := oC) (oD := LCg.lst ys) (adr := [d9, c9]) off (fun b hb => by
      simp only [List.mem_cons, List.not_mem_nil, or_false] at hb
      rcases hb with rfl | rfl
      · exact ⟨_, .head _⟩
      · exact ⟨_, .tail _ (.tail _ (.head _))⟩) hown
    have hvl : ([] ++ rvs.take i).length ≤ 100 := by rw [List.nil_append, List.length_take]; omega
    iterate 11 (first | (k_unfold; (try dsimp only)) | (k_end; wrow_close) | walk1 | (dsimp only; walk1) | (leave1; walk_say "STEP leave1"; try dsimp only) | fail "no step")
    rename News _ _ _ _ => N9
    rw [← wr_next hv1] at N9
    refine LCg.CompEnd.intro (by k_asm) N9 _ comp_sub ?off ?held ⟨_, _, rfl, hD8, hTl.snoc _⟩
    case off => exact off
    case held => exact hH2.mono (fun q hq => .tail _ (.tail _ (.tail _ hq)))
  case fin =>
    clear N2 hD9
    rintro ys news ⟨D', n', rfl, hD', hTl⟩
    rw [List.take_length, List.nil_append]
    k_steps
    rename News _ _ _ _ => N9
    rename (_ ≠ _ ∧ _) => o1
    rename (_ < _ ∧ _) => lr
    have hsl : ∀ q ∈ led, q ∈ rest := fun q hq => hsub q (.tail _ (.tail _ hq))
    have hfr : (fd, FD9) ∈ rest := hsub _ (.tail _ (.head _))
    have z1 := fun p hp => lt_all lr.2.2.2.2 p (hsl p hp)
    have z2 := lt_all lr.2.2.2.2 _ hfr
    have z3 := fun p hp => off1_mem2 o1.2.2.2 p (hsl p hp)
    have z4 := off1_mem2 o1.2.2.2 _ hfr
    refine post _ _ x9 d9 c9 tp9 D' TP9 FD9 n' ys t9 _ _ hF9 hT9 hD' hTl hx1 hc1 hxc (ses_off (Nat.ne_of_gt lr.2.1) (Nat.ne_of_gt lr.2.2.2.1) (Ne.symm o1.1) (Ne.symm o1.2.2.1) hown hsub) (new_off (List.forall_mem_cons.mpr ⟨q6, q2⟩) l8 (List.forall_mem_cons.mpr ⟨z2, z1⟩) (List.forall_mem_cons.mpr ⟨z4, z3⟩)) (ownOff_gt (List.forall_mem_cons.mpr ⟨q7, q1⟩) (ownOff_gt (List.forall_mem_cons.mpr ⟨Nat.lt_trans q7 l5, fun p hp => Nat.lt_trans (q1 p hp) l5⟩) ownOff_adr)) (by k_asm) (news_sub N9 (fun p hp => by
      simp only [List.mem_cons] at hp ⊢
      rcases hp with h | h | h | h | h | h | h | h
      · exact .inr (.inr (.inl h))
      · exact .inr (.inr (.inr (.inl h)))
      · exact .inr (.inr (.inr (.inr (.inl h))))
      · exact .inl h
      · exact .inr (.inl h)
      · exact .inr (.inr (.inr (.inr (.inr (hsub p (h ▸ .head _))))))
      · exact .inr (.inr (.inr (.inr (.inr (hsub p (h ▸ .tail _ (.head _)))))))
      · exact .inr (.inr (.inr (.inr (.inr (hsub p (.tail _ (.tail _ h)))))))))
end
theorem off_E8 : True := by
  w_top off
  k_with_none
  trivial
theorem wordsE8a : True := by
  k_with_none
  k_with "call ref" => (k_here; k_dflt (show wpAny _ _ (call (Value.ref 142) [Value.ref _, Value.str _ _]) _ _ _); k_dflt (refine' c_kind0 ?k1 ?k2 ?k3 ?k4 ?h1 ?h3 ?h4 ?k5 ?k6 ?k7 ?k8 ?kA ?kB ?kC ?_; (case k1 => k_asm); (case k2 => k_asm); (case k3 => k_asm); (case k4 => k_asm); (case k5 => k_asm); (case k6 => first | exact rfl | assumption); (case k7 => ktr_room); (case k8 => ktr_units); (case h3 => k_mem); (case kA => assumption); (case kB => assumption); (case kC => assumption); (case h1 => k_mem); (case h4 => k_mem); k_whole); intro t9 h' tk' F' N'; (try dsimp only); (try k_fold))
  trivial
section
variable {w : World} {p : Program} {loose : List Str} {mean : ExcName → Option Value} {mg mb : Str → Option Value}
    {dp un : Nat} {gd : Option (List Code)} {cn : Str} {cs : Scope} {a : Addr} {ccd : Value} {cl : List (Str × Addr)} {outer : List Env} {A₀ : Around} {base h₀ : Heap} {L : Addr} {m : Str → Option Value} {news n1 n2 rest led : List (Addr × Obj)} {s : Shared}
    {Q E : Value → Shared → Prop}
theorem c_lyA {sx sd fd : Addr} {SD FD : Obj}
    (B : Below A₀ base outer h₀) (F : Fr h₀ L s.heap m) (X : (Mine.hd2.heap_39 w.params).In h₀) (N : News h₀ L s.heap led) (h1 : (fd, FD) ∈ led) (h3 : (sx, instObj 190 sd) ∈ led) (h4 : (sd, SD) ∈ led) (T : Top p loose mean mg mb h₀) (hk : cs.kind = .function)
    (hd : dp + 60 < recursionLimit) (hu : un + 600 < cLine) (hS : IsSD w.params SD fd) (hf1 : Obj.IsDictOf (PySem.strKind PySem.Challenge.rw_pb0233_02.row.prog w) FD []) (hf2 : (fd == sysModules) = false)
    (post : ∀ h' tk', Fr h₀ L h' m → News h₀ L h' led → Q .none { s with heap := h', toks := tk' }) :
    wpAny (model PySem.Challenge.rw_pb0233_02.row.prog w) (ktrTop dp un gd cn cs L a ccd cl outer) (call (.ref 242) [.ref sx]) Q E s := by
  have hS' := hS
  obtain ⟨t1, rfl⟩ := hS'
  refine wpAny_call ?_
  k_dflt ktr_enter
  clear N
  k_steps
  rename News _ _ _ _ => N9
  exact post _ _ (by k_asm) N9
end
theorem wordsE8b : True := by
  k_with_none
  k_with "call ref" => (k_here; k_dflt (show wpAny _ _ (call (Value.ref 142) [Value.ref _, Value.str _ _]) _ _ _); k_dflt (refine' c_kind ?k1 ?k2 ?k3 ?k4 ?h1 ?h2 ?h3 ?h4 ?k5 ?k6 ?k7 ?k8 ?kA ?kB ?kC ?_; (case k1 => k_asm); (case k2 => k_asm); (case k3 => k_asm); (case k4 => k_asm); (case k5 => k_asm); (case k6 => first | exact rfl | assumption); (case k7 => ktr_room); (case k8 => ktr_units); (case h3 => k_mem); (case kA => assumption); (case kB => assumption); (case kC => assumption); (case h1 => k_mem); (case h2 => k_mem); (case h4 => k_mem); k_whole); intro t9 h' tk' F' N'; (try dsimp only); (try k_fold))
  k_with "call ref" => (k_here; k_dflt (show wpAny _ _ (call (Value.ref 175) [Value.ref _, Value.str _ _]) _ _ _); k_dflt (refine' c_rows ?k1 ?k2 ?k3 ?k4 ?h1 ?h2 ?h3 ?h4 ?h5 ?k5 ?k6 ?k7 ?k8 ?kv ?kA ?kB ?kC ?_; (case k1 => k_asm); (case k2 => k_asm); (case k3 => k_asm); (case k4 => k_asm); (case k5 => k_asm); (case k6 => first | exact rfl | assumption); (case k7 => ktr_room); (case k8 => ktr_units); (case h3 => k_mem); (case kA => assumption); (case kB => assumption); (case kC => assumption); (case h1 => k_mem); (case h2 => k_mem); (case h4 => k_mem); (case h5 => k_mem); (case kv => omega); k_whole); intro r9 h' tk' F' N' l9; (try dsimp only); (try k_fold))
  trivial
section
variable {w : World} {p : Program} {loose : List Str} {mean : ExcName → Option Value} {mg mb : Str → Option Value}
    {dp un : Nat} {gd : Option (List Code)} {cn : Str} {cs : Scope} {a : Addr} {ccd : Value} {cl : List (Str × Addr)} {outer : List Env} {A₀ : Around} {base h₀ : Heap} {L : Addr} {m : Str → Option Value} {news n1 n2 rest led : List (Addr × Obj)} {s : Shared}
    {Q E : Value → Shared → Prop}
theorem c_lyB {sx sd fd tp c : Addr} {SD FD TP : Obj} {vs : List Value} {n : Nat}
    (B : Below A₀ base outer h₀) (F : Fr h₀ L s.heap m) (X : (Mine.hd2.heap_39 w.params).In h₀) (N : News h₀ L s.heap led) (h1 : (fd, FD) ∈ led) (h2 : (tp, TP) ∈ led) (h3 : (sx, instObj 190 sd) ∈ led) (h4 : (sd, SD) ∈ led) (h5 : (c, listOf vs.toArray n) ∈ led) (T : Top p loose mean mg mb h₀) (hk : cs.kind = .function)
    (hd : dp + 80 < recursionLimit) (hu : un + 800 < cLine) (hv : vs.length ≤ 1000) (hS : IsSD w.params SD fd) (hF : IsFD w FD fd (Str.ofString "journal") tp) (hT : IsTP TP c)
    (post : ∀ r h' tk', Fr h₀ L h' m → News h₀ L h' ((r, tupO vs) :: led) → (∀ p ∈ led, p.1 < r) → Q (.ref r) { s with heap := h', toks := tk' }) :
    wpAny (model PySem.Challenge.rw_pb0233_02.row.prog w) (ktrTop dp un gd cn cs L a ccd cl outer) (call (.ref 242) [.ref sx]) Q E s := by
  have hS' := hS
  obtain ⟨t1, rfl⟩ := hS'
  refine wpAny_call ?_
  k_dflt ktr_enter
  clear N
  k_steps
  rename News _ _ _ _ => N9
  exact post _ _ _ (by k_asm) N9 l9
theorem p_readM {x dx c : Addr} {D : Obj} {vs : List Value} {R : List Bs} {n : Nat} {i l : Int} {v : Bool} {mode : Str}
    (B : Below A₀ base outer h₀) (F : Fr h₀ L s.heap m) (X : (Mine.hd2.heap_39 w.params).In h₀) (N : News h₀ L s.heap news) (p2 : Pick (dx, D) news rest) (hx : (x, instObj 68 dx) ∈ rest) (hc : (c, listOf vs.toArray n) ∈ rest) (T : Top p loose mean mg mb h₀) (hk : cs.kind = .function)
    (hd : dp + 20 < recursionLimit) (hu : un + 200 < cLine) (hD : IsRF w.params D c mode i v l) (hm : mode = Str.ofString "i-o" ∨ mode = Str.ofString "input")
    (hr : OwnOff rest [dx]) (h0 : 0 ≤ i) (hv : R.length ≤ 64) (hR : BAre vs R)
    (post : ∀ code by' i' v' l' D' r t t' h' tk', rd R i v = (code, by', i', v', l') → IsRF w.params D' c mode i' v' l' → Fr h₀ L h' m → News h₀ L h' ((r, tupO [.str code t, .bytes by' t']) :: (dx, D') :: rest) →
      (∀ p ∈ (dx, D') :: rest, p.1 < r) → Q (.ref r) { s with heap := h', toks := tk' }) :
    wpAny (model PySem.Challenge.rw_pb0233_02.row.prog w) (ktrTop dp un gd cn cs L a ccd cl outer) (call (.ref 44) [.ref x]) Q E s := by
  have N1 := p2.news N
  refine c_read (n := n) (vs := vs) (rest := rest) B F X (fun q hq => ?_) T hk hd hu hD hm hr (hr _ hx _ (.head _)) (hr _ hc _ (.head _)) h0 hv hR (fun code by' i' v' l' D' r t t' h' tk' e hD' F' N' l => post code by' i' v' l' D' r t t' h' tk' e hD' F' (fun q hq => N' q ?_) (fun q hq => l q ?_))
  · simp only [List.mem_cons] at hq
    rcases hq with h | h | h | h
    · exact N1 _ (h ▸ .head _)
    · exact N1 _ (h ▸ .tail _ hx)
    · exact N1 _ (h ▸ .tail _ hc)
    · exact N1 _ (.tail _ h)
  · simp only [List.mem_cons] at hq ⊢
    rcases hq with h | h | h
    · exact .inl h
    · exact .inr (.inl h)
    · exact .inr (.inr (.inr (.inr h)))
  · simp only [List.mem_cons] at hq ⊢
    rcases hq with h | h
    · exact .inl h
    · exact .inr (.inr (.inr h))
end
theorem wordsE8c : True := by
  k_with_none
  k_with "call ref" => (k_here; k_dflt (show wpAny _ _ (call (Value.ref 149) [Value.ref _, Value.str _ _]) _ _ _); k_dflt (refine' c_content ?k1 ?k2 ?k3 ?k4 ?h1 ?h2 ?h3 ?h4 ?k5 ?k6 ?k7 ?k8 ?kA ?kB ?kC ?_; (case k1 => k_asm); (case k2 => k_asm); (case k3 => k_asm); (case k4 => k_asm); (case k5 => k_asm); (case k6 => first | exact rfl | assumption); (case k7 => ktr_room); (case k8 => ktr_units); (case h3 => k_mem); (case kA => assumption); (case kB => assumption); (case kC => assumption); (case h1 => k_mem); (case h2 => k_mem); (case h4 => k_mem); k_whole); intro h' tk' F' N'; (try dsimp only); (try k_fold))
  k_with "call ref" => (k_here; k_dflt (show wpAny _ _ (call (Value.ref 68) [Value.ref _, Value.str _ _]) _ _ _); k_dflt (refine' c_rfN ?k1 ?k2 ?k3 ?k4 ?k5 ?k6 ?k7 ?k8 ?km ?_; (case k1 => k_asm); (case k2 => k_asm); (case k3 => k_asm); (case k4 => k_asm); (case k5 => k_asm); (case k6 => first | exact rfl | assumption); (case k7 => ktr_room); (case k8 => ktr_units); (case km => assumption); k_whole); intro x9 d9 D9 h' tk' hD9 F' N' l7 l8; (try dsimp only); (try k_fold))
  k_with "call ref" => (k_here; k_dflt (show wpAny _ _ (call (Value.ref 44) [Value.ref _]) _ _ _); k_dflt (refine' p_readM ?k1 ?k2 ?k3 ?k4 ?p2 ?hx ?hc ?k5 ?k6 ?k7 ?k8 ?kD ?km ?kr ?k0 ?kv ?kR ?_; (case k1 => k_asm); (case k2 => k_asm); (case k3 => k_asm); (case k4 => k_asm); (case k5 => k_asm); (case k6 => first | exact rfl | assumption); (case k7 => ktr_room); (case k8 => ktr_units); (case kD => assumption); (case p2 => ktr_unf); (case hx => k_mem); (case kR => exact hR); (case hc => k_mem); (case km => exact Or.inr rfl); (case kr => first | assumption | exact hod2 _); (case k0 => omega); (case kv => omega); k_whole); intro cd8 by8 i8 v8 l8' D8 r8 t8 u8 h' tk' e8 hD8 F' N' z8; (try dsimp only); (try k_fold))
  k_with "newList" => (k_here; k_dflt (refine' newList_K ?k1 ?k2 ?_; (case k1 => k_asm); (case k2 => k_asm); k_whole); intro f9 h' F' N' lf9; (try k_lt lf9))
  k_with "call builtin:list.append" => (k_here; (with_reducible show wpAny _ _ (call (Value.builtin _) [Value.ref _, _]) _ _ _); k_dflt (refine' append_K ?k1 ?k2 ?k3 ?_ ?z; (case k1 => k_asm); (case k2 => k_asm); (case k3 => k_upd); (case z => (simp only [List.size_toArray, PySem.sizeLine_eq]; omega)); k_whole); intro h' F' N'; (try k_sweep))
  k_with "call type:tuple" => (k_here; (with_reducible show wpAny _ _ (call (Value.type _) [Value.ref _]) _ _ _); k_dflt (refine' kde_tupleOf ?k1 ?k2 ?k3 ?k4 ?k5 ?_; (case k1 => k_asm); (case k2 => k_asm); (case k3 => exact News.isList (by k_asm) (by k_mem)); (case k4 => (simp only [List.size_toArray]; omega)); (case k5 => exact rfl); k_whole); intro g9 h' F' N' lg9)
  trivial
section
variable {w : World} {p : Program} {loose : List Str} {mean : ExcName → Option Value} {mg mb : Str → Option Value}
    {dp un : Nat} {gd : Option (List Code)} {cn : Str} {cs : Scope} {a : Addr} {ccd : Value} {cl : List (Str × Addr)} {outer : List Env} {A₀ : Around} {base h₀ : Heap} {L : Addr} {m : Str → Option Value} {news n1 n2 rest led : List (Addr × Obj)} {s : Shared}
    {Q E : Value → Shared → Prop}
theorem rd_nat {R : List Bs} {j : Nat} {cd : Str} {b : Bs} {i l : Int} {v : Bool} (h : rd R (j : Int) true = (cd, b, i, v, l)) : (cd = Str.ofString "00" ∧ j < R.length ∧ b = R.getD j #[] ∧ i = (j : Int) + 1 ∧ v = true) ∨ (cd = Str.ofString "10" ∧ R.length ≤ j) := by
  unfold rd at h
  rw [if_neg (by decide)] at h
  by_cases hj : (R.length : Int) ≤ (j : Int)
  · rw [if_pos hj] at h
    simp only [Prod.mk.injEq] at h
    exact .inr ⟨h.1.symm, by omega⟩
  · rw [if_neg hj] at h
    simp only [Prod.mk.injEq] at h
    exact .inl ⟨h.1.symm, by omega, by simpa using h.2.1.symm, h.2.2.1.symm, h.2.2.2.1.symm⟩
theorem map_two {a b : Str} (hab : a ≠ b) {x y : Option Value} {m m' : Str → Option Value} (h : ∀ z, z ≠ a → z ≠ b → m' z = m z) : (fun z => if z = b then x else if z = a then y else m' z) = fun z => if z = a then y else if z = b then x else m z := by
  funext z
  by_cases h1 : z = a
  · subst h1
    rw [if_neg hab, if_pos rfl, if_pos rfl]
  · by_cases h2 : z = b
    · subst h2
      rw [if_pos rfl, if_neg h1, if_pos rfl]
    · rw [if_neg h2, if_neg h1, if_neg h1, if_neg h2, h z h1 h2]
theorem map_same {a b : Str} (hab : a ≠ b) {x y : Option Value} {m : Str → Option Value} : (fun z => if z = b then x else if z = a then y else m z) = fun z => if z = a then y else if z = b then x else (fun z => if z = b then x else if z = a then y else m z) z := by
  funext z
  by_cases h1 : z = a
  · subst h1
    simp [hab]
  · by_cases h2 : z = b
    · subst h2
      simp [h1]
    · simp [h1, h2]
theorem bare_snoc {us : List Value} {R : List Bs} {k : Nat} {b : Bs} {u : Tok} (h : BAre us (R.take k)) (hk : k < R.length) (hb : b = R.getD k #[]) : BAre (us ++ [.bytes b u]) (R.take (k + 1)) := by
  have e : R[k]? = some b := by rw [hb, List.getElem?_eq_getElem hk]; simp [List.getD_eq_getElem?_getD, hk]
  rw [List.take_add_one, e]
  exact h.append (.one b u)
def RtInv (P : Params) (m : Str → Option Value) (f d c : Addr) (rest0 : List (Addr × Obj)) (R : List Bs) (n : Nat) (m₁ : Str → Option Value) (nw : List (Addr × Obj)) : Prop :=
  ∃ us nf D code b t u i v l rest, nw = (f, listOf us.toArray nf) :: (d, D) :: rest ∧ IsRF P D c (Str.ofString "input") i v l ∧ OwnOff rest [f] ∧ OwnOff rest [d] ∧ (∀ q ∈ rest0, q ∈ rest) ∧
    (m₁ = fun y => if y = Str.ofString "status" then some (Value.str code t) else if y = Str.ofString "row" then some (Value.bytes b u) else m y) ∧
    ((code = Str.ofString "00" ∧ ∃ k, n = R.length - k ∧ k < R.length ∧ BAre us (R.take k) ∧ b = R.getD k #[] ∧ i = (k : Int) + 1 ∧ v = true) ∨ (code = Str.ofString "10" ∧ n = 0 ∧ BAre us R))
theorem rt_loop {prog : Program} {w : World} {A : Around} {E : Value → Shared → Prop} {Q : Flow → Shared → Prop} {s : Shared} {env : Env} {h₀ : Heap} {L : Addr} {test : PySem.Expr} {body : List Stmt} {pos : Pos} {m : Str → Option Value} {news : List (Addr × Obj)} (P : Params) (f d c : Addr) (rest0 : List (Addr × Obj)) (R : List Bs)
    (F : Fr h₀ L s.heap m) (N : News h₀ L s.heap news) (hJ : RtInv P m f d c rest0 R R.length m news ∨ RtInv P m f d c rest0 R 0 m news)
    (turn : ∀ n m₁ news₁ h₁ tk₁, Fr h₀ L h₁ m₁ → News h₀ L h₁ news₁ → RtInv P m f d c rest0 R n m₁ news₁ →
      wpAny (model prog w) A (isTrue test env (eval test env)) (fun b s₂ =>
        if b = true then wpAny (model prog w) A (execs body env) (WhileStep2 h₀ L s (RtInv P m f d c rest0 R) Q n) E s₂ else Q .next s₂) E { s with heap := h₁, toks := tk₁ })
    (hE : PassesOwn (model prog w) A env E := by passes_own) :
    wpAny (model prog w) A (exec (.While test body [] pos) env) Q E s := by
  rcases hJ with hJ | hJ
  · exact While_inv2 _ F N hJ turn hE
  · exact While_inv2 _ F N hJ turn hE
theorem ws_next {h₀ h' : Heap} {L : Addr} {s : Shared} {J : Nat → (Str → Option Value) → List (Addr × Obj) → Prop} {Q : Flow → Shared → Prop} {n n' tk : Nat} {m₂ : Str → Option Value} {news₂ : List (Addr × Obj)}
    (F : Fr h₀ L h' m₂) (N : News h₀ L h' news₂) (hn : n' < n) (hJ : J n' m₂ news₂) : WhileStep2 h₀ L s J Q n .next { s with heap := h', toks := tk } := ⟨h', tk, m₂, news₂, n', rfl, F, N, hn, hJ⟩
theorem rt_ord {h₀ h : Heap} {L r d f : Addr} {og od of : Obj} {rest : List (Addr × Obj)} (N : News h₀ L h ((r, og) :: (d, od) :: (f, of) :: rest)) : News h₀ L h ((f, of) :: (d, od) :: (r, og) :: rest) := fun p hp => N p (by
  simp only [List.mem_cons] at hp ⊢
  rcases hp with h | h | h | h
  · exact .inr (.inr (.inl h))
  · exact .inr (.inl h)
  · exact .inl h
  · exact .inr (.inr (.inr h)))
theorem rt_pack {h₀ h : Heap} {L t f x d : Addr} {ot of ox od : Obj} {led : List (Addr × Obj)} (N : News h₀ L h ((t, ot) :: (f, of) :: (x, ox) :: (d, od) :: led)) (hf : @LT.lt Nat _ x f ∧ @LT.lt Nat _ d f ∧ AllLt f led) (ht : @LT.lt Nat _ f t ∧ @LT.lt Nat _ x t ∧ @LT.lt Nat _ d t ∧ AllLt t led) (l7 : ∀ p ∈ led, p.1 < d) (l8 : @LT.lt Nat _ d x) :
    ∃ rest, OwnOff rest [f] ∧ OwnOff rest [d] ∧ @Ne Nat d f ∧ (x, ox) ∈ rest ∧ (∀ q ∈ led, q ∈ rest) ∧ News h₀ L h ((f, of) :: (d, od) :: rest) := by
  refine ⟨(t, ot) :: (x, ox) :: led, ownOff_cons (fun b hb => ?_) (ownOff_cons (fun b hb => ?_) (ownOff_gt (lt_all hf.2.2) ownOff_adr)), ownOff_cons (fun b hb => ?_) (ownOff_cons (fun b hb => ?_) (ownOff_gt l7 ownOff_adr)), Nat.ne_of_lt hf.2.1, .tail _ (.head _), fun q hq => .tail _ (.tail _ hq), fun p hp => N p ?_⟩
  · rw [List.mem_singleton.mp hb]; exact Nat.ne_of_gt ht.1
  · rw [List.mem_singleton.mp hb]; exact Nat.ne_of_lt hf.1
  · rw [List.mem_singleton.mp hb]; exact Nat.ne_of_gt ht.2.2.1
  · rw [List.mem_singleton.mp hb]; exact Nat.ne_of_gt l8
  · simp only [List.mem_cons] at hp ⊢
    rcases hp with h | h | h | h | h
    · exact .inr (.inl h)
    · exact .inr (.inr (.inr (.inl h)))
    · exact .inl h
    · exact .inr (.inr (.inl h))
    · exact .inr (.inr (.inr (.inr h)))
theorem c_rt {sx sd fd tp c : Addr} {SD FD TP : Obj} {vs : List Value} {n : Nat} {R : List Bs}
    (B : Below A₀ base outer h₀) (F : Fr h₀ L s.heap m) (X : (Mine.hd2.heap_39 w.params).In h₀) (N : News h₀ L s.heap led) (h1 : (fd, FD) ∈ led) (h2 : (tp, TP) ∈ led) (h3 : (sx, instObj 190 sd) ∈ led) (h4 : (sd, SD) ∈ led) (h5 : (c, listOf vs.toArray n) ∈ led) (T : Top p loose mean mg mb h₀) (hk : cs.kind = .function)
    (hd : dp + 80 < recursionLimit) (hu : un + 800 < cLine) (hR : BAre vs R) (hv : R.length ≤ 64) (hS : IsSD w.params SD fd) (hF : IsFD w FD fd (Str.ofString "journal") tp) (hT : IsTP TP c)
    (post : ∀ r fr us t h' tk', BAre us R → Fr h₀ L h' m → News h₀ L h' ((r, tupO [.str (Str.ofString "10") t, .ref fr]) :: (fr, tupO us) :: led) → OwnOff led [r, fr] → Q (.ref r) { s with heap := h', toks := tk' }) :
    wpAny (model PySem.Challenge.rw_pb0233_02.row.prog w) (ktrTop dp un gd cn cs L a ccd cl outer) (call (.ref 249) [.ref sx]) Q E s := by
  have hS' := hS
  obtain ⟨t1, rfl⟩ := hS'
  have hm : NotOut (Str.ofString "input") := .inr (.inl rfl)
  refine wpAny_call ?_
  k_dflt ktr_enter
  clear N
  iterate 46 (first | (k_unfold; (try dsimp only)) | (k_end; wrow_close) | walk1 | (dsimp only; walk1) | (leave1; walk_say "STEP leave1"; try dsimp only) | fail "no step")
  rename (@LT.lt Nat _ f9 _ ∧ _) => lt9
  rename News _ _ _ _ => N1
  obtain ⟨rest, hof, hod, hdf, hx, hsub, N2⟩ := rt_pack N1 lf9 lt9 l7 l8
  have h5' := hsub _ h5
  clear N1
  have hod2 : ∀ oq, OwnOff ((f9, oq) :: rest) [d9] := fun oq => ownOff_cons (fun b hb => by rw [List.mem_singleton.mp hb]; exact Ne.symm hdf) hod
  have hlen := hR.length
  iterate 12 (first | (k_unfold; (try dsimp only)) | (k_end; wrow_close) | walk1 | (dsimp only; walk1) | (leave1; walk_say "STEP leave1"; try dsimp only) | fail "no step")
  rename Fr _ _ _ _ => F3
  rename News _ _ _ _ => N3
  replace N3 := rt_ord N3
  refine rt_loop w.params f9 d9 c rest R F3 N3 ?ini ?turn
  case ini =>
    have ho1 : ∀ og, OwnOff ((r8, og) :: rest) [f9] := fun og => ownOff_cons (fun b hb => by rw [List.mem_singleton.mp hb]; exact Nat.ne_of_gt (z8 _ (.tail _ (.head _)))) hof
    have ho2 : ∀ og, OwnOff ((r8, og) :: rest) [d9] := fun og => ownOff_cons (fun b hb => by rw [List.mem_singleton.mp hb]; exact Nat.ne_of_gt (z8 _ (.head _))) hod
    rcases rd_nat (j := 0) e8 with ⟨rfl, hk, rfl, rfl, rfl⟩ | ⟨rfl, hk⟩
    · exact .inl ⟨[], 0, D8, Str.ofString "00", R.getD 0 #[], t8, u8, ((0 : Nat) : Int) + 1, true, _, _, rfl, hD8, ho1 _, ho2 _, fun q hq => .tail _ hq, map_same (by decide), .inl ⟨rfl, 0, by omega, hk, .nil, rfl, rfl, rfl⟩⟩
    · have e0 : R = [] := List.length_eq_zero_iff.mp (by omega)
      exact .inr ⟨[], 0, D8, Str.ofString "10", by8, t8, u8, i8, v8, _, _, rfl, hD8, ho1 _, ho2 _, fun q hq => .tail _ hq, map_same (by decide), .inr ⟨rfl, rfl, e0 ▸ .nil⟩⟩
  case turn =>
    clear F3 N3
    rintro n1 m₁ news₁ h₁ tk₁ F₁ N₁ ⟨us, nf, D, code, b, t, u, i, v, l, rest', rfl, hD, ho1, ho2, hs, rfl, hcase⟩
    rcases hcase with ⟨rfl, k, rfl, hk, hus, rfl, rfl, rfl⟩ | ⟨rfl, rfl, hus⟩
    · have hul : us.length = k := by rw [hus.length, List.length_take]; omega
      have hx2 := hs _ hx
      have hc2 := hs _ h5'
      have hod2 : ∀ oq, OwnOff ((f9, oq) :: rest') [d9] := fun oq => ownOff_cons (fun b hb => by rw [List.mem_singleton.mp hb]; exact Ne.symm hdf) ho2
      have hof2 : ∀ p ∈ rest', (p.1 : Addr) ≠ f9 := fun p hp => ho1 p hp _ (.head _)
      clear e8 hD8 z8
      k_steps
      rename Fr _ _ _ _ => F9
      rename News _ _ _ _ => N9
      replace N9 := rt_ord N9
      rw [List.push_toArray] at N9
      have ho3 : ∀ og, OwnOff ((r8, og) :: rest') [f9] := fun og => ownOff_cons (fun b hb => by rw [List.mem_singleton.mp hb]; exact Nat.ne_of_gt (z8 _ (.tail _ (.head _)))) ho1
      have ho4 : ∀ og, OwnOff ((r8, og) :: rest') [d9] := fun og => ownOff_cons (fun b hb => by rw [List.mem_singleton.mp hb]; exact Nat.ne_of_gt (z8 _ (.head _))) ho2
      rcases rd_nat (j := k + 1) e8 with ⟨rfl, hk2, rfl, rfl, rfl⟩ | ⟨rfl, hk2⟩
      · exact ws_next F9 N9 (n' := R.length - (k + 1)) (by omega) ⟨_, _, D8, Str.ofString "00", R.getD (k + 1) #[], t8, u8, _, true, _, _, rfl, hD8, ho3 _, ho4 _, fun q hq => .tail _ (hs q hq), map_two (by decide) (fun z z1 z2 => (if_neg z1).trans (if_neg z2)), .inl ⟨rfl, k + 1, rfl, hk2, bare_snoc hus hk rfl, rfl, rfl, rfl⟩⟩
      · have e0 : R.take (k + 1) = R := List.take_of_length_le (by omega)
        have hus2 := bare_snoc (u := u) hus hk rfl
        rw [e0] at hus2
        exact ws_next F9 N9 (n' := 0) (by omega) ⟨_, _, D8, Str.ofString "10", by8, t8, u8, i8, v8, _, _, rfl, hD8, ho3 _, ho4 _, fun q hq => .tail _ (hs q hq), map_two (by decide) (fun z z1 z2 => (if_neg z1).trans (if_neg z2)), .inr ⟨rfl, rfl, hus2⟩⟩
    · have hul : us.length = R.length := hus.length
      k_steps
      rename News _ _ _ _ => N9
      rename (_ < _ ∧ _) => lr
      refine post _ _ us t _ _ hus (by k_asm) (news_sub N9 (fun p hp => by
        simp only [List.mem_cons] at hp ⊢
        rcases hp with h | h | h
        · exact .inl h
        · exact .inr (.inl h)
        · exact .inr (.inr (.inr (.inr (hs p (hsub p h))))))) (ownOff_gt (fun p hp => lt_all lr.2.2.2 p (hs p (hsub p hp))) (ownOff_gt (fun p hp => lg9 p (.tail _ (.tail _ (hs p (hsub p hp))))) ownOff_adr))
end
theorem off_E11 : True := by
  w_top off
  k_with_none
  trivial
def lstep (ly : Option (List Bs)) (x : Str × List Bs) : Option (List Bs) :=
  if x.1 = Str.ofString "output" then some x.2 else
  match ly with
  | none => none
  | some R => if x.1 = Str.ofString "extend" then some (R ++ x.2) else some R
def leftsOf : Option (List Bs) → List (Str × List Bs) → List (Option (List Bs))
  | _, [] => []
  | ly, x :: xs => lstep ly x :: leftsOf (lstep ly x) xs
theorem leftsOf_get : ∀ (xs : List (Str × List Bs)) (ly : Option (List Bs)) (i : Nat), i < xs.length → (leftsOf ly xs)[i]? = some ((xs.take (i + 1)).foldl lstep ly)
  | x :: xs, ly, 0, _ => rfl
  | x :: xs, ly, i + 1, h => by
    have := leftsOf_get xs (lstep ly x) i (by simpa using h)
    simpa [leftsOf] using this
theorem leftsOf_len : ∀ (xs : List (Str × List Bs)) (ly : Option (List Bs)), (leftsOf ly xs).length = xs.length
  | [], _ => rfl
  | x :: xs, ly => by simp [leftsOf, leftsOf_len xs]
def ItemAt (h₀ : Heap) (led : List (Addr × Obj)) (v : Value) (x : Str × List Bs) : Prop :=
  ∃ it oi rr orr rvs t, v = .ref it ∧ Held h₀ led it oi ∧ oi.cls = .type "tuple" ∧ (∃ n, oi.data = .seq [Value.str x.1 t, .ref rr].toArray n) ∧ Held h₀ led rr orr ∧ SeqO orr rvs ∧ BAre rvs x.2
def LeftAt (h₀ : Heap) (led : List (Addr × Obj)) (v : Value) : Option (List Bs) → Prop
  | none => v = .none
  | some R => ∃ a o us, v = .ref a ∧ Held h₀ led a o ∧ o.cls = .type "tuple" ∧ (∃ n, o.data = .seq us.toArray n) ∧ BAre us R
inductive All2 {α β : Type} (P : α → β → Prop) : List α → List β → Prop
  | nil : All2 P [] []
  | cons {a b as bs} : P a b → All2 P as bs → All2 P (a :: as) (b :: bs)
theorem All2.length {α β : Type} {P : α → β → Prop} {as : List α} {bs : List β} (h : All2 P as bs) : as.length = bs.length := by
  induction h with
  | nil => rfl
  | cons _ _ ih => simp [ih]
theorem All2.get {α β : Type} {P : α → β → Prop} {as : List α} {bs : List β} (h : All2 P as bs) : ∀ {i : Nat} {b : β}, bs[i]? = some b → ∃ a, as[i]? = some a ∧ P a b := by
  induction h with
  | nil => intro i b e; simp at e
  | cons p _ ih =>
    intro i b e
    cases i with
    | zero => simp at e; subst e; exact ⟨_, by simp, p⟩
    | succ i => simp at e; simpa using ih e
def IsMode (m : Str) : Prop := m = Str.ofString "output" ∨ m = Str.ofString "extend" ∨ m = Str.ofString "input" ∨ m = Str.ofString "i-o"
def stAt : Str := Str.ofString "at"
def StInv (w : World) (ce fd : Addr) (led0 : List (Addr × Obj)) (items : List (Str × List Bs)) (m₀ : Str → Option Value) (i : Nat) (m : Str → Option Value) (nx : List (Addr × Obj)) : Prop :=
  ∃ oc ev, (∃ x, oc.data = .cell x) ∧ m (Str.ofString "elder") = some ev ∧ (∀ z, z ≠ Str.ofString "at" → z ≠ Str.ofString "elder" → [Str.ofString "rows", Str.ofString "status", Str.ofString "told", Str.ofString "handle"].contains z = false → m z = m₀ z) ∧
    (((items.take i).foldl lstep none = none ∧ ev = Value.none ∧ ∃ FD rst, nx = (ce, oc) :: (fd, FD) :: rst ∧ Obj.IsDictOf (PySem.strKind PySem.Challenge.rw_pb0233_02.row.prog w) FD [] ∧ OwnOff rst [fd] ∧ OwnOff rst [ce] ∧ @Ne Nat fd ce ∧ ∀ q ∈ led0, q ∈ rst) ∨
     (∃ R c vs n hd hx D tp TP FD md rst, (items.take i).foldl lstep none = some R ∧ ev = Value.ref hx ∧ nx = (ce, oc) :: (hd, D) :: (c, listOf vs.toArray n) :: (fd, FD) :: rst ∧ BAre vs R ∧ R.length ≤ 4 * i ∧ IsFD w FD fd (Str.ofString "journal") tp ∧ IsTP TP c ∧ (tp, TP) ∈ rst ∧ (hx, instObj 68 hd) ∈ rst ∧
        IsRF w.params D c md 0 true (-1) ∧ (md = Str.ofString "output" ∨ md = Str.ofString "extend") ∧ OwnOff rst [hd] ∧ OwnOff rst [c] ∧ OwnOff rst [fd] ∧ OwnOff rst [ce] ∧ @Ne Nat c hd ∧ @Ne Nat fd hd ∧ @Ne Nat fd c ∧ @Ne Nat hd ce ∧ @Ne Nat c ce ∧ @Ne Nat fd ce ∧ ∀ q ∈ led0, q ∈ rst))
theorem story_loop {prog : Program} {w₁ : World} {A : Around} {E : Value → Shared → Prop} {s : Shared} {env : Env} {h₀ : Heap} {body : List Stmt} {Q : Flow → Shared → Prop} {r : Addr} {b₀ : Int} {t₀ u₀ v₀ : Tok} {m₀ : Str → Option Value} {news : List (Addr × Obj)} (w : World) (ce fd : Addr) (led0 : List (Addr × Obj)) (items : List (Str × List Bs))
    (hh : A.handled = none) (hr : IsRange s.heap r 0 b₀ 1 t₀ u₀ v₀) (hb : b₀ = (items.length : Int)) (hlen : items.length ≤ 9) (F : Fr h₀ env.locals s.heap m₀) (N : News h₀ env.locals s.heap news) (hj : StInv w ce fd led0 items m₀ 0 m₀ news)
    (turn : ∀ i t m₁ nx h tk own, i < items.length → OwnOff own (nx.map (·.1)) → StInv w ce fd led0 items m₀ i m₁ nx → Fr h₀ env.locals h (fun y => if y = Str.ofString "at" then some (.int (i : Int) t) else m₁ y) → News h₀ env.locals h (nx ++ own) →
      wpAny (model prog w₁) A (execs body env) (InvPostG h₀ env.locals (StInv w ce fd led0 items m₀ (i + 1)) own { s with heap := h, toks := tk } Q) E { s with heap := h, toks := tk })
    (done : ∀ m₁ nx h tk, StInv w ce fd led0 items m₀ items.length m₁ nx → Fr h₀ env.locals h m₁ → News h₀ env.locals h nx → Q .next { s with heap := h, toks := tk }) :
    wpAny (model prog w₁) A (pyIter (.ref r)) (fun it s₂ => LoopAtV prog w₁ A h₀ env (Str.ofString "at") body Q E it s₂) E s := by
  subst hb
  exact rng_iter (n := items.length) (StInv w ce fd led0 items m₀) hh hr (small_one (by omega) (by omega) (by omega) (by omega)) (by rw [rangeSize_nat]; simp) F N hj turn done
theorem st_map {m₁ m₀ : Str → Option Value} {ev : Value} {v : Option Value} (h1 : m₁ (Str.ofString "elder") = some ev) (h2 : ∀ z, z ≠ Str.ofString "at" → z ≠ Str.ofString "elder" → [Str.ofString "rows", Str.ofString "status", Str.ofString "told", Str.ofString "handle"].contains z = false → m₁ z = m₀ z) :
    (fun y => if y = Str.ofString "at" then v else m₁ y) = fun y => if y = Str.ofString "at" then v else if y = Str.ofString "elder" then some ev else if y = Str.ofString "rows" then m₁ (Str.ofString "rows") else if y = Str.ofString "status" then m₁ (Str.ofString "status") else if y = Str.ofString "told" then m₁ (Str.ofString "told") else if y = Str.ofString "handle" then m₁ (Str.ofString "handle") else m₀ y := by
  funext y
  by_cases a1 : y = Str.ofString "at"
  · rw [if_pos a1, if_pos a1]
  · rw [if_neg a1, if_neg a1]
    by_cases a2 : y = Str.ofString "elder"
    · rw [if_pos a2, a2, h1]
    · rw [if_neg a2]
      by_cases a3 : y = Str.ofString "rows"
      · rw [if_pos a3, a3]
      · rw [if_neg a3]
        by_cases a4 : y = Str.ofString "status"
        · rw [if_pos a4, a4]
        · rw [if_neg a4]
          by_cases a5 : y = Str.ofString "told"
          · rw [if_pos a5, a5]
          · rw [if_neg a5]
            by_cases a6 : y = Str.ofString "handle"
            · rw [if_pos a6, a6]
            · rw [if_neg a6]
              exact h2 y a1 a2 (by simp [a3, a4, a5, a6])
theorem st_off {z : Str} (h3 : [Str.ofString "rows", Str.ofString "status", Str.ofString "told", Str.ofString "handle"].contains z = false) : z ≠ Str.ofString "rows" ∧ z ≠ Str.ofString "status" ∧ z ≠ Str.ofString "told" ∧ z ≠ Str.ofString "handle" := by
  refine ⟨?_, ?_, ?_, ?_⟩ <;> (rintro rfl; exact absurd h3 (by decide))
theorem own_split {a : Addr × Obj} {l own : List (Addr × Obj)} (h : OwnOff own ((a :: l).map (·.1))) : (∀ p ∈ own, @Ne Nat p.1 a.1) ∧ OwnOff own (l.map (·.1)) := ⟨fun p hp => h p hp _ (.head _), fun p hp b hb => h p hp b (.tail _ hb)⟩
theorem ownOff_app {l own : List (Addr × Obj)} {b : Addr} (h : OwnOff l [b]) (g : ∀ p ∈ own, @Ne Nat p.1 b) : OwnOff (l ++ own) [b] := by
  intro q hq c hc
  rw [List.mem_singleton.mp hc]
  rcases List.mem_append.mp hq with hq | hq
  · exact h q hq _ (.head _)
  · exact g q hq
theorem items_mem {items : List (Str × List Bs)} {i : Nat} (hi : i < items.length) : ∃ x, items[i]? = some x ∧ x ∈ items := ⟨items[i], List.getElem?_eq_getElem hi, List.getElem_mem hi⟩
theorem take_step {items : List (Str × List Bs)} {i : Nat} {x : Str × List Bs} (h : items[i]? = some x) : (items.take (i + 1)).foldl lstep none = lstep ((items.take i).foldl lstep none) x := by
  rw [List.take_add_one, h]
  simp
theorem Held.base {h₀ g : Heap} {led : List (Addr × Obj)} {a : Addr} {o : Obj} (h : Held h₀ led a o) (hk : ∀ b o, h₀.get? b = some o → g.get? b = some o) : Held g led a o := Or.imp (hk _ _) id h
theorem ItemAt.mono {h₀ g : Heap} {led led' : List (Addr × Obj)} {v : Value} {x : Str × List Bs} (hk : ∀ b o, h₀.get? b = some o → g.get? b = some o) (hs : ∀ q ∈ led, q ∈ led') (h : ItemAt h₀ led v x) : ItemAt g led' v x := by
  obtain ⟨it, oi, rr, orr, rvs, t, e, h1, h2, h3, h4, h5, h6⟩ := h
  exact ⟨it, oi, rr, orr, rvs, t, e, (h1.base hk).mono hs, h2, h3, (h4.base hk).mono hs, h5, h6⟩
theorem LeftAt.mono {h₀ g : Heap} {led led' : List (Addr × Obj)} {v : Value} {y : Option (List Bs)} (hk : ∀ b o, h₀.get? b = some o → g.get? b = some o) (hs : ∀ q ∈ led, q ∈ led') (h : LeftAt h₀ led v y) : LeftAt g led' v y := by
  cases y with
  | none => exact h
  | some R =>
    obtain ⟨a, o, us, e, h1, h2⟩ := h
    exact ⟨a, o, us, e, (h1.base hk).mono hs, h2⟩
theorem st_ord {h₀ h : Heap} {L t f x d e : Addr} {ot of ox od oe : Obj} {led : List (Addr × Obj)} (N : News h₀ L h ((t, ot) :: (f, of) :: (x, ox) :: (d, od) :: (e, oe) :: led)) : News h₀ L h ((e, oe) :: (f, of) :: (x, ox) :: (d, od) :: led) := fun p hp => N p (by
  simp only [List.mem_cons] at hp ⊢
  rcases hp with h | h | h | h | h
  · exact .inr (.inr (.inr (.inr (.inl h))))
  · exact .inr (.inl h)
  · exact .inr (.inr (.inl h))
  · exact .inr (.inr (.inr (.inl h)))
  · exact .inr (.inr (.inr (.inr (.inr h)))))
theorem p_sesO {w : World} {p : Program} {loose : List Str} {mean : ExcName → Option Value} {mg mb : Str → Option Value}
    {dp un : Nat} {gd : Option (List Code)} {cn : Str} {cs : Scope} {a : Addr} {ccd : Value} {cl : List (Str × Addr)} {outer : List Env} {A₀ : Around} {base h₀ : Heap} {L : Addr} {m : Str → Option Value} {news led ledH : List (Addr × Obj)} {s : Shared}
    {Q E : Value → Shared → Prop} {sx sd fd rr : Addr} {SD FD o : Obj} {tv : Tok} {rvs : List Value} {bs : List Bs} {es : List (Str × Value)}
    (B : Below A₀ base outer h₀) (F : Fr h₀ L s.heap m) (X : (Mine.hd2.heap_39 w.params).In h₀) (N : News h₀ L s.heap news) (p1 : Pick (fd, FD) news led) (h3 : (sx, instObj 190 sd) ∈ led) (h4 : (sd, SD) ∈ led) (T : Top p loose mean mg mb h₀) (hk : cs.kind = .function)
    (hd : dp + 60 < recursionLimit) (hu : un + 600 < cLine) (hS : IsSD w.params SD fd) (hF : Obj.IsDictOf (PySem.strKind PySem.Challenge.rw_pb0233_02.row.prog w) FD es) (hes : es = [] ∨ ∃ tp, es = [(Str.ofString "journal", .ref tp)]) (hlo : (fd == sysModules) = false) (hof : OwnOff led [fd])
    (hH : Held h₀ ledH rr o) (hHs : ∀ q ∈ ledH, q ∈ led) (hO : SeqO o rvs) (hB : BAre rvs bs) (hr : rvs.length ≤ 10)
    (post : ∀ r tl hx hd' c tp D' TP FD' n' tvs t h' tk', IsFD w FD' fd (Str.ofString "journal") tp → IsTP TP c → IsRF w.params D' c (Str.ofString "output") 0 true (-1) → Tells tvs (Str.ofString "00") rvs.length → @Ne Nat hx hd' → @Ne Nat c hd' → @Ne Nat hx c → OwnOff ((r, tupO [.str (Str.ofString "00") t, .ref tl, .ref hx]) :: (tl, LCg.lst tvs) :: (tp, TP) :: (fd, FD') :: led) [hd', c] → OwnOff ((fd, FD) :: led) [hd', hx, r, tl] → OwnOff ((fd, FD) :: led) [c, tp] → Fr h₀ L h' m →
      News h₀ L h' ((hd', D') :: (hx, instObj 68 hd') :: (c, listOf rvs.toArray n') :: (r, tupO [.str (Str.ofString "00") t, .ref tl, .ref hx]) :: (tl, LCg.lst tvs) :: (tp, TP) :: (fd, FD') :: led) → Q (.ref r) { s with heap := h', toks := tk' }) :
    wpAny (model PySem.Challenge.rw_pb0233_02.row.prog w) (ktrTop dp un gd cn cs L a ccd cl outer) (call (.ref 235) [.ref sx, .str (Str.ofString "output") tv, .ref rr]) Q E s :=
  c_sesO B F X (p1.news N) h3 h4 T hk hd hu hS hF hes hlo hof (hH.mono hHs) hO hB hr post
theorem lst_isList {h₀ h : Heap} {L a : Addr} {news : List (Addr × Obj)} {ys : List Value} (N : News h₀ L h news) (hm : (a, LCg.lst ys) ∈ news) : h.IsList a ys.toArray := ⟨_, (N _ hm).1, rfl, _, rfl⟩
theorem tup_isTuple {h₀ h : Heap} {L a : Addr} {news : List (Addr × Obj)} {ys : List Value} (N : News h₀ L h news) (hm : (a, tupO ys) ∈ news) : h.IsTuple a ys.toArray := ⟨_, (N _ hm).1, rfl, _, rfl⟩
theorem hall_tells {h : Heap} {code : Str} : ∀ {n : Nat} {ys : List Value}, Tells ys code n → HAll h ys (List.replicate n (.str code))
  | 0, [], _ => .nil
  | 0, _ :: _, x => nomatch x.1
  | n + 1, [], x => nomatch x.1
  | n + 1, y :: ys, x => by
    obtain ⟨t, rfl⟩ := x.2 y (.head _)
    exact .cons (.str _ _) (hall_tells ⟨by simpa using x.1, fun z hz => x.2 z (.tail _ hz)⟩)
theorem ddeps_rep (code : Str) : ∀ n : Nat, ddeps (List.replicate n (Dat.str code)) = 0
  | 0 => rfl
  | n + 1 => by rw [List.replicate_succ, ddeps, ddeps_rep code n]; rfl
theorem ddeps_bs : ∀ R : List Bs, ddeps (R.map Dat.bytes) = 0
  | [] => rfl
  | b :: R => by simp only [List.map_cons, ddeps, ddep, ddeps_bs R]; rfl
section
variable {prog : Program} {w : World} {A : Around} {E : Value → Shared → Prop} {s : Shared} {h₀ : Heap} {L a b : Addr} {m : Str → Option Value} {news ledH : List (Addr × Obj)} {Q : Value → Shared → Prop}
theorem cmp_told {xs ys : List Value} {code : Str} {n : Nat} (N : News h₀ L s.heap news) (h1 : (a, LCg.lst xs) ∈ news) (h2 : (b, LCg.lst ys) ∈ news) (t1 : Tells xs code n) (t2 : Tells ys code n) (hu : A.units + 10 < cLine) (h : Q (.bool false) s) : wpAny (model prog w) A (compareOp .NotEq (.ref a) (.ref b)) Q E s :=
  cmp_list_ne (lst_isList N h1) (hall_tells t1) (lst_isList N h2) (hall_tells t2) (by rw [ddeps_rep]; omega) h
theorem cmp_lying {vs us : List Value} {R : List Bs} {o : Obj} (F : Fr h₀ L s.heap m) (N : News h₀ L s.heap news) (h1 : (a, tupO vs) ∈ news) (hH : Held h₀ ledH b o) (hs : ∀ q ∈ ledH, q ∈ news) (hc : o.cls = .type "tuple") (hd : ∃ n, o.data = .seq us.toArray n) (b1 : BAre vs R) (b2 : BAre us R) (hu : A.units + 10 < cLine) (h : Q (.bool false) s) : wpAny (model prog w) A (compareOp .NotEq (.ref a) (.ref b)) Q E s :=
  cmp_tuple_ne (tup_isTuple N h1) (hall_bytes b1) (held_tup F N hH hs hc hd) (hall_bytes b2) (by rw [ddeps_bs]; omega) h
theorem cmp_read {vs us : List Value} {R : List Bs} {o : Obj} {fr la : Addr} {code : Str} {t u : Tok} (F : Fr h₀ L s.heap m) (N : News h₀ L s.heap news) (h1 : (a, tupO [.str code t, .ref fr]) ∈ news) (h2 : (fr, tupO vs) ∈ news) (h3 : (b, tupO [.str code u, .ref la]) ∈ news) (hH : Held h₀ ledH la o) (hs : ∀ q ∈ ledH, q ∈ news) (hc : o.cls = .type "tuple") (hd : ∃ n, o.data = .seq us.toArray n) (b1 : BAre vs R) (b2 : BAre us R) (hu : A.units + 10 < cLine) (h : Q (.bool false) s) : wpAny (model prog w) A (compareOp .NotEq (.ref a) (.ref b)) Q E s :=
  cmp_tuple_ne (ds := [.str code, .tuple (R.map Dat.bytes)]) (tup_isTuple N h1) (.cons (.str _ _) (.cons (.tuple (tup_isTuple N h2) (hall_bytes b1)) .nil)) (tup_isTuple N h3) (.cons (.str _ _) (.cons (.tuple (held_tup F N hH hs hc hd) (hall_bytes b2)) .nil)) (by simp only [ddeps, ddep, ddeps_bs]; omega) h
end
def CmpInv (lq : List (Addr × Obj)) (code : Str) (i : Nat) (ys : List Value) (nw : List (Addr × Obj)) : Prop := nw = lq ∧ Tells ys code i
theorem comp_same {prog : Program} {w : World} {A : Around} {h₀ : Heap} {L : Addr} {m : Str → Option Value} {env : Env} {elt : PySem.Expr} {x : Str} {scope : Scope} {cl : List (Str × Addr)} {Fin : Shared → List Value → List (Addr × Obj) → Prop} {s₁ : Shared} {a : Addr} {o : Obj} {rvs : List Value} {led lq : List (Addr × Obj)} (code : Str)
    (hh : A.handled = none) (F : Fr h₀ L s₁.heap m) (N : News h₀ L s₁.heap lq) (hH : Held h₀ led a o) (hs : ∀ q ∈ led, q ∈ lq) (hO : SeqO o rvs) (hl : rvs.length ≤ 10)
    (fin : ∀ (g : Heap) ys, Tells ys code rvs.length → Fin { s₁ with heap := g } ys lq)
    (turn : ∀ (g : Heap) i ys v I oI C oC D m₂ h tk (E' : Value → Shared → Prop), i < rvs.length → Tells ys code i → rvs[i]? = some v → LCg.NsObj oC m₂ → m₂ x = some v → Fr h₀ L h m → News h₀ L h ((I, oI) :: (C, oC) :: (D, LCg.lst ys) :: lq) → LCg.Off3 I C D lq → ((@Ne Nat I C) ∧ (@Ne Nat I D) ∧ (@Ne Nat C D)) →
      wpAny (model prog w) A (eval elt (compEnvC scope cl C env)) (LCg.CompEnd h₀ L m { s₁ with heap := h, toks := tk } I oI C oC D (LCg.lst ys) (fun nw => Held h₀ nw a o) (fun y nw => CmpInv lq code (i + 1) (ys ++ [y]) nw)) E' { s₁ with heap := h, toks := tk }) :
    CompSrcS prog w A h₀ L m env elt x scope cl Fin (.ref a) s₁ := by
  refine ⟨a, o, rvs, lq, rfl, hh, F, N, hH.mono hs, hO, (by rw [PySem.sizeLine_eq]; omega), ?_⟩
  rintro s₂ ⟨g, rfl⟩
  refine comp_inv (CmpInv lq code) ?fin ?turn _ _ _ _ (Nat.zero_add _) ⟨rfl, Tells.nil⟩
  case fin =>
    rintro ys nw ⟨rfl, t⟩
    exact fin g ys t
  case turn =>
    rintro i ys nw v I oI C oC D m₂ h tk E' hi ⟨rfl, t⟩ hv hC hx F' N' off ne
    exact turn g i ys v I oI C oC D m₂ h tk E' hi t hv hC hx F' N' off ne
theorem off_pair {x y : Addr × Obj} {l : List (Addr × Obj)} {b : Addr} (h1 : @Ne Nat x.1 b) (h2 : @Ne Nat y.1 b) (h : ∀ q ∈ l, @Ne Nat q.1 b) : OwnOff (x :: y :: l) [b] := by
  intro q hq c hc
  rw [List.mem_singleton.mp hc]
  rcases List.mem_cons.mp hq with rfl | hq
  · exact h1
  · rcases List.mem_cons.mp hq with rfl | hq
    · exact h2
    · exact h q hq
theorem off_one {x : Addr × Obj} {l : List (Addr × Obj)} {b : Addr} (h1 : @Ne Nat x.1 b) (h : ∀ q ∈ l, @Ne Nat q.1 b) : OwnOff (x :: l) [b] := by
  intro q hq c hc
  rw [List.mem_singleton.mp hc]
  rcases List.mem_cons.mp hq with rfl | hq
  · exact h1
  · exact h q hq
theorem own_new {own : List (Addr × Obj)} {adr : List Addr} {b : Addr} (h1 : ∀ q ∈ own, @Ne Nat q.1 b) (h : OwnOff own adr) : OwnOff own (b :: adr) := by
  intro q hq c hc
  rcases List.mem_cons.mp hc with rfl | hc
  · exact h1 q hq
  · exact h q hq c hc
theorem in_pair {prog : Program} {w : World} {A : Around} {E : Value → Shared → Prop} {s : Shared} {Q : Value → Shared → Prop} : True := trivial
theorem off_two {l : List (Addr × Obj)} {b c : Addr} (h1 : OwnOff l [b]) (h2 : OwnOff l [c]) : OwnOff l [b, c] := fun q hq d hd => by
  rcases List.mem_cons.mp hd with rfl | hd
  · exact h1 q hq _ (.head _)
  · exact h2 q hq d hd
local macro_rules | `(tactic| k_ne) => `(tactic| (refine neN ?_; (try dsimp only); first | exact (show Unit → _ from by with_reducible assumption) () | exact Ne.symm ((show Unit → _ from by with_reducible assumption) ()) | tb_rel | exact Ne.symm (by tb_rel) | exact Nat.ne_of_lt (by tb_rel) | exact Nat.ne_of_gt (by tb_rel)))
local macro_rules | `(tactic| ktr_rel) => `(tactic| (repeat' (first | with_reducible assumption | exact ownOff_nil | exact ownOff_adr | refine ownOff_cons ?_ ?_ | exact List.forall_mem_nil _ | (refine ne_all ?_ ?_) | k_ne)))
structure Hold (P : Prop) : Prop where
  out : P
local macro_rules | `(tactic| walk_at "compareOp NotEq ref ref") => `(tactic| (k_here; (with_reducible show wpAny _ _ (compareOp _ (Value.ref _) (Value.ref _)) _ _ _); refine Hold.out ?_))
local macro_rules | `(tactic| walk_at "compareOp NotEq ref") => `(tactic| (k_here; (with_reducible show wpAny _ _ (compareOp _ (Value.ref _) (Value.ref _)) _ _ _); refine Hold.out ?_))
theorem p_sesE {w : World} {p : Program} {loose : List Str} {mean : ExcName → Option Value} {mg mb : Str → Option Value}
    {dp un : Nat} {gd : Option (List Code)} {cn : Str} {cs : Scope} {a : Addr} {ccd : Value} {cl : List (Str × Addr)} {outer : List Env} {A₀ : Around} {base h₀ : Heap} {L : Addr} {m : Str → Option Value} {news led ledH : List (Addr × Obj)} {s : Shared}
    {Q E : Value → Shared → Prop} {sx sd fd tp c rr : Addr} {SD FD TP o : Obj} {tv : Tok} {vs rvs : List Value} {bs : List Bs} {n : Nat}
    (B : Below A₀ base outer h₀) (F : Fr h₀ L s.heap m) (X : (Mine.hd2.heap_39 w.params).In h₀) (N : News h₀ L s.heap news) (p1 : Pick (c, listOf vs.toArray n) news led) (h1 : (fd, FD) ∈ led) (h2 : (tp, TP) ∈ led) (h3 : (sx, instObj 190 sd) ∈ led) (h4 : (sd, SD) ∈ led) (T : Top p loose mean mg mb h₀) (hk : cs.kind = .function)
    (hd : dp + 60 < recursionLimit) (hu : un + 600 < cLine) (hS : IsSD w.params SD fd) (hF : IsFD w FD fd (Str.ofString "journal") tp) (hT : IsTP TP c) (ho : OwnOff led [c])
    (hH : Held h₀ ledH rr o) (hHs : ∀ q ∈ ledH, q ∈ led) (hO : SeqO o rvs) (hB : BAre rvs bs) (hr : rvs.length ≤ 10) (hv : vs.length ≤ 90)
    (post : ∀ r tl hx hd' D' n' tvs t h' tk', IsRF w.params D' c (Str.ofString "extend") 0 true (-1) → Tells tvs (Str.ofString "00") rvs.length → @Ne Nat hx hd' → @Ne Nat c hd' → @Ne Nat hx c → OwnOff ((r, tupO [.str (Str.ofString "00") t, .ref tl, .ref hx]) :: (tl, LCg.lst tvs) :: led) [hd', c] → OwnOff ((c, listOf vs.toArray n) :: led) [hd', hx, r, tl] → Fr h₀ L h' m →
      News h₀ L h' ((hd', D') :: (hx, instObj 68 hd') :: (c, listOf (vs ++ rvs).toArray n') :: (r, tupO [.str (Str.ofString "00") t, .ref tl, .ref hx]) :: (tl, LCg.lst tvs) :: led) → Q (.ref r) { s with heap := h', toks := tk' }) :
    wpAny (model PySem.Challenge.rw_pb0233_02.row.prog w) (ktrTop dp un gd cn cs L a ccd cl outer) (call (.ref 235) [.ref sx, .str (Str.ofString "extend") tv, .ref rr]) Q E s :=
  c_sesE B F X (p1.news N) h1 h2 h3 h4 T hk hd hu hS hF hT ho (hH.mono hHs) hO hB hr hv post
theorem p_sesI {w : World} {p : Program} {loose : List Str} {mean : ExcName → Option Value} {mg mb : Str → Option Value}
    {dp un : Nat} {gd : Option (List Code)} {cn : Str} {cs : Scope} {a : Addr} {ccd : Value} {cl : List (Str × Addr)} {outer : List Env} {A₀ : Around} {base h₀ : Heap} {L : Addr} {m : Str → Option Value} {news ledH : List (Addr × Obj)} {s : Shared}
    {Q E : Value → Shared → Prop} {sx sd fd tp c rr : Addr} {SD FD TP o : Obj} {tv : Tok} {rvs : List Value} {bs : List Bs} {mode : Str}
    (B : Below A₀ base outer h₀) (F : Fr h₀ L s.heap m) (X : (Mine.hd2.heap_39 w.params).In h₀) (N : News h₀ L s.heap news) (h1 : (fd, FD) ∈ news) (h2 : (tp, TP) ∈ news) (h3 : (sx, instObj 190 sd) ∈ news) (h4 : (sd, SD) ∈ news) (T : Top p loose mean mg mb h₀) (hk : cs.kind = .function)
    (hd : dp + 60 < recursionLimit) (hu : un + 600 < cLine) (hS : IsSD w.params SD fd) (hF : IsFD w FD fd (Str.ofString "journal") tp) (hT : IsTP TP c) (hm2 : mode = Str.ofString "input" ∨ mode = Str.ofString "i-o")
    (hH : Held h₀ ledH rr o) (hHs : ∀ q ∈ ledH, q ∈ news) (hO : SeqO o rvs) (hB : BAre rvs bs) (hr : rvs.length ≤ 10)
    (post : ∀ r tl hx tvs t h' tk', Tells tvs (Str.ofString "48") rvs.length → OwnOff news [r, tl] → Fr h₀ L h' m →
      News h₀ L h' ((r, tupO [.str (Str.ofString "00") t, .ref tl, .ref hx]) :: (tl, LCg.lst tvs) :: news) → Q (.ref r) { s with heap := h', toks := tk' }) :
    wpAny (model PySem.Challenge.rw_pb0233_02.row.prog w) (ktrTop dp un gd cn cs L a ccd cl outer) (call (.ref 235) [.ref sx, .str mode tv, .ref rr]) Q E s :=
  c_sesI B F X N h1 h2 h3 h4 T hk hd hu hS hF hT hm2 (hH.mono hHs) hO hB hr post
theorem p_writeM {w : World} {p : Program} {loose : List Str} {mean : ExcName → Option Value} {mg mb : Str → Option Value}
    {dp un : Nat} {gd : Option (List Code)} {cn : Str} {cs : Scope} {a : Addr} {ccd : Value} {cl : List (Str × Addr)} {outer : List Env} {A₀ : Around} {base h₀ : Heap} {L : Addr} {m : Str → Option Value} {news n2 rest : List (Addr × Obj)} {s : Shared}
    {Q E : Value → Shared → Prop} {x dx c : Addr} {D : Obj} {vs : List Value} {n : Nat} {i l : Int} {v : Bool} {b : Bs} {tb : Tok} {mode : Str}
    (B : Below A₀ base outer h₀) (F : Fr h₀ L s.heap m) (X : (Mine.hd2.heap_39 w.params).In h₀) (N : News h₀ L s.heap news) (p2 : Pick (dx, D) news n2) (p3 : Pick (c, listOf vs.toArray n) n2 rest) (hx : (x, instObj 68 dx) ∈ rest) (T : Top p loose mean mg mb h₀) (hk : cs.kind = .function)
    (hd : dp + 20 < recursionLimit) (hu : un + 200 < cLine) (hD : IsRF w.params D c mode i v l) (hm : mode = Str.ofString "output" ∨ mode = Str.ofString "extend")
    (hr : OwnOff rest [dx, c]) (hcd : @Ne Nat c dx) (hv : vs.length ≤ 100)
    (post : ∀ D' n' t h' tk', IsRF w.params D' c mode i v (-1) → Fr h₀ L h' m → News h₀ L h' ((dx, D') :: (c, listOf (vs ++ [Value.bytes b tb]).toArray n') :: rest) → Q (.str (Str.ofString "00") t) { s with heap := h', toks := tk' }) :
    wpAny (model PySem.Challenge.rw_pb0233_02.row.prog w) (ktrTop dp un gd cn cs L a ccd cl outer) (call (.ref 51) [.ref x, .bytes b tb]) Q E s := by
  have N1 := p2.news N
  refine c_write (n := n) (vs := vs) (c := c) (rest := rest) B F X (fun q hq => ?_) T hk hd hu hD hm hr (hr _ hx _ (.head _)) hcd (hr _ hx _ (.tail _ (.head _))) hv (fun D' n' t h' tk' h1 F' N' => post D' n' t h' tk' h1 F' fun q hq => N' q ?_)
  · simp only [List.mem_cons] at hq
    rcases hq with h | h | h | h
    · exact N1 _ (h ▸ .head _)
    · exact N1 _ (h ▸ .tail _ (p3.mem (.tail _ hx)))
    · exact N1 _ (h ▸ .tail _ (p3.mem (.head _)))
    · exact N1 _ (.tail _ (p3.mem (.tail _ h)))
  · simp only [List.mem_cons] at hq ⊢
    rcases hq with h | h | h
    · exact .inl h
    · exact .inr (.inr (.inl h))
    · exact .inr (.inr (.inr h))
theorem wordsE10 : True := by
  k_with_none
  k_with "call ref" => (k_here; k_dflt (show wpAny _ _ (call (Value.ref 190) []) _ _ _); k_dflt (refine' c_shelf2 ?k1 ?k2 ?k3 ?k4 ?k5 ?k6 ?k7 ?k8 ?_; (case k1 => k_asm); (case k2 => k_asm); (case k3 => k_asm); (case k4 => k_asm); (case k5 => k_asm); (case k6 => first | exact rfl | assumption); (case k7 => ktr_room); (case k8 => ktr_units); k_whole); intro sx9 sd9 fd9 SD9 FD9 h' tk' hS9 hF9 hlo9 F' N' ls1 ls2 ls3; (try dsimp only); (try k_fold))
  k_with "call builtin:len" => (k_here; (with_reducible show wpAny _ _ (call (Value.builtin "len") [Value.ref _]) _ _ _); k_dflt (refine' len_held ?k1 ?k2 ?k3 ?k4 ?k5 ?k6 ?_; (case k1 => k_asm); (case k2 => k_asm); (case k3 => assumption); (case k4 => (intro q hq; simp only [List.mem_cons, hq, or_true])); (case k5 => assumption); (case k6 => omega); k_whole))
  k_with "subscriptTail Name Name ref int" => (k_here; (with_reducible show wpAny _ _ (subscriptTail _ _ (Value.ref _) (Value.int _ _)) _ _ _); k_dflt (refine' item_held ?k1 ?k2 ?k3 ?k4 ?k5 ?k6 ?k7 ?_ ?k8 ?k9; (case k1 => k_asm); (case k2 => k_asm); (case k3 => assumption); (case k4 => (intro q hq; simp only [List.mem_cons, hq, or_true])); (case k5 => assumption); (case k6 => omega); (case k7 => assumption); (case k8 => with_unfolding_all rfl); (case k9 => (intro _; with_unfolding_all rfl)); k_whole))
  k_with "assign Tuple" => (k_here; (with_reducible show wpAny _ _ (assign (Expr.Tuple _ _ _) _ (Value.ref _)) _ _ _); k_dflt (refine' unpackN_ ?F ?N ?T ?k1 ?k2 ?k3 ?_; (case F => k_asm); (case N => k_asm); (case T => exact held_tup (by k_asm) (by k_asm) (by assumption) (by (intro q hq; simp only [List.mem_cons, hq, or_true])) (by assumption) (by assumption)); (case k1 => exact rfl); (case k2 => exact rfl); (case k3 => exact rfl)); intro h' F' N'; (try k_sweep))
  k_with "call ref" => (k_here; k_dflt (show wpAny _ _ (call (Value.ref 235) [Value.ref _, Value.str _ _, Value.ref _]) _ _ _); k_dflt (refine' c_ses35 ?k1 ?k2 ?k3 ?k4 ?h1 ?h3 ?h4 ?k5 ?k6 ?k7 ?k8 ?hm ?kA ?kB ?kC ?_; (case k1 => k_asm); (case k2 => k_asm); (case k3 => k_asm); (case k4 => k_asm); (case k5 => k_asm); (case k6 => first | exact rfl | assumption); (case k7 => ktr_room); (case k8 => ktr_units); (case h3 => k_mem); (case hm => assumption); (case kA => assumption); (case kB => assumption); (case kC => assumption); (case h1 => k_mem); (case h4 => k_mem); k_whole); intro r9 tl9 t9 n9 h' tk' F' N'; (try dsimp only); (try k_fold))
  k_with "call ref" => (k_here; k_dflt (show wpAny _ _ (call (Value.ref 242) [Value.ref _]) _ _ _); k_dflt (refine' c_lyA ?k1 ?k2 ?k3 ?k4 ?h1 ?h3 ?h4 ?k5 ?k6 ?k7 ?k8 ?kA ?kB ?kC ?_; (case k1 => k_asm); (case k2 => k_asm); (case k3 => k_asm); (case k4 => k_asm); (case k5 => k_asm); (case k6 => first | exact rfl | assumption); (case k7 => ktr_room); (case k8 => ktr_units); (case h3 => k_mem); (case kA => assumption); (case kB => assumption); (case kC => assumption); (case h1 => k_mem); (case h4 => k_mem); k_whole); intro h' tk' F' N'; (try dsimp only); (try k_fold))
  k_with "call ref" => (k_here; k_dflt (show wpAny _ _ (call (Value.ref 235) [Value.ref _, Value.str _ _, Value.ref _]) _ _ _); k_dflt (refine' p_sesO ?k1 ?k2 ?k3 ?k4 ?p1 ?h3 ?h4 ?k5 ?k6 ?k7 ?k8 ?kA ?kB ?ke ?kC ?kO ?kH ?kHs ?kQ ?kR ?kr ?_; (case k1 => k_asm); (case k2 => k_asm); (case k3 => k_asm); (case k4 => k_asm); (case k5 => k_asm); (case k6 => first | exact rfl | assumption); (case k7 => ktr_room); (case k8 => ktr_units); (case kA => assumption); (case kB => first | assumption | exact hFD.1); (case ke => first | exact Or.inl rfl | exact Or.inr ⟨_, rfl⟩); (case kC => assumption); (case p1 => ktr_unf); (case h3 => k_mem); (case h4 => k_mem); (case kO => exact hofd _); (case kH => assumption); (case kHs => (intro q hq; simp only [List.mem_cons, hq, or_true])); (case kQ => assumption); (case kR => assumption); (case kr => first | assumption | omega); k_whole); intro r9 tl9 hx9 hd9 c9 tp9 D9 TP9 FD9 n9 ts9 t9 h' tk' hF9 hT9 hD9 hTl9 m1 m2 m3 z1 z2 z3 F' N'; (try dsimp only); (try k_fold))
  k_with "eval ListComp" => (k_here; k_dflt (refine ListComp_S (F₀ := by k_asm) (by with_unfolding_all rfl) (by decide) (by rfl) (by decide) (by rfl) ?_))
  k_with "call ref" => (k_here; k_dflt (show wpAny _ _ (call (Value.ref 242) [Value.ref _]) _ _ _); k_dflt (refine' c_lyB ?k1 ?k2 ?k3 ?k4 ?h1 ?h2 ?h3 ?h4 ?h5 ?k5 ?k6 ?k7 ?k8 ?kv ?kA ?kB ?kC ?_; (case k1 => k_asm); (case k2 => k_asm); (case k3 => k_asm); (case k4 => k_asm); (case k5 => k_asm); (case k6 => first | exact rfl | assumption); (case k7 => ktr_room); (case k8 => ktr_units); (case h3 => k_mem); (case kA => assumption); (case kB => assumption); (case kC => assumption); (case h1 => k_mem); (case h2 => k_mem); (case h4 => k_mem); (case h5 => k_mem); (case kv => first | assumption | omega); k_whole); intro ry9 h' tk' F' N' ly9; (try dsimp only); (try k_fold))
  k_with "call ref" => (k_here; k_dflt (show wpAny _ _ (call (Value.ref 249) [Value.ref _]) _ _ _); k_dflt (refine' c_rt ?k1 ?k2 ?k3 ?k4 ?h1 ?h2 ?h3 ?h4 ?h5 ?k5 ?k6 ?k7 ?k8 ?kR ?kv ?kA ?kB ?kC ?_; (case k1 => k_asm); (case k2 => k_asm); (case k3 => k_asm); (case k4 => k_asm); (case k5 => k_asm); (case k6 => first | exact rfl | assumption); (case k7 => ktr_room); (case k8 => ktr_units); (case h3 => k_mem); (case kA => assumption); (case kB => assumption); (case kC => assumption); (case h1 => k_mem); (case h2 => k_mem); (case h4 => k_mem); (case h5 => k_mem); (case kR => assumption); (case kv => first | assumption | omega); k_whole); intro rt9 fr9 us9 tt9 h' tk' hus9 F' N' oo9; (try dsimp only); (try k_fold))
  k_with "call ref" => (k_here; k_dflt (show wpAny _ _ (call (Value.ref 235) [Value.ref _, Value.str _ _, Value.ref _]) _ _ _); k_dflt (refine' p_sesE ?k1 ?k2 ?k3 ?k4 ?p1 ?h1 ?h2 ?h3 ?h4 ?k5 ?k6 ?k7 ?k8 ?kA ?kB ?kC ?kO ?kH ?kHs ?kQ ?kR ?kr ?kv ?_; (case k1 => k_asm); (case k2 => k_asm); (case k3 => k_asm); (case k4 => k_asm); (case k5 => k_asm); (case k6 => first | exact rfl | assumption); (case k7 => ktr_room); (case k8 => ktr_units); (case kA => assumption); (case kB => assumption); (case kC => assumption); (case p1 => ktr_unf); (case h1 => k_mem); (case h2 => k_mem); (case h3 => k_mem); (case h4 => k_mem); (case kO => exact hoc9 _); (case kH => assumption); (case kHs => (intro q hq; simp only [List.mem_cons, hq, or_true])); (case kQ => assumption); (case kR => assumption); (case kr => first | assumption | omega); (case kv => first | assumption | omega); k_whole); intro r9 tl9 hx9 hd9 D9 n9 ts9 t9 h' tk' hD9 hTl9 m1 m2 m3 z1 z2 F' N'; (try dsimp only); (try k_fold))
  k_with "call ref" => (k_here; k_dflt (show wpAny _ _ (call (Value.ref 235) [Value.ref _, Value.str _ _, Value.ref _]) _ _ _); k_dflt (refine' p_sesI ?k1 ?k2 ?k3 ?k4 ?h1 ?h2 ?h3 ?h4 ?k5 ?k6 ?k7 ?k8 ?kA ?kB ?kC ?km ?kH ?kHs ?kQ ?kR ?kr ?_; (case k1 => k_asm); (case k2 => k_asm); (case k3 => k_asm); (case k4 => k_asm); (case k5 => k_asm); (case k6 => first | exact rfl | assumption); (case k7 => ktr_room); (case k8 => ktr_units); (case kA => assumption); (case kB => assumption); (case kC => assumption); (case km => assumption); (case h1 => k_mem); (case h2 => k_mem); (case h3 => k_mem); (case h4 => k_mem); (case kH => assumption); (case kHs => (intro q hq; simp only [List.mem_cons, hq, or_true])); (case kQ => assumption); (case kR => assumption); (case kr => first | assumption | omega); k_whole); intro r9 tl9 hx9 ts9 t9 h' tk' hTl9 z1 F' N'; (try dsimp only); (try k_fold))
  k_with "call ref" => (k_here; k_dflt (show wpAny _ _ (call (Value.ref 51) [Value.ref _, Value.bytes _ _]) _ _ _); k_dflt (refine' p_writeM ?k1 ?k2 ?k3 ?k4 ?p2 ?p3 ?hx ?k5 ?k6 ?k7 ?k8 ?kD ?km ?kr ?ka ?kv ?_; (case k1 => k_asm); (case k2 => k_asm); (case k3 => k_asm); (case k4 => k_asm); (case k5 => k_asm); (case k6 => first | exact rfl | assumption); (case k7 => ktr_room); (case k8 => ktr_units); (case kD => exact hRF); (case p2 => ktr_unf); (case p3 => ktr_unf); (case hx => k_mem); (case km => assumption); (case kr => ktr_rel); (case ka => exact n1' ()); (case kv => exact Nat.le_trans hv90 (by decide)); k_whole); intro D8 n8 t8 h' tk' hD8 F' N'; (try dsimp only); (try k_fold))
  k_with "compareOp NotEq ref ref" => (k_here; (with_reducible show wpAny _ _ (compareOp _ (Value.ref _) (Value.ref _)) _ _ _); refine Hold.out ?_)
  trivial
section
variable {w : World} {p : Program} {loose : List Str} {mean : ExcName → Option Value} {mg mb : Str → Option Value}
    {dp un : Nat} {gd : Option (List Code)} {cn : Str} {cs : Scope} {a : Addr} {ccd : Value} {cl : List (Str × Addr)} {outer : List Env} {A₀ : Around} {base h₀ : Heap} {L : Addr} {m : Str → Option Value} {news n1 n2 rest led : List (Addr × Obj)} {s : Shared}
    {Q E : Value → Shared → Prop}
theorem c_story {st lf : Addr} {ost olf : Obj} {svs lvs : List Value} {items : List (Str × List Bs)}
    (B : Below A₀ base outer h₀) (F : Fr h₀ L s.heap m) (X : (Mine.hd2.heap_39 w.params).In h₀) (N : News h₀ L s.heap led) (T : Top p loose mean mg mb h₀) (hk : cs.kind = .function)
    (hd : dp + 140 < recursionLimit) (hu : un + 1400 < cLine) (hst : Held h₀ led st ost) (hso : SeqO ost svs) (hit : All2 (ItemAt h₀ led) svs items) (hlf : Held h₀ led lf olf) (hlo : SeqO olf lvs) (hla : All2 (LeftAt h₀ led) lvs (leftsOf none items))
    (hlen : items.length ≤ 9) (hmode : ∀ x ∈ items, IsMode x.1 ∧ x.2.length ≤ 4)
    (post : ∀ h' tk', Fr h₀ L h' m → News h₀ L h' led → Q (.bool true) { s with heap := h', toks := tk' }) :
    wpAny (model PySem.Challenge.rw_pb0233_02.row.prog w) (ktrTop dp un gd cn cs L a ccd cl outer) (call (.ref 254) [.ref st, .ref lf]) Q E s := by
  have hsl := hit.length
  refine wpAny_call ?_
  k_dflt (refine' code_defC ?k1 ?k2 ?k3 ?k4 ?k5 ?kA ?kF ?kK ?k6 ?k7 ?k8 ?k9 ?kB ?kN ?_ ?c2 ?c3 ?c4; (case kA => exact rfl); (case kF => exact rfl); (case kK => assumption); (case k1 => k_asm); (case k2 => k_asm); (case k3 => k_asm); (case k4 => k_asm); (case k5 => k_asm); (case k6 => k_is); (case k7 => k_is); (case k8 => ktr_room); (case k9 => exact BindsTo.of_eq rfl); (case kB => exact rfl); (case kN => decide); (case c2 => exact rfl); (case c3 => exact rfl); (case c4 => exact rfl); k_whole)
  intro g' L' h' tk' cells' FG' F' N' Y' B' X' T' l1
  k_cells Y'
  (try simp only [List.cons_append, List.nil_append] at N')
  (try dsimp only)
  (try k_fold)
  clear N
  have hst' : Held g' led st ost := hst.imp (fun e => FG'.keep _ _ e) id
  have hlf' : Held g' led lf olf := hlf.imp (fun e => FG'.keep _ _ e) id
  iterate 37 (first | (k_unfold; (try dsimp only)) | (k_end; wrow_close) | walk1 | (dsimp only; walk1) | (leave1; walk_say "STEP leave1"; try dsimp only) | fail "no step")
  rename Fr _ _ _ _ => F3
  rename News _ _ _ _ => N3
  rename IsRange _ _ _ _ _ _ _ _ => hR
  rename (@LT.lt Nat _ fd9 _ ∧ _) => lt9
  have hfe : @LT.lt Nat _ (L' + 1) fd9 := Nat.lt_trans (ls1 _ (.head _)) (Nat.lt_trans ls2 ls3)
  have hlf9 : ∀ p ∈ led, p.1 < fd9 := fun p hp => Nat.lt_trans (ls1 p (.tail _ hp)) (Nat.lt_trans ls2 ls3)
  refine story_loop w (L' + 1) fd9 ((sx9, instObj 190 sd9) :: (sd9, SD9) :: led) items rfl hR (by rw [hsl]) hlen F3 (st_ord N3) ?ini ?turn ?done
  case ini =>
    refine ⟨_, .none, ⟨_, ‹_ = Data.cell _›⟩, rfl, fun z _ _ _ => rfl, .inl ⟨rfl, rfl, FD9, _, rfl, hF9, ?o1, ?o2, Nat.ne_of_gt hfe, fun q hq => hq⟩⟩
    case o1 => exact ownOff_cons (fun b hb => by rw [List.mem_singleton.mp hb]; exact Nat.ne_of_lt ls3) (ownOff_cons (fun b hb => by rw [List.mem_singleton.mp hb]; exact Nat.ne_of_lt (Nat.lt_trans ls2 ls3)) (ownOff_gt hlf9 ownOff_adr))
    case o2 => exact ownOff_cons (fun b hb => by rw [List.mem_singleton.mp hb]; exact Nat.ne_of_gt (Nat.lt_trans (ls1 _ (.head _)) ls2)) (ownOff_cons (fun b hb => by rw [List.mem_singleton.mp hb]; exact Nat.ne_of_gt (ls1 _ (.head _))) (ownOff_gt (fun p hp => Nat.lt_succ_of_lt (l1 p hp)) ownOff_adr))
  case turn =>
    clear N3 F3 hR lt9
    clear hF9 ls1
    have hk0 : ∀ b o, h₀.get? b = some o → g'.get? b = some o := FG'.keep
    (repeat (rename News _ _ _ _ => lx9; clear lx9))
    (repeat (rename Obj.IsDictOf _ _ _ => lx9; clear lx9))
    rintro i t m₁ nx h tk own hi hown ⟨oc, ev, ⟨xc, hoc⟩, hev, hm1, hst⟩ F1 N1
    rw [st_map hev hm1] at F1
    obtain ⟨x, hx, hxm⟩ := items_mem hi
    obtain ⟨v, hv, hvi⟩ := hit.get hx
    obtain ⟨y, hy, hyl⟩ := hla.get (leftsOf_get items none i hi)
    have hstep := take_step hx
    rw [hstep] at hyl
    obtain ⟨hmd, hbl⟩ := hmode _ hxm
    obtain ⟨mode, bs⟩ := x
    dsimp only at hmd hbl
    have hi9 : i < 9 := by omega
    clear hxm hmode hit hla hx hev
    rcases hst with ⟨hs0, rfl, FD, rst, rfl, hFD, ho1, ho2, hfc, hsub⟩ | ⟨R, c, vs, n, hd1, hx1, D, tp, TP, FD, md, rst, hs0, rfl, rfl, hB, hRl, hFD, hTP, htp, hhx, hRF, hmd1, oh, oc0, of, oce, n1, n2, n3, n4, n5, n6, hsub⟩
    · rw [hs0] at hyl hstep
      obtain ⟨oc1, hown1⟩ := own_split hown
      obtain ⟨oc2, hown2⟩ := own_split hown1
      have q1 := ownOff_app ho1 oc2
      have q2 := ownOff_app ho2 oc1
      have q3 : ∀ q ∈ rst, q ∈ rst ++ own := fun q hq => List.mem_append.mpr (.inl hq)
      have q4 : ∀ q ∈ own, q ∈ rst ++ own := fun q hq => List.mem_append.mpr (.inr hq)
      have hsx : (sx9, instObj 190 sd9) ∈ rst ++ own := q3 _ (hsub _ (.head _))
      have hsd : (sd9, SD9) ∈ rst ++ own := q3 _ (hsub _ (.tail _ (.head _)))
      have hsl : ∀ q ∈ led, q ∈ rst ++ own := fun q hq => q3 q (hsub q (.tail _ (.tail _ hq)))
      obtain ⟨it, oi, rr, orr, rvs, tm, rfl, hIt, hIc, hId, hRr, hRo, hRb⟩ := hvi.mono hk0 hsl
      replace hst' := hst'.mono hsl
      replace hlf' := hlf'.mono hsl
      replace hyl := hyl.mono hk0 hsl
      simp only [List.cons_append, List.nil_append] at N1
      generalize hrs : rst ++ own = rs at N1 q1 q2 q3 q4 hsx hsd hsl hIt hRr hst' hlf' hyl
      clear hrs hvi
      have hrc : ∀ p ∈ rs, (p.1 : Addr) ≠ L' + 1 := fun p hp => q2 p hp _ (.head _)
      replace hRb : BAre rvs bs := hRb
      replace hId : ∃ n, oi.data = .seq [Value.str mode tm, .ref rr].toArray n := hId
      have hrl := hRb.length
      rcases hmd with rfl | hno
      · have e1 : lstep none (Str.ofString "output", bs) = some bs := rfl
        rw [e1] at hyl hstep
        obtain ⟨la, lo, lus, rfl, hLa, hLc, hLd, hLb⟩ := hyl
        have hofd : ∀ oq, OwnOff ((L' + 1, oq) :: rs) [fd9] := fun oq => ownOff_cons (fun b hb => by rw [List.mem_singleton.mp hb]; exact Ne.symm hfc) q1
        k_steps
        rename News _ _ _ _ => N4
        refine comp_same (Str.ofString "00") rfl (by k_asm) N4 hRr (by intro q hq; simp only [List.mem_cons, hq, or_true]) hRo (by omega) ?fin ?turn2
        case turn2 =>
          clear N4
          intro gg j ys v I oI C oC D m₂ h tk E' hj hTj hv1 hC hxx F' N' off ne
          iterate 14 (first | (k_unfold; (try dsimp only)) | (k_end; wrow_close) | walk1 | (dsimp only; walk1) | (leave1; walk_say "STEP leave1"; try dsimp only) | fail "no step")
          rename News _ _ _ _ => N9
          refine LCg.CompEnd.intro (by k_asm) N9 _ (fun p hp => .tail _ hp) off (hRr.mono (by intro q hq; simp only [List.mem_cons, hq, or_true])) ⟨rfl, hTj.snoc _⟩
        case fin =>
          clear N4
          intro gg ys hTy
          iterate 1 (first | (k_unfold; (try dsimp only)) | (k_end; wrow_close) | walk1 | (dsimp only; walk1) | (leave1; walk_say "STEP leave1"; try dsimp only) | fail "no step")
          rename News _ _ _ _ => N9
          refine cmp_told N9 (.tail _ (.tail _ (.tail _ (.tail _ (.tail _ (.head _)))))) (.head _) hTl9 hTy (by have hcL9 := cLine_is; simp only [units_deeper, units_caller]; omega) ?_
          iterate 53 (first | (k_unfold; (try dsimp only)) | (k_end; wrow_close) | walk1 | (dsimp only; walk1) | (leave1; walk_say "STEP leave1"; try dsimp only) | fail "no step")
          rename News _ _ _ _ => N9
          refine cmp_lying (by k_asm) N9 (.head _) hLa (by intro q hq; simp only [List.mem_cons, hq, or_true]) hLc hLd hRb hLb (by have hcL9 := cLine_is; simp only [units_deeper, units_caller]; omega) ?_
          iterate 12 (first | (k_unfold; (try dsimp only)) | (k_end; wrow_close) | walk1 | (dsimp only; walk1) | (leave1; walk_say "STEP leave1"; try dsimp only) | fail "no step")
          iterate 10 (first | (k_unfold; (try dsimp only)) | (k_end; wrow_close) | walk1 | (dsimp only; walk1) | (leave1; walk_say "STEP leave1"; try dsimp only) | fail "no step")
          rename News _ _ _ _ => N9
          refine cmp_read (by k_asm) N9 (.tail _ (.head _)) (.tail _ (.tail _ (.head _))) (.head _) hLa (by intro q hq; simp only [List.mem_cons, hq, or_true]) hLc hLd hus9 hLb (by have hcL9 := cLine_is; simp only [units_deeper, units_caller]; omega) ?_
          k_steps
          rename News _ _ _ _ => N9
          rename Fr _ _ _ _ => F9
          rename (_ = Data.cell (some _)) => hcell
          have zce : ∀ oq, (L' + 1, oq) ∈ (L' + 1, oq) :: rs := fun _ => .head _
          have w1 : ∀ q ∈ rs, @Ne Nat q.1 hd9 := fun q hq => z1 q (by simp only [List.mem_cons, hq, or_true]) _ (.head _)
          have w2 : ∀ q ∈ rs, @Ne Nat q.1 c9 := fun q hq => z1 q (by simp only [List.mem_cons, hq, or_true]) _ (.tail _ (.head _))
          have w3 : ∀ q ∈ rs, @Ne Nat q.1 hx9 := fun q hq => z2 q (by simp only [List.mem_cons, hq, or_true]) _ (.tail _ (.head _))
          have w4 : ∀ q ∈ rs, @Ne Nat q.1 tp9 := fun q hq => z3 q (by simp only [List.mem_cons, hq, or_true]) _ (.tail _ (.head _))
          have y1 : @Ne Nat fd9 hd9 := z2 _ (.head _) _ (.head _)
          have y2 : @Ne Nat fd9 hx9 := z2 _ (.head _) _ (.tail _ (.head _))
          have y3 : @Ne Nat fd9 c9 := z3 _ (.head _) _ (.head _)
          have y4 : @Ne Nat fd9 tp9 := z3 _ (.head _) _ (.tail _ (.head _))
          have y5 : @Ne Nat (L' + 1) hd9 := z2 _ (.tail _ (.head _)) _ (.head _)
          have y6 : @Ne Nat (L' + 1) hx9 := z2 _ (.tail _ (.head _)) _ (.tail _ (.head _))
          have y7 : @Ne Nat (L' + 1) c9 := z3 _ (.tail _ (.head _)) _ (.head _)
          have y8 : @Ne Nat (L' + 1) tp9 := z3 _ (.tail _ (.head _)) _ (.tail _ (.head _))
          have y9 : @Ne Nat tp9 hd9 := z1 _ (.tail _ (.tail _ (.head _))) _ (.head _)
          have y10 : @Ne Nat tp9 c9 := z1 _ (.tail _ (.tail _ (.head _))) _ (.tail _ (.head _))
          refine InvEndG.intro F9 N9 (nx := (L' + 1, _) :: (hd9, D9) :: (c9, listOf rvs.toArray n9) :: (fd9, FD9) :: (hx9, instObj 68 hd9) :: (tp9, TP9) :: rst) ⟨_, .ref hx9, ⟨_, hcell⟩, rfl, ?e2b, .inr ⟨bs, c9, rvs, n9, hd9, hx9, D9, tp9, TP9, FD9, Str.ofString "output", (hx9, instObj 68 hd9) :: (tp9, TP9) :: rst, hstep, rfl, rfl, hRb, by omega, hF9, hT9, .tail _ (.head _), .head _, hD9, .inl rfl,
            off_pair m1 y9 (fun q hq => w1 q (q3 q hq)), off_pair m3 y10 (fun q hq => w2 q (q3 q hq)), off_pair (Ne.symm y2) (Ne.symm y4) (fun q hq => ho1 q hq _ (.head _)), off_pair (Ne.symm y6) (Ne.symm y8) (fun q hq => ho2 q hq _ (.head _)), m2, y1, y3, Ne.symm y5, Ne.symm y7, hfc, fun q hq => .tail _ (.tail _ (hsub q hq))⟩⟩
            (own_new oc1 (own_new (fun q hq => w1 q (q4 q hq)) (own_new (fun q hq => w2 q (q4 q hq)) (own_new oc2 (own_new (fun q hq => w3 q (q4 q hq)) (own_new (fun q hq => w4 q (q4 q hq)) hown2)))))) ?s1b ?s2b
          case e2b => (intro z z1 z2 z3; obtain ⟨a1, a2, a3, a4⟩ := st_off z3; simp only [z1, z2, a1, a2, a3, a4, if_false])
          case s1b =>
            intro p hp
            simp only [List.mem_cons] at hp ⊢
            rcases hp with h | h | h | h | h | h | h
            all_goals (first | simp only [h, true_or, or_true] | simp only [q3 p h, or_true])
          case s2b => (intro p hp; simp only [List.mem_cons, q4 p hp, or_true])
      · have hno' : NotOut mode := hno
        have e1 : lstep none (mode, bs) = none := by rcases hno with rfl | rfl | rfl <;> rfl
        rw [e1] at hyl hstep
        obtain rfl : y = Value.none := hyl
        clear hno
        k_steps
        rename News _ _ _ _ => N9
        rename Fr _ _ _ _ => F9
        rename (_ = Data.cell (some _)) => hcell
        refine InvEndG.intro F9 N9 ⟨_, .none, ⟨_, hcell⟩, rfl, ?e2, .inl ⟨hstep, rfl, FD, rst, rfl, hFD, ho1, ho2, hfc, hsub⟩⟩ hown ?s1 ?s2
        case e2 => (intro z z1 z2 z3; obtain ⟨a1, a2, a3, a4⟩ := st_off z3; simp only [z1, z2, a1, a2, a3, a4, if_false])
        case s1 =>
          intro p hp
          simp only [List.mem_cons] at hp ⊢
          rcases hp with h | h | h
          · exact .inr (.inr (.inl h))
          · exact .inr (.inr (.inr (.inl h)))
          · exact .inr (.inr (.inr (.inr (q3 p h))))
        case s2 => exact fun p hp => .tail _ (.tail _ (.tail _ (.tail _ (q4 p hp))))
    · rw [hs0] at hyl hstep
      have n1' : Unit → @Ne Nat c hd1 := fun _ => n1
      have n2' : Unit → @Ne Nat fd9 hd1 := fun _ => n2
      have n3' : Unit → @Ne Nat fd9 c := fun _ => n3
      have n4' : Unit → @Ne Nat hd1 (L' + 1) := fun _ => n4
      have n5' : Unit → @Ne Nat c (L' + 1) := fun _ => n5
      have n6' : Unit → @Ne Nat fd9 (L' + 1) := fun _ => n6
      clear n1 n2 n3 n4 n5 n6
      obtain ⟨oc1, hown1⟩ := own_split hown
      obtain ⟨oc2, hown2⟩ := own_split hown1
      obtain ⟨oc3, hown3⟩ := own_split hown2
      obtain ⟨oc4, hown4⟩ := own_split hown3
      have q1 := ownOff_app of oc4
      have q2 := ownOff_app oce oc1
      have qh := ownOff_app oh oc2
      have qc := ownOff_app oc0 oc3
      have q3 : ∀ q ∈ rst, q ∈ rst ++ own := fun q hq => List.mem_append.mpr (.inl hq)
      have q4 : ∀ q ∈ own, q ∈ rst ++ own := fun q hq => List.mem_append.mpr (.inr hq)
      have hsx : (sx9, instObj 190 sd9) ∈ rst ++ own := q3 _ (hsub _ (.head _))
      have hsd : (sd9, SD9) ∈ rst ++ own := q3 _ (hsub _ (.tail _ (.head _)))
      have htp' : (tp, TP) ∈ rst ++ own := q3 _ htp
      have hhx' : (hx1, instObj 68 hd1) ∈ rst ++ own := q3 _ hhx
      have hsl : ∀ q ∈ led, q ∈ rst ++ own := fun q hq => q3 q (hsub q (.tail _ (.tail _ hq)))
      obtain ⟨it, oi, rr, orr, rvs, tm, rfl, hIt, hIc, hId, hRr, hRo, hRb⟩ := hvi.mono hk0 hsl
      replace hst' := hst'.mono hsl
      replace hlf' := hlf'.mono hsl
      replace hyl := hyl.mono hk0 hsl
      simp only [List.cons_append, List.nil_append] at N1
      generalize hrs : rst ++ own = rs at N1 q1 q2 qh qc q3 q4 hsx hsd htp' hhx' hsl hIt hRr hst' hlf' hyl
      clear hrs hvi
      have hrc : ∀ p ∈ rs, (p.1 : Addr) ≠ L' + 1 := fun p hp => q2 p hp _ (.head _)
      have hrf : ∀ p ∈ rs, (p.1 : Addr) ≠ fd9 := fun p hp => q1 p hp _ (.head _)
      have qhc := off_two qh qc
      replace hRb : BAre rvs bs := hRb
      replace hId : ∃ n, oi.data = .seq [Value.str mode tm, .ref rr].toArray n := hId
      have hrl := hRb.length
      have hvl := hB.length
      have hr10 : rvs.length ≤ 10 := by omega
      have hv90 : vs.length ≤ 90 := by omega
      have hv1000 : vs.length ≤ 1000 := by omega
      have hR64 : R.length ≤ 64 := by omega
      have hb64 : bs.length ≤ 64 := by omega
      have hr1000 : rvs.length ≤ 1000 := by omega
      have hb4 : bs.length ≤ 4 * (i + 1) := by omega
      have hRb4 : (R ++ bs).length ≤ 4 * (i + 1) := by rw [List.length_append]; omega
      have hR4 : R.length ≤ 4 * (i + 1) := by omega
      rcases hmd with rfl | rfl | hno
      · have e1 : lstep (some R) (Str.ofString "output", bs) = some bs := rfl
        rw [e1] at hyl hstep
        obtain ⟨la, lo, lus, rfl, hLa, hLc, hLd, hLb⟩ := hyl
        have hofd : ∀ oq, OwnOff ((L' + 1, oq) :: (hd1, D) :: (c, listOf vs.toArray n) :: rs) [fd9] := fun oq => ownOff_cons (fun b hb => by rw [List.mem_singleton.mp hb]; exact Ne.symm (n6' ())) (ownOff_cons (fun b hb => by rw [List.mem_singleton.mp hb]; exact Ne.symm (n2' ())) (ownOff_cons (fun b hb => by rw [List.mem_singleton.mp hb]; exact Ne.symm (n3' ())) q1))
        k_steps
        rename News _ _ _ _ => N4
        refine comp_same (Str.ofString "00") rfl (by k_asm) N4 hRr (by intro q hq; simp only [List.mem_cons, hq, or_true]) hRo hr10 ?fino ?tuo
        case tuo =>
          clear N4
          intro gg j ys v I oI C oC D m₂ h tk E' hj hTj hv1 hC hxx F' N' off ne
          k_steps
          rename News _ _ _ _ => N9
          refine LCg.CompEnd.intro (by k_asm) N9 _ (fun p hp => .tail _ hp) off (hRr.mono (by intro q hq; simp only [List.mem_cons, hq, or_true])) ⟨rfl, hTj.snoc _⟩
        case fino =>
          clear N4
          intro gg ys hTy
          k_steps
          refine Hold.mk ?_
          rename News _ _ _ _ => N9
          refine cmp_told N9 (.tail _ (.tail _ (.tail _ (.tail _ (.tail _ (.head _)))))) (.head _) hTl9 hTy (by have hcL9 := cLine_is; simp only [units_deeper, units_caller]; omega) ?_
          have v1 : Unit → @Ne Nat hd1 hd9 := fun _ => z2 _ (.tail _ (.tail _ (.head _))) _ (.head _)
          have v2 : Unit → @Ne Nat hd1 hx9 := fun _ => z2 _ (.tail _ (.tail _ (.head _))) _ (.tail _ (.head _))
          have v3 : Unit → @Ne Nat hd1 r9 := fun _ => z2 _ (.tail _ (.tail _ (.head _))) _ (.tail _ (.tail _ (.head _)))
          have v4 : Unit → @Ne Nat hd1 tl9 := fun _ => z2 _ (.tail _ (.tail _ (.head _))) _ (.tail _ (.tail _ (.tail _ (.head _))))
          have v5 : Unit → @Ne Nat hd1 c9 := fun _ => z3 _ (.tail _ (.tail _ (.head _))) _ (.head _)
          have v6 : Unit → @Ne Nat hd1 tp9 := fun _ => z3 _ (.tail _ (.tail _ (.head _))) _ (.tail _ (.head _))
          have u1 : Unit → @Ne Nat c hd9 := fun _ => z2 _ (.tail _ (.tail _ (.tail _ (.head _)))) _ (.head _)
          have u2 : Unit → @Ne Nat c hx9 := fun _ => z2 _ (.tail _ (.tail _ (.tail _ (.head _)))) _ (.tail _ (.head _))
          have u3 : Unit → @Ne Nat c r9 := fun _ => z2 _ (.tail _ (.tail _ (.tail _ (.head _)))) _ (.tail _ (.tail _ (.head _)))
          have u4 : Unit → @Ne Nat c tl9 := fun _ => z2 _ (.tail _ (.tail _ (.tail _ (.head _)))) _ (.tail _ (.tail _ (.tail _ (.head _))))
          have u5 : Unit → @Ne Nat c c9 := fun _ => z3 _ (.tail _ (.tail _ (.tail _ (.head _)))) _ (.head _)
          have u6 : Unit → @Ne Nat c tp9 := fun _ => z3 _ (.tail _ (.tail _ (.tail _ (.head _)))) _ (.tail _ (.head _))
          k_steps
          refine Hold.mk ?_
          rename News _ _ _ _ => N9
          refine cmp_lying (by k_asm) N9 (.head _) hLa (by intro q hq; simp only [List.mem_cons, hq, or_true]) hLc hLd hRb hLb (by have hcL9 := cLine_is; simp only [units_deeper, units_caller]; omega) ?_
          k_steps
          refine Hold.mk ?_
          rename News _ _ _ _ => N9
          refine cmp_read (by k_asm) N9 (.tail _ (.head _)) (.tail _ (.tail _ (.head _))) (.head _) hLa (by intro q hq; simp only [List.mem_cons, hq, or_true]) hLc hLd hus9 hLb (by have hcL9 := cLine_is; simp only [units_deeper, units_caller]; omega) ?_
          k_steps
          rename News _ _ _ _ => N9
          rename Fr _ _ _ _ => F9
          rename (_ = Data.cell (some _)) => hcell
          have w1 : ∀ q ∈ rs, @Ne Nat q.1 hd9 := fun q hq => z1 q (by simp only [List.mem_cons, hq, or_true]) _ (.head _)
          have w2 : ∀ q ∈ rs, @Ne Nat q.1 c9 := fun q hq => z1 q (by simp only [List.mem_cons, hq, or_true]) _ (.tail _ (.head _))
          have w3 : ∀ q ∈ rs, @Ne Nat q.1 hx9 := fun q hq => z2 q (by simp only [List.mem_cons, hq, or_true]) _ (.tail _ (.head _))
          have w4 : ∀ q ∈ rs, @Ne Nat q.1 tp9 := fun q hq => z3 q (by simp only [List.mem_cons, hq, or_true]) _ (.tail _ (.head _))
          have y1 : @Ne Nat fd9 hd9 := z2 _ (.head _) _ (.head _)
          have y2 : @Ne Nat fd9 hx9 := z2 _ (.head _) _ (.tail _ (.head _))
          have y3 : @Ne Nat fd9 c9 := z3 _ (.head _) _ (.head _)
          have y4 : @Ne Nat fd9 tp9 := z3 _ (.head _) _ (.tail _ (.head _))
          have y5 : @Ne Nat (L' + 1) hd9 := z2 _ (.tail _ (.head _)) _ (.head _)
          have y6 : @Ne Nat (L' + 1) hx9 := z2 _ (.tail _ (.head _)) _ (.tail _ (.head _))
          have y7 : @Ne Nat (L' + 1) c9 := z3 _ (.tail _ (.head _)) _ (.head _)
          have y8 : @Ne Nat (L' + 1) tp9 := z3 _ (.tail _ (.head _)) _ (.tail _ (.head _))
          have y9 : @Ne Nat tp9 hd9 := z1 _ (.tail _ (.tail _ (.head _))) _ (.head _)
          have y10 : @Ne Nat tp9 c9 := z1 _ (.tail _ (.tail _ (.head _))) _ (.tail _ (.head _))
          refine InvEndG.intro F9 N9 (nx := (L' + 1, _) :: (hd9, D9) :: (c9, listOf rvs.toArray n9) :: (fd9, FD9) :: (hx9, instObj 68 hd9) :: (tp9, TP9) :: rst) ⟨_, .ref hx9, ⟨_, hcell⟩, rfl, ?e2c, .inr ⟨bs, c9, rvs, n9, hd9, hx9, D9, tp9, TP9, FD9, Str.ofString "output", (hx9, instObj 68 hd9) :: (tp9, TP9) :: rst, hstep, rfl, rfl, hRb, hb4, hF9, hT9, .tail _ (.head _), .head _, hD9, .inl rfl,
            off_pair m1 y9 (fun q hq => w1 q (q3 q hq)), off_pair m3 y10 (fun q hq => w2 q (q3 q hq)), off_pair (Ne.symm y2) (Ne.symm y4) (fun q hq => of q hq _ (.head _)), off_pair (Ne.symm y6) (Ne.symm y8) (fun q hq => oce q hq _ (.head _)), m2, y1, y3, Ne.symm y5, Ne.symm y7, n6' (), fun q hq => .tail _ (.tail _ (hsub q hq))⟩⟩
            (own_new oc1 (own_new (fun q hq => w1 q (q4 q hq)) (own_new (fun q hq => w2 q (q4 q hq)) (own_new oc4 (own_new (fun q hq => w3 q (q4 q hq)) (own_new (fun q hq => w4 q (q4 q hq)) hown4)))))) ?s1c ?s2c
          case e2c => (intro z z1 z2 z3; obtain ⟨a1, a2, a3, a4⟩ := st_off z3; simp only [z1, z2, a1, a2, a3, a4, if_false])
          case s1c =>
            intro p hp
            simp only [List.mem_cons] at hp ⊢
            rcases hp with h | h | h | h | h | h | h
            all_goals (first | simp only [h, true_or, or_true] | simp only [q3 p h, or_true])
          case s2c => (intro p hp; simp only [List.mem_cons, q4 p hp, or_true])
      · have e1 : lstep (some R) (Str.ofString "extend", bs) = some (R ++ bs) := rfl
        rw [e1] at hyl hstep
        obtain ⟨la, lo, lus, rfl, hLa, hLc, hLd, hLb⟩ := hyl
        have hBb : BAre (vs ++ rvs) (R ++ bs) := hB.append hRb
        have hvv : (vs ++ rvs).length ≤ 1000 := by rw [List.length_append]; omega
        have hvR : (R ++ bs).length ≤ 64 := by rw [List.length_append]; omega
        have hoc9 : ∀ oq, OwnOff ((L' + 1, oq) :: (hd1, D) :: (fd9, FD) :: rs) [c] := fun oq => ownOff_cons (fun b hb => by rw [List.mem_singleton.mp hb]; exact Ne.symm (n5' ())) (ownOff_cons (fun b hb => by rw [List.mem_singleton.mp hb]; exact Ne.symm (n1' ())) (ownOff_cons (fun b hb => by rw [List.mem_singleton.mp hb]; exact n3' ()) qc))
        k_steps
        rename News _ _ _ _ => N4
        refine comp_same (Str.ofString "00") rfl (by k_asm) N4 hRr (by intro q hq; simp only [List.mem_cons, hq, or_true]) hRo hr10 ?fine ?tue
        case tue =>
          clear N4
          intro gg j ys v I oI C oC D m₂ h tk E' hj hTj hv1 hC hxx F' N' off ne
          k_steps
          rename News _ _ _ _ => N9
          refine LCg.CompEnd.intro (by k_asm) N9 _ (fun p hp => .tail _ hp) off (hRr.mono (by intro q hq; simp only [List.mem_cons, hq, or_true])) ⟨rfl, hTj.snoc _⟩
        case fine =>
          clear N4
          intro gg ys hTy
          k_steps
          refine Hold.mk ?_
          rename News _ _ _ _ => N9
          refine cmp_told N9 (.tail _ (.tail _ (.tail _ (.tail _ (.tail _ (.head _)))))) (.head _) hTl9 hTy (by have hcL9 := cLine_is; simp only [units_deeper, units_caller]; omega) ?_
          k_steps
          refine Hold.mk ?_
          rename News _ _ _ _ => N9
          refine cmp_lying (by k_asm) N9 (.head _) hLa (by intro q hq; simp only [List.mem_cons, hq, or_true]) hLc hLd hBb hLb (by have hcL9 := cLine_is; simp only [units_deeper, units_caller]; omega) ?_
          k_steps
          refine Hold.mk ?_
          rename News _ _ _ _ => N9
          refine cmp_read (by k_asm) N9 (.tail _ (.head _)) (.tail _ (.tail _ (.head _))) (.head _) hLa (by intro q hq; simp only [List.mem_cons, hq, or_true]) hLc hLd hus9 hLb (by have hcL9 := cLine_is; simp only [units_deeper, units_caller]; omega) ?_
          k_steps
          rename News _ _ _ _ => N9
          rename Fr _ _ _ _ => F9
          rename (_ = Data.cell (some _)) => hcell
          have w1 : ∀ q ∈ rs, @Ne Nat q.1 hd9 := fun q hq => z1 q (by simp only [List.mem_cons, hq, or_true]) _ (.head _)
          have w3 : ∀ q ∈ rs, @Ne Nat q.1 hx9 := fun q hq => z2 q (by simp only [List.mem_cons, hq, or_true]) _ (.tail _ (.head _))
          have y1 : @Ne Nat fd9 hd9 := z2 _ (.tail _ (.tail _ (.tail _ (.head _)))) _ (.head _)
          have y2 : @Ne Nat fd9 hx9 := z2 _ (.tail _ (.tail _ (.tail _ (.head _)))) _ (.tail _ (.head _))
          have y5 : @Ne Nat (L' + 1) hd9 := z2 _ (.tail _ (.head _)) _ (.head _)
          have y6 : @Ne Nat (L' + 1) hx9 := z2 _ (.tail _ (.head _)) _ (.tail _ (.head _))
          refine InvEndG.intro F9 N9 (nx := (L' + 1, _) :: (hd9, D9) :: (c, listOf (vs ++ rvs).toArray n9) :: (fd9, FD) :: (hx9, instObj 68 hd9) :: rst) ⟨_, .ref hx9, ⟨_, hcell⟩, rfl, ?e2d, .inr ⟨R ++ bs, c, vs ++ rvs, n9, hd9, hx9, D9, tp, TP, FD, Str.ofString "extend", (hx9, instObj 68 hd9) :: rst, hstep, rfl, rfl, hBb, hRb4, hFD, hTP, .tail _ htp, .head _, hD9, .inr rfl,
            off_one m1 (fun q hq => w1 q (q3 q hq)), off_one m3 (fun q hq => oc0 q hq _ (.head _)), off_one (Ne.symm y2) (fun q hq => of q hq _ (.head _)), off_one (Ne.symm y6) (fun q hq => oce q hq _ (.head _)), m2, y1, n3' (), Ne.symm y5, n5' (), n6' (), fun q hq => .tail _ (hsub q hq)⟩⟩
            (own_new oc1 (own_new (fun q hq => w1 q (q4 q hq)) (own_new oc3 (own_new oc4 (own_new (fun q hq => w3 q (q4 q hq)) hown4))))) ?s1d ?s2d
          case e2d => (intro z z1 z2 z3; obtain ⟨a1, a2, a3, a4⟩ := st_off z3; simp only [z1, z2, a1, a2, a3, a4, if_false])
          case s1d =>
            intro p hp
            simp only [List.mem_cons] at hp ⊢
            rcases hp with h | h | h | h | h | h
            all_goals (first | simp only [h, true_or, or_true] | simp only [q3 p h, or_true])
          case s2d => (intro p hp; simp only [List.mem_cons, q4 p hp, or_true])
      · have e1 : lstep (some R) (mode, bs) = some R := by rcases hno with rfl | rfl <;> rfl
        rw [e1] at hyl hstep
        obtain ⟨la, lo, lus, rfl, hLa, hLc, hLd, hLb⟩ := hyl
        have hm2' : mode = Str.ofString "input" ∨ mode = Str.ofString "i-o" := hno
        rcases hno with rfl | rfl
        · clear e1
          k_steps
          rename News _ _ _ _ => N4
          refine comp_same (Str.ofString "48") rfl (by k_asm) N4 hRr (by intro q hq; simp only [List.mem_cons, hq, or_true]) hRo hr10 ?fini ?tui
          case tui =>
            clear N4
            intro gg j ys v I oI C oC D m₂ h tk E' hj hTj hv1 hC hxx F' N' off ne
            k_steps
            rename News _ _ _ _ => N9
            refine LCg.CompEnd.intro (by k_asm) N9 _ (fun p hp => .tail _ hp) off (hRr.mono (by intro q hq; simp only [List.mem_cons, hq, or_true])) ⟨rfl, hTj.snoc _⟩
          case fini =>
            clear N4
            intro gg ys hTy
            k_steps
            refine Hold.mk ?_
            rename News _ _ _ _ => N9
            refine cmp_told N9 (.tail _ (.tail _ (.head _))) (.head _) hTl9 hTy (by have hcL9 := cLine_is; simp only [units_deeper, units_caller]; omega) ?_
            k_steps
            refine Hold.mk ?_
            rename News _ _ _ _ => N9
            refine cmp_lying (by k_asm) N9 (.head _) hLa (by intro q hq; simp only [List.mem_cons, hq, or_true]) hLc hLd hB hLb (by have hcL9 := cLine_is; simp only [units_deeper, units_caller]; omega) ?_
            k_steps
            refine Hold.mk ?_
            rename News _ _ _ _ => N9
            refine cmp_read (by k_asm) N9 (.tail _ (.head _)) (.tail _ (.tail _ (.head _))) (.head _) hLa (by intro q hq; simp only [List.mem_cons, hq, or_true]) hLc hLd hus9 hLb (by have hcL9 := cLine_is; simp only [units_deeper, units_caller]; omega) ?_
            k_steps
            rename News _ _ _ _ => N9
            rename Fr _ _ _ _ => F9
            rename (_ = Data.cell (some _)) => hcell
            refine InvEndG.intro F9 N9 (nx := (L' + 1, _) :: (hd1, D) :: (c, listOf vs.toArray n) :: (fd9, FD) :: rst) ⟨_, .ref hx1, ⟨_, hcell⟩, rfl, ?e2i, .inr ⟨R, c, vs, n, hd1, hx1, D, tp, TP, FD, md, rst, hstep, rfl, rfl, hB, hR4, hFD, hTP, htp, hhx, hRF, hmd1, oh, oc0, of, oce, n1' (), n2' (), n3' (), n4' (), n5' (), n6' (), hsub⟩⟩ hown ?s1i ?s2i
            case e2i => (intro z z1 z2 z3; obtain ⟨a1, a2, a3, a4⟩ := st_off z3; simp only [z1, z2, a1, a2, a3, a4, if_false])
            case s1i =>
              intro p hp
              simp only [List.mem_cons] at hp ⊢
              rcases hp with h | h | h | h | h
              all_goals (first | simp only [h, true_or, or_true] | simp only [q3 p h, or_true])
            case s2i => (intro p hp; simp only [List.mem_cons, q4 p hp, or_true])
        · clear e1
          k_steps
          rename News _ _ _ _ => N4
          refine comp_same (Str.ofString "48") rfl (by k_asm) N4 hRr (by intro q hq; simp only [List.mem_cons, hq, or_true]) hRo hr10 ?finj ?tuj
          case tuj =>
            clear N4
            intro gg j ys v I oI C oC D m₂ h tk E' hj hTj hv1 hC hxx F' N' off ne
            k_steps
            rename News _ _ _ _ => N9
            refine LCg.CompEnd.intro (by k_asm) N9 _ (fun p hp => .tail _ hp) off (hRr.mono (by intro q hq; simp only [List.mem_cons, hq, or_true])) ⟨rfl, hTj.snoc _⟩
          case finj =>
            clear N4
            intro gg ys hTy
            k_steps
            refine Hold.mk ?_
            rename News _ _ _ _ => N9
            refine cmp_told N9 (.tail _ (.tail _ (.head _))) (.head _) hTl9 hTy (by have hcL9 := cLine_is; simp only [units_deeper, units_caller]; omega) ?_
            k_steps
            refine Hold.mk ?_
            rename News _ _ _ _ => N9
            refine cmp_lying (by k_asm) N9 (.head _) hLa (by intro q hq; simp only [List.mem_cons, hq, or_true]) hLc hLd hB hLb (by have hcL9 := cLine_is; simp only [units_deeper, units_caller]; omega) ?_
            k_steps
            refine Hold.mk ?_
            rename News _ _ _ _ => N9
            refine cmp_read (by k_asm) N9 (.tail _ (.head _)) (.tail _ (.tail _ (.head _))) (.head _) hLa (by intro q hq; simp only [List.mem_cons, hq, or_true]) hLc hLd hus9 hLb (by have hcL9 := cLine_is; simp only [units_deeper, units_caller]; omega) ?_
            k_steps
            rename News _ _ _ _ => N9
            rename Fr _ _ _ _ => F9
            rename (_ = Data.cell (some _)) => hcell
            refine InvEndG.intro F9 N9 (nx := (L' + 1, _) :: (hd1, D) :: (c, listOf vs.toArray n) :: (fd9, FD) :: rst) ⟨_, .ref hx1, ⟨_, hcell⟩, rfl, ?e2j, .inr ⟨R, c, vs, n, hd1, hx1, D, tp, TP, FD, md, rst, hstep, rfl, rfl, hB, hR4, hFD, hTP, htp, hhx, hRF, hmd1, oh, oc0, of, oce, n1' (), n2' (), n3' (), n4' (), n5' (), n6' (), hsub⟩⟩ hown ?s1j ?s2j
            case e2j => (intro z z1 z2 z3; obtain ⟨a1, a2, a3, a4⟩ := st_off z3; simp only [z1, z2, a1, a2, a3, a4, if_false])
            case s1j =>
              intro p hp
              simp only [List.mem_cons] at hp ⊢
              rcases hp with h | h | h | h | h
              all_goals (first | simp only [h, true_or, or_true] | simp only [q3 p h, or_true])
            case s2j => (intro p hp; simp only [List.mem_cons, q4 p hp, or_true])
  case done =>
    clear N3 F3 hR lt9
    (repeat (rename News _ _ _ _ => lx9; clear lx9))
    rintro m₁ nx h tk ⟨oc, ev, _, _, _, hst⟩ F1 N1
    have hsn : ∀ q ∈ led, q ∈ nx := by
      rcases hst with ⟨_, _, FD, rst, rfl, _, _, _, _, hsub⟩ | ⟨R, c, vs, n, hd1, hx1, D, tp, TP, FD, md, rst, _, _, rfl, _, _, _, _, _, _, _, _, _, _, _, _, _, _, _, _, _, _, hsub⟩
      · exact fun q hq => .tail _ (.tail _ (hsub q (.tail _ (.tail _ hq))))
      · exact fun q hq => .tail _ (.tail _ (.tail _ (.tail _ (hsub q (.tail _ (.tail _ hq))))))
    have N2 := news_sub N1 hsn
    clear N1 hst
    k_steps
    rename News _ _ _ _ => N9
    exact post _ _ (by k_asm) N9
end
section
variable {prog : Program} {w : World} {A : Around} {E : Value → Shared → Prop} {s : Shared} {h₀ : Heap} {L : Addr} {m : Str → Option Value} {e f a b : Addr} {oe of o o2 : Obj} {vs us : List Value} {rs : List (Addr × Obj)} {Q : Value → Shared → Prop}
theorem led_swap {h : Heap} {D : Addr} {oD : Obj} (N : News h₀ L h ((D, oD) :: (e, oe) :: (f, of) :: rs)) : News h₀ L h ((e, oe) :: (f, of) :: (D, oD) :: rs) := fun p hp => N p (by
  simp only [List.mem_cons] at hp ⊢
  rcases hp with h | h | h | h
  · exact .inr (.inl h)
  · exact .inr (.inr (.inl h))
  · exact .inl h
  · exact .inr (.inr (.inr h)))
theorem off_cons1 {x : Addr × Obj} {l : List (Addr × Obj)} {b : Addr} (h1 : @Ne Nat x.1 b) (h : OwnOff l [b]) : OwnOff (x :: l) [b] := by
  intro q hq c hc
  rw [List.mem_singleton.mp hc]
  rcases List.mem_cons.mp hq with rfl | hq
  · exact h1
  · exact h q hq _ (.head _)
theorem tup_held2 (F : Fr h₀ L s.heap m) (N : News h₀ L s.heap ((e, oe) :: (f, of) :: rs)) (hH : Held h₀ rs a o) (hO : SeqO o vs) (hz : vs.length ≤ 1000) (ho1 : OwnOff rs [e]) (ho2 : OwnOff rs [f])
    (h : ∀ D o' h' rs', Held h₀ rs' D o' → o'.cls = .type "tuple" → (∃ n, o'.data = .seq vs.toArray n) → (∀ q ∈ rs, q ∈ rs') → OwnOff rs' [e] → OwnOff rs' [f] → Fr h₀ L h' m → News h₀ L h' ((e, oe) :: (f, of) :: rs') → Q (.ref D) { s with heap := h' }) :
    wpAny (model prog w) A (call (.type "tuple") [.ref a]) Q E s := by
  have g := (hH.mono fun q hq => List.mem_cons_of_mem (e, oe) (List.mem_cons_of_mem (f, of) hq)).get F N
  obtain ⟨hc, k, hd⟩ := hO
  rcases hc with hc | hc
  · refine kde_tupleOf F N ⟨o, g, hc, k, hd⟩ (by rw [List.size_toArray]; omega) rfl (fun D h' F' N' l => ?_)
    exact h D _ h' ((D, _) :: rs) (.inr (.head _)) rfl ⟨_, rfl⟩ (fun q hq => .tail _ hq) (off_cons1 (Nat.ne_of_gt (l _ (.head _))) ho1) (off_cons1 (Nat.ne_of_gt (l _ (.tail _ (.head _)))) ho2) F' (led_swap N')
  · exact call_tuple_tup ⟨o, g, hc, k, hd⟩ (h a o _ rs hH hc ⟨k, hd⟩ (fun _ h => h) ho1 ho2 F N)
theorem add_held2 (F : Fr h₀ L s.heap m) (N : News h₀ L s.heap ((e, oe) :: (f, of) :: rs)) (hH : Held h₀ rs a o) (hc : o.cls = .type "tuple") (hd : ∃ n, o.data = .seq us.toArray n) (hH2 : Held h₀ rs b o2) (hc2 : o2.cls = .type "tuple") (hd2 : ∃ n, o2.data = .seq vs.toArray n) (hz : us.length + vs.length ≤ 1000) (ho1 : OwnOff rs [e]) (ho2 : OwnOff rs [f])
    (h : ∀ D o' h' rs', Held h₀ rs' D o' → o'.cls = .type "tuple" → (∃ n, o'.data = .seq (us ++ vs).toArray n) → (∀ q ∈ rs, q ∈ rs') → OwnOff rs' [e] → OwnOff rs' [f] → Fr h₀ L h' m → News h₀ L h' ((e, oe) :: (f, of) :: rs') → Q (.ref D) { s with heap := h' }) :
    wpAny (model prog w) A (binaryOp .Add (.ref a) (.ref b)) Q E s := by
  have up : ∀ q ∈ rs, q ∈ (e, oe) :: (f, of) :: rs := fun q hq => List.mem_cons_of_mem _ (List.mem_cons_of_mem _ hq)
  have t1 := held_tup F N hH up hc hd
  have t2 := held_tup F N hH2 up hc2 hd2
  refine add_tuples F N t1 t2 (fun e0 => ?_) (fun _ e0 => ?_) (fun _ _ h' F' N' => ?_) (by rw [PySem.sizeLine_eq]; omega)
  · subst e0
    exact h b o2 _ rs hH2 hc2 hd2 (fun _ h => h) ho1 ho2 F N
  · subst e0
    refine h a o _ rs hH hc ?_ (fun _ h => h) ho1 ho2 F N
    rw [List.append_nil]; exact hd
  · have l := fun p hp => Heap.lt_size (N p hp).1
    exact h _ _ h' ((s.heap.objs.size, _) :: rs) (.inr (.head _)) rfl ⟨_, rfl⟩ (fun q hq => .tail _ hq) (off_cons1 (Nat.ne_of_gt (l _ (.head _))) ho1) (off_cons1 (Nat.ne_of_gt (l _ (.tail _ (.head _)))) ho2) F' (led_swap N')
end
theorem off_E12 : True := by
  w_top off
  k_with_none
  trivial
theorem allObj_mono : ∀ {ws : List (Addr × String)} {k k' : List (Addr × Obj) → Prop}, (∀ its, k its → k' its) → AllObj ws k → AllObj ws k'
  | [], _, _, h, x => h _ x
  | _ :: _, _, _, h, x => fun o ho => allObj_mono (fun its y => h _ y) (x o ho)
section
variable {prog : Program} {w : World} {A : Around} {E : Value → Shared → Prop} {s : Shared} {h₀ : Heap} {env : Env} {target : PySem.Expr} {body : List Stmt} {Q : Flow → Shared → Prop} {ws : List (Addr × String)} {keep : List (Addr × Obj)}
theorem items_inv {X : Type} (all : List X) (LI : List X → (Str → Option Value) → List (Addr × Obj) → Prop) (IA : Value → X → Prop)
    (turn : ∀ dn x v m news h tk, x ∈ all → dn.length < all.length → IA v x → LI dn m news → Fr h₀ env.locals h m → AllObj ws (fun its => News h₀ env.locals h (its ++ news) →
      wpAny (model prog w) A (assign target env v) (fun _ s₂ => wpAny (model prog w) A (execs body env) (UnrPostW h₀ env.locals { s with heap := h, toks := tk } its (fun m' n' => SubL keep n' ∧ LI (dn ++ [x]) m' n') Q) E s₂) E { s with heap := h, toks := tk }))
    (fin : ∀ m news h tk, LI all m news → Fr h₀ env.locals h m → News h₀ env.locals h news → Q .next { s with heap := h, toks := tk }) :
    ∀ (xs : List X) (vs : List Value) (dn : List X) (m : Str → Option Value) (news : List (Addr × Obj)), dn ++ xs = all → All2 IA vs xs → LI dn m news → ItemsRest prog w A E h₀ env target body Q s ws keep (vs.map .val) m news := by
  intro xs
  induction xs with
  | nil =>
    intro vs dn m news e hv hL
    cases hv
    rw [List.append_nil] at e
    subst e
    exact fun h tk F N => fin m news h tk hL F N
  | cons x xs ih =>
    intro vs dn m news e hv hL
    cases hv with
    | @cons v9 _ vs9 _ p r =>
      refine ItemsRest.val fun h tk F => ?_
      have hx : x ∈ all := e ▸ List.mem_append.mpr (.inr (.head _))
      have hl : dn.length < all.length := by rw [← e, List.length_append, List.length_cons]; omega
      refine allObj_mono (fun its k N => ?_) (turn dn x _ m news h tk hx hl p hL F)
      refine wpAny_mono (k N) (fun _ s₂ h₂ => wpAny_mono h₂ (fun f s₃ h₃ => ?_) fun _ _ e => e) fun _ _ e => e
      have up : UnrEndW h₀ env.locals { s with heap := h, toks := tk } its (fun m' n' => SubL keep n' ∧ LI (dn ++ [x]) m' n') s₃ → UnrEndW h₀ env.locals { s with heap := h, toks := tk } its (fun m' n' => SubL keep n' ∧ ItemsRest prog w A E h₀ env target body Q s ws keep (vs9.map Itm.val) m' n') s₃ := by
        rintro ⟨h', tk', m', n', e1, F', N', o, hk, hL'⟩
        exact ⟨h', tk', m', n', e1, F', N', o, hk, ih _ (dn ++ [x]) m' n' (by rw [List.append_assoc]; exact e) r hL'⟩
      cases f with
      | ret v => exact h₃
      | brk => exact h₃
      | next => exact up h₃
      | cont => exact up h₃
end
section
variable {prog : Program} {w : World} {A : Around} {E : Value → Shared → Prop} {s : Shared} {h₀ : Heap} {L : Addr} {m : Str → Option Value} {a b : Addr} {o o2 : Obj} {vs us : List Value} {led l1 l2 news : List (Addr × Obj)} {Q : Value → Shared → Prop}
theorem tup_gen (F : Fr h₀ L s.heap m) (N : News h₀ L s.heap news) (hH : Held h₀ led a o) (hs : ∀ q ∈ led, q ∈ news) (hO : SeqO o vs) (hz : vs.length ≤ 1000)
    (h0 : Held h₀ led a o → o.cls = .type "tuple" → (∃ n, o.data = .seq vs.toArray n) → Q (.ref a) s)
    (h1 : ∀ D o' h', Held h₀ [(D, o')] D o' → o'.cls = .type "tuple" → (∃ n, o'.data = .seq vs.toArray n) → Fr h₀ L h' m → News h₀ L h' ((D, o') :: news) → (∀ p ∈ news, p.1 < D) → Q (.ref D) { s with heap := h' }) :
    wpAny (model prog w) A (call (.type "tuple") [.ref a]) Q E s := by
  have g := (hH.mono hs).get F N
  obtain ⟨hc, k, hd⟩ := hO
  rcases hc with hc | hc
  · exact kde_tupleOf F N ⟨o, g, hc, k, hd⟩ (by rw [List.size_toArray]; omega) rfl (fun D h' F' N' l => h1 D _ h' (.inr (.head _)) rfl ⟨_, rfl⟩ F' N' l)
  · exact call_tuple_tup ⟨o, g, hc, k, hd⟩ (h0 hH hc ⟨k, hd⟩)
theorem add_gen (F : Fr h₀ L s.heap m) (N : News h₀ L s.heap news) (hH : Held h₀ l1 a o) (hs : ∀ q ∈ l1, q ∈ news) (hc : o.cls = .type "tuple") (hd : ∃ n, o.data = .seq us.toArray n) (hH2 : Held h₀ l2 b o2) (hs2 : ∀ q ∈ l2, q ∈ news) (hc2 : o2.cls = .type "tuple") (hd2 : ∃ n, o2.data = .seq vs.toArray n) (hz : us.length + vs.length ≤ 1000)
    (h0 : us = [] → Held h₀ l2 b o2 → Q (.ref b) s) (h1 : us ≠ [] → vs = [] → Held h₀ l1 a o → Q (.ref a) s)
    (h2 : us ≠ [] → vs ≠ [] → ∀ D o' h', Held h₀ [(D, o')] D o' → o'.cls = .type "tuple" → (∃ n, o'.data = .seq (us ++ vs).toArray n) → Fr h₀ L h' m → News h₀ L h' ((D, o') :: news) → (∀ p ∈ news, p.1 < D) → Q (.ref D) { s with heap := h' }) :
    wpAny (model prog w) A (binaryOp .Add (.ref a) (.ref b)) Q E s :=
  add_tuples F N (held_tup F N hH hs hc hd) (held_tup F N hH2 hs2 hc2 hd2) (fun e0 => h0 e0 hH2) (fun e1 e0 => h1 e1 e0 hH) (fun e1 e2 h' F' N' => h2 e1 e2 _ _ h' (.inr (.head _)) rfl ⟨_, rfl⟩ F' N' (fun p hp => Heap.lt_size (N p hp).1)) (by rw [PySem.sizeLine_eq]; omega)
theorem add_nil (F : Fr h₀ L s.heap m) (N : News h₀ L s.heap news) (hm : (a, ({ cls := .type "tuple", data := .seq #[] } : Obj)) ∈ news) (hH2 : Held h₀ l2 b o2) (hs2 : ∀ q ∈ l2, q ∈ news) (hc2 : o2.cls = .type "tuple") (hd2 : ∃ n, o2.data = .seq vs.toArray n) (hz : vs.length ≤ 1000) (h0 : Q (.ref b) s) :
    wpAny (model prog w) A (binaryOp .Add (.ref a) (.ref b)) Q E s :=
  add_tuples (vs := []) F N ⟨_, (N _ hm).1, rfl, _, rfl⟩ (held_tup F N hH2 hs2 hc2 hd2) (fun _ => h0) (fun e _ => absurd rfl e) (fun e _ => absurd rfl e) (by rw [PySem.sizeLine_eq]; simp; omega)
end
theorem all2_imp {α β : Type} {P P' : α → β → Prop} {as : List α} {bs : List β} (h : ∀ a b, P a b → P' a b) (x : All2 P as bs) : All2 P' as bs := by
  induction x with
  | nil => exact .nil
  | cons p _ ih => exact .cons (h _ _ p) ih
def LInv (I : Addr) (h₀ : Heap) (fl : Addr) (led : List (Addr × Obj)) (m₀ : Str → Option Value) (dn : List (Str × List Bs)) (m : Str → Option Value) (nx : List (Addr × Obj)) : Prop :=
  ∃ lv fvs nf rs, nx = (fl, listOf fvs.toArray nf) :: rs ∧ m (Str.ofString "lying") = some lv ∧ (∀ z, z ≠ Str.ofString "lying" → [Str.ofString "mode", Str.ofString "rows"].contains z = false → m z = m₀ z) ∧
    LeftAt h₀ rs lv (dn.foldl lstep none) ∧ All2 (LeftAt h₀ rs) fvs (leftsOf none dn) ∧ OwnOff rs [fl] ∧ OwnOff rs [I] ∧ @Ne Nat fl I ∧ (∀ q ∈ led, q ∈ rs) ∧ (∀ R, dn.foldl lstep none = some R → R.length ≤ 4 * dn.length) ∧ fvs.length = dn.length
theorem leftsOf_snoc : ∀ (xs : List (Str × List Bs)) (ly : Option (List Bs)) (x : Str × List Bs), leftsOf ly (xs ++ [x]) = leftsOf ly xs ++ [(xs ++ [x]).foldl lstep ly]
  | [], _, _ => rfl
  | y :: xs, ly, x => by
    have := leftsOf_snoc xs (lstep ly y) x
    simpa [leftsOf] using this
theorem all2_snoc {α β : Type} {P : α → β → Prop} {as : List α} {bs : List β} {a : α} {b : β} (h : All2 P as bs) (p : P a b) : All2 P (as ++ [a]) (bs ++ [b]) := by
  induction h with
  | nil => exact .cons p .nil
  | cons q _ ih => exact .cons q ih
theorem subL_of : ∀ {l all : List (Addr × Obj)}, (∀ q ∈ l, q ∈ all) → SubL l all
  | [], _, _ => trivial
  | _ :: _, _, h => ⟨h _ (.head _), subL_of fun q hq => h q (.tail _ hq)⟩
theorem lefts_end {I fl L : Addr} {oI : Obj} {keep : List (Addr × Obj)} {h₀ hb h' : Heap} {led rs rs' : List (Addr × Obj)} {m₀ m' : Str → Option Value} {dn : List (Str × List Bs)} {x : Str × List Bs} {fvs : List Value} {lv : Value} {nf tk : Nat} {s₁ : Shared}
    (F : Fr h₀ L h' m') (N : News h₀ L h' ((I, oI) :: (fl, listOf (fvs.toArray.push lv) (nf + 1)) :: rs')) (hfv : All2 (LeftAt hb rs) fvs (leftsOf none dn)) (hs : ∀ q ∈ rs, q ∈ rs') (hlv : LeftAt hb rs' lv ((dn ++ [x]).foldl lstep none)) (ho : OwnOff rs' [fl]) (hoi : OwnOff rs' [I]) (hfi : @Ne Nat fl I) (hsub : ∀ q ∈ led, q ∈ rs)
    (hl : ∀ R, (dn ++ [x]).foldl lstep none = some R → R.length ≤ 4 * (dn ++ [x]).length) (hfl : fvs.length = dn.length) (hm1 : m' (Str.ofString "lying") = some lv) (hm2 : ∀ z, z ≠ Str.ofString "lying" → [Str.ofString "mode", Str.ofString "rows"].contains z = false → m' z = m₀ z) (hst : ∀ q ∈ keep, q ∈ led) :
    UnrEndW h₀ L s₁ [(I, oI)] (fun m' n' => SubL keep n' ∧ LInv I hb fl led m₀ (dn ++ [x]) m' n') { s₁ with heap := h', toks := tk } := by
  rw [List.push_toArray] at N
  refine ⟨h', tk, m', (fl, listOf (fvs ++ [lv]).toArray (nf + 1)) :: rs', rfl, F, N, ?_, subL_of (fun q hq => .tail _ (hs _ (hsub _ (hst q hq)))), lv, fvs ++ [lv], nf + 1, rs', rfl, hm1, hm2, hlv, ?_, ho, hoi, hfi, fun q hq => hs q (hsub q hq), hl, by simp [hfl]⟩
  · intro p hp q hq
    rw [List.mem_singleton.mp hq]
    rcases List.mem_cons.mp hp with rfl | hp
    · exact hfi
    · exact hoi p hp _ (.head _)
  · rw [leftsOf_snoc]
    exact all2_snoc (all2_imp (fun _ _ h => h.mono (fun _ _ e => e) hs) hfv) hlv
theorem led_swap2 {h₀ h : Heap} {L : Addr} {x y : Addr × Obj} {l : List (Addr × Obj)} (N : News h₀ L h (x :: y :: l)) : News h₀ L h (y :: x :: l) := fun p hp => N p (by
  simp only [List.mem_cons] at hp ⊢
  rcases hp with h | h | h
  · exact .inr (.inl h)
  · exact .inl h
  · exact .inr (.inr h))
theorem lefts_map {m₁ m₀ : Str → Option Value} {lv : Value} (h1 : m₁ (Str.ofString "lying") = some lv) (h2 : ∀ z, z ≠ Str.ofString "lying" → [Str.ofString "mode", Str.ofString "rows"].contains z = false → m₁ z = m₀ z) :
    m₁ = fun y => if y = Str.ofString "lying" then some lv else if y = Str.ofString "mode" then m₁ (Str.ofString "mode") else if y = Str.ofString "rows" then m₁ (Str.ofString "rows") else m₀ y := by
  funext y
  by_cases a1 : y = Str.ofString "lying"
  · rw [if_pos a1, a1, h1]
  · rw [if_neg a1]
    by_cases a2 : y = Str.ofString "mode"
    · rw [if_pos a2, a2]
    · rw [if_neg a2]
      by_cases a3 : y = Str.ofString "rows"
      · rw [if_pos a3, a3]
      · rw [if_neg a3]
        exact h2 y a1 (by simp [a2, a3])
theorem lefts_loop {prog : Program} {w : World} {A : Around} {E : Value → Shared → Prop} {s : Shared} {h₀ hb : Heap} {env : Env} {target : PySem.Expr} {body : List Stmt} {Q : Flow → Shared → Prop} {m₀ : Str → Option Value} {news : List (Addr × Obj)} {st : Addr} {ost : Obj} {svs : List Value} {n : Nat} (fl : Addr) (led : List (Addr × Obj)) (items : List (Str × List Bs))
    (hh : A.handled = none) (F : Fr h₀ env.locals s.heap m₀) (N : News h₀ env.locals s.heap news) (hst : ((st, ost) ∈ led ∧ ost.cls = .type "list") ∨ (h₀.get? st = some ost ∧ ost.cls = .type "tuple")) (hln : ∀ q ∈ led, q ∈ news) (hz : items.length ≤ 24) (hd : ost.data = .seq svs.toArray n) (hit : All2 (ItemAt hb led) svs items) (hL : ∀ I, (∀ p ∈ news, p.1 < I) → LInv I hb fl led m₀ [] m₀ news)
    (turn : ∀ keep, (∀ q ∈ keep, q ∈ led) → ∀ I dn x v m nx h tk, x ∈ items → dn.length < items.length → ItemAt hb led v x → LInv I hb fl led m₀ dn m nx → Fr h₀ env.locals h m → ∀ o : Obj, News h₀ env.locals h ((I, o) :: nx) →
      wpAny (model prog w) A (assign target env v) (fun _ s₂ => wpAny (model prog w) A (execs body env) (UnrPostW h₀ env.locals { s with heap := h, toks := tk } [(I, o)] (fun m' n' => SubL keep n' ∧ LInv I hb fl led m₀ (dn ++ [x]) m' n') Q) E s₂) E { s with heap := h, toks := tk })
    (fin : ∀ I m nx h tk, LInv I hb fl led m₀ items m nx → Fr h₀ env.locals h m → News h₀ env.locals h nx → Q .next { s with heap := h, toks := tk }) :
    wpAny (model prog w) A (pyIter (.ref st)) (fun it s₂ => TurnsAt prog w A h₀ env target body Q E it s₂) E s := by
  rcases hst with ⟨hm, hc⟩ | ⟨hg, hc⟩
  · exact iter_listTurns hh F N (hln _ hm) hc hd fun I hI => items_inv (ws := [(I, "list_iterator")]) (keep := [(st, ost)]) items (LInv I hb fl led m₀) (ItemAt hb led) (fun dn x v m nx h tk hx hl hv hL F o _ => turn [(st, ost)] (fun q hq => by rw [List.mem_singleton.mp hq]; exact hm) I dn x v m nx h tk hx hl hv hL F o) (fin I) items svs [] m₀ news rfl hit (hL I hI)
  · have X₀ : Frag.In [(st, ost)] h₀ := fun a o e => by
      by_cases ha : a = st
      · subst ha
        simp at e
        rw [← e]; exact hg
      · simp [List.lookup, ha] at e
        have : (a == st) = false := by simpa using ha
        rw [this] at e; cases e
    exact iter_tupK hh F N X₀ (by simp) hc hd (by rw [hit.length]; exact hz) fun I hI => items_inv (ws := [(I, "tuple_iterator")]) (keep := []) items (LInv I hb fl led m₀) (ItemAt hb led) (fun dn x v m nx h tk hx hl hv hL F o _ => turn [] (fun q hq => nomatch hq) I dn x v m nx h tk hx hl hv hL F o) (fin I) items svs [] m₀ news rfl hit (hL I hI)
theorem wordsE12 : True := by
  k_with_none
  k_with "newList" => (k_here; k_dflt (refine' newList_K ?k1 ?k2 ?_; (case k1 => k_asm); (case k2 => k_asm); k_whole); intro f9 h' F' N' lf9; (try k_lt lf9))
  k_with "assign Tuple" => (k_here; (with_reducible show wpAny _ _ (assign (Expr.Tuple _ _ _) _ (Value.ref _)) _ _ _); k_dflt (refine' unpackN_ ?F ?N ?T ?k1 ?k2 ?k3 ?_; (case F => k_asm); (case N => k_asm); (case T => exact held_tup (by k_asm) (by k_asm) (hIt.base hk9) (by (intro q hq; simp only [List.mem_cons, hq, or_true])) hIc hId); (case k1 => exact rfl); (case k2 => exact rfl); (case k3 => exact rfl)); intro h' F' N'; (try k_sweep))
  k_with "call type:tuple" => (k_here; (with_reducible show wpAny _ _ (call (Value.type _) [Value.ref _]) _ _ _); k_dflt (refine' tup_gen ?k1 ?k2 ?k3 ?k4 ?k5 ?k6 ?_ ?_; (case k1 => k_asm); (case k2 => k_asm); (case k3 => exact hRr.base hk9); (case k4 => (intro q hq; first | (simp only [List.mem_cons, hq, or_true]; done) | (rw [List.mem_singleton.mp hq]; simp only [List.mem_cons, true_or, or_true]))); (case k5 => assumption); (case k6 => assumption); k_whole); all_goals (first | (intro D8 o8 h' hH8 hc8 hd8 F' N' l8; (try k_lt l8)) | (intro hH8 hc8 hd8)))
  k_with "binaryOp Add ref ref" => (k_here; (with_reducible show wpAny _ _ (binaryOp _ (Value.ref _) (Value.ref _)) _ _ _); k_dflt (refine' add_gen ?k1 ?k2 ?a1 ?a2 ?a3 ?a4 ?b1 ?b2 ?b3 ?b4 ?k6 ?_ ?_ ?_; (case k1 => k_asm); (case k2 => k_asm); (case a1 => exact hLa.base hk9); (case a2 => (intro q hq; first | (simp only [List.mem_cons, hq, or_true]; done) | (rw [List.mem_singleton.mp hq]; simp only [List.mem_cons, true_or, or_true]))); (case a3 => exact hLc); (case a4 => exact hLd); (case b1 => exact hH8); (case b2 => (intro q hq; first | (simp only [List.mem_cons, hq, or_true]; done) | (rw [List.mem_singleton.mp hq]; simp only [List.mem_cons, true_or, or_true]))); (case b3 => exact hc8); (case b4 => exact hd8); (case k6 => exact huv); k_whole); all_goals (first | (intro w1 w2 D7 o7 h' hH7 hc7 hd7 F' N' l7; (try k_lt l7)) | (intro w1 w2 hH7) | (intro w1 hH7)))
  k_with "binaryOp Add ref ref" => (k_here; (with_reducible show wpAny _ _ (binaryOp _ (Value.ref _) (Value.ref _)) _ _ _); k_dflt (refine' add_nil ?k1 ?k2 ?k3 ?k4 ?k5 ?k6 ?k7 ?k8 ?_; (case k1 => k_asm); (case k2 => k_asm); (case k3 => k_mem); (case k4 => exact hH8); (case k5 => (intro q hq; first | (simp only [List.mem_cons, hq, or_true]; done) | (rw [List.mem_singleton.mp hq]; simp only [List.mem_cons, true_or, or_true]))); (case k6 => exact hc8); (case k7 => exact hd8); (case k8 => assumption); k_whole))
  k_with "call builtin:list.append" => (k_here; (with_reducible show wpAny _ _ (call (Value.builtin _) [Value.ref _, _]) _ _ _); k_dflt (refine' append_K ?k1 ?k2 ?k3 ?_ ?z; (case k1 => k_asm); (case k2 => k_asm); (case k3 => k_upd); (case z => (rw [List.size_toArray]; exact hfz)); k_whole); intro h' F' N'; (try k_sweep))
  trivial
section
variable {w : World} {p : Program} {loose : List Str} {mean : ExcName → Option Value} {mg mb : Str → Option Value}
    {dp un : Nat} {gd : Option (List Code)} {cn : Str} {cs : Scope} {a : Addr} {ccd : Value} {cl : List (Str × Addr)} {outer : List Env} {A₀ : Around} {base h₀ : Heap} {L : Addr} {m : Str → Option Value} {news n1 n2 rest led : List (Addr × Obj)} {s : Shared}
    {Q E : Value → Shared → Prop}
theorem c_lefts {st : Addr} {ost : Obj} {svs : List Value} {items : List (Str × List Bs)}
    (B : Below A₀ base outer h₀) (F : Fr h₀ L s.heap m) (X : (Mine.hd2.heap_39 w.params).In h₀) (N : News h₀ L s.heap led) (T : Top p loose mean mg mb h₀) (hk : cs.kind = .function)
    (hd : dp + 140 < recursionLimit) (hu : un + 1400 < cLine) (hst : ((st, ost) ∈ led ∧ ost.cls = .type "list") ∨ (h₀.get? st = some ost ∧ ost.cls = .type "tuple")) (hod : ∃ n, ost.data = .seq svs.toArray n) (hit : All2 (ItemAt h₀ led) svs items)
    (hlen : items.length ≤ 9) (hmode : ∀ x ∈ items, IsMode x.1 ∧ x.2.length ≤ 4)
    (post : ∀ r fvs nf rs h' tk', All2 (LeftAt h₀ rs) fvs (leftsOf none items) → (∀ q ∈ led, q ∈ rs) → OwnOff rs [r] → Fr h₀ L h' m → News h₀ L h' ((r, listOf fvs.toArray nf) :: rs) → Q (.ref r) { s with heap := h', toks := tk' }) :
    wpAny (model PySem.Challenge.rw_pb0233_02.row.prog w) (ktrTop dp un gd cn cs L a ccd cl outer) (call (.ref 261) [.ref st]) Q E s := by
  have hsl := hit.length
  refine wpAny_call ?_
  k_dflt ktr_enter
  clear N
  iterate 22 (first | (k_unfold; (try dsimp only)) | (k_end; wrow_close) | walk1 | (dsimp only; walk1) | (leave1; walk_say "STEP leave1"; try dsimp only) | fail "no step")
  rename Fr h₀ _ _ _ => FG9
  rename (_ < _ ∧ _) => lt9
  rename Fr _ _ _ _ => F3
  rename News _ _ _ _ => N3
  obtain ⟨no, hod⟩ := hod
  refine For_turns F3 ?_
  iterate 1 (first | (k_unfold; (try dsimp only)) | (k_end; wrow_close) | walk1 | (dsimp only; walk1) | (leave1; walk_say "STEP leave1"; try dsimp only) | fail "no step")
  refine lefts_loop (hb := h₀) f9 led items rfl (by k_asm) (led_swap2 N3) (hst.imp id (fun h => ⟨FG9.keep _ _ h.1, h.2⟩)) (fun q hq => .tail _ (.tail _ hq)) (by omega) hod ?hit ?ini ?turn ?fin
  case turn =>
    rintro keep hkp I dn x v m₁ nx h tk hx hl hv ⟨lv, fvs, nf, rs, rfl, hm1, hm2, hlv, hfv, ho, hoi, hfi, hsub, hRl, hfl⟩ F1 oI N1
    rw [lefts_map hm1 hm2] at F1
    have hk9 := FG9.keep
    obtain ⟨it, oi, rr, orr, rvs, tm, rfl, hIt, hIc, hId, hRr, hRo, hRb⟩ := hv.mono (fun _ _ e => e) hsub
    obtain ⟨mode, bs⟩ := x
    obtain ⟨hmd, hbl⟩ := hmode _ hx
    dsimp only at hmd hbl
    replace hId : ∃ n, oi.data = .seq [Value.str mode tm, .ref rr].toArray n := hId
    replace hRb : BAre rvs bs := hRb
    clear hx hit hmode hv
    rcases hmd with rfl | hno
    · have hr1000 : rvs.length ≤ 1000 := by have := hRb.length; omega
      have hfz : fvs.length ≤ sizeLine := by rw [PySem.sizeLine_eq]; omega
      have hof : ∀ p ∈ rs, (p.1 : Addr) ≠ f9 := fun p hp => ho p hp _ (.head _)
      have hfo : (dn ++ [(Str.ofString "output", bs)]).foldl lstep none = some bs := by rw [List.foldl_append]; rfl
      have hbd : ∀ R, (dn ++ [(Str.ofString "output", bs)]).foldl lstep none = some R → R.length ≤ 4 * (dn ++ [(Str.ofString "output", bs)]).length := by
        intro R e
        rw [hfo] at e
        rw [← Option.some.inj e, List.length_append, List.length_singleton]
        omega
      k_steps
      · rename News _ _ _ _ => N9
        rename Fr _ _ _ _ => F9
        exact lefts_end (nf := nf) (rs' := rs) F9 (news_sub N9 (fun p hp => .tail _ (.tail _ hp))) hfv (fun _ h => h) (by rw [hfo]; exact ⟨rr, orr, rvs, rfl, hRr, hc8, hd8, hRb⟩) ho hoi hfi hsub hbd hfl rfl (by intro z z1 z2; have a1 : z ≠ Str.ofString "mode" := (by rintro rfl; exact absurd z2 (by decide)); have a2 : z ≠ Str.ofString "rows" := (by rintro rfl; exact absurd z2 (by decide)); simp only [z1, a1, a2, if_false]) hkp
      · rename News _ _ _ _ => N9
        rename Fr _ _ _ _ => F9
        exact lefts_end (nf := nf) (rs' := (D8, o8) :: rs) F9 (news_sub N9 (fun p hp => by simp only [List.mem_cons] at hp ⊢; rcases hp with h | h | h | h <;> simp only [h, true_or, or_true])) hfv (fun _ h => .tail _ h) (by rw [hfo]; exact ⟨D8, o8, rvs, rfl, .inr (.head _), hc8, hd8, hRb⟩) (off_cons1 (by k_ne) ho) (off_cons1 (by k_ne) hoi) hfi hsub hbd hfl rfl (by intro z z1 z2; have a1 : z ≠ Str.ofString "mode" := (by rintro rfl; exact absurd z2 (by decide)); have a2 : z ≠ Str.ofString "rows" := (by rintro rfl; exact absurd z2 (by decide)); simp only [z1, a1, a2, if_false]) hkp
    · have hr1000 : rvs.length ≤ 1000 := by have := hRb.length; omega
      have hfz : fvs.length ≤ sizeLine := by rw [PySem.sizeLine_eq]; omega
      have hof : ∀ p ∈ rs, (p.1 : Addr) ≠ f9 := fun p hp => ho p hp _ (.head _)
      have hfa : (dn ++ [(mode, bs)]).foldl lstep none = lstep (dn.foldl lstep none) (mode, bs) := by rw [List.foldl_append]; rfl
      cases hdn : dn.foldl lstep none with
      | none =>
        rw [hdn] at hlv hfa
        obtain rfl : lv = Value.none := hlv
        have hfo : (dn ++ [(mode, bs)]).foldl lstep none = none := by rw [hfa]; rcases hno with rfl | rfl | rfl <;> rfl
        have hbd : ∀ R, (dn ++ [(mode, bs)]).foldl lstep none = some R → R.length ≤ 4 * (dn ++ [(mode, bs)]).length := fun R e => by rw [hfo] at e; cases e
        rcases hno with rfl | rfl | rfl
        all_goals
          k_steps
          rename News _ _ _ _ => N9
          rename Fr _ _ _ _ => F9
          exact lefts_end (nf := nf) (rs' := rs) F9 (news_sub N9 (fun p hp => by simp only [List.mem_cons] at hp ⊢; rcases hp with h | h | h <;> simp only [h, true_or, or_true])) hfv (fun _ h => h) (by rw [hfo]; exact rfl) ho hoi hfi hsub hbd hfl rfl (by intro z z1 z2; have a1 : z ≠ Str.ofString "mode" := (by rintro rfl; exact absurd z2 (by decide)); have a2 : z ≠ Str.ofString "rows" := (by rintro rfl; exact absurd z2 (by decide)); simp only [z1, a1, a2, if_false]) hkp
      | some R =>
        rw [hdn] at hlv hfa
        obtain ⟨la, lo, lus, rfl, hLa, hLc, hLd, hLb⟩ := hlv
        have hRl2 := hRl R hdn
        have huv : lus.length + rvs.length ≤ 1000 := by have := hRb.length; have := hLb.length; omega
        rcases hno with rfl | hin
        · have hfo : (dn ++ [(Str.ofString "extend", bs)]).foldl lstep none = some (R ++ bs) := by rw [hfa]; rfl
          have hbd : ∀ R', (dn ++ [(Str.ofString "extend", bs)]).foldl lstep none = some R' → R'.length ≤ 4 * (dn ++ [(Str.ofString "extend", bs)]).length := by
            intro R' e
            rw [hfo] at e
            rw [← Option.some.inj e, List.length_append, List.length_append, List.length_singleton]
            omega
          k_steps
          · rename News _ _ _ _ => N9
            rename Fr _ _ _ _ => F9
            exact lefts_end (nf := nf) (rs' := rs) F9 (news_sub N9 (fun p hp => by simp only [List.mem_cons] at hp ⊢; rcases hp with h | h | h <;> simp only [h, true_or, or_true])) hfv (fun _ h => h) (by rw [hfo]; exact ⟨rr, orr, rvs, rfl, hRr, hc8, hd8, by subst w1; cases hLb; exact hRb⟩) ho hoi hfi hsub hbd hfl rfl (by intro z z1 z2; have a1 : z ≠ Str.ofString "mode" := (by rintro rfl; exact absurd z2 (by decide)); have a2 : z ≠ Str.ofString "rows" := (by rintro rfl; exact absurd z2 (by decide)); simp only [z1, a1, a2, if_false]) hkp
          · rename News _ _ _ _ => N9
            rename Fr _ _ _ _ => F9
            exact lefts_end (nf := nf) (rs' := rs) F9 (news_sub N9 (fun p hp => by simp only [List.mem_cons] at hp ⊢; rcases hp with h | h | h <;> simp only [h, true_or, or_true])) hfv (fun _ h => h) (by rw [hfo]; exact ⟨la, lo, lus, rfl, hLa, hLc, hLd, by subst w2; cases hRb; rw [List.append_nil]; exact hLb⟩) ho hoi hfi hsub hbd hfl rfl (by intro z z1 z2; have a1 : z ≠ Str.ofString "mode" := (by rintro rfl; exact absurd z2 (by decide)); have a2 : z ≠ Str.ofString "rows" := (by rintro rfl; exact absurd z2 (by decide)); simp only [z1, a1, a2, if_false]) hkp
          · rename News _ _ _ _ => N9
            rename Fr _ _ _ _ => F9
            exact lefts_end (nf := nf) (rs' := (D7, o7) :: rs) F9 (news_sub N9 (fun p hp => by simp only [List.mem_cons] at hp ⊢; rcases hp with h | h | h | h <;> simp only [h, true_or, or_true])) hfv (fun _ h => .tail _ h) (by rw [hfo]; exact ⟨D7, o7, lus ++ rvs, rfl, .inr (.head _), hc7, hd7, hLb.append hRb⟩) (off_cons1 (by k_ne) ho) (off_cons1 (by k_ne) hoi) hfi hsub hbd hfl rfl (by intro z z1 z2; have a1 : z ≠ Str.ofString "mode" := (by rintro rfl; exact absurd z2 (by decide)); have a2 : z ≠ Str.ofString "rows" := (by rintro rfl; exact absurd z2 (by decide)); simp only [z1, a1, a2, if_false]) hkp
          · rename News _ _ _ _ => N9
            rename Fr _ _ _ _ => F9
            exact lefts_end (nf := nf) (rs' := (D8, o8) :: rs) F9 (news_sub N9 (fun p hp => by simp only [List.mem_cons] at hp ⊢; rcases hp with h | h | h | h <;> simp only [h, true_or, or_true])) hfv (fun _ h => .tail _ h) (by rw [hfo]; exact ⟨D8, o8, rvs, rfl, .inr (.head _), hc8, hd8, by subst w1; cases hLb; exact hRb⟩) (off_cons1 (by k_ne) ho) (off_cons1 (by k_ne) hoi) hfi hsub hbd hfl rfl (by intro z z1 z2; have a1 : z ≠ Str.ofString "mode" := (by rintro rfl; exact absurd z2 (by decide)); have a2 : z ≠ Str.ofString "rows" := (by rintro rfl; exact absurd z2 (by decide)); simp only [z1, a1, a2, if_false]) hkp
          · rename News _ _ _ _ => N9
            rename Fr _ _ _ _ => F9
            exact lefts_end (nf := nf) (rs' := rs) F9 (news_sub N9 (fun p hp => by simp only [List.mem_cons] at hp ⊢; rcases hp with h | h | h <;> simp only [h, true_or, or_true])) hfv (fun _ h => h) (by rw [hfo]; exact ⟨la, lo, lus, rfl, hLa, hLc, hLd, by subst w2; cases hRb; rw [List.append_nil]; exact hLb⟩) ho hoi hfi hsub hbd hfl rfl (by intro z z1 z2; have a1 : z ≠ Str.ofString "mode" := (by rintro rfl; exact absurd z2 (by decide)); have a2 : z ≠ Str.ofString "rows" := (by rintro rfl; exact absurd z2 (by decide)); simp only [z1, a1, a2, if_false]) hkp
          · rename News _ _ _ _ => N9
            rename Fr _ _ _ _ => F9
            exact lefts_end (nf := nf) (rs' := (D7, o7) :: rs) F9 (news_sub N9 (fun p hp => by simp only [List.mem_cons] at hp ⊢; rcases hp with h | h | h | h <;> simp only [h, true_or, or_true])) hfv (fun _ h => .tail _ h) (by rw [hfo]; exact ⟨D7, o7, lus ++ rvs, rfl, .inr (.head _), hc7, hd7, hLb.append hRb⟩) (off_cons1 (by k_ne) ho) (off_cons1 (by k_ne) hoi) hfi hsub hbd hfl rfl (by intro z z1 z2; have a1 : z ≠ Str.ofString "mode" := (by rintro rfl; exact absurd z2 (by decide)); have a2 : z ≠ Str.ofString "rows" := (by rintro rfl; exact absurd z2 (by decide)); simp only [z1, a1, a2, if_false]) hkp
        · have hfo : (dn ++ [(mode, bs)]).foldl lstep none = some R := by rw [hfa]; rcases hin with rfl | rfl <;> rfl
          have hbd : ∀ R', (dn ++ [(mode, bs)]).foldl lstep none = some R' → R'.length ≤ 4 * (dn ++ [(mode, bs)]).length := by
            intro R' e
            rw [hfo] at e
            rw [← Option.some.inj e, List.length_append, List.length_singleton]
            omega
          rcases hin with rfl | rfl
          all_goals
            k_steps
            rename News _ _ _ _ => N9
            rename Fr _ _ _ _ => F9
            exact lefts_end (nf := nf) (rs' := rs) F9 (news_sub N9 (fun p hp => by simp only [List.mem_cons] at hp ⊢; rcases hp with h | h | h <;> simp only [h, true_or, or_true])) hfv (fun _ h => h) (by rw [hfo]; exact ⟨la, lo, lus, rfl, hLa, hLc, hLd, hLb⟩) ho hoi hfi hsub hbd hfl rfl (by intro z z1 z2; have a1 : z ≠ Str.ofString "mode" := (by rintro rfl; exact absurd z2 (by decide)); have a2 : z ≠ Str.ofString "rows" := (by rintro rfl; exact absurd z2 (by decide)); simp only [z1, a1, a2, if_false]) hkp
  case hit => exact hit
  case ini =>
    intro I hI
    exact ⟨.none, [], 0, _, rfl, rfl, fun z _ _ => rfl, rfl, .nil, off_cons1 (Nat.ne_of_gt lt9.1) (fun q hq b hb => by rw [List.mem_singleton.mp hb]; exact Nat.ne_of_lt (lf9 q hq)), off_cons1 (Nat.ne_of_lt (hI _ (.tail _ (.head _)))) (fun q hq b hb => by rw [List.mem_singleton.mp hb]; exact Nat.ne_of_lt (hI q (.tail _ (.tail _ hq)))), Nat.ne_of_lt (hI _ (.head _)), (fun q hq => .tail _ hq), (fun R e => by cases e), rfl⟩
  case fin =>
    clear N3
    rintro I m₁ nx h tk ⟨lv, fvs, nf, rs, rfl, hm1, hm2, _, hfv, ho, _, _, hsub, _, _⟩ F1 N1
    rw [lefts_map hm1 hm2] at F1
    k_steps
    rename News _ _ _ _ => N9
    exact post f9 fvs nf rs _ _ hfv hsub ho (by k_asm) N9
end
theorem off_M3 : True := by
  w_top off
  k_with_none
  trivial
def defIn : List Stmt → Arguments × List Stmt × Scope
  | .FunctionDef _ a b _ _ _ s _ _ _ :: _ => (a, b, s)
  | _ :: r => defIn r
  | [] => default
def takeB (K : Frag) (f : Addr) : Arguments × List Stmt × Scope := match K.lookup f with
  | some ⟨_, _, .func fd, _⟩ => match fd.body with
    | .stmts b => defIn b
    | _ => default
  | _ => default
local macro_rules | `(tactic| walk_at "subscriptTail Name Constant ref int") => `(tactic| (k_here; (with_reducible show wpAny _ _ (subscriptTail _ _ (Value.ref _) (Value.int _ _)) _ _ _); (with_unfolding_all refine' item_lit ?k1 ?k2 ?k3 ?k4 ?k5 ?_ ?k7 ?k8; (case k1 => k_asm); (case k2 => k_mem); (case k3 => decide); (case k4 => decide); (case k5 => exact rfl); (case k7 => with_unfolding_all rfl); (case k8 => (intro _; with_unfolding_all rfl)); k_whole)))
local macro_rules | `(tactic| walk_at "binaryOp FloorDiv int int") => `(tactic| ((with_reducible show wpAny _ _ (binaryOp Operator.FloorDiv (Value.int _ _) (Value.int (HPow.hPow _ _) _)) _ _ _); refine PyProof.Rows.floordiv_int (pw_ne _) ?_ (Or.inl (PyProof.noPylong_of_log2 (pw_log (by omega))))))
local macro_rules | `(tactic| walk_at "binaryOp Pow int int") => `(tactic| (refine pow_int_small ?za ?zb ?zc ?_; (case zc => decide); (case za => assumption); (case zb => omega)))
local macro_rules | `(tactic| ktr_rel) => `(tactic| (repeat' (first | exact ownOff_nil | exact ownOff_adr | exact ownOff_sub (by assumption) (by lcg_sub) | refine ownOff_lt (by assumption) ?_ | refine ownOff_lt (allLt_trans (by assumption) (by assumption)) ?_ | refine ownOff_cons ?_ ?_ | exact List.forall_mem_nil _ | (refine ne_all ?_ ?_) | k_ne | exact (fun _ h => h) | (refine List.forall_mem_cons.mpr ⟨?_, ?_⟩) | k_mem | (refine sub_tail ?_))))
section
variable {w : World} {p : Program} {loose : List Str} {mean : ExcName → Option Value} {mg mb : Str → Option Value}
    {dp un : Nat} {gd : Option (List Code)} {cn : Str} {cs : Scope} {a : Addr} {ccd : Value} {cl : List (Str × Addr)} {outer : List Env} {A₀ : Around} {base h₀ : Heap} {L : Addr} {m : Str → Option Value} {rest : List (Addr × Obj)} {s : Shared}
    {Q E : Value → Shared → Prop}
theorem c_take {f c' pc cc pl ce : Addr} {o1 o2 oc : Obj} {cvs : List Value} {cns : List Int} {k lim : Int} {t0 tl t' : Tok} {n n2 : Nat} {vs' : Array Value} {q : Str} {dc pm ct : Value}
    (B : Below A₀ base outer h₀) (F : Fr h₀ L s.heap m) (X : (Mine.hd2.heap_39 w.params).In h₀) 
    (N : News h₀ L s.heap ((f, fnMade (Str.ofString "take") q (takeB (Mine.hd2.heap_39 w.params) 230).1 (takeB (Mine.hd2.heap_39 w.params) 230).2.1 (takeB (Mine.hd2.heap_39 w.params) 230).2.2 [(Str.ofString "place", pc), (Str.ofString "cells", cc)] dc pm c' ct) :: (c', oc) :: (pc, o1) :: (cc, o2) :: (pl, listOf [.int k t0].toArray n) :: (ce, listOf cvs.toArray n2) :: rest))
    (T : Top p loose mean mg mb h₀) (hk : cs.kind = .function) (hT : CodeHd h₀ 229 225)
    (hd : dp + 60 < recursionLimit) (hu : un + 600 < cLine) (d1 : oc.data = .fields vs') (d2 : vs'[1]? = some (.str q t')) (hp : o1.data = .cell (some (.ref pl))) (hc : o2.data = .cell (some (.ref ce)))
    (hI : IntsAre cvs cns) (hn : cns.length ≤ 40) (hn1 : 1 ≤ cns.length) (hk0 : 0 ≤ k) (hk1 : k ≤ 200) (hl0 : 1 ≤ lim) (hl1 : lim ≤ 256)
    (ho : OwnOff rest [pl]) (hne : @Ne Nat f pl ∧ @Ne Nat c' pl ∧ @Ne Nat pc pl ∧ @Ne Nat cc pl ∧ @Ne Nat ce pl)
    (post : ∀ r t t0' h' tk', 0 ≤ r → r < lim → Fr h₀ L h' m → News h₀ L h' ((f, fnMade (Str.ofString "take") q (takeB (Mine.hd2.heap_39 w.params) 230).1 (takeB (Mine.hd2.heap_39 w.params) 230).2.1 (takeB (Mine.hd2.heap_39 w.params) 230).2.2 [(Str.ofString "place", pc), (Str.ofString "cells", cc)] dc pm c' ct) :: (c', oc) :: (pc, o1) :: (cc, o2) :: (pl, listOf [.int (k + 1) t0'].toArray n) :: (ce, listOf cvs.toArray n2) :: rest) → Q (.int r t) { s with heap := h', toks := tk' }) :
    wpAny (model PySem.Challenge.rw_pb0233_02.row.prog w) (ktrTop dp un gd cn cs L a ccd cl outer) (call (.ref f) [.int lim tl]) Q E s := by
  have e : takeB (Mine.hd2.heap_39 w.params) 230 = takeB (Mine.hd2.heap_39 w.params) 230 := rfl
  conv at e => rhs; whnf
  rw [e] at N post
  clear e
  dsimp only at N post
  refine wpAny_call ?_
  k_dflt (refine' code_nest ?k1 ?k2 ?k3 ?k4 ?k5 ?kA ?kF ?kK ?k6 ?k7 ?k8 ?k9 ?kB ?_ ?c2 ?c3 ?c4 ?c5; (case kA => exact rfl); (case kF => exact rfl); (case kK => assumption); (case k1 => k_asm); (case k2 => k_asm); (case k3 => k_asm); (case k4 => k_asm); (case k5 => k_asm); (case k6 => k_mem); (case k7 => exact codeRec_news (by k_asm) (by k_mem) (by assumption) (by assumption)); (case k8 => ktr_room); (case k9 => exact BindsTo.of_eq rfl); (case c5 => decide); (case kB => exact locs rfl); (case c2 => exact rfl); (case c3 => exact rfl); (case c4 => exact rfl); k_whole)
  intro g' L' h' FG' F' N' B' X' T'
  have hT' : CodeHd g' 229 225 := hT.keeps FG'.keep
  have hlv0 : 0 ≤ k.fdiv ↑cns.length := Int.fdiv_nonneg hk0 (by omega)
  have hlv1 : k.fdiv ↑cns.length ≤ 200 := by
    have h1 : k.fdiv ↑cns.length = k / ↑cns.length := Int.fdiv_eq_ediv_of_nonneg _ (by omega)
    have h2 : k / (cns.length : Int) ≤ k := Int.ediv_le_self _ hk0
    omega
  (try dsimp only)
  (try k_fold)
  k_steps
  rename News _ _ _ _ => N9
  refine' post _ _ _ _ _ (Int.fmod_nonneg_of_pos _ (by omega)) (Int.fmod_lt_of_pos _ (by omega)) (by k_asm) (news_sub N9 ?zz9)
  case zz9 => ktr_rel
end
def TakeAt (K : Frag) (f0 : Addr) (imm : List (Addr × Obj)) (f pl : Addr) : Prop :=
  ∃ c' pc cc ce o1 o2 oc cvs cns n2 q dc pm ct vs' t', imm = [(f, fnMade (Str.ofString "take") q (takeB K f0).1 (takeB K f0).2.1 (takeB K f0).2.2 [(Str.ofString "place", pc), (Str.ofString "cells", cc)] dc pm c' ct), (c', oc), (pc, o1), (cc, o2), (ce, listOf cvs.toArray n2)] ∧
    oc.data = .fields vs' ∧ vs'[1]? = some (.str q t') ∧ o1.data = .cell (some (.ref pl)) ∧ o2.data = .cell (some (.ref ce)) ∧ IntsAre cvs cns ∧ cns.length ≤ 40 ∧ 1 ≤ cns.length ∧ (@Ne Nat f pl ∧ @Ne Nat c' pl ∧ @Ne Nat pc pl ∧ @Ne Nat cc pl ∧ @Ne Nat ce pl)
section
variable {w : World} {p : Program} {loose : List Str} {mean : ExcName → Option Value} {mg mb : Str → Option Value}
    {dp un : Nat} {gd : Option (List Code)} {cn : Str} {cs : Scope} {a : Addr} {ccd : Value} {cl : List (Str × Addr)} {outer : List Env} {A₀ : Around} {base h₀ : Heap} {L : Addr} {m : Str → Option Value} {news imm rest : List (Addr × Obj)} {s : Shared}
    {Q E : Value → Shared → Prop}
theorem p_take {f pl : Addr} {k lim : Int} {t0 tl : Tok} {n : Nat}
    (B : Below A₀ base outer h₀) (F : Fr h₀ L s.heap m) (X : (Mine.hd2.heap_39 w.params).In h₀) (N : News h₀ L s.heap news) (T : Top p loose mean mg mb h₀) (hk : cs.kind = .function)
    (hd : dp + 60 < recursionLimit) (hu : un + 600 < cLine) (hT : CodeHd h₀ 229 225) (hA : TakeAt (Mine.hd2.heap_39 w.params) 230 imm f pl) (pk : Pick (pl, listOf [.int k t0].toArray n) news rest) (hi : ∀ q ∈ imm, q ∈ rest)
    (ho : OwnOff rest [pl]) (hk0 : 0 ≤ k) (hk1 : k ≤ 200) (hl0 : 1 ≤ lim) (hl1 : lim ≤ 256)
    (post : ∀ r t t0' h' tk', 0 ≤ r → r < lim → Fr h₀ L h' m → News h₀ L h' ((pl, listOf [.int (k + 1) t0'].toArray n) :: rest) → Q (.int r t) { s with heap := h', toks := tk' }) :
    wpAny (model PySem.Challenge.rw_pb0233_02.row.prog w) (ktrTop dp un gd cn cs L a ccd cl outer) (call (.ref f) [.int lim tl]) Q E s := by
  obtain ⟨c', pc, cc, ce, o1, o2, oc, cvs, cns, n2, q, dc, pm, ct, vs', t', rfl, d1, d2, hp, hc, hI, hn, hn1, hne⟩ := hA
  have N1 := pk.news N
  refine c_take (rest := rest) (q := q) (dc := dc) (pm := pm) (ct := ct) (pc := pc) (cc := cc) (n := n) (n2 := n2) (o1 := o1) (o2 := o2) (oc := oc) (cvs := cvs) (c' := c') (pl := pl) (ce := ce) (t0 := t0) B F X (fun x hx => ?_) T hk hT hd hu d1 d2 hp hc hI hn hn1 hk0 hk1 hl0 hl1 ho hne (fun r t t0' h' tk' h0 h1 F' N' => post r t t0' h' tk' h0 h1 F' fun x hx => N' x ?_)
  · have hi' := fun q hq => N1 q (List.mem_cons_of_mem _ (hi q hq))
    rcases List.mem_cons.mp hx with rfl | hx
    · exact hi' _ (by simp)
    · rcases List.mem_cons.mp hx with rfl | hx
      · exact hi' _ (by simp)
      · rcases List.mem_cons.mp hx with rfl | hx
        · exact hi' _ (by simp)
        · rcases List.mem_cons.mp hx with rfl | hx
          · exact hi' _ (by simp)
          · rcases List.mem_cons.mp hx with rfl | hx
            · exact N1 _ (.head _)
            · rcases List.mem_cons.mp hx with rfl | hx
              · exact hi' _ (by simp)
              · exact N1 _ (.tail _ hx)
  · rcases List.mem_cons.mp hx with rfl | hx
    · exact .tail _ (.tail _ (.tail _ (.tail _ (.head _))))
    · exact .tail _ (.tail _ (.tail _ (.tail _ (.tail _ (.tail _ hx)))))
local macro_rules | `(tactic| k_all) => `(tactic| ((fail_if_success (refine List.forall_mem_cons.mpr ?_)); (fail_if_success (exact List.forall_mem_nil _)); first | exact all_succ1 (by assumption) | exact all_succ2 (by assumption)))
theorem c_taker {sc : Addr} {svs : List Value} {ns : List Int}
    (B : Below A₀ base outer h₀) (F : Fr h₀ L s.heap m) (X : (Mine.hd2.heap_39 w.params).In h₀) (N : News h₀ L s.heap ((225, tabObj #[]) :: rest)) (C : CodeHd h₀ 229 225) (ho : OwnOff rest [225]) (T : Top p loose mean mg mb h₀) (hk : cs.kind = .function)
    (hd : dp + 60 < recursionLimit) (hu : un + 600 < cLine) (hl : h₀.IsList sc svs.toArray) (hI : IntsAre svs ns) (hn : ns.length ≤ 63)
    (post : ∀ f imm pl t0 n ps h' tk', TakeAt (Mine.hd2.heap_39 w.params) 230 imm f pl → (∀ q ∈ imm, ∀ x ∈ (225, tabObj #[]) :: rest, x.1 < q.1) → (∀ x ∈ (225, tabObj #[]) :: rest, x.1 < pl) → (∀ q ∈ imm, q.1 ≠ pl) → Fr h₀ L h' m →
      News h₀ L h' ((pl, listOf [.int 0 t0].toArray n) :: (225, tabObj ps) :: (rest ++ imm)) → Q (.ref f) { s with heap := h', toks := tk' }) :
    wpAny (model PySem.Challenge.rw_pb0233_02.row.prog w) (ktrTop dp un gd cn cs L a ccd cl outer) (call (.ref 230) [.ref sc]) Q E s := by
  refine wpAny_call ?_
  k_dflt (refine' code_defC ?k1 ?k2 ?k3 ?k4 ?k5 ?kA ?kF ?kK ?k6 ?k7 ?k8 ?k9 ?kB ?kN ?_ ?c2 ?c3 ?c4; (case kA => exact rfl); (case kF => exact rfl); (case kK => assumption); (case k1 => k_asm); (case k2 => k_asm); (case k3 => k_asm); (case k4 => k_asm); (case k5 => k_asm); (case k6 => k_is); (case k7 => k_is); (case k8 => ktr_room); (case k9 => exact BindsTo.of_eq rfl); (case kB => exact rfl); (case kN => decide); (case c2 => exact rfl); (case c3 => exact rfl); (case c4 => exact rfl); k_whole)
  intro g' L' h' tk' cells' FG' F' N' Y' B' X' T' l1
  have l0 := allLt_of l1
  simp only [AllLt] at l0
  obtain ⟨l00, l0⟩ := l0
  clear l1
  k_cells Y'
  (try simp only [List.cons_append, List.nil_append] at N')
  (try dsimp only)
  have hl' : g'.IsList sc svs.toArray := hl.at fun o e => FG'.keep _ o e
  have C' : CodeHd g' 229 225 := C.keeps FG'.keep
  (try k_fold)
  k_steps
  · rename News _ _ _ _ => N9
    rename (_ = Data.fields _) => hf1
    rename (getElem? _ 1 = some _) => hf2
    rename (Obj.data _ = Data.cell (some _)) => hcp
    revert hcp
    rename (Obj.data _ = Data.cell (some _)) => hcc
    intro hcp
    (repeat (with_reducible rename (_ < _ ∧ _) => lx9; cases lx9))
    refine' post _ [(_, _), (_, _), (_, _), (_, _), (_, _)] _ _ _ _ _ _ ⟨_, _, _, _, _, _, _, _, [1], _, _, _, _, _, _, _, rfl, hf1, hf2, hcp, hcc, ?zi1A, ?zi2A, ?zi3A, ?zi4A⟩ ?zaA ?zbA ?zcA (by k_asm) (news_sub N9 ?znA)
    case znA => (refine List.forall_mem_cons.mpr ⟨?_, List.forall_mem_cons.mpr ⟨?_, List.forall_mem_append.mpr ⟨?_, ?_⟩⟩⟩); k_mem; k_mem; ktr_rel; ktr_rel
    case zi1A => first | exact .cons _ _ .nil | assumption
    case zi2A => simp only [List.length_cons, List.length_nil, List.length_take]; omega
    case zi3A => simp only [List.length_cons, List.length_nil]; omega
    case zi4A => (refine ⟨?_, ?_, ?_, ?_, ?_⟩ <;> (refine neN ?_; (try dsimp only); omega))
    case zaA => (repeat' (first | exact List.forall_mem_nil _ | (refine List.forall_mem_cons.mpr ⟨?_, ?_⟩) | exact lt_all (by assumption) | exact lt_all (allLt_trans (by assumption) (by assumption)) | exact lt_all (allLt_trans (d := L') (by omega) l0) | (show @LT.lt Nat _ _ _; omega) | (show @Ne Nat _ _; omega)))
    case zbA => (repeat' (first | exact List.forall_mem_nil _ | (refine List.forall_mem_cons.mpr ⟨?_, ?_⟩) | exact lt_all (by assumption) | exact lt_all (allLt_trans (by assumption) (by assumption)) | exact lt_all (allLt_trans (d := L') (by omega) l0) | (show @LT.lt Nat _ _ _; omega) | (show @Ne Nat _ _; omega)))
    case zcA => (repeat' (first | exact List.forall_mem_nil _ | (refine List.forall_mem_cons.mpr ⟨?_, ?_⟩) | exact lt_all (by assumption) | exact lt_all (allLt_trans (by assumption) (by assumption)) | exact lt_all (allLt_trans (d := L') (by omega) l0) | (show @LT.lt Nat _ _ _; omega) | (show @Ne Nat _ _; omega)))
  · rename News _ _ _ _ => N9
    rename (_ = Data.fields _) => hf1
    rename (getElem? _ 1 = some _) => hf2
    rename (Obj.data _ = Data.cell (some _)) => hcp
    revert hcp
    rename (Obj.data _ = Data.cell (some _)) => hcc
    intro hcp
    (repeat (with_reducible rename (_ < _ ∧ _) => lx9; cases lx9))
    refine' post _ [(_, _), (_, _), (_, _), (_, _), (_, _)] _ _ _ _ _ _ ⟨_, _, _, _, _, _, _, _, (List.take 40 ns), _, _, _, _, _, _, _, rfl, hf1, hf2, hcp, hcc, ?zi1B, ?zi2B, ?zi3B, ?zi4B⟩ ?zaB ?zbB ?zcB (by k_asm) (news_sub N9 ?znB)
    case znB => (refine List.forall_mem_cons.mpr ⟨?_, List.forall_mem_cons.mpr ⟨?_, List.forall_mem_append.mpr ⟨?_, ?_⟩⟩⟩); k_mem; k_mem; ktr_rel; ktr_rel
    case zi1B => first | exact .cons _ _ .nil | assumption
    case zi2B => simp only [List.length_cons, List.length_nil, List.length_take]; omega
    case zi3B => exact List.length_pos_iff.mpr (of_decide_eq_false (by assumption))
    case zi4B => (refine ⟨?_, ?_, ?_, ?_, ?_⟩ <;> (refine neN ?_; (try dsimp only); omega))
    case zaB => (repeat' (first | exact List.forall_mem_nil _ | (refine List.forall_mem_cons.mpr ⟨?_, ?_⟩) | exact lt_all (by assumption) | exact lt_all (allLt_trans (by assumption) (by assumption)) | exact lt_all (allLt_trans (d := L') (by omega) l0) | (show @LT.lt Nat _ _ _; omega) | (show @Ne Nat _ _; omega)))
    case zbB => (repeat' (first | exact List.forall_mem_nil _ | (refine List.forall_mem_cons.mpr ⟨?_, ?_⟩) | exact lt_all (by assumption) | exact lt_all (allLt_trans (by assumption) (by assumption)) | exact lt_all (allLt_trans (d := L') (by omega) l0) | (show @LT.lt Nat _ _ _; omega) | (show @Ne Nat _ _; omega)))
    case zcB => (repeat' (first | exact List.forall_mem_nil _ | (refine List.forall_mem_cons.mpr ⟨?_, ?_⟩) | exact lt_all (by assumption) | exact lt_all (allLt_trans (by assumption) (by assumption)) | exact lt_all (allLt_trans (d := L') (by omega) l0) | (show @LT.lt Nat _ _ _; omega) | (show @Ne Nat _ _; omega)))
theorem p_taker {sc : Addr} {svs : List Value} {ns : List Int}
    (B : Below A₀ base outer h₀) (F : Fr h₀ L s.heap m) (X : (Mine.hd2.heap_39 w.params).In h₀) (N : News h₀ L s.heap news) (C : CodeHd h₀ 229 225) (pk : Pick (225, tabObj #[]) news rest) (ho : OwnOff rest [225]) (T : Top p loose mean mg mb h₀) (hk : cs.kind = .function)
    (hd : dp + 60 < recursionLimit) (hu : un + 600 < cLine) (hl : h₀.IsList sc svs.toArray) (hI : IntsAre svs ns) (hn : ns.length ≤ 63)
    (post : ∀ f imm pl t0 n ps h' tk', TakeAt (Mine.hd2.heap_39 w.params) 230 imm f pl → OwnOff imm (pl :: 225 :: rest.map (·.1)) → (∀ x ∈ (225, tabObj #[]) :: rest, x.1 < pl) → Fr h₀ L h' m →
      News h₀ L h' ((pl, listOf [.int 0 t0].toArray n) :: (225, tabObj ps) :: (rest ++ imm)) → Q (.ref f) { s with heap := h', toks := tk' }) :
    wpAny (model PySem.Challenge.rw_pb0233_02.row.prog w) (ktrTop dp un gd cn cs L a ccd cl outer) (call (.ref 230) [.ref sc]) Q E s :=
  c_taker B F X (pk.news N) C ho T hk hd hu hl hI hn fun f imm pl t0 n ps h' tk' h1 h2 h3 h4 F' N' => post f imm pl t0 n ps h' tk' h1 (fun q hq b hb => by
    rcases List.mem_cons.mp hb with rfl | hb
    · exact h4 q hq
    · rcases List.mem_cons.mp hb with rfl | hb
      · exact Ne.symm (Nat.ne_of_lt (h2 q hq (225, tabObj #[]) (.head _)))
      · obtain ⟨x, hx, rfl⟩ := List.mem_map.mp hb
        exact Ne.symm (Nat.ne_of_lt (h2 q hq x (.tail _ hx)))) h3 F' N'
end
def bareV : List Value → Option (List Bs)
  | [] => some []
  | .bytes b _ :: r => (bareV r).map (b :: ·)
  | _ :: _ => none
theorem bareV_ok : ∀ {vs : List Value} {bs : List Bs}, bareV vs = some bs → BAre vs bs
  | [], bs, e => by simp only [bareV, Option.some.injEq] at e; subst e; exact .nil
  | v :: vs, bs, e => by
    cases v with
    | bytes b t =>
      simp only [bareV, Option.map_eq_some_iff] at e
      obtain ⟨bs', e1, rfl⟩ := e
      exact .cons b t (bareV_ok e1)
    | _ => simp [bareV] at e
def tupV (K : Frag) (a : Addr) : Option (List Bs) := match K.lookup a with
  | some ⟨.type "tuple", _, .seq ⟨vs⟩ _, _⟩ => bareV vs
  | _ => none
theorem tupV_ok {K : Frag} {h₀ : Heap} (X : K.In h₀) {a : Addr} {bs : List Bs} (e : tupV K a = some bs) : ∃ o vs n, h₀.get? a = some o ∧ o.cls = .type "tuple" ∧ o.data = .seq (List.toArray vs) n ∧ BAre vs bs := by
  simp only [tupV] at e
  split at e
  · rename_i dd vs n sl h1
    exact ⟨_, vs, n, X _ _ h1, rfl, rfl, bareV_ok e⟩
  · cases e
def leftV (K : Frag) : Value → Option (Option (List Bs))
  | .none => some none
  | .ref a => (tupV K a).map some
  | _ => none
def itemV (K : Frag) : Value → Option (Str × List Bs)
  | .ref it => match K.lookup it with
    | some ⟨.type "tuple", _, .seq ⟨[.str x _, .ref rr]⟩ _, _⟩ => (tupV K rr).map fun bs => (x, bs)
    | _ => none
  | _ => none
def allV {α : Type} (f : Value → Option α) : List Value → Option (List α)
  | [] => some []
  | v :: vs => match f v, allV f vs with
    | some d, some ds => some (d :: ds)
    | _, _ => none
theorem allV_ok {α : Type} {f : Value → Option α} {P : Value → α → Prop} (hf : ∀ v d, f v = some d → P v d) : ∀ {vs : List Value} {ds : List α}, allV f vs = some ds → All2 P vs ds
  | [], _, e => by simp only [allV, Option.some.injEq] at e; subst e; exact .nil
  | v :: vs, ds, e => by
    simp only [allV] at e
    split at e
    · rename_i d ds' h1 h2
      simp only [Option.some.injEq] at e
      subst e
      exact .cons (hf v d h1) (allV_ok hf h2)
    · cases e
theorem leftV_ok {K : Frag} {h₀ : Heap} {led : List (Addr × Obj)} (X : K.In h₀) (v : Value) (y : Option (List Bs)) (e : leftV K v = some y) : LeftAt h₀ led v y := by
  cases v with
  | none => simp only [leftV, Option.some.injEq] at e; subst e; rfl
  | ref a =>
    simp only [leftV, Option.map_eq_some_iff] at e
    obtain ⟨bs, e1, rfl⟩ := e
    obtain ⟨o, vs, n, h1, h2, h3, h4⟩ := tupV_ok X e1
    exact ⟨a, o, vs, rfl, .inl h1, h2, ⟨n, h3⟩, h4⟩
  | _ => simp [leftV] at e
theorem itemV_ok {K : Frag} {h₀ : Heap} {led : List (Addr × Obj)} (X : K.In h₀) (v : Value) (x : Str × List Bs) (e : itemV K v = some x) : ItemAt h₀ led v x := by
  cases v with
  | ref a =>
    simp only [itemV] at e
    split at e
    · rename_i dd y t rr n sl h1
      simp only [Option.map_eq_some_iff] at e
      obtain ⟨bs, e1, rfl⟩ := e
      obtain ⟨o, vs, n', g1, g2, g3, g4⟩ := tupV_ok X e1
      exact ⟨a, _, rr, o, vs, t, rfl, .inl (X _ _ h1), rfl, ⟨n, rfl⟩, .inl g1, ⟨.inr g2, n', g3⟩, g4⟩
    · cases e
  | _ => simp [itemV] at e
def leftDat : Option (List Bs) → Dat
  | none => .none
  | some R => .tuple (R.map Dat.bytes)
theorem hall_lefts {h₀ h : Heap} {L : Addr} {m : Str → Option Value} {led news : List (Addr × Obj)} (F : Fr h₀ L h m) (N : News h₀ L h news) (hs : ∀ q ∈ led, q ∈ news) {vs : List Value} {ys : List (Option (List Bs))} (x : All2 (LeftAt h₀ led) vs ys) : HAll h vs (ys.map leftDat) := by
  induction x with
  | nil => exact .nil
  | @cons v y vs ys p _ ih =>
    cases y with
    | none => rw [show v = Value.none from p]; exact .cons .none ih
    | some R =>
      obtain ⟨a, o, us, rfl, hH, hc, hd, hb⟩ := p
      exact .cons (.tuple (held_tup F N hH hs hc hd) (hall_bytes hb)) ih
def story0 : List (Str × List Bs) := [(Str.ofString "extend", [#[110, 111]]), (Str.ofString "input", []), (Str.ofString "output", [#[97], #[]]), (Str.ofString "extend", [#[98]]), (Str.ofString "input", [#[120]]), (Str.ofString "i-o", [#[121]]), (Str.ofString "extend", [#[98], #[99]]), (Str.ofString "output", []), (Str.ofString "extend", [#[100]])]
theorem story0_ok : ∀ x ∈ story0, IsMode x.1 ∧ x.2.length ≤ 4 := by
  intro x hx
  simp only [story0, List.mem_cons, List.not_mem_nil, or_false] at hx
  rcases hx with rfl | rfl | rfl | rfl | rfl | rfl | rfl | rfl | rfl <;> exact ⟨by unfold IsMode; decide, by decide⟩
def lefts0 : List (Option (List Bs)) := [none, none, some [#[97], #[]], some [#[97], #[], #[98]], some [#[97], #[], #[98]], some [#[97], #[], #[98]], some [#[97], #[], #[98], #[98], #[99]], some [], some [#[100]]]
theorem lefts0_is : leftsOf none story0 = lefts0 := by rfl
theorem lefts0_dep : ddeps (lefts0.map leftDat) = 1 := by rfl
def LV0 : List Value := [.none, .none, .ref 216, .ref 217, .ref 218, .ref 219, .ref 220, .ref 221, .ref 222]
theorem left_at {P : Params} {h₀ : Heap} (X : (Mine.hd2.heap_39 P).In h₀) (led : List (Addr × Obj)) : All2 (LeftAt h₀ led) LV0 lefts0 := allV_ok (leftV_ok X) (by rfl)
theorem story_at {P : Params} {h₀ : Heap} (X : (Mine.hd2.heap_39 P).In h₀) : ∃ ost svs, h₀.get? 213 = some ost ∧ ost.cls = .type "tuple" ∧ (∃ n, ost.data = .seq (List.toArray svs) n) ∧ ∀ led, All2 (ItemAt h₀ led) svs story0 :=
  ⟨_, _, X 213 _ (by rfl), rfl, ⟨_, rfl⟩, fun _ => allV_ok (itemV_ok X) (by rfl)⟩
theorem led_pick1 {h₀ h : Heap} {L r Dl pl tb ce : Addr} {o ol op ot oc : Obj} {x1 x2 x3 : Addr × Obj} {rs imm : List (Addr × Obj)} (N : News h₀ L h ((r, o) :: rs)) (hs : ∀ q ∈ (Dl, ol) :: x1 :: x2 :: x3 :: (pl, op) :: (tb, ot) :: (ce, oc) :: imm, q ∈ rs) : News h₀ L h ((Dl, ol) :: (pl, op) :: (tb, ot) :: (ce, oc) :: imm) := fun p hp => N p (.tail _ (hs p (by
  simp only [List.mem_cons] at hp ⊢
  rcases hp with h | h | h | h | h
  · exact .inl h
  · exact .inr (.inr (.inr (.inr (.inl h))))
  · exact .inr (.inr (.inr (.inr (.inr (.inl h)))))
  · exact .inr (.inr (.inr (.inr (.inr (.inr (.inl h))))))
  · exact .inr (.inr (.inr (.inr (.inr (.inr (.inr h))))))))) 
theorem fnAt_take {K : Frag} {f0 f pl L : Addr} {h₀ h : Heap} {imm news : List (Addr × Obj)} (hA : TakeAt K f0 imm f pl) (N : News h₀ L h news) (hi : ∀ q ∈ imm, q ∈ news) : FnAt f h := by
  obtain ⟨c', pc, cc, ce, o1, o2, oc, cvs, cns, n2, q, dc, pm, ct, vs', t', rfl, _⟩ := hA
  exact FnAt.of N (hi _ (.head _))
def RngRest (prog : Program) (w : World) (A : Around) (h₀ : Heap) (L : Addr) (m : Str → Option Value) (env : Env) (elt : PySem.Expr) (x : Str) (scope : Scope) (cl : List (Str × Addr)) (Fin : Shared → List Value → List (Addr × Obj) → Prop) (n : Int) (news : List (Addr × Obj)) (s : Shared) : Prop :=
  ∀ k : Nat, n = (k : Int) → ∀ s₂ : Shared, (∃ h tk, s₂ = { s with heap := h, toks := tk }) → LCg.CompRest prog w A h₀ L m env elt x scope cl s₂ (fun _ => True) (fun i v => ∃ t, v = .int (i : Int) t) (Fin s₂) k 0 [] news
theorem rng_comp {prog : Program} {w : World} {A : Around} {E : Value → Shared → Prop} {s : Shared} {h₀ : Heap} {L : Addr} {m : Str → Option Value} {env : Env} {elt : PySem.Expr} {x : Str} {scope : Scope} {cl : List (Str × Addr)} {Fin : Shared → List Value → List (Addr × Obj) → Prop} {n : Int} {t : Tok} {news : List (Addr × Obj)}
    (hh : A.handled = none) (F : Fr h₀ L s.heap m) (N : News h₀ L s.heap news) (h0 : 0 ≤ n) (h1 : n ≤ 1000) (h : RngRest prog w A h₀ L m env elt x scope cl Fin n news s) :
    wpAny (model prog w) A (call (.type "range") [.int n t]) (LCg.CompSrc prog w A h₀ L m env elt x scope cl Fin) E s := by
  refine range1_rows F N fun h' tk t₁ u₁ v₁ hr F' N' _ => ?_
  refine .inr ⟨_, 0, n, _, _, _, n.toNat, news, rfl, hh, F', N', hr, small_one (by omega) (by omega) (by omega) (by omega), ?_, ?_, ?_⟩
  · rw [rangeSize_nat]; simp
  · rw [sizeLine_eq]; omega
  · rintro s₂ ⟨g, rfl⟩
    have := h n.toNat (by omega) { s with heap := g, toks := tk } ⟨_, _, rfl⟩
    simpa using this
def TkInv (G : Nat → List Value → Int → Prop) (pl : Addr) (n : Nat) (rest : List (Addr × Obj)) (i : Nat) (ys : List Value) (news : List (Addr × Obj)) : Prop :=
  ∃ kk t0, news = (pl, listOf [.int kk t0].toArray n) :: rest ∧ 0 ≤ kk ∧ G i ys kk
theorem TkInv.mk0 {G : Nat → List Value → Int → Prop} {pl : Addr} {n : Nat} {rest : List (Addr × Obj)} {kk : Int} {t0 : Tok} (h0 : 0 ≤ kk) (g : G 0 [] kk) : TkInv G pl n rest 0 [] ((pl, listOf [.int kk t0].toArray n) :: rest) := ⟨kk, t0, rfl, h0, g⟩
theorem rest_start {h₀ h : Heap} {L pl a1 a2 : Addr} {o o1 o2 : Obj} {imm : List (Addr × Obj)} {adr : List Addr} (N : News h₀ L h ((pl, o) :: (a1, o1) :: (a2, o2) :: imm)) (h1 : @Ne Nat a1 pl) (h2 : @Ne Nat a2 pl) (ho : OwnOff imm (pl :: adr)) :
    ∃ rest, OwnOff rest [pl] ∧ @Ne Nat a2 pl ∧ (a1, o1) ∈ rest ∧ (∀ q ∈ imm, q ∈ rest) ∧ News h₀ L h ((pl, o) :: (a2, o2) :: rest) :=
  ⟨(a1, o1) :: imm, ownOff_cons (fun _ hb => by rw [List.mem_singleton.mp hb]; exact h1) (ownOff_sub ho fun _ hb => by rw [List.mem_singleton.mp hb]; exact .head _), h2, .head _, fun _ h => .tail _ h, fun p hp => N p (by
    simp only [List.mem_cons] at hp ⊢
    rcases hp with h | h | h | h
    · exact .inl h
    · exact .inr (.inr (.inl h))
    · exact .inr (.inl h)
    · exact .inr (.inr (.inr h)))⟩
theorem rest_up {h₀ h : Heap} {L pl ce I C D : Addr} {o oc oI oC oD : Obj} {rest : List (Addr × Obj)} (N : News h₀ L h ((I, oI) :: (C, oC) :: (D, oD) :: (pl, o) :: (ce, oc) :: rest)) (off : LCg.Off3 I C D ((pl, o) :: (ce, oc) :: rest)) (ho : OwnOff rest [pl]) :
    ∃ rest2, OwnOff rest2 [pl] ∧ (∀ q ∈ rest, q ∈ rest2) ∧ (∀ p ∈ (I, oI) :: (C, oC) :: (D, oD) :: rest, p ∈ rest2) ∧ News h₀ L h ((pl, o) :: (ce, oc) :: rest2) := by
  refine ⟨(I, oI) :: (C, oC) :: (D, oD) :: rest, ownOff_cons (fun _ hb => by rw [List.mem_singleton.mp hb]; exact Ne.symm off.1.1) (ownOff_cons (fun _ hb => by rw [List.mem_singleton.mp hb]; exact Ne.symm off.1.2.1) (ownOff_cons (fun _ hb => by rw [List.mem_singleton.mp hb]; exact Ne.symm off.1.2.2) ho)), fun _ h => .tail _ (.tail _ (.tail _ h)), fun _ h => h, fun p hp => N p ?_⟩
  simp only [List.mem_cons] at hp ⊢
  rcases hp with h | h | h | h | h | h
  · exact .inr (.inr (.inr (.inl h)))
  · exact .inr (.inr (.inr (.inr (.inl h))))
  · exact .inl h
  · exact .inr (.inl h)
  · exact .inr (.inr (.inl h))
  · exact .inr (.inr (.inr (.inr (.inr h))))
theorem rest_back {pl ce I C D : Addr} {o oc oI oC oD : Obj} {rest rest2 : List (Addr × Obj)} (hS : ∀ p ∈ (I, oI) :: (C, oC) :: (D, oD) :: rest, p ∈ rest2) : ∀ p ∈ (I, oI) :: (C, oC) :: (D, oD) :: (pl, o) :: (ce, oc) :: rest, p ∈ (pl, o) :: (ce, oc) :: rest2 := by
  intro p hp
  simp only [List.mem_cons] at hp
  rcases hp with h | h | h | h | h | h
  · exact .tail _ (.tail _ (hS p (by simp only [List.mem_cons]; exact .inl h)))
  · exact .tail _ (.tail _ (hS p (by simp only [List.mem_cons]; exact .inr (.inl h))))
  · exact .tail _ (.tail _ (hS p (by simp only [List.mem_cons]; exact .inr (.inr (.inl h)))))
  · rw [h]; exact .head _
  · rw [h]; exact .tail _ (.head _)
  · exact .tail _ (.tail _ (hS p (by simp only [List.mem_cons]; exact .inr (.inr (.inr h)))))
theorem item_menu {prog : Program} {w : World} {A : Around} {E : Value → Shared → Prop} {s : Shared} {h₀ : Heap} {L : Addr} {news : List (Addr × Obj)} {a : Addr} {o : Obj} {vs : List Value} {n : Nat} {k : Int} {u : Tok} {value slice : PySem.Expr} {Q : Value → Shared → Prop} (P : Value → Prop)
    (N : News h₀ L s.heap news) (hm : (a, o) ∈ news) (hc : o.cls = .type "tuple") (hd : o.data = .seq vs.toArray n) (h0 : 0 ≤ k) (h1 : k < (vs.length : Int)) (hsz : vs.length ≤ 1000) (hP : ∀ x ∈ vs, P x) (h : ∀ x, P x → Q x s)
    (hs : subscripted slice false (.ref a) (.int k u) = operate [.ref a, .int k u] (getItem (.ref a) (.int k u))) :
    wpAny (model prog w) A (subscriptTail value slice (.ref a) (.int k u)) Q E s := by
  have hlt : k.toNat < vs.length := by omega
  refine item_tupleT (j := k.toNat) ⟨o, (N _ hm).1, hc, n, hd⟩ (by omega) (by omega) ?_ (List.getElem?_eq_getElem hlt) (h _ (hP _ (List.getElem_mem hlt))) hs
  unfold seqIndex?
  simp only [show ¬ k < 0 by omega, if_false]
  rw [if_pos (by simp only [Bool.and_eq_true, decide_eq_true_eq]; omega)]
theorem off1_mem {D : Addr} : ∀ {l : List (Addr × Obj)}, LCg.Off1 D l → ∀ p ∈ l, @Ne Nat p.1 D
  | [], _, _, h => nomatch h
  | _ :: _, x, p, h => by
    rcases List.mem_cons.mp h with rfl | h
    · exact x.1
    · exact off1_mem x.2 p h
theorem rest_beg {h₀ h : Heap} {L pl ce D : Addr} {o oc oD : Obj} {rest : List (Addr × Obj)} (N : News h₀ L h ((D, oD) :: (pl, o) :: (ce, oc) :: rest)) (ho : OwnOff rest [pl]) (hne : @Ne Nat pl D) :
    ∃ rest2, OwnOff rest2 [pl] ∧ (∀ q ∈ rest, q ∈ rest2) ∧ (D, oD) ∈ rest2 ∧ News h₀ L h ((pl, o) :: (ce, oc) :: rest2) := by
  refine ⟨(D, oD) :: rest, ownOff_cons (fun _ hb => by rw [List.mem_singleton.mp hb]; exact Ne.symm hne) ho, fun _ h => .tail _ h, .head _, fun p hp => N p ?_⟩
  simp only [List.mem_cons] at hp ⊢
  rcases hp with h | h | h | h
  · exact .inr (.inl h)
  · exact .inr (.inr (.inl h))
  · exact .inl h
  · exact .inr (.inr (.inr h))
theorem led_mid {a b p : Addr × Obj} {x : Addr × Obj} {l : List (Addr × Obj)} (h : p ∈ a :: b :: l) : p ∈ a :: x :: b :: l := by
  simp only [List.mem_cons] at h ⊢
  rcases h with h | h | h
  · exact .inl h
  · exact .inr (.inr (.inl h))
  · exact .inr (.inr (.inr h))
def SInv (hb : Heap) (pl ce st : Addr) (oc : Obj) (keep : List (Addr × Obj)) (m₀ : Str → Option Value) (i : Nat) (m : Str → Option Value) (nx : List (Addr × Obj)) : Prop :=
  ∃ kk t0 np svs ns items rst, nx = (pl, listOf [Value.int kk t0].toArray np) :: (ce, oc) :: (st, listOf (List.toArray svs) ns) :: rst ∧ 0 ≤ kk ∧ kk ≤ 1 + 18 * (i : Int) ∧ (∀ z, z ≠ Str.ofString "turn" → z ≠ Str.ofString "mode" → m z = m₀ z) ∧ All2 (ItemAt hb rst) svs items ∧ items.length = i ∧
    (∀ x ∈ items, IsMode x.1 ∧ x.2.length ≤ 4) ∧ (∀ q ∈ keep, q ∈ rst) ∧ OwnOff rst [pl] ∧ OwnOff rst [st] ∧ @Ne Nat st pl ∧ @Ne Nat ce pl ∧ @Ne Nat ce st
theorem sto_loop {prog : Program} {w : World} {A : Around} {E : Value → Shared → Prop} {s : Shared} {env : Env} {h₀ : Heap} {body : List Stmt} {Q : Flow → Shared → Prop} {r : Addr} {b₀ : Int} {t₀ u₀ v₀ : Tok} {m₀ : Str → Option Value} {news : List (Addr × Obj)} (hb : Heap) (pl ce st : Addr) (oc : Obj) (keep : List (Addr × Obj))
    (hh : A.handled = none) (hr : IsRange s.heap r 0 b₀ 1 t₀ u₀ v₀) (h0 : 0 ≤ b₀) (h7 : b₀ ≤ 7) (F : Fr h₀ env.locals s.heap m₀) (N : News h₀ env.locals s.heap news) (hj : SInv hb pl ce st oc keep m₀ 0 m₀ news)
    (turn : ∀ i t m₁ nx h tk own, i < 7 → OwnOff own (nx.map (·.1)) → SInv hb pl ce st oc keep m₀ i m₁ nx → Fr h₀ env.locals h (fun y => if y = Str.ofString "turn" then some (.int (i : Int) t) else m₁ y) → News h₀ env.locals h (nx ++ own) →
      wpAny (model prog w) A (execs body env) (InvPostG h₀ env.locals (SInv hb pl ce st oc keep m₀ (i + 1)) own { s with heap := h, toks := tk } Q) E { s with heap := h, toks := tk })
    (done : ∀ n m₁ nx h tk, n ≤ 7 → SInv hb pl ce st oc keep m₀ n m₁ nx → Fr h₀ env.locals h m₁ → News h₀ env.locals h nx → Q .next { s with heap := h, toks := tk }) :
    wpAny (model prog w) A (pyIter (.ref r)) (fun it s₂ => LoopAtV prog w A h₀ env (Str.ofString "turn") body Q E it s₂) E s := by
  obtain ⟨n, rfl⟩ : ∃ n : Nat, b₀ = (n : Int) := ⟨b₀.toNat, by omega⟩
  exact rng_iter (n := n) (SInv hb pl ce st oc keep m₀) hh hr (small_one (by omega) (by omega) (by omega) (by omega)) (by rw [rangeSize_nat]; simp) F N hj (fun i t m₁ nx h tk own hi => turn i t m₁ nx h tk own (by omega)) (fun m₁ nx h tk => done n m₁ nx h tk (by omega))
theorem sto_map {m₁ m₀ : Str → Option Value} {v : Option Value} (h2 : ∀ z, z ≠ Str.ofString "turn" → z ≠ Str.ofString "mode" → m₁ z = m₀ z) :
    (fun y => if y = Str.ofString "turn" then v else m₁ y) = fun y => if y = Str.ofString "turn" then v else if y = Str.ofString "mode" then m₁ (Str.ofString "mode") else m₀ y := by
  funext y
  by_cases a1 : y = Str.ofString "turn"
  · rw [if_pos a1, if_pos a1]
  · rw [if_neg a1, if_neg a1]
    by_cases a2 : y = Str.ofString "mode"
    · rw [if_pos a2, a2]
    · rw [if_neg a2]
      exact h2 y a1 a2
theorem sto_map2 {m₁ m₀ : Str → Option Value} (h2 : ∀ z, z ≠ Str.ofString "turn" → z ≠ Str.ofString "mode" → m₁ z = m₀ z) :
    m₁ = fun y => if y = Str.ofString "turn" then m₁ (Str.ofString "turn") else if y = Str.ofString "mode" then m₁ (Str.ofString "mode") else m₀ y := by
  rw [← sto_map h2]
  funext y
  by_cases a1 : y = Str.ofString "turn"
  · rw [if_pos a1, a1]
  · rw [if_neg a1]
theorem led_pick2 {h₀ h : Heap} {L pl st ce tb : Addr} {op os oc ot : Obj} {x1 : Addr × Obj} {imm : List (Addr × Obj)} (N : News h₀ L h ((pl, op) :: (st, os) :: x1 :: (tb, ot) :: (ce, oc) :: imm)) : News h₀ L h ((pl, op) :: (ce, oc) :: (st, os) :: (tb, ot) :: imm) := fun p hp => N p (by
  simp only [List.mem_cons] at hp ⊢
  rcases hp with h | h | h | h | h
  · exact .inl h
  · exact .inr (.inr (.inr (.inr (.inl h))))
  · exact .inr (.inl h)
  · exact .inr (.inr (.inr (.inl h)))
  · exact .inr (.inr (.inr (.inr (.inr h)))))
def IsModeV (x : Value) : Prop := ∃ W t, x = .str W t ∧ IsMode W
theorem sto_ini {h₀ h : Heap} {L pl ce st : Addr} {oc : Obj} {t0 : Tok} {np ns : Nat} {m₀ : Str → Option Value} {rst : List (Addr × Obj)} (_F : Fr h₀ L h m₀) (_N : News h₀ L h ((pl, listOf [Value.int (0 + 1) t0].toArray np) :: (ce, oc) :: (st, listOf (List.toArray []) ns) :: rst)) (ho1 : OwnOff rst [pl]) (ho2 : OwnOff rst [st]) (h1 : @Ne Nat st pl) (h2 : @Ne Nat ce pl) (h3 : @Ne Nat ce st) :
    SInv h₀ pl ce st oc rst m₀ 0 m₀ ((pl, listOf [Value.int (0 + 1) t0].toArray np) :: (ce, oc) :: (st, listOf (List.toArray []) ns) :: rst) :=
  ⟨0 + 1, t0, np, [], ns, [], rst, rfl, by omega, by omega, fun _ _ _ => rfl, .nil, rfl, (fun _ h => nomatch h), fun _ h => h, ho1, ho2, h1, h2, h3⟩
theorem sto_rest {h₀ h : Heap} {L pl ce st : Addr} {o oc os : Obj} {x : Addr × Obj} {rs : List (Addr × Obj)} (N : News h₀ L h ((pl, o) :: x :: (ce, oc) :: (st, os) :: rs)) (q1 : OwnOff rs [pl, st]) (h1 : @Ne Nat st pl) (h2 : @Ne Nat ce pl) :
    ∃ rest, OwnOff rest [pl] ∧ @Ne Nat ce pl ∧ (st, os) ∈ rest ∧ (∀ q ∈ rs, q ∈ rest) ∧ News h₀ L h ((pl, o) :: (ce, oc) :: rest) :=
  ⟨(st, os) :: rs, ownOff_cons (fun _ hb => by rw [List.mem_singleton.mp hb]; exact h1) (ownOff_sub q1 fun _ hb => by rw [List.mem_singleton.mp hb]; exact .head _), h2, .head _, fun _ h => .tail _ h, fun p hp => N p (by
    simp only [List.mem_cons] at hp ⊢
    rcases hp with h | h | h | h
    · exact .inl h
    · exact .inr (.inr (.inl h))
    · exact .inr (.inr (.inr (.inl h)))
    · exact .inr (.inr (.inr (.inr h))))⟩
theorem sto_back {h₀ h : Heap} {L pl ce st D : Addr} {o oc os oD : Obj} {rest rs : List (Addr × Obj)} (N : News h₀ L h ((D, oD) :: (pl, o) :: (ce, oc) :: rest)) (hs : (st, os) ∈ rest) (hr : ∀ q ∈ rs, q ∈ rest) : News h₀ L h ((D, oD) :: (st, os) :: (pl, o) :: (ce, oc) :: rs) := fun p hp => N p (by
  simp only [List.mem_cons] at hp ⊢
  rcases hp with h | h | h | h | h
  · exact .inl h
  · rw [h]; exact .inr (.inr (.inr hs))
  · exact .inr (.inl h)
  · exact .inr (.inr (.inl h))
  · exact .inr (.inr (.inr (hr _ h))))
theorem sto_end {h₀ hb h' : Heap} {L pl ce st D T : Addr} {oc : Obj} {m₀ m' : Str → Option Value} {s₁ : Shared} {tk kd i np ns : Nat} {kq : Int} {t0 tW : Tok} {W : Str} {ys svs : List Value} {bs : List Bs} {items : List (Str × List Bs)} {rs rst own keep : List (Addr × Obj)}
    (F : Fr h₀ L h' m') (N : News h₀ L h' ((T, tupO [Value.str W tW, .ref D]) :: (D, listOf (List.toArray ys) kd) :: (st, listOf ((List.toArray svs).push (.ref T)) (ns + 1)) :: (pl, listOf [Value.int kq t0].toArray np) :: (ce, oc) :: rs)) (hT : @LT.lt Nat _ D T ∧ @LT.lt Nat _ st T ∧ @LT.lt Nat _ pl T ∧ @LT.lt Nat _ ce T ∧ AllLt T rs)
    (q3 : ∀ q ∈ rst, q ∈ rs) (q4 : ∀ q ∈ own, q ∈ rs) (hDr : ∀ q ∈ rs, @Ne Nat q.1 D) (hDs : @Ne Nat st D) (hDp : @Ne Nat pl D) (hit : All2 (ItemAt hb rst) svs items) (him : ∀ x ∈ items, IsMode x.1 ∧ x.2.length ≤ 4) (hil : items.length = i) (hW : IsMode W) (hB : BAre ys bs) (hbl : bs.length ≤ 4)
    (hk0 : 0 ≤ kq) (hk1 : kq ≤ 1 + 18 * ((i + 1 : Nat) : Int)) (hm : ∀ z, z ≠ Str.ofString "turn" → z ≠ Str.ofString "mode" → m' z = m₀ z) (hkp : ∀ q ∈ keep, q ∈ rst) (ho1 : OwnOff rst [pl]) (ho2 : OwnOff rst [st]) (h1 : @Ne Nat st pl) (h2 : @Ne Nat ce pl) (h3 : @Ne Nat ce st)
    (oc1 : ∀ p ∈ own, @Ne Nat p.1 pl) (oc3 : ∀ p ∈ own, @Ne Nat p.1 ce) (oc2 : ∀ p ∈ own, @Ne Nat p.1 st) (hown : OwnOff own (rst.map (·.1))) :
    InvEndG h₀ L (SInv hb pl ce st oc keep m₀ (i + 1)) own s₁ { s₁ with heap := h', toks := tk } := by
  rw [List.push_toArray] at N
  obtain ⟨t1, t2, t3, t4, t5⟩ := hT
  have hTr : ∀ q ∈ rs, @Ne Nat q.1 T := fun q hq => Nat.ne_of_lt (lt_all t5 q hq)
  refine InvEndG.intro F N (nx := (pl, listOf [Value.int kq t0].toArray np) :: (ce, oc) :: (st, listOf (List.toArray (svs ++ [.ref T])) (ns + 1)) :: (T, tupO [Value.str W tW, .ref D]) :: (D, listOf (List.toArray ys) kd) :: rst)
    ⟨kq, t0, np, svs ++ [.ref T], ns + 1, items ++ [(W, bs)], _, rfl, hk0, hk1, hm, all2_snoc (all2_imp (fun _ _ h => h.mono (fun _ _ e => e) fun q hq => .tail _ (.tail _ hq)) hit) ⟨T, _, D, _, ys, tW, rfl, .inr (.head _), rfl, ⟨_, rfl⟩, .inr (.tail _ (.head _)), ⟨.inl rfl, _, rfl⟩, hB⟩, by simp [hil], ?_, fun q hq => .tail _ (.tail _ (hkp q hq)), ?_, ?_, h1, h2, h3⟩
    (own_new oc1 (own_new oc3 (own_new oc2 (own_new (fun q hq => hTr q (q4 q hq)) (own_new (fun q hq => hDr q (q4 q hq)) hown))))) ?_ (fun q hq => .tail _ (.tail _ (.tail _ (.tail _ (.tail _ (q4 q hq))))))
  · intro x hx
    rcases List.mem_append.mp hx with hx | hx
    · exact him x hx
    · rw [List.mem_singleton.mp hx]; exact ⟨hW, hbl⟩
  · exact ownOff_cons (fun b hb => by rw [List.mem_singleton.mp hb]; exact Nat.ne_of_gt t3) (ownOff_cons (fun b hb => by rw [List.mem_singleton.mp hb]; exact Ne.symm hDp) ho1)
  · exact ownOff_cons (fun b hb => by rw [List.mem_singleton.mp hb]; exact Nat.ne_of_gt t2) (ownOff_cons (fun b hb => by rw [List.mem_singleton.mp hb]; exact Ne.symm hDs) ho2)
  · intro p hp
    simp only [List.mem_cons] at hp ⊢
    rcases hp with h | h | h | h | h | h
    · exact .inr (.inr (.inr (.inl h)))
    · exact .inr (.inr (.inr (.inr (.inl h))))
    · exact .inr (.inr (.inl h))
    · exact .inl h
    · exact .inr (.inl h)
    · exact .inr (.inr (.inr (.inr (.inr (q3 p h)))))
theorem led_one {h₀ h : Heap} {L : Addr} {q : Addr × Obj} {l : List (Addr × Obj)} (hq : q ∈ l) (N : News h₀ L h l) : News h₀ L h [q] := fun p hp => by rw [List.mem_singleton.mp hp]; exact N _ hq
theorem off_M4 : True := by
  w_top off
  k_with_none
  trivial
theorem sliceK {prog : Program} {w : World} {A : Around} {E : Value → Shared → Prop} {s : Shared} {K : Frag} {h₀ : Heap} {L : Addr} {m : Str → Option Value} {news : List (Addr × Obj)} {value slice : PySem.Expr} {t : Addr} {l : List Value} {n : Nat} {dd : Option Addr} {sl : Array (Option Value)} {u : Tok} {Q : Value → Shared → Prop}
    (F : Fr h₀ L s.heap m) (N : News h₀ L s.heap news) (X : K.In h₀) (hl : K.lookup t = some ⟨.type "tuple", dd, .seq l.toArray n, sl⟩) (ha : 2 ≤ l.length)
    (h : ∀ D h', Fr h₀ L h' m → News h₀ L h' ((D, tupO (l.drop 2)) :: news) → (∀ p ∈ news, p.1 < D) → Q (.ref D) { s with heap := h' })
    (hs : subscripted slice false (.ref t) (.ref s.heap.objs.size) = operate [.ref s.heap.objs.size, .ref t] (getItem (.ref t) (.ref s.heap.objs.size)))
    (hg : ∀ r, letTemporaryGo value (.ref t) r = pure ()) (hsz : l.length ≤ 1000) :
    wpAny (model prog w) A (subscriptTail value slice (.ref t) (.ref s.heap.objs.size)) Q E { s with heap := s.heap.push { cls := .type "slice", data := .fields #[.int 2 u, .none, .none] } } :=
  slice_tuple_from (a := 2) F N (tupK (X.keeps F.keep) hl) (by decide) (by rw [List.size_toArray]; exact ha) (fun h' F' N' => h _ h' F' N' fun p hp => Nat.lt_succ_of_lt (Heap.lt_size (N p hp).1)) hs hg (by rw [List.size_toArray, PySem.sizeLine_eq]; omega)
local macro_rules | `(tactic| walk_at "subscriptTail Name Slice ref ref") => `(tactic| (k_here; (with_reducible show wpAny _ _ (subscriptTail _ _ (Value.ref _) (Value.ref _)) _ _ _); k_dflt (refine' sliceK ?k1 ?k2 ?k3 ?k4 ?k5 ?_ ?k6 ?k7 ?k8; (case k1 => k_asm); (case k2 => k_asm); (case k3 => k_asm); (case k4 => k_is); (case k5 => decide); (case k6 => with_unfolding_all rfl); (case k7 => (intro _; with_unfolding_all rfl)); (case k8 => decide)); intro D' h' F' N' l1; (try k_lt l1); (try k_sweep)))
local macro_rules | `(tactic| walk_at "call ref") => `(tactic| (k_here; (with_reducible show wpAny _ _ (call (Value.ref 230) [Value.ref _]) _ _ _); k_dflt (refine' p_taker ?k1 ?k2 ?k3 ?k4 ?kc ?kp ?ko ?k5 ?k6 ?k7 ?k8 ?kl ?ki ?kn ?_; (case k1 => k_asm); (case k2 => k_asm); (case k3 => k_asm); (case k4 => k_asm); (case kc => kn_code); (case kp => ktr_unf); (case ko => ktr_rel); (case k5 => k_asm); (case k6 => first | exact rfl | assumption); (case k7 => ktr_room); (case k8 => ktr_units); (case kl => k_asm); (case ki => assumption); (case kn => omega); k_whole); intro f9 imm9 pl9 t9 n9 ps9 h' tk' hA9 ho9 hp9 F' N'; (try k_lt hp9); (simp only [List.map_cons, List.map_nil] at ho9); (simp only [List.cons_append, List.nil_append] at N'); (try dsimp only); (try k_fold)))
local macro_rules | `(tactic| walk_at "FnAt") => `(tactic| (k_dflt (exact fnAt_take (by assumption) (by k_asm) (by ktr_rel))))
local macro_rules | `(tactic| walk_at "callWith ref") => `(tactic| (k_here; (with_reducible show wpAny _ _ (callWith _ (Value.ref _) [] (backTo _ (starEach [Expr.Constant _ _ _] _)) []) _ _ _); k_dflt (refine' callWith_F ?k1 ?_; (case k1 => exact fnAt_take (by assumption) (by k_asm) (by ktr_rel)); k_whole)))
local macro_rules | `(tactic| walk_at "eval ListComp") => `(tactic| (k_here; (with_reducible show wpAny _ _ (eval (PySem.Expr.ListComp _ [⟨PySem.Expr.Name _ _, _, [], 0⟩] _ _) _) _ _ _); k_dflt (refine LCg.ListComp_U (F₀ := by k_asm) (by with_unfolding_all rfl) (by decide) (by rfl) (by decide) (by rfl) ?_)))
local macro_rules | `(tactic| walk_at "exec Assign cons ListComp") => `(tactic| (k_here; k_dflt (refine LCg.Assign_ListComp_U (F₀ := by k_asm) (by rfl) (by with_unfolding_all rfl) (by with_unfolding_all rfl) (by decide) (by rfl) (by decide) (by rfl) (by rfl) (by rfl) ?_)))
local macro_rules | `(tactic| walk_at "call ref") => `(tactic| (k_here; k_dflt (show wpAny _ _ (call (Value.ref _) [Value.int _ _]) _ _ _); k_dflt (refine' p_take ?k1 ?k2 ?k3 ?k4 ?k5 ?k6 ?k7 ?k8 ?kc ?kA ?kp ?ki ?ko ?ka ?kb ?ke ?kf ?_; (case k1 => k_asm); (case k2 => k_asm); (case k3 => k_asm); (case k4 => k_asm); (case k5 => k_asm); (case k6 => first | exact rfl | assumption); (case k7 => ktr_room); (case k8 => ktr_units); (case kc => kn_code); (case kA => assumption); (case kp => ktr_unf); (case ki => ktr_rel); (case ko => ktr_rel); (case ka => omega); (case kb => omega); (case ke => decide); (case kf => decide); k_whole); intro r9 t9 u9 h' tk' g9 g8 F' N'; (try dsimp only); (try k_fold)))
local macro_rules | `(tactic| walk_at "call type:range") => `(tactic| (k_here; k_dflt (show wpAny _ _ (call (Value.type _) [Value.int _ _]) _ _ _); k_dflt (refine' rng_comp ?k1 ?k2 ?k3 ?k4 ?k5 ?_; (case k1 => exact rfl); (case k2 => k_asm); (case k3 => k_asm); (case k4 => omega); (case k5 => omega); k_whole)))
local macro_rules | `(tactic| k_mem) => `(tactic| with_reducible assumption)
local macro_rules | `(tactic| walk_at "call builtin:list.append") => `(tactic| (k_here; (with_reducible show wpAny _ _ (call (Value.builtin _) [Value.ref _, _]) _ _ _); k_dflt (refine' append_K ?k1 ?k2 ?k3 ?_ ?z; (case k1 => k_asm); (case k2 => k_asm); (case k3 => k_upd); (case z => (rw [List.size_toArray]; assumption)); k_whole); intro h' F' N'; (try k_sweep)))
theorem tstM : PySem.Challenge.rw_pb0233_02.Holds := Mine.hd2 (by
  k_go0
  (all_goals try k_fold)
  repeat ((fail_if_success (with_reducible show wpAny _ _ (call (Value.ref 261) _) _ _ _)); (first | (k_unfold; (try dsimp only)) | (k_end; wrow_close) | walk1 | (dsimp only; walk1) | (leave1; walk_say "STEP leave1"; try dsimp only) | fail "no step"))
  rename News _ _ _ _ => N1
  rename Fr _ _ _ _ => F1
  rename TakeAt _ _ _ _ _ => hTk
  rename OwnOff _ _ => hOff
  rename (Obj.data _ = Data.cell (some _)) => hcell
  rename Frag.In (Mine.hd2.heap_39 _) (ghostOf _ _) => X9
  obtain ⟨ost, svs0, hs1, hs2, hs3, hs4⟩ := story_at X9
  k_here
  k_dflt (refine' c_lefts (items := story0) ?k1 ?k2 ?k3 ?k4 ?k5 ?k6 ?k7 ?k8 ?hst ?hod ?hit ?hlen ?hmode ?_; (case k1 => k_asm); (case k2 => k_asm); (case k3 => k_asm); (case k4 => k_asm); (case k5 => k_asm); (case k6 => first | exact rfl | assumption); (case k7 => ktr_room); (case k8 => ktr_units); (case hst => exact .inr ⟨hs1, hs2⟩); (case hod => exact hs3); (case hit => exact hs4 _); (case hlen => decide); (case hmode => exact story0_ok); k_whole)
  intro r1 fvs1 nf1 rs1 h' tk' hA1 hs5 ho1 F2 N2
  have N3 := led_pick1 N2 hs5
  repeat ((fail_if_success (with_reducible show wpAny _ _ (compareOp _ _ _) _ _ _)); (first | (k_unfold; (try dsimp only)) | (k_end; wrow_close) | walk1 | (dsimp only; walk1) | (leave1; walk_say "STEP leave1"; try dsimp only) | fail "no step"))
  rw [lefts0_is] at hA1
  refine' cmp_list_ne (ds := lefts0.map leftDat) (News.isList N2 (.head _)) (hall_lefts F2 N2 (fun q hq => .tail _ hq) hA1) (News.isList N3 (.head _)) (hall_lefts F2 N3 (fun q hq => hq) (left_at X9 _)) ?ku ?_
  case ku => (have hcL9 := cLine_is; simp only [units_deeper, units_caller, lefts0_dep]; omega)
  repeat ((fail_if_success (with_reducible show wpAny _ _ (call (Value.ref 254) _) _ _ _)); (first | (k_unfold; (try dsimp only)) | (k_end; wrow_close) | walk1 | (dsimp only; walk1) | (leave1; walk_say "STEP leave1"; try dsimp only) | fail "no step"))
  k_here
  k_dflt (refine' c_story (items := story0) (lvs := LV0) ?k1 ?k2 ?k3 ?k4 ?k5 ?k6 ?k7 ?k8 ?hst ?hso ?hit ?hlf ?hlo ?hla ?hlen ?hmode ?_; (case k1 => k_asm); (case k2 => k_asm); (case k3 => k_asm); (case k4 => exact N3); (case k5 => k_asm); (case k6 => first | exact rfl | assumption); (case k7 => ktr_room); (case k8 => ktr_units); (case hst => exact .inl hs1); (case hso => exact ⟨.inr hs2, hs3⟩); (case hit => exact hs4 _); (case hlf => exact .inr (.head _)); (case hlo => exact ⟨.inl rfl, 0, rfl⟩); (case hla => (rw [lefts0_is]; exact left_at X9 _)); (case hlen => decide); (case hmode => exact story0_ok); k_whole)
  intro h' tk' F4 N4
  clear N1 N2 N3 hs5 hA1 ho1 hs1 hs2 hs3 hs4
  repeat ((fail_if_success (with_reducible show wpAny _ _ (call (Value.type _) _) _ _ _)); (first | (k_unfold; (try dsimp only)) | (k_end; wrow_close) | walk1 | (dsimp only; walk1) | (leave1; walk_say "STEP leave1"; try dsimp only) | fail "no step"))
  rename Fr _ _ _ _ => F5
  rename News _ _ _ _ => N5
  refine range1_rows F5 N5 ?_
  intro h' tk' t5 u5 v5 hR5 F6 N6 hk5
  try dsimp only
  try k_fold
  have N7 := led_pick2 N6
  rename (_ < _ ∧ _) => l1
  obtain ⟨-, l1a, l1b, l1c, l1d⟩ := l1
  rename (225 < _ ∧ _) => hp9
  have hj := sto_ini F6 N7 ?o1 ?o2 (Nat.ne_of_gt l1a) (Nat.ne_of_lt hp9.2) (Nat.ne_of_lt l1c)
  case o1 => exact ownOff_cons (fun b hb => by rw [List.mem_singleton.mp hb]; exact Nat.ne_of_lt hp9.1) (ownOff_sub hOff (fun b hb => by rw [List.mem_singleton.mp hb]; exact .head _))
  case o2 => exact ownOff_cons (fun b hb => by rw [List.mem_singleton.mp hb]; exact Nat.ne_of_lt l1b) (ownOff_lt l1d ownOff_adr)
  refine sto_loop _ _ _ _ _ _ rfl hR5 (by omega) (by omega) F6 N7 hj ?turn ?done
  case turn =>
    clear hj N7 F6 hR5 hk5 l1a l1b l1c l1d hp9
    (repeat (rename News _ _ _ _ => lx9; clear lx9))
    (repeat (rename Fr _ _ _ _ => lx9; clear lx9))
    (repeat (rename (_ < _ ∧ _) => lx9; clear lx9))
    rintro i t m₁ nx h tk own hi hown ⟨kk, t0, np, svs, ns, items, rst, rfl, hk0, hk1, hm, hit, hil, him, hkp, ho1, ho2, hne1, hne2, hne3⟩ F7 N8
    rw [sto_map hm] at F7
    obtain ⟨oc1, hown1⟩ := own_split hown
    obtain ⟨oc3, hown2⟩ := own_split hown1
    obtain ⟨oc2, hown3⟩ := own_split hown2
    have q1 := off_two (ownOff_app ho1 oc1) (ownOff_app ho2 oc2)
    have q3 : ∀ q ∈ rst, q ∈ rst ++ own := fun q hq => List.mem_append.mpr (.inl hq)
    have q4 : ∀ q ∈ own, q ∈ rst ++ own := fun q hq => List.mem_append.mpr (.inr hq)
    obtain ⟨hka, hkb⟩ := List.forall_mem_cons.mp hkp
    have htb := q3 _ hka
    have hkq := fun q hq => q3 q (hkb q hq)
    simp only [List.cons_append, List.nil_append] at N8
    generalize hrs : rst ++ own = rs at N8 q1 q3 q4 hkq htb
    clear hrs
    repeat ((fail_if_success (with_reducible show wpAny _ _ (subscriptTail _ _ (Value.ref _) (Value.int _ _)) _ _ _)); (first | (k_unfold; (try dsimp only)) | (k_end; wrow_close) | walk1 | (dsimp only; walk1) | (leave1; walk_say "STEP leave1"; try dsimp only) | fail "no step"))
    k_here
    refine' item_menu IsModeV (by k_asm) (by k_mem) rfl rfl ?h0 ?h1 ?h2 ?hP ?_ ?hs
    case h0 => omega
    case h1 => simp only [List.length_cons, List.length_nil]; omega
    case h2 => simp only [List.length_cons, List.length_nil]; omega
    case hP => (intro x hx; simp only [List.mem_cons, List.not_mem_nil, or_false] at hx; rcases hx with rfl | rfl | rfl | rfl | rfl | rfl <;> exact ⟨_, _, rfl, by unfold IsMode; decide⟩)
    case hs => with_unfolding_all rfl
    rintro x ⟨W, tW, rfl, hW⟩
    repeat ((fail_if_success (with_reducible show wpAny _ _ (eval (PySem.Expr.Tuple _ _ _) _) _ _ _)); (first | (k_unfold; (try dsimp only)) | (k_end; wrow_close) | walk1 | (dsimp only; walk1) | (leave1; walk_say "STEP leave1"; try dsimp only) | fail "no step"))
    rename News _ _ _ _ => N9
    obtain ⟨rest, hR1, hcp, hRs, hRr, N10⟩ := sto_rest N9 q1 hne1 hne2
    have hRi := fun q hq => hRr q (hkq q hq)
    rename (_ ≤ _) => g9
    clear N9
    (repeat (rename (_ < _ ∧ _) => lx9; clear lx9))
    iterate 21 (first | (k_unfold; (try dsimp only)) | (k_end; wrow_close) | walk1 | (dsimp only; walk1) | (leave1; walk_say "STEP leave1"; try dsimp only) | fail "no step")
    have hkm : 0 ≤ kk + 1 + 1 := by omega
    have hkn : kk + 1 + 1 ≤ 3 + 18 * (i : Int) := by omega
    generalize kk + 1 + 1 = k0 at hkm hkn
    clear hk0 hk1
    rintro k hk s₂ ⟨g', tk', rfl⟩
    refine comp_inv (TkInv (fun j ys kq => ∃ bs, BAre ys bs ∧ bs.length = j ∧ kq ≤ k0 + 4 * (j : Int)) _ _ _) ?fin ?turn _ _ _ _ (Nat.zero_add _) (TkInv.mk0 ?i0 ?i1)
    case i0 => omega
    case i1 => exact ⟨[], .nil, rfl, by omega⟩
    case turn =>
      rintro j ys news v I oI C oC D m₂ h tk E' hj ⟨kq, t0, rfl, hk0, bs, hB, hbl, hk1⟩ ⟨u, rfl⟩ hC hx F' N' off ne
      obtain ⟨rest2, hQ1, hQ2, hQ3, N5⟩ := rest_up N' off hR1
      have hQi := fun q hq => hQ2 q (hRi q hq)
      clear N' ne
      iterate 22 (first | (k_unfold; (try dsimp only)) | (k_end; wrow_close) | walk1 | (dsimp only; walk1) | (leave1; walk_say "STEP leave1"; try dsimp only) | fail "no step")
      rintro k2 hk2 s₂ ⟨g2, tk2, rfl⟩
      refine comp_inv (TkInv (fun j2 zs kq2 => ∃ nz, IntsAre zs nz ∧ nz.length = j2 ∧ (∀ n ∈ nz, 0 ≤ n ∧ n < 256) ∧ kq2 ≤ kq + 1 + (j2 : Int)) _ _ _) ?fin2 ?turn2 _ _ _ _ (Nat.zero_add _) (TkInv.mk0 ?i2 ?i3)
      case i2 => omega
      case i3 => exact ⟨[], .nil, rfl, (fun _ h => nomatch h), by omega⟩
      case turn2 =>
        rintro j2 zs news v I2 oI2 C2 oC2 D2 m₃ h3 tk3 E3 hj2 ⟨kq2, t2, rfl, hk3, nz, hB2, hbl2, hbs2, hk4⟩ ⟨u2, rfl⟩ hC2 hx2 F3 N3 off2 ne2
        obtain ⟨rest3, hP1, hP2, hP3, N6⟩ := rest_up N3 off2 hQ1
        have hPi := fun q hq => hP2 q (hQi q hq)
        clear N3 ne2
        iterate 10 (first | (k_unfold; (try dsimp only)) | (k_end; wrow_close) | walk1 | (dsimp only; walk1) | (leave1; walk_say "STEP leave1"; try dsimp only) | fail "no step")
        k_unfold
        try dsimp only
        rename (_ < 256) => hr1
        rename News _ _ _ _ => N9
        refine LCg.CompEnd.intro (by k_asm) N9 _ (rest_back hP3) ?off True.intro ⟨_, _, rfl, ?h0, nz ++ [_], intsAre_snoc hB2 _ _, ?len, ?inn, ?le⟩
        case off => exact off2
        case h0 => omega
        case len => simp [hbl2]
        case inn =>
          intro n hn
          rcases List.mem_append.mp hn with h | h
          · exact hbs2 n h
          · rw [List.mem_singleton.mp h]; omega
        case le => omega
      case fin2 =>
        rintro zs news ⟨kq2, t2, rfl, hk3, nz, hB2, hbl2, hbs2, hk4⟩
        iterate 3 (first | (k_unfold; (try dsimp only)) | (k_end; wrow_close) | walk1 | (dsimp only; walk1) | (leave1; walk_say "STEP leave1"; try dsimp only) | fail "no step")
        try k_unfold
        try dsimp only
        rename News _ _ _ _ => N9
        refine LCg.CompEnd.intro (by k_asm) N9 _ (fun p hp => List.mem_cons_of_mem _ (rest_back hQ3 p hp)) ?off True.intro ⟨_, _, rfl, ?h0, bs ++ [byteArr nz], hB.append (.one _ _), ?len, ?le⟩
        case off => exact off
        case h0 => omega
        case len => simp [hbl]
        case le => omega
    case fin =>
      rintro ys news ⟨kq, t0, rfl, hk0, bs, hB, hbl, hk1⟩
      iterate 1 (first | (k_unfold; (try dsimp only)) | (k_end; wrow_close) | walk1 | (dsimp only; walk1) | (leave1; walk_say "STEP leave1"; try dsimp only) | fail "no step")
      rename News _ _ _ _ => N9
      rename (_ ∧ _) => o1
      have hDs := off1_mem o1.2.2 _ hRs
      have hDr := fun q hq => off1_mem o1.2.2 q (hRr q hq)
      have N10 := sto_back N9 hRs hRr
      have o11 := o1.1
      have o12 := o1.2.1
      dsimp only at hDs
      clear N9 o1
      have hfz : svs.length ≤ sizeLine := by rw [hit.length, hil, PySem.sizeLine_eq]; omega
      have hstr := fun p hp => q1 p hp _ (.tail _ (.head _))
      iterate 6 (first | (k_unfold; (try dsimp only)) | (k_end; wrow_close) | walk1 | (dsimp only; walk1) | (leave1; walk_say "STEP leave1"; try dsimp only) | fail "no step")
      rename News _ _ _ _ => N9
      rename Fr _ _ _ _ => F9
      rename (_ < _ ∧ _) => l1
      refine sto_end F9 N9 l1 q3 q4 hDr hDs o11 hit him hil hW hB (by omega) hk0 (by omega) ?hm hkp ho1 ho2 hne1 hne2 hne3 oc1 oc3 oc2 hown3
      case hm => (intro z z1 z2; simp only [z1, z2, if_false])
  case done =>
    clear hj N7 F6 hR5 hk5 l1a l1b l1c l1d hp9
    (repeat (rename News _ _ _ _ => lx9; clear lx9))
    (repeat (rename Fr _ _ _ _ => lx9; clear lx9))
    (repeat (rename (_ < _ ∧ _) => lx9; clear lx9))
    rintro n m₁ nx h tk hn ⟨kk, t0, np, svs, ns, items, rst, rfl, hk0, hk1, hm, hit, hil, him, hkp, ho1, ho2, hne1, hne2, hne3⟩ F7 N8
    rw [sto_map2 hm] at F7
    obtain ⟨hka, hkb⟩ := List.forall_mem_cons.mp hkp
    repeat ((fail_if_success (with_reducible show wpAny _ _ (call (Value.ref 261) _) _ _ _)); (first | (k_unfold; (try dsimp only)) | (k_end; wrow_close) | walk1 | (dsimp only; walk1) | (leave1; walk_say "STEP leave1"; try dsimp only) | fail "no step"))
    rename News _ _ _ _ => N9
    k_here
    k_dflt (refine' c_lefts (items := items) ?k1 ?k2 ?k3 ?k4 ?k5 ?k6 ?k7 ?k8 ?hst ?hod ?hit ?hlen ?hmode ?_; (case k1 => k_asm); (case k2 => k_asm); (case k3 => k_asm); (case k4 => exact N9); (case k5 => k_asm); (case k6 => first | exact rfl | assumption); (case k7 => ktr_room); (case k8 => ktr_units); (case hst => exact .inl ⟨.tail _ (.tail _ (.head _)), rfl⟩); (case hod => exact ⟨_, rfl⟩); (case hit => exact all2_imp (fun _ _ h => h.mono (fun _ _ e => e) (fun q hq => .tail _ (.tail _ (.tail _ hq)))) hit); (case hlen => omega); (case hmode => exact him); k_whole)
    intro r1 fvs1 nf1 rs1 h' tk' hA1 hs5 ho1 F2 N2
    clear N9
    repeat ((fail_if_success (with_reducible show wpAny _ _ (call (Value.ref 254) _) _ _ _)); (first | (k_unfold; (try dsimp only)) | (k_end; wrow_close) | walk1 | (dsimp only; walk1) | (leave1; walk_say "STEP leave1"; try dsimp only) | fail "no step"))
    rename News _ _ _ _ => N9
    k_here
    k_dflt (refine' c_story (items := items) (lvs := fvs1) ?k1 ?k2 ?k3 ?k4 ?k5 ?k6 ?k7 ?k8 ?hst ?hso ?hit ?hlf ?hlo ?hla ?hlen ?hmode ?_; (case k1 => k_asm); (case k2 => k_asm); (case k3 => k_asm); (case k4 => exact N9); (case k5 => k_asm); (case k6 => first | exact rfl | assumption); (case k7 => ktr_room); (case k8 => ktr_units); (case hst => exact .inr (.tail _ (hs5 _ (.tail _ (.tail _ (.head _)))))); (case hso => exact ⟨.inl rfl, _, rfl⟩); (case hit => exact all2_imp (fun _ _ h => h.mono (fun _ _ e => e) (fun q hq => .tail _ (hs5 _ (.tail _ (.tail _ (.tail _ hq)))))) hit); (case hlf => exact .inr (.head _)); (case hlo => exact ⟨.inl rfl, _, rfl⟩); (case hla => exact all2_imp (fun _ _ h => h.mono (fun _ _ e => e) (fun q hq => .tail _ hq)) hA1); (case hlen => omega); (case hmode => exact him); k_whole)
    intro h' tk' F4 N4
    have N5 := led_one (.tail _ (hs5 _ (.tail _ (.tail _ (.tail _ hka))))) N4
    clear N4
    k_steps)
end Mine
theorem PySem.Challenge.cw_pb0233_02_holds : PySem.Challenge.rw_pb0233_02.Holds := by
  exact Mine.tstM
