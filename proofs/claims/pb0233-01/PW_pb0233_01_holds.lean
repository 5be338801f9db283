import PyProof.Rows.All
import Wide.All
import OpenK.AllK
import Wide.FinOn
import PySem.Challenge.RW_pb0233_01
open PySem PySem.W PyProof.Rows
set_option Elab.async false
set_option maxRecDepth 100000
set_option maxHeartbeats 8000000
namespace Mine
/-- the dict of an open sequential file -/
def IsRF (P : Params) (D : Obj) (c : Addr) (mode : Str) (a : Int) (v : Bool) (l : Int) : Prop :=
  ∃ t1 t2 t3 t4 t5 tm ta tl, D = dictOf [⟨PyData.keyHash P (Str.ofString "content"), .str (Str.ofString "content") t1, .ref c⟩,
    ⟨PyData.keyHash P (Str.ofString "mode"), .str (Str.ofString "mode") t2, .str mode tm⟩,
    ⟨PyData.keyHash P (Str.ofString "at"), .str (Str.ofString "at") t3, .int a ta⟩,
    ⟨PyData.keyHash P (Str.ofString "is_valid"), .str (Str.ofString "is_valid") t4, .bool v⟩,
    ⟨PyData.keyHash P (Str.ofString "last"), .str (Str.ofString "last") t5, .int l tl⟩] 5

section
variable {M : Model} {A : Around} {E : Value → Shared → Prop} {s : Shared}
/-- a ledger is only made smaller -/
theorem news_sub {h₀ h : Heap} {L : Addr} {l l' : List (Addr × Obj)} (N : News h₀ L h l) (hs : ∀ p ∈ l', p ∈ l) : News h₀ L h l' := fun p hp => N p (hs p hp)
end
section
variable {prog : Program} {w : World} {A : Around} {E : Value → Shared → Prop} {s : Shared} {K : Frag} {h₀ : Heap} {L : Addr} {m : Str → Option Value} {a : Addr} {l : List Value} {n : Nat} {dd : Option Addr} {sl : Array (Option Value)} {ys : List Str} {x : Str} {u : Tok} {Q : Value → Shared → Prop}
theorem notin_K_has (X : K.In h₀) (F : Fr h₀ L s.heap m) (hl : K.lookup a = some ⟨.type "tuple", dd, .seq l.toArray n, sl⟩) (hi : StrsAre l ys) (hb : ys.any (· == x) = true) (h : Q (.bool false) s) :
    wpAny (model prog w) A (compareOp .NotIn (.str x u) (.ref a)) Q E s := notin_tuple_strs (tupK (X.keeps F.keep) hl) (by simpa using hi) (by rw [hb]; exact h)
theorem notin_K_not (X : K.In h₀) (F : Fr h₀ L s.heap m) (hl : K.lookup a = some ⟨.type "tuple", dd, .seq l.toArray n, sl⟩) (hi : StrsAre l ys) (hb : ys.any (· == x) = false) (h : Q (.bool true) s) :
    wpAny (model prog w) A (compareOp .NotIn (.str x u) (.ref a)) Q E s := notin_tuple_strs (tupK (X.keeps F.keep) hl) (by simpa using hi) (by rw [hb]; exact h)
end
abbrev tupO (xs : List Value) : Obj := { cls := .type "tuple", data := .seq xs.toArray }
section
variable {prog : Program} {w : World} {A : Around} {E : Value → Shared → Prop} {s : Shared} {h₀ : Heap} {L : Addr} {news : List (Addr × Obj)} {a : Addr} {vs : List Value} {n : Nat} {k : Int} {u : Tok} {Q : Value → Shared → Prop}
theorem len_led (N : News h₀ L s.heap news) (hm : (a, listOf vs.toArray n) ∈ news) (hsz : vs.length ≤ 16777216) (h : Q (.int (vs.length : Int) (s.toks + 1)) { s with toks := s.toks + 1 + 1 }) :
    wpAny (model prog w) A (call (.builtin "len") [.ref a]) Q E s :=
  len_list (items := vs.toArray) ⟨_, (N _ hm).1, rfl, n, rfl⟩ (by rw [List.size_toArray]; omega) (by rw [List.size_toArray]; exact h)
theorem item_led {value slice : PySem.Expr} (N : News h₀ L s.heap news) (hm : (a, listOf vs.toArray n) ∈ news) (h0 : 0 ≤ k) (h1 : k < (vs.length : Int)) (hsz : vs.length ≤ 16777216) (h : ∀ x, vs[k.toNat]? = some x → Q x s)
    (hs : subscripted slice false (.ref a) (.int k u) = operate [.ref a, .int k u] (getItem (.ref a) (.int k u))) (hg : ∀ r, letTemporaryGo value (.ref a) r = pure ()) :
    wpAny (model prog w) A (subscriptTail value slice (.ref a) (.int k u)) Q E s := by
  have hlt : k.toNat < vs.length := by omega
  exact kim_list N hm rfl rfl h0 (by omega) (List.getElem?_eq_getElem hlt) (h _ (List.getElem?_eq_getElem hlt)) hs hg
theorem getItem_led (N : News h₀ L s.heap news) (hm : (a, listOf vs.toArray n) ∈ news) (h0 : 0 ≤ k) (h1 : k < (vs.length : Int)) (hsz : vs.length ≤ 16777216) (h : ∀ x, vs[k.toNat]? = some x → Q x s) :
    wpAny (model prog w) A (getItem (.ref a) (.int k u)) Q E s := by
  have hlt : k.toNat < vs.length := by omega
  exact wpAny_getItem_list (l := a) (items := vs.toArray) ⟨_, (N _ hm).1, rfl, n, rfl⟩ h0 (by omega) (by simpa using List.getElem?_eq_getElem hlt) (h _ (List.getElem?_eq_getElem hlt))
end
abbrev Bs := Array UInt8
inductive BAre : List Value → List Bs → Prop where
  | nil : BAre [] []
  | cons {vs : List Value} {bs : List Bs} (b : Bs) (t : Tok) : BAre vs bs → BAre (.bytes b t :: vs) (b :: bs)
theorem BAre.length {vs : List Value} {bs : List Bs} (h : BAre vs bs) : vs.length = bs.length := by
  induction h with
  | nil => rfl
  | cons b t _ ih => simp [ih]
theorem BAre.get {vs : List Value} {bs : List Bs} (h : BAre vs bs) : ∀ {k : Nat} {y : Value}, vs[k]? = some y → ∃ b t, bs[k]? = some b ∧ y = .bytes b t := by
  induction h with
  | nil => intro k y e; simp at e
  | cons b t _ ih =>
    intro k y e
    cases k with
    | zero => simp at e; exact ⟨b, t, by simp, e.symm⟩
    | succ k => simp at e; simpa using ih e
theorem BAre.set {vs : List Value} {bs : List Bs} (h : BAre vs bs) (b : Bs) (t : Tok) : ∀ k : Nat, BAre (vs.set k (.bytes b t)) (bs.set k b) := by
  induction h with
  | nil => intro k; exact .nil
  | cons b' t' h ih =>
    intro k
    cases k with
    | zero => exact .cons _ _ h
    | succ k => exact .cons _ _ (ih k)
theorem BAre.append {vs us : List Value} {bs cs : List Bs} (h : BAre vs bs) (g : BAre us cs) : BAre (vs ++ us) (bs ++ cs) := by
  induction h with
  | nil => exact g
  | cons b t _ ih => exact .cons _ _ ih
theorem BAre.one (b : Bs) (t : Tok) : BAre [.bytes b t] [b] := .cons _ _ .nil
theorem BAre.dat {news : List (Addr × Obj)} {vs : List Value} {bs : List Bs} (h : BAre vs bs) : DatAll news vs (bs.map Dat.bytes) := by
  induction h with
  | nil => exact .nil
  | cons b t _ ih => exact .cons (.bytes b t) ih
theorem bb_dunder : typeLookup (.type "bytes") "__bytes__" = pure (some (.builtin "bytes.__bytes__")) := by rw [typeLookup_type, builtinLookup_eq_fast]; kernel_rfl
section
variable {prog : Program} {w : World} {A : Around} {E : Value → Shared → Prop} {s : Shared} {b : Array UInt8} {t : Tok}
theorem bb_new {Q : Value → Shared → Prop} (hQ : Q (.bytes b t) s) :
    codeAny (model prog w) A (.call (.builtin "bytes.__new__") ⟨[.type "bytes", .bytes b t], []⟩) (wants Q E) s := by
  refine codeAny_of_tree ?_
  show wpAny _ A.in1 (do checkBuiltinCall "bytes.__new__" ⟨[.type "bytes", .bytes b t], []⟩; again (.builtin "bytes.__new__" ⟨[.type "bytes", .bytes b t], []⟩)) _ _ s
  refine wpAny_bind (wpAny_of_eq (F.bm_newCall _) (wpAny_pure ⟨plainId_quiet F.bm_plain _, codeAny_builtin F.bm_entry ?_⟩))
  rw [Around.under_plainId F.bm_plain _]
  unfold Builtin.«bytes.__new__»
  refine wpAny_bind (wpAny_of_eq (a := true) rfl ?_)
  refine bm_if_false rfl ?_
  refine wpAny_bind (wpAny_of_eq F.bm_sub ?_)
  refine bm_if_false rfl ?_
  refine wpAny_bind (wpAny_of_eq (F.bm_bind _) ?_)
  refine wpAny_bind (wpAny_of_eq (a := ()) rfl ?_)
  refine wpAny_bind (wpAny_of_eq (a := ()) rfl ?_)
  refine bm_if_false rfl ?_
  refine wpAny_bind (wpAny_of_eq (KBy.special_eq bb_dunder) ?_)
  refine wpAny_bind (wpAny_rule ?_)
  refine wpAny_bind (wpAny_of_eq (a := .type "bytes") rfl ?_)
  refine bm_if_true (by decide +kernel) ?_
  show wpAny _ _ (if (Value.type "bytes" == Value.type "bytes") = true then _ else _) _ _ _
  refine bm_if_true (by decide +kernel) ?_
  refine wpAny_bind (wpAny_pure ?_)
  exact wpAny_pure hQ
theorem call_bb {Q : Value → Shared → Prop} (hQ : Q (.bytes b t) s) : wpAny (model prog w) A (call (.type "bytes") [.bytes b t]) Q E s := by
  refine callType_codes (Q₁ := fun obj s₁ => s₁.TypeIs obj "bytes" ∧ Q obj s₁) F.bm_called (F.bm_typeCall _) F.entry_object_init
    (bb_new ⟨PySem.W.typeIs_bytes _ _ _, hQ⟩) fun obj s₁ h₁ => ?_
  exact ⟨h₁.1, F.args_object_init_2 obj _, object_init_meets F.bm_called.init.lookup F.bm_called.made (by decide) prog w A.in1 _ s₁ ⟨h₁.1, rfl, h₁.2⟩⟩
end
section
variable {prog : Program} {w : World} {A : Around} {E : Value → Shared → Prop} {s : Shared} {h₀ : Heap} {L : Addr} {m : Str → Option Value} {news news' : List (Addr × Obj)} {a D : Addr} {vs : List Value} {R : List Bs} {n : Nat} {k : Int} {t u : Tok} {b : Bs}
theorem getItem_by {Q : Value → Shared → Prop} (N : News h₀ L s.heap news) (hm : (a, listOf vs.toArray n) ∈ news) (hR : BAre vs R) (h0 : 0 ≤ k) (h1 : k < (R.length : Int)) (hsz : R.length ≤ 16777216) (h : ∀ t', Q (.bytes (R.getD k.toNat #[]) t') s) :
    wpAny (model prog w) A (getItem (.ref a) (.int k u)) Q E s := by
  have hl := hR.length
  refine getItem_led N hm h0 (by omega) (by omega) fun x hx => ?_
  obtain ⟨b, t, hb, rfl⟩ := hR.get hx
  have : R.getD k.toNat #[] = b := by rw [List.getD_eq_getElem?_getD, hb]; rfl
  rw [← this]; exact h t
theorem item_by {value slice : PySem.Expr} {Q : Value → Shared → Prop} (N : News h₀ L s.heap news) (hm : (a, listOf vs.toArray n) ∈ news) (hR : BAre vs R) (h0 : 0 ≤ k) (h1 : k < (R.length : Int)) (hsz : R.length ≤ 16777216) (h : ∀ t', Q (.bytes (R.getD k.toNat #[]) t') s)
    (hs : subscripted slice false (.ref a) (.int k u) = operate [.ref a, .int k u] (getItem (.ref a) (.int k u))) (hg : ∀ r, letTemporaryGo value (.ref a) r = pure ()) :
    wpAny (model prog w) A (subscriptTail value slice (.ref a) (.int k u)) Q E s := by
  have hl := hR.length
  refine item_led N hm h0 (by omega) (by omega) (fun x hx => ?_) hs hg
  obtain ⟨b, t, hb, rfl⟩ := hR.get hx
  have : R.getD k.toNat #[] = b := by rw [List.getD_eq_getElem?_getD, hb]; rfl
  rw [← this]; exact h t
theorem set_by {Q : Unit → Shared → Prop} (F : Fr h₀ L s.heap m) (N : News h₀ L s.heap news) (U : Upd D (listOf vs.toArray n) (listOf (vs.set k.toNat (.bytes b u)).toArray n) news news') (hR : BAre vs R) (h0 : 0 ≤ k) (h1 : k < (R.length : Int)) (hsz : R.length ≤ 16777216)
    (h : ∀ h', Fr h₀ L h' m → News h₀ L h' news' → BAre (vs.set k.toNat (.bytes b u)) (R.set k.toNat b) → Q () { s with heap := h' }) :
    wpAny (model prog w) A (setItem (.ref D) (.int k t) (.bytes b u)) Q E s := by
  obtain ⟨pre, post, rfl, rfl, a, b'⟩ := U.split
  have z := N (D, listOf vs.toArray n) (List.mem_append.mpr (.inr (.head _)))
  have hl : vs.length = R.length := hR.length
  have hs : vs.toArray.size = R.length := by rw [List.size_toArray]; exact hl
  have hj : k.toNat < R.length := by omega
  refine ki_setAt z.1 h0 (by omega) (by omega) (h _ (F.change (Heap.SameBut.update ..) z.2.1 z.2.2) (ki_turn _ N a b' ?_ ?_) (hR.set _ _ _))
  · show vs.toArray.setIfInBounds k.toNat (.bytes b u) = (vs.set k.toNat (.bytes b u)).toArray
    apply Array.toList_inj.mp
    simp
  · simp
end
theorem lt_all {d : Nat} : ∀ {l : List (Addr × Obj)}, AllLt d l → ∀ p ∈ l, p.1 < d
  | [], _, _, h => nomatch h
  | q :: r, h, p, hp => by
    rcases List.mem_cons.mp hp with rfl | hp
    · exact h.1
    · exact lt_all h.2 p hp
def SzAll (R : List Bs) : Prop := ∀ r ∈ R, r.size ≤ 100
theorem sz_getD {R : List Bs} (h : SzAll R) (k : Nat) : (R.getD k #[]).size ≤ 100 := by
  rw [List.getD_eq_getElem?_getD]
  cases e : R[k]? with
  | none => simp
  | some b => exact h b (List.mem_of_getElem? e)
theorem SzAll.set {R : List Bs} (h : SzAll R) {b : Bs} (hb : b.size ≤ 100) (k : Nat) : SzAll (R.set k b) := by
  intro r hr
  rcases List.mem_or_eq_of_mem_set hr with h1 | h1
  · exact h r h1
  · rw [h1]; exact hb
local macro_rules | `(tactic| k_room) => `(tactic| ((try simp only [depth_under_make, depth_under_kw, depth_in1, depth_deeper, depth_caller]); (try dsimp only [ktrTop]); (simp only [recursionLimit] at *); omega))
local macro_rules | `(tactic| k_units) => `(tactic| ((have hcL9 := cLine_is); (try simp only [units_in1, units_deeper, Around.mark_units, units_caller] at *); (try dsimp only [ktrTop] at *); omega))
local macro_rules | `(tactic| walk_at "compareOp NotIn str ref") => `(tactic| (k_here; k_dflt (first
  | (refine' notin_K_has ?k1 ?k2 ?k3 ?k4 ?k5 ?_; (case k1 => k_asm); (case k2 => k_asm); (case k3 => k_is); (case k4 => (repeat constructor)); (case k5 => first | decide +kernel | (rcases ‹_ = Str.ofString "i-o" ∨ _ = Str.ofString "input"› with h9 | h9 <;> (subst h9; decide +kernel))); k_whole)
  | (refine' notin_K_not ?k1 ?k2 ?k3 ?k4 ?k5 ?_; (case k1 => k_asm); (case k2 => k_asm); (case k3 => k_is); (case k4 => (repeat constructor)); (case k5 => decide +kernel); k_whole))))
local macro_rules | `(tactic| walk_at "call builtin:len") => `(tactic| (k_here; (with_reducible show wpAny _ _ (call (Value.builtin "len") [Value.ref _]) _ _ _); k_dflt (refine' len_led ?k1 ?k2 ?k3 ?_; (case k1 => k_asm); (case k2 => k_mem); (case k3 => omega); k_whole)))
local macro_rules | `(tactic| walk_at "subscriptTail") => `(tactic| (k_here; (with_reducible show wpAny _ _ (subscriptTail _ _ (Value.ref _) (Value.int _ _)) _ _ _); (with_unfolding_all refine' item_by ?k1 ?k2 ?k3 ?k4 ?k5 ?k6 ?_ ?k7 ?k8; (case k1 => k_asm); (case k2 => k_mem); (case k3 => with_reducible assumption); (case k4 => omega); (case k5 => omega); (case k6 => omega); (case k7 => with_unfolding_all rfl); (case k8 => (intro _; with_unfolding_all rfl)); k_whole); intro t9))
local macro_rules | `(tactic| walk_at "getItem ref int") => `(tactic| (k_here; (with_reducible show wpAny _ _ (getItem (Value.ref _) (Value.int _ _)) _ _ _); (with_unfolding_all refine' getItem_by ?k1 ?k2 ?k3 ?k4 ?k5 ?k6 ?_; (case k1 => k_asm); (case k2 => k_mem); (case k3 => with_reducible assumption); (case k4 => omega); (case k5 => omega); (case k6 => omega); k_whole); intro t9))
local macro_rules | `(tactic| walk_at "setItem ref int") => `(tactic| (k_here; (with_reducible show wpAny _ _ (setItem (Value.ref _) (Value.int _ _) (Value.bytes _ _)) _ _ _); k_dflt (refine' set_by ?k1 ?k2 ?k3 ?k4 ?k5 ?k6 ?k7 ?_; (case k1 => k_asm); (case k2 => k_asm); (case k3 => k_upd); (case k4 => with_reducible assumption); (case k5 => omega); (case k6 => omega); (case k7 => omega); k_whole); intro h' F' N' hB'; (try k_sweep)))
local macro_rules | `(tactic| walk_at "call type:bytes") => `(tactic| (k_here; (with_reducible show wpAny _ _ (call (Value.type "bytes") [Value.bytes _ _]) _ _ _); refine call_bb ?_))
local macro_rules | `(tactic| walk_at "call builtin:len") => `(tactic| (k_here; (with_reducible show wpAny _ _ (call (Value.builtin "len") [Value.bytes _ _]) _ _ _); (refine len_bytes ?szb ?_; (case szb => first | omega | exact Nat.le_trans (sz_getD (by assumption) _) (by decide)))))
local macro_rules | `(tactic| walk_at "binaryOp Add bytes bytes") => `(tactic| (k_here; (with_reducible show wpAny _ _ (binaryOp Operator.Add (Value.bytes _ _) (Value.bytes _ _)) _ _ _); (refine KBy.add_bytes ?szb ?_; (case szb => ((try simp only [List.size_toArray, List.length_cons, List.length_nil]); omega)); intro _ _)))
section
variable {prog : Program} {w : World} {A : Around} {E : Value → Shared → Prop} {s : Shared} {h₀ : Heap} {L : Addr} {m : Str → Option Value} {env : Env}
theorem compEnd_mono {I C D : Addr} {s₁ : Shared} {oI oC oD : Obj} {S : List (Addr × Obj) → Prop} {r r' : Value → List (Addr × Obj) → Prop} {y : Value} {s₂ : Shared} (hr : ∀ y n, r y n → r' y n) (h : LCg.CompEnd h₀ L m s₁ I oI C oC D oD S r y s₂) :
    LCg.CompEnd h₀ L m s₁ I oI C oC D oD S r' y s₂ := by
  obtain ⟨h', tk, news', e, F, N, o, hS, g⟩ := h
  exact ⟨h', tk, news', e, F, N, o, hS, hr _ _ g⟩
theorem comp_inv {elt : PySem.Expr} {x : Str} {scope : Scope} {cl : List (Str × Addr)} {S : List (Addr × Obj) → Prop} {P : Nat → Value → Prop} {Fin : List Value → List (Addr × Obj) → Prop} {n : Nat} (Inv : Nat → List Value → List (Addr × Obj) → Prop)
    (fin : ∀ ys news, Inv n ys news → Fin ys news)
    (turn : ∀ i ys news v I oI C oC D m₂ h tk (E' : Value → Shared → Prop), i < n → Inv i ys news → P i v → LCg.NsObj oC m₂ → m₂ x = some v → Fr h₀ L h m → News h₀ L h ((I, oI) :: (C, oC) :: (D, LCg.lst ys) :: news) → LCg.Off3 I C D news → ((@Ne Nat I C) ∧ (@Ne Nat I D) ∧ (@Ne Nat C D)) →
      wpAny (model prog w) A (eval elt (compEnvC scope cl C env)) (LCg.CompEnd h₀ L m { s with heap := h, toks := tk } I oI C oC D (LCg.lst ys) S (fun y news' => Inv (i + 1) (ys ++ [y]) news')) E' { s with heap := h, toks := tk }) :
    ∀ k i ys news, i + k = n → Inv i ys news → LCg.CompRest prog w A h₀ L m env elt x scope cl s S P Fin k i ys news := by
  intro k
  induction k with
  | zero =>
    intro i ys news e hI
    obtain rfl : i = n := e
    exact LCg.CompRest.zero (fin _ _ hI)
  | succ k ih =>
    intro i ys news e hI
    refine LCg.CompRest.succ fun v I oI C oC D m₂ h tk E' hP hC hx F N o ne => ?_
    exact wpAny_mono (turn i ys news v I oI C oC D m₂ h tk E' (by omega) hI hP hC hx F N o ne) (fun y s₂ g => compEnd_mono (fun y n hn => ih (i + 1) _ _ (by omega) hn) g) fun _ _ e => e

def CompSrcB (prog : Program) (w : World) (A : Around) (h₀ : Heap) (L : Addr) (m : Str → Option Value) (env : Env) (elt : PySem.Expr) (x : Str) (scope : Scope) (cl : List (Str × Addr)) (Fin : Shared → List Value → List (Addr × Obj) → Prop) (xv : Value) (s₁ : Shared) : Prop :=
  ∃ b t news, xv = .bytes b t ∧ A.handled = none ∧ Fr h₀ L s₁.heap m ∧ News h₀ L s₁.heap news ∧ b.size ≤ sizeLine ∧
    ∀ s₂ : Shared, (∃ h, s₂ = { s₁ with heap := h }) → LCg.CompRest prog w A h₀ L m env elt x scope cl s₂ (fun _ => True) (fun i v => ∃ c u, b[i]? = some c ∧ v = .int (c.toNat : Int) u) (Fin s₂) b.size 0 [] news
theorem ListComp_B {elt iter : PySem.Expr} {x : Str} {px : Pos} {scope : Scope} {cl : List (Str × Addr)} {pos : Pos} {Q : Value → Shared → Prop} (F₀ : Fr h₀ L s.heap m)
    (hclos : closureFor scope env = pure cl) (hcell : ∀ y ∈ scope.names, y.2 ≠ .cell) (hkind : scope.kind = .function)
    (hnames : ∀ y ∈ scope.names, y.2 = .local → scope.names.lookup y.1 = some .local) (hx : scope.names.lookup x = some .local)
    (h : wpAny (model prog w) A (eval iter env) (CompSrcB prog w A h₀ L m env elt x scope cl (fun s₂ => LCg.FinE h₀ L m s₂ Q)) E s)
    (hs : ∀ x, foldedSetIterable iter env x = pure x := by intro _; rfl) :
    wpAny (model prog w) A (eval (.ListComp elt [⟨.Name x px, iter, [], 0⟩] scope pos) env) Q E s := by
  rw [eval_ListComp]
  refine wpAny_comprehension_free (use := none) rfl hs hclos hkind hnames (wpAny_mono h (fun xv s₁ h₁ => ?_) fun _ _ e => e)
  obtain ⟨b, t, news, rfl, hh, F, N, hsz, R⟩ := h₁
  refine KBw.pyIter_bytes ?_
  have up : ∀ c o, s₁.heap.get? c = some o → (s₁.heap.push { cls := .type "bytes_iterator", data := .fields #[.bytes b t, .int 0 0] }).get? c = some o := fun c o e => Heap.get?_push_of_some _ e
  refine LCg.block_U (KBw.walks hh s₁.heap.objs.size b t) hsz (fun i h st => by obtain ⟨o, e, _⟩ := st; exact ⟨o, e⟩) (fun i h h' o nw st e e' _ _ _ => ?_) hcell hkind hx ⟨_, Heap.get?_push_size _ rfl, rfl, rfl⟩ (fun c hb => ?_)
    (F.keeps up) (N.grown up) (Nat.ne_of_lt F.ns.lt) (next_is_new F) (fun p hp => Nat.ne_of_lt (Heap.lt_size (N p hp).1)) trivial (R _ ⟨_, rfl⟩) ?_
  · obtain ⟨o', q, r⟩ := st
    rw [e] at q; cases q
    exact ⟨o, e', r⟩
  · rw [List.mem_singleton.mp hb]
    show s₁.heap.objs.size < (s₁.heap.push _).objs.size
    rw [Heap.size_push]; exact Nat.lt_succ_self _
  · intro D C h tk m' ys news' F' N' o1 hn hC₀ hD₀ hCL hDL hCD offC fin
    refine ⟨m', hn, fun h'' hs'' => fin D h'' tk (F'.change hs'' hCL hC₀) (fun p hp => ?_) o1⟩
    refine ⟨hs''.extBut _ _ ?_ (N' p hp).1, (N' p hp).2⟩
    rcases List.mem_cons.mp hp with rfl | hp
    · exact Ne.symm hCD
    · exact offC p hp
end
theorem intsAre_snoc {vs : List Value} {ns : List Int} (h : IntsAre vs ns) (n : Int) (t : Tok) : IntsAre (vs ++ [.int n t]) (ns ++ [n]) := by
  induction h with
  | nil => exact .cons _ _ .nil
  | cons _ _ _ ih => exact .cons _ _ ih
theorem item_lit {prog : Program} {w : World} {A : Around} {E : Value → Shared → Prop} {s : Shared} {h₀ : Heap} {L : Addr} {news : List (Addr × Obj)} {a : Addr} {vs : List Value} {n : Nat} {k : Int} {u : Tok} {x : Value} {value slice : PySem.Expr} {Q : Value → Shared → Prop} (N : News h₀ L s.heap news) (hm : (a, listOf vs.toArray n) ∈ news) (h0 : 0 ≤ k) (h1 : k < 1000) (hx : vs[k.toNat]? = some x) (h : Q x s)
    (hs : subscripted slice false (.ref a) (.int k u) = operate [.ref a, .int k u] (getItem (.ref a) (.int k u))) (hg : ∀ r, letTemporaryGo value (.ref a) r = pure ()) :
    wpAny (model prog w) A (subscriptTail value slice (.ref a) (.int k u)) Q E s := kim_list N hm rfl rfl h0 (by omega) hx h hs hg
theorem pw_ne (n : Nat) : (720720 : Int) ^ n ≠ 0 := Int.pow_ne_zero (by decide)
theorem pw_log {n : Nat} (h : n ≤ 400) : ((720720 : Int) ^ n).natAbs.log2 < 9000 := by
  rw [Int.natAbs_pow]
  show (720720 ^ n : Nat).log2 < 9000
  have h0 : (720720 ^ n : Nat) ≠ 0 := Nat.pos_iff_ne_zero.mp (Nat.pow_pos (by decide))
  rw [Nat.log2_lt h0]
  calc (720720 ^ n : Nat) ≤ (2 ^ 20) ^ n := Nat.pow_le_pow_left (by decide) n
    _ = 2 ^ (20 * n) := by rw [← Nat.pow_mul]
    _ < 2 ^ 9000 := Nat.pow_lt_pow_right (by decide) (by omega)
theorem lst_listOf (ys : List Value) : LCg.lst ys = listOf ys.toArray ys.length := rfl
inductive Pick (p : Addr × Obj) : List (Addr × Obj) → List (Addr × Obj) → Prop where
  | head {r} : Pick p (p :: r) r
  | tail {q r r'} : Pick p r r' → Pick p (q :: r) (q :: r')
theorem Pick.mem {p q : Addr × Obj} {l l' : List (Addr × Obj)} (h : Pick p l l') : q ∈ p :: l' → q ∈ l := by
  induction h with
  | head => exact fun h => h
  | tail h ih =>
    intro hq
    rcases List.mem_cons.mp hq with rfl | hq
    · exact List.mem_cons_of_mem _ (ih (.head _))
    · rcases List.mem_cons.mp hq with rfl | hq
      · exact .head _
      · exact List.mem_cons_of_mem _ (ih (List.mem_cons_of_mem _ hq))
theorem Pick.news {p : Addr × Obj} {l l' : List (Addr × Obj)} {h₀ h : Heap} {L : Addr} (k : Pick p l l') (N : News h₀ L h l) : News h₀ L h (p :: l') := fun _ hq => N _ (k.mem hq)
theorem ownOff_cons {p : Addr × Obj} {l : List (Addr × Obj)} {adr : List Addr} (h : ∀ b ∈ adr, p.1 ≠ b) (t : OwnOff l adr) : OwnOff (p :: l) adr := by
  intro q hq b hb
  rcases List.mem_cons.mp hq with rfl | hq
  · exact h b hb
  · exact t q hq b hb
theorem ownOff_nil {adr : List Addr} : OwnOff [] adr := fun _ h => nomatch h
theorem ownOff_sub {l : List (Addr × Obj)} {adr adr' : List Addr} (t : OwnOff l adr) (h : ∀ b ∈ adr', b ∈ adr) : OwnOff l adr' := fun q hq b hb => t q hq b (h b hb)
theorem sub_tail {q : Addr × Obj} {t l : List (Addr × Obj)} (h : ∀ x ∈ t, x ∈ l) : ∀ x ∈ t, x ∈ q :: l := fun x hx => List.mem_cons_of_mem _ (h x hx)
theorem all_succ2 {d : Nat} {l : List (Addr × Obj)} (h : AllLt d l) : ∀ p ∈ l, (p.1 : Addr) ≠ d + 1 + 1 := fun p hp => Nat.ne_of_lt (Nat.lt_succ_of_lt (Nat.lt_succ_of_lt (lt_all h p hp)))
theorem all_succ1 {d : Nat} {l : List (Addr × Obj)} (h : AllLt d l) : ∀ p ∈ l, (p.1 : Addr) ≠ d + 1 := fun p hp => Nat.ne_of_lt (Nat.lt_succ_of_lt (lt_all h p hp))
theorem allLt_trans {d x : Nat} {l : List (Addr × Obj)} (h : d < x) (t : AllLt d l) : AllLt x l := by
  induction l with
  | nil => trivial
  | cons p r ih => exact ⟨Nat.lt_trans t.1 h, ih t.2⟩
theorem ownOff_adr {l : List (Addr × Obj)} : OwnOff l [] := fun _ _ _ h => nomatch h
theorem ownOff_lt {l : List (Addr × Obj)} {b : Addr} {adr : List Addr} (h : AllLt b l) (t : OwnOff l adr) : OwnOff l (b :: adr) := by
  intro q hq c hc
  rcases List.mem_cons.mp hc with rfl | hc
  · have h2 : @LT.lt Nat _ q.1 c := lt_all h q hq
    exact Nat.ne_of_lt h2
  · exact t q hq c hc
theorem ne_all {a : Nat} {b : Addr} {r : List Addr} (h : @Ne Nat a b) (t : ∀ c ∈ r, a ≠ c) : ∀ c ∈ (b :: r), (a : Addr) ≠ c := List.forall_mem_cons.mpr ⟨h, t⟩
def rfL (P : Params) (c : Addr) (mode : Str) (a : Int) (v : Bool) (l : Int) (t1 t2 t3 t4 t5 tm ta tl : Tok) : List DictEntry := [⟨PyData.keyHash P (Str.ofString "content"), .str (Str.ofString "content") t1, .ref c⟩,
    ⟨PyData.keyHash P (Str.ofString "mode"), .str (Str.ofString "mode") t2, .str mode tm⟩,
    ⟨PyData.keyHash P (Str.ofString "at"), .str (Str.ofString "at") t3, .int a ta⟩,
    ⟨PyData.keyHash P (Str.ofString "is_valid"), .str (Str.ofString "is_valid") t4, .bool v⟩,
    ⟨PyData.keyHash P (Str.ofString "last"), .str (Str.ofString "last") t5, .int l tl⟩]
section
variable {prog : Program} {w : World} {A : Around} {E : Value → Shared → Prop} {s : Shared} {K : Frag} {h₀ : Heap} {L x dx C c f : Addr} {m : Str → Option Value} {news : List (Addr × Obj)} {D : Obj} {mode name : Str} {i l : Int} {v : Bool}
theorem method_rf {pl : Sem Bool} {Q : Value × List Value → Shared → Prop} (F : Fr h₀ L s.heap m) (X : K.In h₀) (N : News h₀ L s.heap news) (h1 : (x, instObj C dx) ∈ news) (h2 : (dx, D) ∈ news) (hD : IsRF w.params D c mode i v l) (hg : plainGet K C name = true)
    (hf : findIn K (.ref C) name = some (some (.ref f))) (ht : isFn K (.ref f) = true) (hl : ∀ P c mode a v l t1 t2 t3 t4 t5 tm ta tl, getL name (rfL P c mode a v l t1 t2 t3 t4 t5 tm ta tl) = some none) (h : Q (.ref f, [.ref x]) s) : wpAny (model prog w) A (getMethod (.ref x) name pl) Q E s := by
  obtain ⟨t1, t2, t3, t4, t5, tm, ta, tl, rfl⟩ := hD
  exact method_inst F X (InstAt.of_news N h1 h2) hg hf ht (hl w.params c mode i v l t1 t2 t3 t4 t5 tm ta tl) h
end
local macro_rules | `(tactic| walk_at "getMethod ref") => `(tactic| (k_here; k_dflt (refine' method_rf ?k1 ?k2 ?k3 ?k4 ?k5 ?kD ?k6 ?k7 ?k8 ?k9 ?_; (case k1 => k_asm); (case k2 => k_asm); (case k3 => k_asm); (case k4 => k_mem); (case k5 => k_mem); (case kD => with_reducible assumption); (case k6 => k_is); (case k7 => k_is); (case k8 => k_is); (case k9 => (intros; rfl)); k_whole)))
def LedEnd {σ : Type} (h₀ : Heap) (L : Addr) (Foc : σ → List (Addr × Obj)) (ps : σ → List (Str × Value)) (stored : List Str) (x : Str) (m₀ : Str → Option Value) (adr : List Addr) (G : List (Addr × Obj) → σ → Prop) (P : σ → Prop) (rst' tl : List (Addr × Obj)) (s₁ s₂ : Shared) : Prop :=
  ∃ h' tk' m' c' add, s₂ = { s₁ with heap := h', toks := tk' } ∧ Fr h₀ L h' m' ∧ News h₀ L h' (Foc c' ++ (add ++ rst')) ∧ (∀ q ∈ add, ∀ p ∈ rst', p.1 ≠ q.1) ∧ OwnOff add adr ∧ (∀ p ∈ ps c', m' p.1 = some p.2) ∧ (∀ z, z ≠ x → (∀ p ∈ ps c', z ≠ p.1) → stored.contains z = false → m' z = m₀ z) ∧ G (add ++ tl) c' ∧ P c'
def LedPost {σ : Type} (h₀ : Heap) (L : Addr) (Foc : σ → List (Addr × Obj)) (ps : σ → List (Str × Value)) (stored : List Str) (x : Str) (m₀ : Str → Option Value) (adr : List Addr) (G : List (Addr × Obj) → σ → Prop) (P : σ → Prop) (rst' tl : List (Addr × Obj)) (s₁ : Shared) (Q : Flow → Shared → Prop) (f : Flow) (s₂ : Shared) : Prop :=
  match f with
  | .ret v => Q (.ret v) s₂
  | .brk => Q .next s₂
  | _ => LedEnd h₀ L Foc ps stored x m₀ adr G P rst' tl s₁ s₂
section
variable {prog : Program} {w : World} {A : Around} {E : Value → Shared → Prop} {s : Shared} {env : Env} {h₀ : Heap} {x : Str} {body : List Stmt} {Q : Flow → Shared → Prop}
theorem led_up {σ : Type} {rst rst' tl own : List (Addr × Obj)} {L : Addr} {m₀ : Str → Option Value} (Foc : σ → List (Addr × Obj)) (ps : σ → List (Str × Value)) (stored : List Str) (adr : List Addr) (G : List (Addr × Obj) → σ → Prop) (P : σ → Prop) {s₁ s₂ : Shared}
    (hadr : ∀ c, (Foc c).map (·.1) = adr) (e : rst' = (tl ++ rst) ++ own) (htl : OwnOff tl adr) (ho : OwnOff own adr) (hot : ∀ p ∈ own, ∀ q ∈ tl ++ rst, p.1 ≠ q.1) (h : LedEnd h₀ L Foc ps stored x m₀ adr G P rst' tl s₁ s₂) :
    InvEndG h₀ L (fun m nx => ∃ c tl, nx = Foc c ++ (tl ++ rst) ∧ OwnOff tl adr ∧ (∀ p ∈ ps c, m p.1 = some p.2) ∧ (∀ z, z ≠ x → (∀ p ∈ ps c, z ≠ p.1) → stored.contains z = false → m z = m₀ z) ∧ G tl c ∧ P c) own s₁ s₂ := by
  subst e
  obtain ⟨h', tk', m', c', add, e, F', N', ha, hb, h1, h2, hG, hP⟩ := h
  refine ⟨h', tk', m', _, Foc c' ++ ((add ++ tl) ++ rst), e, F', N', ?_, ?_, ?_, c', add ++ tl, rfl, ?_, h1, h2, hG, hP⟩
  · intro p hp
    simp only [List.mem_append] at hp ⊢
    rcases hp with hp | (hp | hp) | hp
    · exact .inl hp
    · exact .inr (.inl hp)
    · exact .inr (.inr (.inl (.inl hp)))
    · exact .inr (.inr (.inl (.inr hp)))
  · intro p hp
    simp only [List.mem_append]
    exact .inr (.inr (.inr hp))
  · intro p hp b hb'
    obtain ⟨q, hq, rfl⟩ := List.mem_map.mp hb'
    simp only [List.mem_append] at hq
    rcases hq with hq | (hq | hq) | hq
    · exact ho p hp _ (hadr c' ▸ List.mem_map.mpr ⟨q, hq, rfl⟩)
    · exact ha q hq p (by simp only [List.mem_append]; exact .inr hp)
    · exact hot p hp q (by simp only [List.mem_append]; exact .inl hq)
    · exact hot p hp q (by simp only [List.mem_append]; exact .inr hq)
  · intro p hp
    rcases List.mem_append.mp hp with hp | hp
    · exact hb p hp
    · exact htl p hp
theorem for_led {σ : Type} {l : Addr} {vs : List Value} {nn : Nat} {m₀ : Str → Option Value} {news rst : List (Addr × Obj)} (Foc : σ → List (Addr × Obj)) (ps : σ → List (Str × Value)) (stored : List Str) (adr : List Addr) (G : List (Addr × Obj) → σ → Prop) (P : Nat → σ → Prop) (c₀ : σ)
    (hh : A.handled = none) (F : Fr h₀ env.locals s.heap m₀) (N : News h₀ env.locals s.heap news) (hn : ∀ p ∈ Foc c₀ ++ rst, p ∈ news) (hl : (l, listOf vs.toArray nn) ∈ rst) (hadr : ∀ c, (Foc c).map (·.1) = adr) (hoff : OwnOff rst adr) (hps : ∀ p ∈ ps c₀, m₀ p.1 = some p.2) (hG : G [] c₀) (hP : P 0 c₀)
    (turn : ∀ i v c rst' tl h tk (u : Str → Option Value), vs[i]? = some v → OwnOff rst' adr → (∀ p ∈ rst, p ∈ rst') → (∀ p ∈ tl, p ∈ rst') → G tl c → P i c → Fr h₀ env.locals h (fun y => if y = x then some v else kstB (fun z => if stored.contains z then u z else m₀ z) (ps c) y) → News h₀ env.locals h (Foc c ++ rst') →
      wpAny (model prog w) A (execs body env) (LedPost h₀ env.locals Foc ps stored x m₀ adr G (P (i + 1)) rst' tl { s with heap := h, toks := tk } Q) E { s with heap := h, toks := tk })
    (done : ∀ c tl h tk (u : Str → Option Value), OwnOff tl adr → G tl c → P vs.length c → Fr h₀ env.locals h (fun y => if y = x then u y else kstB (fun z => if stored.contains z then u z else m₀ z) (ps c) y) → News h₀ env.locals h (Foc c ++ (tl ++ rst)) → Q .next { s with heap := h, toks := tk }) :
    wpAny (model prog w) A (pyIter (.ref l)) (fun it s₂ => LoopAtV prog w A h₀ env x body Q E it s₂) E s := by
  refine kdl_iter (l := l) (vs := vs) (nn := nn) (news := Foc c₀ ++ ([] ++ rst)) (fun i m nx => ∃ c tl, nx = Foc c ++ (tl ++ rst) ∧ OwnOff tl adr ∧ (∀ p ∈ ps c, m p.1 = some p.2) ∧ (∀ z, z ≠ x → (∀ p ∈ ps c, z ≠ p.1) → stored.contains z = false → m z = m₀ z) ∧ G tl c ∧ P i c) hh
    (List.mem_append.mpr (.inr hl)) F (fun p hp => N p (hn p hp)) ⟨c₀, [], rfl, ownOff_nil, hps, fun _ _ _ _ => rfl, hG, hP⟩ ?_ ?_
  · rintro i v m₁ nx h tk own hv ho _ ⟨c, tl, rfl, htl, h1, h2, hG', hP'⟩ F₁ N₁
    have hoa : OwnOff own adr := fun p hp b hb => ho p hp b (by
      rw [← hadr c] at hb
      obtain ⟨q, hq, rfl⟩ := List.mem_map.mp hb
      exact List.mem_map.mpr ⟨q, List.mem_append.mpr (.inl hq), rfl⟩)
    have hot : ∀ p ∈ own, ∀ q ∈ tl ++ rst, p.1 ≠ q.1 := fun p hp q hq => ho p hp q.1 (List.mem_map.mpr ⟨q, List.mem_append.mpr (.inr hq), rfl⟩)
    rw [List.append_assoc] at N₁
    refine wpAny_mono (turn i v c ((tl ++ rst) ++ own) tl h tk m₁ hv (fun p hp b hb => ?_) (fun p hp => ?_) (fun p hp => ?_) hG' hP' (kst_fr h1 h2 F₁) N₁) (fun f s₂ q => ?_) fun _ _ e => e
    · rcases List.mem_append.mp hp with hp | hp
      · rcases List.mem_append.mp hp with hp | hp
        · exact htl p hp b hb
        · exact hoff p hp b hb
      · exact hoa p hp b hb
    · exact List.mem_append.mpr (.inl (List.mem_append.mpr (.inr hp)))
    · exact List.mem_append.mpr (.inl (List.mem_append.mpr (.inl hp)))
    · have up : LedEnd h₀ env.locals Foc ps stored x m₀ adr G (P (i + 1)) ((tl ++ rst) ++ own) tl { s with heap := h, toks := tk } s₂ →
          InvEndG h₀ env.locals (fun m' nx => (l, listOf vs.toArray nn) ∈ nx ∧ ∃ c tl, nx = Foc c ++ (tl ++ rst) ∧ OwnOff tl adr ∧ (∀ p ∈ ps c, m' p.1 = some p.2) ∧ (∀ z, z ≠ x → (∀ p ∈ ps c, z ≠ p.1) → stored.contains z = false → m' z = m₀ z) ∧ G tl c ∧ P (i + 1) c) own { s with heap := h, toks := tk } s₂ := by
        intro q
        obtain ⟨h', tk', m', news', nx', e', F', N', hn', ho', ha, hS⟩ := led_up (x := x) (m₀ := m₀) Foc ps stored adr G (P (i + 1)) hadr rfl htl hoa hot q
        refine ⟨h', tk', m', news', nx', e', F', N', hn', ho', ha, ?_, hS⟩
        obtain ⟨c', tl', rfl, _⟩ := hS
        exact List.mem_append.mpr (.inr (List.mem_append.mpr (.inr hl)))
      cases f with
      | ret v => exact q
      | brk => exact q
      | next => exact up q
      | cont => exact up q
  · rintro m₁ nx h tk ⟨c, tl, rfl, htl, h1, h2, hG', hP'⟩ F₁ N₁
    exact done c tl h tk m₁ htl hG' hP' (kst_frOut h1 h2 F₁) N₁
theorem led_strict {σ : Type} {L : Addr} {m₀ : Str → Option Value} {Foc : σ → List (Addr × Obj)} {ps : σ → List (Str × Value)} {stored : List Str} {adr : List Addr} {G : List (Addr × Obj) → σ → Prop} {P : σ → Prop} {rst' tl : List (Addr × Obj)} {s₁ s₂ : Shared}
    (h : wpAny (model prog w) A (execs body env) (LedPost h₀ L Foc ps stored x m₀ adr G P rst' tl s₁ fun _ _ => False) (fun _ _ => False) s₂) : wpAny (model prog w) A (execs body env) (LedPost h₀ L Foc ps stored x m₀ adr G P rst' tl s₁ Q) E s₂ :=
  wpAny_mono h (fun f s₃ q => by cases f with
    | ret v => exact q.elim
    | brk => exact q.elim
    | next => exact q
    | cont => exact q) fun _ _ e => e.elim
end
theorem left_run {p q : Program} {loose : List Str} {Xt : Shared → Bool} {α : Type} {Yf : Shared → α} {Ya : World → α} {N : Nat} {H₀ : Params → Heap} {gs₀ : Array GenState} {d₀ : Drawn} {k₀ m₀ : Nat} {ann : Option Value}
    (opn : ∀ w : World, (fencedOpening treeTable p w N).map (fun s => (s.heap, s.gens, s.drawn, s.toks)) = some (H₀ w.params, gs₀, d₀, k₀))
    (size : ∀ w : World, ((H₀ w.params).isNs mainGlobals && gs₀.size == 0, (H₀ w.params).objs.size, (H₀ w.params).nsMap mainGlobals "__annotations__") = (true, m₀, ann))
    (run : ∀ (w : World) (os : OsState), (topRun treeTable p w m₀ ann N ⟨H₀ w.params, gs₀, d₀, k₀, os⟩ (topStub p)).map (fun s => (staticsOk (importedModules p.main.body) (H₀ w.params) s.heap && namesBound p s.heap && gensDone s && laidKept (H₀ w.params) s.heap, openSeen q loose (importedModules p.main.body) Xt true s, Yf s)) = some (true, openGood q loose, Ya w)) :
    LeftO p q loose Xt Yf Ya N := fun w => by
  obtain ⟨⟨h, gs, d, k, os⟩, e, e'⟩ := Option.map_eq_some_iff.mp (opn w)
  obtain ⟨rfl, rfl, rfl, rfl⟩ : h = H₀ w.params ∧ gs = gs₀ ∧ d = d₀ ∧ k = k₀ := by simpa using e'
  obtain ⟨z1, z2, z3⟩ : _ ∧ _ ∧ _ := by simpa only [Prod.mk.injEq] using size w
  obtain ⟨s, r, r'⟩ := Option.map_eq_some_iff.mp (run w os)
  obtain ⟨l1, l2, l3⟩ : _ ∧ _ ∧ _ := by simpa only [Prod.mk.injEq] using r'
  have t : topFrom treeTable p w N ⟨H₀ w.params, gs, d, k, os⟩ = some s := by
    unfold topFrom
    dsimp only
    rw [z1, z2, z3, r]
    dsimp only [Option.bind_some]
    rw [l1]
  unfold openEnds
  rw [e, Option.bind_some, t]
  exact congrArg some (Prod.ext l2 l3)
def vw : Program := view PySem.Challenge.rw_pb0233_01.row.prog [0, 2, 3, 4, 6, 7, 9, 10, 12, 13, 14, 15, 16, 17, 18]
local macro_rules | `(tactic| o_head $H) => `(tactic| (
  refine holds_open (q := vw) (loose := [Str.ofString "LedgerError"]) (Xt := fun s => xlAt vw [] s && recOk (RowW.records (OpenRow.toRowW PySem.Challenge.rw_pb0233_01.row)) s) (XP := XL vw []) (Yf := Hook.obs $H) (Ya := Hook.val $H) (YP := Hook.says $H) (N := 3558) ?hl (Hook.of $H) (Hook.keeps $H) (fun s e => xl_of s (Bool.and_eq_true_iff.mp e).1) XL.keeps (by rfl) (by rfl) (by rfl) (fun s e => recFacts_of (Bool.and_eq_true_iff.mp e).2) (by rfl) (by first | assumption | decide +kernel) (by decide +kernel) ⟨rfl, rfl, rfl, rfl, rfl, by decide +kernel⟩ ?hw ?hc;
  (case hl =>
    refine left_run (H₀ := boot_heap) (gs₀ := Array.mk []) (d₀ := boot_drawn) (k₀ := boot_toks) (m₀ := 11) (ann := some (Value.ref 6)) (boot_open (by kernel_rfl) (by decide) (fun s => by kernel_rfl)) (fun w => by kernel_rfl) (fun w os => ?_)
    rw [vw, Fast.te14082659384304107361, Fast.te14364793385576792824, Fast.te4187177175401517315, Fast.te5923862056798008813]
    kernel_rfl)))
open_top hd1 for PySem.Challenge.rw_pb0233_01
theorem off_C1 : True := by
  w_top off
  trivial
def rd (R : List Bs) (i : Int) (v : Bool) : Str × Bs × Int × Bool × Int :=
  if v = false then (Str.ofString "46", #[], i, false, -1) else
  if (R.length : Int) ≤ i then (Str.ofString "10", #[], i, false, -1) else (Str.ofString "00", R.getD i.toNat #[], i + 1, true, i)
def rwr (R : List Bs) (l : Int) (b : Bs) : Str × List Bs :=
  if l < 0 then (Str.ofString "43", R) else
  if b.size ≠ (R.getD l.toNat #[]).size then (Str.ofString "44", R) else (Str.ofString "00", R.set l.toNat b)
section
variable {w : World} {p : Program} {loose : List Str} {mean : ExcName → Option Value} {mg mb : Str → Option Value}
    {dp un : Nat} {gd : Option (List Code)} {cn : Str} {cs : Scope} {a : Addr} {ccd : Value} {cl : List (Str × Addr)} {outer : List Env} {A₀ : Around} {base h₀ : Heap} {L : Addr} {m : Str → Option Value} {rest : List (Addr × Obj)} {s : Shared}
    {Q E : Value → Shared → Prop}
theorem c_read {x dx c : Addr} {D : Obj} {vs : List Value} {R : List Bs} {n : Nat} {i l : Int} {v : Bool} {mode : Str}
    (B : Below A₀ base outer h₀) (F : Fr h₀ L s.heap m) (X : (Mine.hd1.heap_39 w.params).In h₀) (N : News h₀ L s.heap ((dx, D) :: (x, instObj 68 dx) :: (c, listOf vs.toArray n) :: rest))
    (T : Top p loose mean mg mb h₀) (hk : cs.kind = .function)
    (hd : dp + 20 < recursionLimit) (hu : un + 200 < cLine) (hD : IsRF w.params D c mode i v l) (hm : mode = Str.ofString "i-o" ∨ mode = Str.ofString "input")
    (hr : OwnOff rest [dx]) (hxd : @Ne Nat x dx) (hcd : @Ne Nat c dx) (h0 : 0 ≤ i) (hv : R.length ≤ 64) (hR : BAre vs R)
    (post : ∀ code by' i' v' l' D' r t t' h' tk', rd R i v = (code, by', i', v', l') → IsRF w.params D' c mode i' v' l' → Fr h₀ L h' m → News h₀ L h' ((r, tupO [.str code t, .bytes by' t']) :: (dx, D') :: (x, instObj 68 dx) :: (c, listOf vs.toArray n) :: rest) →
      (∀ p ∈ ((dx, D') :: (x, instObj 68 dx) :: (c, listOf vs.toArray n) :: rest), p.1 < r) → Q (.ref r) { s with heap := h', toks := tk' }) :
    wpAny (model PySem.Challenge.rw_pb0233_01.row.prog w) (ktrTop dp un gd cn cs L a ccd cl outer) (call (.ref 44) [.ref x]) Q E s := by
  obtain ⟨t1, t2, t3, t4, t5, tm, ta, tl, rfl⟩ := hD
  have hlen := hR.length
  refine wpAny_call ?_
  k_dflt ktr_enter
  k_steps
  · obtain rfl : v = true := by assumption
    refine post (Str.ofString "10") #[] i false (-1) _ _ _ _ _ _ ?_ ?_ (by k_asm) (by k_asm) ?_
    · simp only [rd]; rw [if_neg (by decide), if_pos (by omega)]
    · exact ⟨_, _, _, _, _, _, _, _, rfl⟩
    · exact lt_all (by simpa only [AllLt, and_true] using ‹_›)
  · obtain rfl : v = true := by assumption
    refine post (Str.ofString "00") (R.getD i.toNat #[]) (i + 1) true i _ _ _ _ _ _ ?_ ?_ (by k_asm) (by k_asm) ?_
    · simp only [rd]; rw [if_neg (by decide), if_neg (by omega)]
    · exact ⟨_, _, _, _, _, _, _, _, rfl⟩
    · exact lt_all (by simpa only [AllLt, and_true] using ‹_›)
  · obtain rfl : v = false := by assumption
    refine post (Str.ofString "46") #[] i false (-1) _ _ _ _ _ _ ?_ ?_ (by k_asm) (by k_asm) ?_
    · simp only [rd]; rw [if_pos trivial]
    · exact ⟨_, _, _, _, _, _, _, _, rfl⟩
    · exact lt_all (by simpa only [AllLt, and_true] using ‹_›)
theorem c_rew {x dx c : Addr} {D : Obj} {vs : List Value} {R : List Bs} {n : Nat} {i l : Int} {v : Bool} {b : Bs} {tb : Tok}
    (B : Below A₀ base outer h₀) (F : Fr h₀ L s.heap m) (X : (Mine.hd1.heap_39 w.params).In h₀) (N : News h₀ L s.heap ((dx, D) :: (x, instObj 68 dx) :: (c, listOf vs.toArray n) :: rest))
    (T : Top p loose mean mg mb h₀) (hk : cs.kind = .function)
    (hd : dp + 20 < recursionLimit) (hu : un + 200 < cLine) (hD : IsRF w.params D c (Str.ofString "i-o") i v l)
    (hr : OwnOff rest [dx, c]) (hxd : @Ne Nat x dx) (hcd : @Ne Nat c dx) (hxc : @Ne Nat x c) (h1 : l < (R.length : Int)) (hv : R.length ≤ 64) (hb : b.size ≤ 200) (hR : BAre vs R) (hRs : SzAll R)
    (post : ∀ code R' vs' D' t h' tk', rwr R l b = (code, R') → BAre vs' R' → IsRF w.params D' c (Str.ofString "i-o") i v (-1) → Fr h₀ L h' m → News h₀ L h' ((dx, D') :: (x, instObj 68 dx) :: (c, listOf vs'.toArray n) :: rest) → Q (.str code t) { s with heap := h', toks := tk' }) :
    wpAny (model PySem.Challenge.rw_pb0233_01.row.prog w) (ktrTop dp un gd cn cs L a ccd cl outer) (call (.ref 58) [.ref x, .bytes b tb]) Q E s := by
  obtain ⟨t1, t2, t3, t4, t5, tm, ta, tl, rfl⟩ := hD
  refine wpAny_call ?_
  k_dflt ktr_enter
  k_steps
  · refine post (Str.ofString "43") R vs _ _ _ _ ?_ hR ?_ (by k_asm) (by k_asm)
    · simp only [rwr]; rw [if_pos (by omega)]
    · exact ⟨_, _, _, _, _, _, _, _, rfl⟩
  · refine post (Str.ofString "44") R vs _ _ _ _ ?_ hR ?_ (by k_asm) (by k_asm)
    · simp only [rwr]; rw [if_neg (by omega), if_pos (by omega)]
    · exact ⟨_, _, _, _, _, _, _, _, rfl⟩
  · refine post (Str.ofString "00") (R.set l.toNat b) _ _ _ _ _ ?_ (by assumption) ?_ (by k_asm) (by k_asm)
    · simp only [rwr]; rw [if_neg (by omega), if_neg (by omega)]
    · exact ⟨_, _, _, _, _, _, _, _, rfl⟩
theorem c_rewI {x dx c : Addr} {D : Obj} {i l : Int} {v : Bool} {b : Bs} {tb : Tok}
    (B : Below A₀ base outer h₀) (F : Fr h₀ L s.heap m) (X : (Mine.hd1.heap_39 w.params).In h₀) (N : News h₀ L s.heap ((dx, D) :: (x, instObj 68 dx) :: rest))
    (T : Top p loose mean mg mb h₀) (hk : cs.kind = .function)
    (hd : dp + 20 < recursionLimit) (hu : un + 200 < cLine) (hD : IsRF w.params D c (Str.ofString "input") i v l)
    (hr : OwnOff rest [dx]) (hxd : @Ne Nat x dx)
    (post : ∀ D' t h' tk', IsRF w.params D' c (Str.ofString "input") i v (-1) → Fr h₀ L h' m → News h₀ L h' ((dx, D') :: (x, instObj 68 dx) :: rest) → Q (.str (Str.ofString "49") t) { s with heap := h', toks := tk' }) :
    wpAny (model PySem.Challenge.rw_pb0233_01.row.prog w) (ktrTop dp un gd cn cs L a ccd cl outer) (call (.ref 58) [.ref x, .bytes b tb]) Q E s := by
  obtain ⟨t1, t2, t3, t4, t5, tm, ta, tl, rfl⟩ := hD
  refine wpAny_call ?_
  k_dflt ktr_enter
  k_steps
  · refine post _ _ _ _ ?_ (by k_asm) (by k_asm)
    exact ⟨_, _, _, _, _, _, _, _, rfl⟩
end
theorem off_C2 : True := by
  w_top off
  trivial
local macro_rules | `(tactic| walk_at "eval ListComp") => `(tactic| (k_here; k_dflt (refine ListComp_B (F₀ := by k_asm) (by rfl) (by decide) (by rfl) (by decide) (by rfl) ?_)))
def turnB (b : Bs) : Bs := byteArr ((KBw.bInts b).map fun o => (o + 1) % 256)
section
variable {w : World} {p : Program} {loose : List Str} {mean : ExcName → Option Value} {mg mb : Str → Option Value}
    {dp un : Nat} {gd : Option (List Code)} {cn : Str} {cs : Scope} {a : Addr} {ccd : Value} {cl : List (Str × Addr)} {outer : List Env} {A₀ : Around} {base h₀ : Heap} {L : Addr} {m : Str → Option Value} {rest : List (Addr × Obj)} {s : Shared}
    {Q E : Value → Shared → Prop}
theorem c_turn {b : Bs} {tb : Tok}
    (B : Below A₀ base outer h₀) (F : Fr h₀ L s.heap m) (X : (Mine.hd1.heap_39 w.params).In h₀) (N : News h₀ L s.heap rest)
    (T : Top p loose mean mg mb h₀) (hk : cs.kind = .function)
    (hd : dp + 20 < recursionLimit) (hu : un + 200 < cLine) (hb : b.size ≤ 100)
    (post : ∀ t h' tk', Fr h₀ L h' m → News h₀ L h' rest → Q (.bytes (turnB b) t) { s with heap := h', toks := tk' }) :
    wpAny (model PySem.Challenge.rw_pb0233_01.row.prog w) (ktrTop dp un gd cn cs L a ccd cl outer) (call (.ref 228) [.bytes b tb]) Q E s := by
  refine wpAny_call ?_
  k_dflt ktr_enter
  k_steps
  · refine ⟨b, tb, rest, rfl, rfl, by k_asm, by k_asm, by rw [sizeLine_eq]; omega, ?_⟩
    rintro s₂ ⟨g', rfl⟩
    refine comp_inv (n := b.size) (fun i ys news => news = rest ∧ IntsAre ys (((KBw.bInts b).take i).map fun o => (o + 1) % 256)) ?fin ?turn _ _ _ _ (Nat.zero_add _) ⟨rfl, by simpa using IntsAre.nil⟩
    case turn =>
      rintro i ys news v I oI C oC D m₂ h tk E' hi ⟨rfl, hI⟩ ⟨c, u, hc, rfl⟩ hC hx F' N' off ne
      k_steps
      refine LCg.CompEnd.intro (by assumption) (by assumption) news (fun _ h => h) off True.intro ⟨rfl, ?_⟩
      rw [List.take_add_one, KBw.ints_get hc, List.map_append]
      exact intsAre_snoc hI _ _
    case fin =>
      rintro ys news ⟨rfl, hI⟩
      rw [List.take_of_length_le (by rw [KBw.ints_length]; exact Nat.le_refl _)] at hI
      k_steps
      rename News _ _ _ _ => N9
      refine KBa.make_K (by k_asm) (N := N9) rfl (News.isList N9 (.head _)) hI ?_ ?_ ?_
      · intro k hk
        obtain ⟨o, _, rfl⟩ := List.mem_map.mp hk
        omega
      · rw [List.length_map, KBw.ints_length]; omega
      · intro h' t' k' F9 N9' _
        clear N9
        k_steps
        exact post _ _ _ (by k_asm) (news_sub (by assumption) fun q hq => List.mem_cons_of_mem _ hq)
theorem turnB_size (b : Bs) : (turnB b).size = b.size := by
  rw [turnB, byteArr_size, List.length_map, KBw.ints_length]
end
theorem off_C3 : True := by
  w_top off
  trivial
section
variable {w : World} {p : Program} {loose : List Str} {mean : ExcName → Option Value} {mg mb : Str → Option Value}
    {dp un : Nat} {gd : Option (List Code)} {cn : Str} {cs : Scope} {a : Addr} {ccd : Value} {cl : List (Str × Addr)} {outer : List Env} {A₀ : Around} {base h₀ : Heap} {L : Addr} {m : Str → Option Value} {news n1 n2 rest : List (Addr × Obj)} {s : Shared}
    {Q E : Value → Shared → Prop}
theorem p_read {x dx c : Addr} {D : Obj} {vs : List Value} {R : List Bs} {n : Nat} {i l : Int} {v : Bool} {mode : Str}
    (B : Below A₀ base outer h₀) (F : Fr h₀ L s.heap m) (X : (Mine.hd1.heap_39 w.params).In h₀) (N : News h₀ L s.heap news) (T : Top p loose mean mg mb h₀) (hk : cs.kind = .function)
    (hd : dp + 20 < recursionLimit) (hu : un + 200 < cLine) (p1 : Pick (x, instObj 68 dx) news n1) (p2 : Pick (dx, D) n1 n2) (hD : IsRF w.params D c mode i v l) (p3 : Pick (c, listOf vs.toArray n) n2 rest) (hR : BAre vs R) (hm : mode = Str.ofString "i-o" ∨ mode = Str.ofString "input")
    (hr : OwnOff rest [dx]) (hxd : @Ne Nat x dx) (hcd : @Ne Nat c dx) (h0 : 0 ≤ i) (hv : R.length ≤ 64)
    (post : ∀ code by' i' v' l' D' r t t' h' tk', rd R i v = (code, by', i', v', l') → IsRF w.params D' c mode i' v' l' → Fr h₀ L h' m → News h₀ L h' ((r, tupO [.str code t, .bytes by' t']) :: (dx, D') :: (x, instObj 68 dx) :: (c, listOf vs.toArray n) :: rest) →
      (∀ p ∈ ((dx, D') :: (x, instObj 68 dx) :: (c, listOf vs.toArray n) :: rest), p.1 < r) → Q (.ref r) { s with heap := h', toks := tk' }) :
    wpAny (model PySem.Challenge.rw_pb0233_01.row.prog w) (ktrTop dp un gd cn cs L a ccd cl outer) (call (.ref 44) [.ref x]) Q E s := by
  have N1 := p1.news N
  have N2 : News h₀ L s.heap ((x, instObj 68 dx) :: (dx, D) :: n2) := fun q hq => by
    rcases List.mem_cons.mp hq with rfl | hq
    · exact N1 _ (.head _)
    · exact N1 _ (List.mem_cons_of_mem _ (p2.mem hq))
  have N3 : News h₀ L s.heap ((dx, D) :: (x, instObj 68 dx) :: (c, listOf vs.toArray n) :: rest) := fun q hq => by
    rcases List.mem_cons.mp hq with rfl | hq
    · exact N2 _ (.tail _ (.head _))
    · rcases List.mem_cons.mp hq with rfl | hq
      · exact N2 _ (.head _)
      · exact N2 _ (.tail _ (.tail _ (p3.mem hq)))
  exact c_read B F X N3 T hk hd hu hD hm hr hxd hcd h0 hv hR post
theorem p_rew {x dx c : Addr} {D : Obj} {vs : List Value} {R : List Bs} {n : Nat} {i l : Int} {v : Bool} {b : Bs} {tb : Tok}
    (B : Below A₀ base outer h₀) (F : Fr h₀ L s.heap m) (X : (Mine.hd1.heap_39 w.params).In h₀) (N : News h₀ L s.heap news) (T : Top p loose mean mg mb h₀) (hk : cs.kind = .function)
    (hd : dp + 20 < recursionLimit) (hu : un + 200 < cLine) (p1 : Pick (x, instObj 68 dx) news n1) (p2 : Pick (dx, D) n1 n2) (hD : IsRF w.params D c (Str.ofString "i-o") i v l) (p3 : Pick (c, listOf vs.toArray n) n2 rest) (hR : BAre vs R)
    (hr : OwnOff rest [dx, c]) (hxd : @Ne Nat x dx) (hcd : @Ne Nat c dx) (hxc : @Ne Nat x c) (h1 : l < (R.length : Int)) (hv : R.length ≤ 64) (hb : b.size ≤ 200) (hRs : SzAll R)
    (post : ∀ code R' vs' D' t h' tk', rwr R l b = (code, R') → BAre vs' R' → IsRF w.params D' c (Str.ofString "i-o") i v (-1) → Fr h₀ L h' m → News h₀ L h' ((dx, D') :: (x, instObj 68 dx) :: (c, listOf vs'.toArray n) :: rest) → Q (.str code t) { s with heap := h', toks := tk' }) :
    wpAny (model PySem.Challenge.rw_pb0233_01.row.prog w) (ktrTop dp un gd cn cs L a ccd cl outer) (call (.ref 58) [.ref x, .bytes b tb]) Q E s := by
  have N1 := p1.news N
  have N2 : News h₀ L s.heap ((x, instObj 68 dx) :: (dx, D) :: n2) := fun q hq => by
    rcases List.mem_cons.mp hq with rfl | hq
    · exact N1 _ (.head _)
    · exact N1 _ (List.mem_cons_of_mem _ (p2.mem hq))
  have N3 : News h₀ L s.heap ((dx, D) :: (x, instObj 68 dx) :: (c, listOf vs.toArray n) :: rest) := fun q hq => by
    rcases List.mem_cons.mp hq with rfl | hq
    · exact N2 _ (.tail _ (.head _))
    · rcases List.mem_cons.mp hq with rfl | hq
      · exact N2 _ (.head _)
      · exact N2 _ (.tail _ (.tail _ (p3.mem hq)))
  exact c_rew B F X N3 T hk hd hu hD hr hxd hcd hxc h1 hv hb hR hRs post
theorem p_rewI {x dx c : Addr} {D : Obj} {i l : Int} {v : Bool} {b : Bs} {tb : Tok}
    (B : Below A₀ base outer h₀) (F : Fr h₀ L s.heap m) (X : (Mine.hd1.heap_39 w.params).In h₀) (N : News h₀ L s.heap news) (T : Top p loose mean mg mb h₀) (hk : cs.kind = .function)
    (hd : dp + 20 < recursionLimit) (hu : un + 200 < cLine) (p1 : Pick (x, instObj 68 dx) news n1) (p2 : Pick (dx, D) n1 rest) (hD : IsRF w.params D c (Str.ofString "input") i v l)
    (hr : OwnOff rest [dx]) (hxd : @Ne Nat x dx)
    (post : ∀ D' t h' tk', IsRF w.params D' c (Str.ofString "input") i v (-1) → Fr h₀ L h' m → News h₀ L h' ((dx, D') :: (x, instObj 68 dx) :: rest) → Q (.str (Str.ofString "49") t) { s with heap := h', toks := tk' }) :
    wpAny (model PySem.Challenge.rw_pb0233_01.row.prog w) (ktrTop dp un gd cn cs L a ccd cl outer) (call (.ref 58) [.ref x, .bytes b tb]) Q E s := by
  have N1 := p1.news N
  have N2 : News h₀ L s.heap ((dx, D) :: (x, instObj 68 dx) :: rest) := fun q hq => by
    rcases List.mem_cons.mp hq with rfl | hq
    · exact N1 _ (.tail _ (p2.mem (.head _)))
    · rcases List.mem_cons.mp hq with rfl | hq
      · exact N1 _ (.head _)
      · exact N1 _ (.tail _ (p2.mem (.tail _ hq)))
  exact c_rewI B F X N2 T hk hd hu hD hr hxd post
end
local macro_rules | `(tactic| ktr_rel) => `(tactic| (repeat' (first | exact ownOff_nil | exact ownOff_adr | exact ownOff_sub (by assumption) (by lcg_sub) | refine ownOff_lt (by assumption) ?_ | refine ownOff_lt (allLt_trans (by assumption) (by assumption)) ?_ | refine ownOff_cons ?_ ?_ | exact List.forall_mem_nil _ | (refine ne_all ?_ ?_) | k_ne | exact (fun _ h => h) | (refine List.forall_mem_cons.mpr ⟨?_, ?_⟩) | k_mem | (refine sub_tail ?_))))
local macro_rules | `(tactic| ktr_unf) => `(tactic| first | exact Pick.head | (apply Pick.tail; ktr_unf))
local macro_rules | `(tactic| walk_at "call ref") => `(tactic| (k_here; k_dflt (show wpAny _ _ (call (Value.ref 44) [Value.ref _]) _ _ _); k_dflt (refine' p_read ?k1 ?k2 ?k3 ?k4 ?k5 ?k6 ?k7 ?k8 ?p1 ?p2 ?kD ?p3 ?kR ?km ?kr ?ka ?kb ?k0 ?kv ?_; (case k1 => k_asm); (case k2 => k_asm); (case k3 => k_asm); (case k4 => k_asm); (case k5 => k_asm); (case k6 => first | exact rfl | assumption); (case k7 => ktr_room); (case k8 => ktr_units); (case p1 => ktr_unf); (case p2 => ktr_unf); (case kD => assumption); (case p3 => ktr_unf); (case kR => assumption); (case km => first | exact Or.inl rfl | exact Or.inr rfl | assumption); (case kr => ktr_rel); (case ka => k_ne); (case kb => k_ne); (case k0 => omega); (case kv => omega); k_whole); intro cd9 by9 i9 v9 l9 D9 r9 t9 u9 h' tk' e9 hD9 F' N' l1; (try k_lt l1); (try dsimp only); (try k_fold)))
local macro_rules | `(tactic| walk_at "call ref") => `(tactic| (k_here; k_dflt (show wpAny _ _ (call (Value.ref 58) [Value.ref _, Value.bytes _ _]) _ _ _); k_dflt (refine' p_rew ?k1 ?k2 ?k3 ?k4 ?k5 ?k6 ?k7 ?k8 ?p1 ?p2 ?kD ?p3 ?kR ?kr ?ka ?kb ?kc ?k0 ?kv ?kw ?kx ?_; (case k1 => k_asm); (case k2 => k_asm); (case k3 => k_asm); (case k4 => k_asm); (case k5 => k_asm); (case k6 => first | exact rfl | assumption); (case k7 => ktr_room); (case k8 => ktr_units); (case p1 => ktr_unf); (case p2 => ktr_unf); (case kD => assumption); (case p3 => ktr_unf); (case kR => assumption); (case kr => ktr_rel); (case ka => k_ne); (case kb => k_ne); (case kc => k_ne); (case k0 => omega); (case kv => omega); (case kw => ((try simp only [turnB_size, Array.size_append, List.size_toArray, List.length_cons, List.length_nil]); omega)); (case kx => assumption); k_whole); intro cd9 R9 vs9 D9 t9 h' tk' e9 hR9 hD9 F' N'; (try dsimp only); (try k_fold)))
local macro_rules | `(tactic| walk_at "call ref") => `(tactic| (k_here; k_dflt (show wpAny _ _ (call (Value.ref 58) [Value.ref _, Value.bytes _ _]) _ _ _); k_dflt (refine' p_rewI ?k1 ?k2 ?k3 ?k4 ?k5 ?k6 ?k7 ?k8 ?p1 ?p2 ?kD ?kr ?ka ?_; (case k1 => k_asm); (case k2 => k_asm); (case k3 => k_asm); (case k4 => k_asm); (case k5 => k_asm); (case k6 => first | exact rfl | assumption); (case k7 => ktr_room); (case k8 => ktr_units); (case p1 => ktr_unf); (case p2 => ktr_unf); (case kD => assumption); (case kr => ktr_rel); (case ka => k_ne); k_whole); intro D9 t9 h' tk' hD9 F' N'; (try dsimp only); (try k_fold)))
local macro_rules | `(tactic| walk_at "call ref") => `(tactic| (k_here; k_dflt (show wpAny _ _ (call (Value.ref 228) [Value.bytes _ _]) _ _ _); k_dflt (refine' c_turn ?k1 ?k2 ?k3 ?k4 ?k5 ?k6 ?k7 ?k8 ?kb ?_; (case k1 => k_asm); (case k2 => k_asm); (case k3 => k_asm); (case k4 => k_asm); (case k5 => k_asm); (case k6 => first | exact rfl | assumption); (case k7 => ktr_room); (case k8 => ktr_units); (case kb => first | omega | exact sz_getD (by assumption) _); k_whole); intro t9 h' tk' F' N'; (try dsimp only); (try k_fold)))
theorem rwr_len {R R' : List Bs} {l : Int} {b : Bs} {c : Str} (h : rwr R l b = (c, R')) : R'.length = R.length := by
  unfold rwr at h
  split at h
  · cases h; rfl
  · split at h
    · cases h; rfl
    · cases h; simp
def stepH (W : Str) (R : List Bs) (i1 : Int) (v1 : Bool) (l1 : Int) (i2 : Int) (v2 : Bool) (l2 : Int) (row : Bs) : Dat × List Bs × (Int × Bool × Int) × (Int × Bool × Int) :=
  if W = Str.ofString "read" then let o := rd R i1 v1; (.tuple [.str o.1, .bytes o.2.1], R, o.2.2, (i2, v2, l2))
  else if W = Str.ofString "other" then let o := rd R i2 v2; (.tuple [.str o.1, .bytes o.2.1], R, (i1, v1, l1), o.2.2)
  else let o := rwr R l1 (if W = Str.ofString "put" then turnB row else row ++ #[43]); (.str o.1, o.2, (i1, v1, -1), (i2, v2, l2))
section
variable {R : List Bs} {i1 l1 i2 l2 : Int} {v1 v2 : Bool} {row : Bs}
theorem stepH_read : stepH (Str.ofString "read") R i1 v1 l1 i2 v2 l2 row = (.tuple [.str (rd R i1 v1).1, .bytes (rd R i1 v1).2.1], R, (rd R i1 v1).2.2, (i2, v2, l2)) := if_pos rfl
theorem stepH_other : stepH (Str.ofString "other") R i1 v1 l1 i2 v2 l2 row = (.tuple [.str (rd R i2 v2).1, .bytes (rd R i2 v2).2.1], R, (i1, v1, l1), (rd R i2 v2).2.2) := (if_neg (by decide)).trans (if_pos rfl)
theorem stepH_put : stepH (Str.ofString "put") R i1 v1 l1 i2 v2 l2 row = (.str (rwr R l1 (turnB row)).1, (rwr R l1 (turnB row)).2, (i1, v1, -1), (i2, v2, l2)) := (if_neg (by decide)).trans ((if_neg (by decide)).trans (by rw [if_pos rfl]))
theorem stepH_long : stepH (Str.ofString "long") R i1 v1 l1 i2 v2 l2 row = (.str (rwr R l1 (row ++ #[43])).1, (rwr R l1 (row ++ #[43])).2, (i1, v1, -1), (i2, v2, l2)) := (if_neg (by decide)).trans ((if_neg (by decide)).trans (by rw [if_neg (by decide)]))
end
section
variable {w : World} {p : Program} {loose : List Str} {mean : ExcName → Option Value} {mg mb : Str → Option Value}
    {dp un : Nat} {gd : Option (List Code)} {cn : Str} {cs : Scope} {a : Addr} {ccd : Value} {cl : List (Str × Addr)} {outer : List Env} {A₀ : Around} {base h₀ : Heap} {L : Addr} {m : Str → Option Value} {rest : List (Addr × Obj)} {s : Shared}
    {Q E : Value → Shared → Prop}
set_option maxHeartbeats 8000000 in
theorem c_step {x1 d1 x2 d2 c : Addr} {D1 D2 : Obj} {vs : List Value} {R : List Bs} {n : Nat} {i1 l1 i2 l2 : Int} {v1 v2 : Bool} {W : Str} {row : Bs} {tw tr : Tok}
    (B : Below A₀ base outer h₀) (F : Fr h₀ L s.heap m) (X : (Mine.hd1.heap_39 w.params).In h₀) (N : News h₀ L s.heap ((d1, D1) :: (x1, instObj 68 d1) :: (d2, D2) :: (x2, instObj 68 d2) :: (c, listOf vs.toArray n) :: rest)) (T : Top p loose mean mg mb h₀) (hk : cs.kind = .function)
    (hd : dp + 40 < recursionLimit) (hu : un + 400 < cLine)
    (hD1 : IsRF w.params D1 c (Str.ofString "i-o") i1 v1 l1) (hD2 : IsRF w.params D2 c (Str.ofString "input") i2 v2 l2) (hR : BAre vs R)
    (hr : OwnOff rest [d1, x1, d2, x2, c]) (hne : @Ne Nat d1 x1 ∧ @Ne Nat d1 d2 ∧ @Ne Nat d1 x2 ∧ @Ne Nat d1 c ∧ @Ne Nat x1 d2 ∧ @Ne Nat x1 x2 ∧ @Ne Nat x1 c ∧ @Ne Nat d2 x2 ∧ @Ne Nat d2 c ∧ @Ne Nat x2 c)
    (h1 : 0 ≤ i1) (h2 : 0 ≤ i2) (h3 : l1 < (R.length : Int)) (hv : R.length ≤ 64) (hRs : SzAll R) (hrow : row.size ≤ 100)
    (hW : W = Str.ofString "read" ∨ W = Str.ofString "other" ∨ W = Str.ofString "put" ∨ W = Str.ofString "long")
    (postT : ∀ code by' i1' v1' l1' i2' v2' l2' D1' D2' r t t' h' tk', stepH W R i1 v1 l1 i2 v2 l2 row = (.tuple [.str code, .bytes by'], R, (i1', v1', l1'), (i2', v2', l2')) →
      IsRF w.params D1' c (Str.ofString "i-o") i1' v1' l1' → IsRF w.params D2' c (Str.ofString "input") i2' v2' l2' → Fr h₀ L h' m →
      News h₀ L h' ((r, tupO [.str code t, .bytes by' t']) :: (d1, D1') :: (x1, instObj 68 d1) :: (d2, D2') :: (x2, instObj 68 d2) :: (c, listOf vs.toArray n) :: rest) →
      (∀ p ∈ ((d1, D1') :: (x1, instObj 68 d1) :: (d2, D2') :: (x2, instObj 68 d2) :: (c, listOf vs.toArray n) :: rest), p.1 < r) → Q (.ref r) { s with heap := h', toks := tk' })
    (postS : ∀ code R' vs' D1' t h' tk', stepH W R i1 v1 l1 i2 v2 l2 row = (.str code, R', (i1, v1, -1), (i2, v2, l2)) → BAre vs' R' → R'.length = R.length →
      IsRF w.params D1' c (Str.ofString "i-o") i1 v1 (-1) → Fr h₀ L h' m →
      News h₀ L h' ((d1, D1') :: (x1, instObj 68 d1) :: (d2, D2) :: (x2, instObj 68 d2) :: (c, listOf vs'.toArray n) :: rest) → Q (.str code t) { s with heap := h', toks := tk' }) :
    wpAny (model PySem.Challenge.rw_pb0233_01.row.prog w) (ktrTop dp un gd cn cs L a ccd cl outer) (call (.ref 235) [.ref x1, .ref x2, .str W tw, .bytes row tr]) Q E s := by
  rcases hW with rfl | rfl | rfl | rfl
  all_goals
    refine wpAny_call ?_
    k_dflt ktr_enter
    k_steps
  · rename rd _ _ _ = _ => e0
    rename News _ _ _ _ => N0
    rename IsRF _ _ _ _ _ _ _ => hD0
    rename (_ < _ ∧ _) => hl0
    refine' postT _ _ _ _ _ _ _ _ _ _ _ _ _ _ _ ?e hD0 hD2 (by k_asm) ?n ?l
    case n => (refine news_sub N0 (List.forall_mem_cons.mpr ⟨?_, ?_⟩); (first | exact List.Mem.head _ | k_mem); ktr_rel)
    case l => exact lt_all (by simp only [AllLt, and_true]; simp only [hl0, and_self])
    case e => rw [stepH_read, e0]
  · rename rd _ _ _ = _ => e0
    rename News _ _ _ _ => N0
    rename IsRF _ _ _ _ _ _ _ => hD0
    rename (_ < _ ∧ _) => hl0
    refine' postT _ _ _ _ _ _ _ _ _ _ _ _ _ _ _ ?e hD1 hD0 (by k_asm) ?n ?l
    case n => (refine news_sub N0 (List.forall_mem_cons.mpr ⟨?_, ?_⟩); (first | exact List.Mem.head _ | k_mem); ktr_rel)
    case l => exact lt_all (by simp only [AllLt, and_true]; simp only [hl0, and_self])
    case e => rw [stepH_other, e0]
  · rename rwr _ _ _ = _ => e0
    rename News _ _ _ _ => N0
    rename IsRF _ _ _ _ _ _ _ => hD0
    rename BAre _ _ => hR0
    refine' postS _ _ _ _ _ _ _ ?e hR0 (rwr_len e0) hD0 (by k_asm) ?n
    case n => (refine news_sub N0 (List.forall_mem_cons.mpr ⟨?_, ?_⟩); (first | exact List.Mem.head _ | k_mem); ktr_rel)
    case e => rw [stepH_put, e0]
  · rename rwr _ _ _ = _ => e0
    rename News _ _ _ _ => N0
    rename IsRF _ _ _ _ _ _ _ => hD0
    rename BAre _ _ => hR0
    refine' postS _ _ _ _ _ _ _ ?e hR0 (rwr_len e0) hD0 (by k_asm) ?n
    case n => (refine news_sub N0 (List.forall_mem_cons.mpr ⟨?_, ?_⟩); (first | exact List.Mem.head _ | k_mem); ktr_rel)
    case e => rw [stepH_long, e0]
end
theorem off_C4 : True := by
  w_top off
  trivial
def dueS (W : Str) (R : List Bs) (n0 : Int) (bb : Bool) (n2 n3 : Int) : Dat × List Bs × Int × Bool × Int × Int :=
  if W = Str.ofString "other" then
    if n3 + 1 ≤ (R.length : Int) then (.tuple [.str (Str.ofString "00"), .bytes (R.getD (n3 + 1 - 1).toNat #[])], R, n0, bb, n2, n3 + 1)
    else (.tuple [.str (if n3 + 1 = (R.length : Int) + 1 then Str.ofString "10" else Str.ofString "46"), .bytes #[]], R, n0, bb, n2, n3 + 1)
  else if W = Str.ofString "read" then
    if n0 < (R.length : Int) then (.tuple [.str (Str.ofString "00"), .bytes (R.getD (n0 + 1 - 1).toNat #[])], R, n0 + 1, true, n2, n3)
    else (.tuple [.str (if n2 + 1 = 1 then Str.ofString "10" else Str.ofString "46"), .bytes #[]], R, n0, false, n2 + 1, n3)
  else if bb = false then (.str (Str.ofString "43"), R, n0, false, n2, n3)
  else if W = Str.ofString "long" then (.str (Str.ofString "44"), R, n0, false, n2, n3)
  else (.str (Str.ofString "00"), R.set (n0 - 1).toNat (turnB (R.getD (n0 - 1).toNat #[])), n0, false, n2, n3)
section
variable {R : List Bs} {n0 n2 n3 : Int} {bb : Bool}
theorem dueS_o1 (h : n3 + 1 ≤ (R.length : Int)) : dueS (Str.ofString "other") R n0 bb n2 n3 = (.tuple [.str (Str.ofString "00"), .bytes (R.getD (n3 + 1 - 1).toNat #[])], R, n0, bb, n2, n3 + 1) := (if_pos rfl).trans (if_pos h)
theorem dueS_o2 (h : ¬ n3 + 1 ≤ (R.length : Int)) (h' : n3 + 1 = (R.length : Int) + 1) : dueS (Str.ofString "other") R n0 bb n2 n3 = (.tuple [.str (Str.ofString "10"), .bytes #[]], R, n0, bb, n2, n3 + 1) := (if_pos rfl).trans ((if_neg h).trans (by rw [if_pos h']))
theorem dueS_o3 (h : ¬ n3 + 1 ≤ (R.length : Int)) (h' : n3 + 1 ≠ (R.length : Int) + 1) : dueS (Str.ofString "other") R n0 bb n2 n3 = (.tuple [.str (Str.ofString "46"), .bytes #[]], R, n0, bb, n2, n3 + 1) := (if_pos rfl).trans ((if_neg h).trans (by rw [if_neg h']))
theorem dueS_r1 (h : n0 < (R.length : Int)) : dueS (Str.ofString "read") R n0 bb n2 n3 = (.tuple [.str (Str.ofString "00"), .bytes (R.getD (n0 + 1 - 1).toNat #[])], R, n0 + 1, true, n2, n3) := (if_neg (by decide)).trans ((if_pos rfl).trans (if_pos h))
theorem dueS_r2 (h : ¬ n0 < (R.length : Int)) (h' : n2 + 1 = 1) : dueS (Str.ofString "read") R n0 bb n2 n3 = (.tuple [.str (Str.ofString "10"), .bytes #[]], R, n0, false, n2 + 1, n3) := (if_neg (by decide)).trans ((if_pos rfl).trans ((if_neg h).trans (by rw [if_pos h'])))
theorem dueS_r3 (h : ¬ n0 < (R.length : Int)) (h' : n2 + 1 ≠ 1) : dueS (Str.ofString "read") R n0 bb n2 n3 = (.tuple [.str (Str.ofString "46"), .bytes #[]], R, n0, false, n2 + 1, n3) := (if_neg (by decide)).trans ((if_pos rfl).trans ((if_neg h).trans (by rw [if_neg h'])))
theorem dueS_p1 : dueS (Str.ofString "put") R n0 false n2 n3 = (.str (Str.ofString "43"), R, n0, false, n2, n3) := (if_neg (by decide)).trans ((if_neg (by decide)).trans (if_pos rfl))
theorem dueS_p2 : dueS (Str.ofString "put") R n0 true n2 n3 = (.str (Str.ofString "00"), R.set (n0 - 1).toNat (turnB (R.getD (n0 - 1).toNat #[])), n0, false, n2, n3) := (if_neg (by decide)).trans ((if_neg (by decide)).trans ((if_neg (by decide)).trans (if_neg (by decide))))
theorem dueS_l1 : dueS (Str.ofString "long") R n0 false n2 n3 = (.str (Str.ofString "43"), R, n0, false, n2, n3) := (if_neg (by decide)).trans ((if_neg (by decide)).trans (if_pos rfl))
theorem dueS_l2 : dueS (Str.ofString "long") R n0 true n2 n3 = (.str (Str.ofString "44"), R, n0, false, n2, n3) := (if_neg (by decide)).trans ((if_neg (by decide)).trans ((if_neg (by decide)).trans (if_pos rfl)))
end
section
variable {w : World} {p : Program} {loose : List Str} {mean : ExcName → Option Value} {mg mb : Str → Option Value}
    {dp un : Nat} {gd : Option (List Code)} {cn : Str} {cs : Scope} {a : Addr} {ccd : Value} {cl : List (Str × Addr)} {outer : List Env} {A₀ : Around} {base h₀ : Heap} {L : Addr} {m : Str → Option Value} {rest : List (Addr × Obj)} {s : Shared}
    {Q E : Value → Shared → Prop}
theorem c_due {st rw : Addr} {vs : List Value} {R : List Bs} {n k : Nat} {n0 n2 n3 : Int} {bb : Bool} {t0 t2 t3 : Tok} {W : Str} {tw : Tok}
    (B : Below A₀ base outer h₀) (F : Fr h₀ L s.heap m) (X : (Mine.hd1.heap_39 w.params).In h₀) (N : News h₀ L s.heap ((st, listOf [.int n0 t0, .bool bb, .int n2 t2, .int n3 t3].toArray k) :: (rw, listOf vs.toArray n) :: rest)) (T : Top p loose mean mg mb h₀) (hk : cs.kind = .function)
    (hd : dp + 40 < recursionLimit) (hu : un + 400 < cLine)
    (hR : BAre vs R) (hr : OwnOff rest [st, rw]) (hne : @Ne Nat st rw)
    (h0 : 0 ≤ n0) (h1 : n0 ≤ (R.length : Int)) (h2 : 0 ≤ n2) (h3 : 0 ≤ n3) (h4 : n2 ≤ 1000) (h5 : n3 ≤ 1000) (h6 : bb = true → 1 ≤ n0) (hv : R.length ≤ 64) (hRs : SzAll R)
    (hW : W = Str.ofString "read" ∨ W = Str.ofString "other" ∨ W = Str.ofString "put" ∨ W = Str.ofString "long")
    (postT : ∀ code by' n0' b' n2' n3' t0' t2' t3' r t t' h' tk', dueS W R n0 bb n2 n3 = (.tuple [.str code, .bytes by'], R, n0', b', n2', n3') → Fr h₀ L h' m →
      News h₀ L h' ((r, tupO [.str code t, .bytes by' t']) :: (st, listOf [.int n0' t0', .bool b', .int n2' t2', .int n3' t3'].toArray k) :: (rw, listOf vs.toArray n) :: rest) →
      (∀ p ∈ ((st, listOf [.int n0' t0', .bool b', .int n2' t2', .int n3' t3'].toArray k) :: (rw, listOf vs.toArray n) :: rest), p.1 < r) → Q (.ref r) { s with heap := h', toks := tk' })
    (postS : ∀ code R' vs' t0' t2' t3' t h' tk', dueS W R n0 bb n2 n3 = (.str code, R', n0, false, n2, n3) → BAre vs' R' → R'.length = R.length → SzAll R' → Fr h₀ L h' m →
      News h₀ L h' ((st, listOf [.int n0 t0', .bool false, .int n2 t2', .int n3 t3'].toArray k) :: (rw, listOf vs'.toArray n) :: rest) → Q (.str code t) { s with heap := h', toks := tk' }) :
    wpAny (model PySem.Challenge.rw_pb0233_01.row.prog w) (ktrTop dp un gd cn cs L a ccd cl outer) (call (.ref 242) [.ref st, .ref rw, .str W tw]) Q E s := by
  have hlen := hR.length
  rcases hW with rfl | rfl | rfl | rfl
  · refine wpAny_call ?_
    k_dflt ktr_enter
    k_steps
    · rename News _ _ _ _ => N0
      rename (_ < _ ∧ _) => hl0
      rename (_ < _) => hc
      rw [decide_eq_true hc] at N0
      refine' postT _ _ _ _ _ _ _ _ _ _ _ _ _ _ (dueS_r1 (by omega)) (by k_asm) (news_sub N0 ?nn9) ?ll9
      case nn9 => ktr_rel
      case ll9 => exact lt_all (by simp only [AllLt]; simp only [hl0, and_self])
    · rename News _ _ _ _ => N0
      rename (_ < _ ∧ _) => hl0
      rename (_ = _) => hc'
      rename (¬ _) => hc
      rw [decide_eq_false hc] at N0
      refine' postT _ _ _ _ _ _ _ _ _ _ _ _ _ _ (dueS_r2 (by omega) hc') (by k_asm) (news_sub N0 ?nn9) ?ll9
      case nn9 => ktr_rel
      case ll9 => exact lt_all (by simp only [AllLt]; simp only [hl0, and_self])
    · rename News _ _ _ _ => N0
      rename (_ < _ ∧ _) => hl0
      rename (_ ≠ _) => hc'
      rename (¬ _ < _) => hc
      rw [decide_eq_false hc] at N0
      refine' postT _ _ _ _ _ _ _ _ _ _ _ _ _ _ (dueS_r3 (by omega) hc') (by k_asm) (news_sub N0 ?nn9) ?ll9
      case nn9 => ktr_rel
      case ll9 => exact lt_all (by simp only [AllLt]; simp only [hl0, and_self])
  · refine wpAny_call ?_
    k_dflt ktr_enter
    k_steps
    · rename News _ _ _ _ => N0
      rename (_ < _ ∧ _) => hl0
      refine' postT _ _ _ _ _ _ _ _ _ _ _ _ _ _ (dueS_o1 (by omega)) (by k_asm) (news_sub N0 ?nn9) ?ll9
      case nn9 => ktr_rel
      case ll9 => exact lt_all (by simp only [AllLt]; simp only [hl0, and_self])
    · rename News _ _ _ _ => N0
      rename (_ < _ ∧ _) => hl0
      refine' postT _ _ _ _ _ _ _ _ _ _ _ _ _ _ (dueS_o2 (by omega) (by omega)) (by k_asm) (news_sub N0 ?nn9) ?ll9
      case nn9 => ktr_rel
      case ll9 => exact lt_all (by simp only [AllLt]; simp only [hl0, and_self])
    · rename News _ _ _ _ => N0
      rename (_ < _ ∧ _) => hl0
      refine' postT _ _ _ _ _ _ _ _ _ _ _ _ _ _ (dueS_o3 (by omega) (by omega)) (by k_asm) (news_sub N0 ?nn9) ?ll9
      case nn9 => ktr_rel
      case ll9 => exact lt_all (by simp only [AllLt]; simp only [hl0, and_self])
  · cases bb
    · refine wpAny_call ?_
      k_dflt ktr_enter
      k_steps
      rename News _ _ _ _ => N0
      refine' postS _ _ _ _ _ _ _ _ _ dueS_p1 hR rfl hRs (by k_asm) (news_sub N0 ?nn9)
      case nn9 => ktr_rel
    · have h6' := h6 rfl
      refine wpAny_call ?_
      k_dflt ktr_enter
      k_steps
      rename News _ _ _ _ => N0
      refine' postS _ _ _ _ _ _ _ _ _ dueS_p2 (by assumption) (List.length_set ..) (hRs.set (by rw [turnB_size]; exact sz_getD hRs _) _) (by k_asm) (news_sub N0 ?nn9)
      case nn9 => ktr_rel
  · cases bb
    · refine wpAny_call ?_
      k_dflt ktr_enter
      k_steps
      rename News _ _ _ _ => N0
      refine' postS _ _ _ _ _ _ _ _ _ dueS_l1 hR rfl hRs (by k_asm) (news_sub N0 ?nn9)
      case nn9 => ktr_rel
    · refine wpAny_call ?_
      k_dflt ktr_enter
      k_steps
      rename News _ _ _ _ => N0
      refine' postS _ _ _ _ _ _ _ _ _ dueS_l2 hR rfl hRs (by k_asm) (news_sub N0 ?nn9)
      case nn9 => ktr_rel
end
theorem off_C5 : True := by
  w_top off
  trivial
def LayPost (h₀ : Heap) (L : Addr) (x : Str) (m₀ : Str → Option Value) (c : Addr) (its : Array Value) (rst' : List (Addr × Obj)) (s : Shared) (f : Flow) (s₂ : Shared) : Prop :=
  ∃ h' tk' m' k', f = .next ∧ s₂ = { s with heap := h', toks := tk' } ∧ Fr h₀ L h' m' ∧ (∀ z, z ≠ x → m' z = m₀ z) ∧ News h₀ L h' ((c, listOf its k') :: rst')
section
variable {prog : Program} {w : World} {A : Around} {E : Value → Shared → Prop} {s : Shared} {env : Env} {h₀ : Heap} {x : Str} {body : List Stmt} {Q : Flow → Shared → Prop} {m₀ : Str → Option Value} {news rst : List (Addr × Obj)}
theorem lay_loop {c bl : Addr} {bvs : List Value} {B0 : List Bs} {nb kc : Nat} (hh : A.handled = none) (F : Fr h₀ env.locals s.heap m₀) (N : News h₀ env.locals s.heap news) (p : Pick (c, listOf #[] kc) news rst) (hl : (bl, listOf bvs.toArray nb) ∈ rst) (hoff : OwnOff rst [c]) (hB : BAre bvs B0)
    (turn : ∀ b t (cvs : List Value) k rst' h tk, b ∈ B0 → OwnOff rst' [c] → cvs.length < B0.length → Fr h₀ env.locals h (fun y => if y = x then some (.bytes b t) else m₀ y) → News h₀ env.locals h ((c, listOf cvs.toArray k) :: rst') →
      wpAny (model prog w) A (execs body env) (LayPost h₀ env.locals x m₀ c (cvs.toArray.push (.bytes b t)) rst' s) E { s with heap := h, toks := tk })
    (done : ∀ (cvs : List Value) k h tk (u : Str → Option Value), BAre cvs B0 → Fr h₀ env.locals h (fun y => if y = x then u y else m₀ y) → News h₀ env.locals h ((c, listOf cvs.toArray k) :: rst) → Q .next { s with heap := h, toks := tk }) :
    wpAny (model prog w) A (pyIter (.ref bl)) (fun it s₂ => LoopAtV prog w A h₀ env x body Q E it s₂) E s := by
  refine for_led (σ := List Value × Nat) (vs := bvs) (nn := nb) (rst := rst) (fun c' => [(c, listOf c'.1.toArray c'.2)]) (fun _ => []) [] [c] (fun tl _ => tl = []) (fun i c' => BAre c'.1 (B0.take i)) ([], kc) hh F (p.news N) (fun _ h => h) hl (fun _ => rfl) hoff (fun _ h => nomatch h) rfl .nil ?_ ?_
  · rintro i v ⟨cvs, k⟩ rst' tl h tk u hv ho _ _ rfl hc F' N'
    obtain ⟨b, t, hb, rfl⟩ := hB.get hv
    have hlt : i < B0.length := (List.getElem?_eq_some_iff.mp hb).1
    have hcl := hc.length
    rw [List.length_take] at hcl
    refine wpAny_mono (turn b t cvs k rst' h tk (List.mem_of_getElem? hb) ho (by simp only at hcl; omega) F' N') (fun f s₂ q => ?_) fun _ _ e => e
    obtain ⟨h', tk', m', k', rfl, rfl, F2, hm, N2⟩ := q
    refine ⟨h', tk', m', (cvs ++ [.bytes b t], k'), [], rfl, F2, ?_, (fun _ h => nomatch h), ownOff_nil, (fun _ h => nomatch h), fun z hz _ _ => hm z hz, rfl, ?_⟩
    · rw [List.push_toArray] at N2; exact N2
    · show BAre _ _
      rw [List.take_add_one, hb]
      exact hc.append (.one b t)
  · rintro ⟨cvs, k⟩ tl h tk u ho rfl hc F' N'
    have e : B0.take bvs.length = B0 := List.take_of_length_le (by rw [hB.length]; exact Nat.le_refl _)
    rw [e] at hc
    exact done cvs k h tk u hc F' N'
end
def InvS (R : List Bs) (n0 : Int) (bb : Bool) (n2 n3 : Int) : Prop :=
  0 ≤ n0 ∧ n0 ≤ (R.length : Int) ∧ 0 ≤ n2 ∧ 0 ≤ n3 ∧ (bb = true → 1 ≤ n0) ∧ (n2 ≠ 0 → n0 = (R.length : Int))
def CorrS (R : List Bs) (n0 : Int) (bb : Bool) (n2 n3 : Int) (i1 : Int) (v1 : Bool) (l1 : Int) (i2 : Int) (v2 : Bool) : Prop :=
  i1 = n0 ∧ v1 = decide (n2 = 0) ∧ l1 = (if bb = true then n0 - 1 else -1) ∧ i2 = (if n3 ≤ (R.length : Int) then n3 else (R.length : Int)) ∧ v2 = decide (n3 ≤ (R.length : Int))
def rowS (R : List Bs) (n0 : Int) : Bs := if 0 < n0 then R.getD (n0 - 1).toNat #[] else #[]
theorem agree {W : Str} {R R1 R2 : List Bs} {n0 n2 n3 m0 m2 m3 i1 l1 i2 l2 j1 k1 j2 k2 : Int} {bb cc v1 v2 u1 u2 : Bool} {d1 d2 : Dat}
    (hW : W = Str.ofString "read" ∨ W = Str.ofString "other" ∨ W = Str.ofString "put" ∨ W = Str.ofString "long") (hI : InvS R n0 bb n2 n3) (hC : CorrS R n0 bb n2 n3 i1 v1 l1 i2 v2)
    (hH : stepH W R i1 v1 l1 i2 v2 l2 (rowS R n0) = (d1, R1, (j1, u1, k1), (j2, u2, k2))) (hD : dueS W R n0 bb n2 n3 = (d2, R2, m0, cc, m2, m3)) :
    d1 = d2 ∧ R1 = R2 ∧ InvS R2 m0 cc m2 m3 ∧ CorrS R2 m0 cc m2 m3 j1 u1 k1 j2 u2 ∧ R2.length = R.length ∧ m2 ≤ n2 + 1 ∧ m3 ≤ n3 + 1 := by
  obtain ⟨h1, h2, h3, h4, h5, h6⟩ := hI
  obtain ⟨rfl, rfl, rfl, rfl, rfl⟩ := hC
  rcases hW with rfl | rfl | rfl | rfl
  · rw [stepH_read] at hH
    by_cases hlt : i1 < (R.length : Int)
    · have hn2 : n2 = 0 := by
        by_cases h : n2 = 0
        · exact h
        · exact absurd (h6 h) (by omega)
      rw [dueS_r1 hlt] at hD
      have e : rd R i1 (decide (n2 = 0)) = (Str.ofString "00", R.getD i1.toNat #[], i1 + 1, true, i1) := by
        rw [rd, if_neg (by simp [hn2]), if_neg (by omega)]
      rw [e] at hH
      simp only [Prod.mk.injEq] at hH hD
      obtain ⟨rfl, rfl, ⟨rfl, rfl, rfl⟩, rfl, rfl, rfl⟩ := hH
      obtain ⟨rfl, rfl, rfl, rfl, rfl, rfl⟩ := hD
      refine ⟨by rw [show i1 + 1 - 1 = i1 by omega], rfl, ⟨by omega, by omega, h3, h4, fun _ => by omega, fun h => absurd hn2 h⟩, ⟨rfl, by simp [hn2], by rw [if_pos rfl]; omega, rfl, rfl⟩, rfl, by omega, by omega⟩
    · by_cases hn : n2 = 0
      · rw [dueS_r2 hlt (by omega)] at hD
        have e : rd R i1 (decide (n2 = 0)) = (Str.ofString "10", #[], i1, false, -1) := by
          rw [rd, if_neg (by simp [hn]), if_pos (by omega)]
        rw [e] at hH
        simp only [Prod.mk.injEq] at hH hD
        obtain ⟨rfl, rfl, ⟨rfl, rfl, rfl⟩, rfl, rfl, rfl⟩ := hH
        obtain ⟨rfl, rfl, rfl, rfl, rfl, rfl⟩ := hD
        refine ⟨rfl, rfl, ⟨by omega, by omega, by omega, h4, (fun h => nomatch h), fun _ => by omega⟩, ⟨rfl, (decide_eq_false (by omega)).symm, by rw [if_neg (by decide)], rfl, rfl⟩, rfl, by omega, by omega⟩
      · rw [dueS_r3 hlt (by omega)] at hD
        have e : rd R i1 (decide (n2 = 0)) = (Str.ofString "46", #[], i1, false, -1) := by
          rw [rd, if_pos (decide_eq_false hn)]
        rw [e] at hH
        simp only [Prod.mk.injEq] at hH hD
        obtain ⟨rfl, rfl, ⟨rfl, rfl, rfl⟩, rfl, rfl, rfl⟩ := hH
        obtain ⟨rfl, rfl, rfl, rfl, rfl, rfl⟩ := hD
        refine ⟨rfl, rfl, ⟨by omega, by omega, by omega, h4, (fun h => nomatch h), fun _ => by omega⟩, ⟨rfl, (decide_eq_false (by omega)).symm, by rw [if_neg (by decide)], rfl, rfl⟩, rfl, by omega, by omega⟩
  · rw [stepH_other] at hH
    by_cases hlt : n3 + 1 ≤ (R.length : Int)
    · rw [dueS_o1 hlt] at hD
      have e : rd R (if n3 ≤ (R.length : Int) then n3 else (R.length : Int)) (decide (n3 ≤ (R.length : Int))) = (Str.ofString "00", R.getD n3.toNat #[], n3 + 1, true, n3) := by
        rw [if_pos (by omega), rd, if_neg (by rw [decide_eq_true (by omega)]; decide), if_neg (by omega)]
      rw [e] at hH
      simp only [Prod.mk.injEq] at hH hD
      obtain ⟨rfl, rfl, ⟨rfl, rfl, rfl⟩, rfl, rfl, rfl⟩ := hH
      obtain ⟨rfl, rfl, rfl, rfl, rfl, rfl⟩ := hD
      refine ⟨by rw [show n3 + 1 - 1 = n3 by omega], rfl, ⟨by omega, by omega, h3, by omega, h5, h6⟩, ⟨rfl, rfl, rfl, by rw [if_pos (by omega)], (decide_eq_true (by omega)).symm⟩, rfl, by omega, by omega⟩
    · by_cases hn : n3 + 1 = (R.length : Int) + 1
      · rw [dueS_o2 hlt hn] at hD
        have e : rd R (if n3 ≤ (R.length : Int) then n3 else (R.length : Int)) (decide (n3 ≤ (R.length : Int))) = (Str.ofString "10", #[], n3, false, -1) := by
          rw [if_pos (by omega), rd, if_neg (by rw [decide_eq_true (by omega)]; decide), if_pos (by omega)]
        rw [e] at hH
        simp only [Prod.mk.injEq] at hH hD
        obtain ⟨rfl, rfl, ⟨rfl, rfl, rfl⟩, rfl, rfl, rfl⟩ := hH
        obtain ⟨rfl, rfl, rfl, rfl, rfl, rfl⟩ := hD
        refine ⟨rfl, rfl, ⟨by omega, by omega, h3, by omega, h5, h6⟩, ⟨rfl, rfl, rfl, by rw [if_neg (by omega)]; omega, (decide_eq_false (by omega)).symm⟩, rfl, by omega, by omega⟩
      · rw [dueS_o3 hlt hn] at hD
        have e : rd R (if n3 ≤ (R.length : Int) then n3 else (R.length : Int)) (decide (n3 ≤ (R.length : Int))) = (Str.ofString "46", #[], (R.length : Int), false, -1) := by
          rw [if_neg (by omega), rd, if_pos (decide_eq_false (by omega))]
        rw [e] at hH
        simp only [Prod.mk.injEq] at hH hD
        obtain ⟨rfl, rfl, ⟨rfl, rfl, rfl⟩, rfl, rfl, rfl⟩ := hH
        obtain ⟨rfl, rfl, rfl, rfl, rfl, rfl⟩ := hD
        refine ⟨rfl, rfl, ⟨by omega, by omega, h3, by omega, h5, h6⟩, ⟨rfl, rfl, rfl, by rw [if_neg (by omega)], (decide_eq_false (by omega)).symm⟩, rfl, by omega, by omega⟩
  · rw [stepH_put] at hH
    cases bb
    · rw [dueS_p1] at hD
      have e : rwr R (if false = true then i1 - 1 else -1) (turnB (rowS R i1)) = (Str.ofString "43", R) := by rw [if_neg (by decide), rwr, if_pos (by decide)]
      rw [e] at hH
      simp only [Prod.mk.injEq] at hH hD
      obtain ⟨rfl, rfl, ⟨rfl, rfl, rfl⟩, rfl, rfl, rfl⟩ := hH
      obtain ⟨rfl, rfl, rfl, rfl, rfl, rfl⟩ := hD
      exact ⟨rfl, rfl, ⟨h1, h2, h3, h4, h5, h6⟩, ⟨rfl, rfl, by rw [if_neg (by decide)], rfl, rfl⟩, rfl, by omega, by omega⟩
    · have h5' := h5 rfl
      rw [dueS_p2] at hD
      have er : rowS R i1 = R.getD (i1 - 1).toNat #[] := by rw [rowS, if_pos (by omega)]
      have e : rwr R (if true = true then i1 - 1 else -1) (turnB (rowS R i1)) = (Str.ofString "00", R.set (i1 - 1).toNat (turnB (rowS R i1))) := by
        rw [if_pos rfl, rwr, if_neg (by omega), if_neg (by rw [turnB_size, er]; exact fun h => h rfl)]
      rw [e, er] at hH
      simp only [Prod.mk.injEq] at hH hD
      obtain ⟨rfl, rfl, ⟨rfl, rfl, rfl⟩, rfl, rfl, rfl⟩ := hH
      obtain ⟨rfl, rfl, rfl, rfl, rfl, rfl⟩ := hD
      exact ⟨rfl, rfl, ⟨h1, by rw [List.length_set]; exact h2, h3, h4, (fun h => nomatch h), by rw [List.length_set]; exact h6⟩, ⟨rfl, rfl, by rw [if_neg (by decide)], by rw [List.length_set], by rw [List.length_set]⟩, List.length_set .., by omega, by omega⟩
  · rw [stepH_long] at hH
    cases bb
    · rw [dueS_l1] at hD
      have e : rwr R (if false = true then i1 - 1 else -1) (rowS R i1 ++ #[43]) = (Str.ofString "43", R) := by rw [if_neg (by decide), rwr, if_pos (by decide)]
      rw [e] at hH
      simp only [Prod.mk.injEq] at hH hD
      obtain ⟨rfl, rfl, ⟨rfl, rfl, rfl⟩, rfl, rfl, rfl⟩ := hH
      obtain ⟨rfl, rfl, rfl, rfl, rfl, rfl⟩ := hD
      exact ⟨rfl, rfl, ⟨h1, h2, h3, h4, h5, h6⟩, ⟨rfl, rfl, by rw [if_neg (by decide)], rfl, rfl⟩, rfl, by omega, by omega⟩
    · have h5' := h5 rfl
      rw [dueS_l2] at hD
      have er : rowS R i1 = R.getD (i1 - 1).toNat #[] := by rw [rowS, if_pos (by omega)]
      have e : rwr R (if true = true then i1 - 1 else -1) (rowS R i1 ++ #[43]) = (Str.ofString "44", R) := by
        rw [if_pos rfl, rwr, if_neg (by omega), if_pos (by rw [er, Array.size_append]; simp)]
      rw [e] at hH
      simp only [Prod.mk.injEq] at hH hD
      obtain ⟨rfl, rfl, ⟨rfl, rfl, rfl⟩, rfl, rfl, rfl⟩ := hH
      obtain ⟨rfl, rfl, rfl, rfl, rfl, rfl⟩ := hD
      exact ⟨rfl, rfl, ⟨h1, h2, h3, h4, (fun h => nomatch h), h6⟩, ⟨rfl, rfl, by rw [if_neg (by decide)], rfl, rfl⟩, rfl, by omega, by omega⟩
abbrev PlayT := List Dat × List Bs × Int × Bool × Int × Int
def playStep (a : PlayT) (W : Str) : PlayT := ((a.1 ++ [(dueS W a.2.1 a.2.2.1 a.2.2.2.1 a.2.2.2.2.1 a.2.2.2.2.2).1]) ++ [.str (Str.ofString "49")], (dueS W a.2.1 a.2.2.1 a.2.2.2.1 a.2.2.2.2.1 a.2.2.2.2.2).2)
def play (B0 : List Bs) (Ws : List Str) : PlayT := Ws.foldl playStep ([.str (Str.ofString "00")], B0, 0, false, 0, 0)
theorem play_snoc (B0 : List Bs) (Ws : List Str) (W : Str) : play B0 (Ws ++ [W]) = playStep (play B0 Ws) W := by rw [play, List.foldl_append]; rfl
theorem play_len (B0 : List Bs) (Ws : List Str) : (play B0 Ws).1.length = 2 * Ws.length + 1 := by
  have : ∀ (Ws : List Str) (a : PlayT), (Ws.foldl playStep a).1.length = a.1.length + 2 * Ws.length := by
    intro Ws
    induction Ws with
    | nil => intro a; rfl
    | cons W r ih => intro a; rw [List.foldl_cons, ih]; simp [playStep]; omega
  rw [play, this]
  show 1 + _ = _
  omega
theorem off_C6 : True := by
  w_top off
  trivial
section
variable {w : World} {p : Program} {loose : List Str} {mean : ExcName → Option Value} {mg mb : Str → Option Value}
    {dp un : Nat} {gd : Option (List Code)} {cn : Str} {cs : Scope} {a : Addr} {ccd : Value} {cl : List (Str × Addr)} {outer : List Env} {A₀ : Around} {base h₀ : Heap} {L : Addr} {m : Str → Option Value} {news n1 n2 n3 n4 rest : List (Addr × Obj)} {s : Shared}
    {Q E : Value → Shared → Prop}
theorem p_step {x1 d1 x2 d2 c : Addr} {D1 D2 : Obj} {vs : List Value} {R : List Bs} {n : Nat} {i1 l1 i2 l2 : Int} {v1 v2 : Bool} {W : Str} {row : Bs} {tw tr : Tok}
    (B : Below A₀ base outer h₀) (F : Fr h₀ L s.heap m) (X : (Mine.hd1.heap_39 w.params).In h₀) (N : News h₀ L s.heap news) (T : Top p loose mean mg mb h₀) (hk : cs.kind = .function)
    (hd : dp + 40 < recursionLimit) (hu : un + 400 < cLine)
    (p1 : Pick (x1, instObj 68 d1) news n1) (p2 : Pick (d1, D1) n1 n2) (p3 : Pick (x2, instObj 68 d2) n2 n3) (p4 : Pick (d2, D2) n3 n4) (hD1 : IsRF w.params D1 c (Str.ofString "i-o") i1 v1 l1) (hD2 : IsRF w.params D2 c (Str.ofString "input") i2 v2 l2) (p5 : Pick (c, listOf vs.toArray n) n4 rest) (hR : BAre vs R)
    (hr : OwnOff rest [d1, x1, d2, x2, c]) (hne : @Ne Nat d1 x1 ∧ @Ne Nat d1 d2 ∧ @Ne Nat d1 x2 ∧ @Ne Nat d1 c ∧ @Ne Nat x1 d2 ∧ @Ne Nat x1 x2 ∧ @Ne Nat x1 c ∧ @Ne Nat d2 x2 ∧ @Ne Nat d2 c ∧ @Ne Nat x2 c)
    (h1 : 0 ≤ i1) (h2 : 0 ≤ i2) (h3 : l1 < (R.length : Int)) (hv : R.length ≤ 64) (hRs : SzAll R) (hrow : row.size ≤ 100)
    (hW : W = Str.ofString "read" ∨ W = Str.ofString "other" ∨ W = Str.ofString "put" ∨ W = Str.ofString "long")
    (postT : ∀ code by' i1' v1' l1' i2' v2' l2' D1' D2' r t t' h' tk', stepH W R i1 v1 l1 i2 v2 l2 row = (.tuple [.str code, .bytes by'], R, (i1', v1', l1'), (i2', v2', l2')) →
      IsRF w.params D1' c (Str.ofString "i-o") i1' v1' l1' → IsRF w.params D2' c (Str.ofString "input") i2' v2' l2' → Fr h₀ L h' m →
      News h₀ L h' ((r, tupO [.str code t, .bytes by' t']) :: (d1, D1') :: (x1, instObj 68 d1) :: (d2, D2') :: (x2, instObj 68 d2) :: (c, listOf vs.toArray n) :: rest) →
      (∀ p ∈ ((d1, D1') :: (x1, instObj 68 d1) :: (d2, D2') :: (x2, instObj 68 d2) :: (c, listOf vs.toArray n) :: rest), p.1 < r) → Q (.ref r) { s with heap := h', toks := tk' })
    (postS : ∀ code R' vs' D1' t h' tk', stepH W R i1 v1 l1 i2 v2 l2 row = (.str code, R', (i1, v1, -1), (i2, v2, l2)) → BAre vs' R' → R'.length = R.length →
      IsRF w.params D1' c (Str.ofString "i-o") i1 v1 (-1) → Fr h₀ L h' m →
      News h₀ L h' ((d1, D1') :: (x1, instObj 68 d1) :: (d2, D2) :: (x2, instObj 68 d2) :: (c, listOf vs'.toArray n) :: rest) → Q (.str code t) { s with heap := h', toks := tk' }) :
    wpAny (model PySem.Challenge.rw_pb0233_01.row.prog w) (ktrTop dp un gd cn cs L a ccd cl outer) (call (.ref 235) [.ref x1, .ref x2, .str W tw, .bytes row tr]) Q E s := by
  have N1 := p1.news N
  have N2 : News h₀ L s.heap ((d1, D1) :: (x1, instObj 68 d1) :: (d2, D2) :: (x2, instObj 68 d2) :: (c, listOf vs.toArray n) :: rest) := fun q hq => by
    rcases List.mem_cons.mp hq with rfl | hq
    · exact N1 _ (.tail _ (p2.mem (.head _)))
    · rcases List.mem_cons.mp hq with rfl | hq
      · exact N1 _ (.head _)
      · rcases List.mem_cons.mp hq with rfl | hq
        · exact N1 _ (.tail _ (p2.mem (.tail _ (p3.mem (.tail _ (p4.mem (.head _)))))))
        · rcases List.mem_cons.mp hq with rfl | hq
          · exact N1 _ (.tail _ (p2.mem (.tail _ (p3.mem (.head _)))))
          · exact N1 _ (.tail _ (p2.mem (.tail _ (p3.mem (.tail _ (p4.mem (.tail _ (p5.mem hq))))))))
  exact c_step B F X N2 T hk hd hu hD1 hD2 hR hr hne h1 h2 h3 hv hRs hrow hW postT postS
theorem p_due {st rw : Addr} {vs : List Value} {R : List Bs} {n k : Nat} {n0 n2' n3' : Int} {bb : Bool} {t0 t2 t3 : Tok} {W : Str} {tw : Tok}
    (B : Below A₀ base outer h₀) (F : Fr h₀ L s.heap m) (X : (Mine.hd1.heap_39 w.params).In h₀) (N : News h₀ L s.heap news) (T : Top p loose mean mg mb h₀) (hk : cs.kind = .function)
    (hd : dp + 40 < recursionLimit) (hu : un + 400 < cLine)
    (p1 : Pick (st, listOf [.int n0 t0, .bool bb, .int n2' t2, .int n3' t3].toArray k) news n1) (p2 : Pick (rw, listOf vs.toArray n) n1 rest)
    (hR : BAre vs R) (hr : OwnOff rest [st, rw]) (hne : @Ne Nat st rw)
    (h0 : 0 ≤ n0) (h1 : n0 ≤ (R.length : Int)) (h2 : 0 ≤ n2') (h3 : 0 ≤ n3') (h4 : n2' ≤ 1000) (h5 : n3' ≤ 1000) (h6 : bb = true → 1 ≤ n0) (hv : R.length ≤ 64) (hRs : SzAll R)
    (hW : W = Str.ofString "read" ∨ W = Str.ofString "other" ∨ W = Str.ofString "put" ∨ W = Str.ofString "long")
    (postT : ∀ code by' n0' b' n2'' n3'' t0' t2' t3' r t t' h' tk', dueS W R n0 bb n2' n3' = (.tuple [.str code, .bytes by'], R, n0', b', n2'', n3'') → Fr h₀ L h' m →
      News h₀ L h' ((r, tupO [.str code t, .bytes by' t']) :: (st, listOf [.int n0' t0', .bool b', .int n2'' t2', .int n3'' t3'].toArray k) :: (rw, listOf vs.toArray n) :: rest) →
      (∀ p ∈ ((st, listOf [.int n0' t0', .bool b', .int n2'' t2', .int n3'' t3'].toArray k) :: (rw, listOf vs.toArray n) :: rest), p.1 < r) → Q (.ref r) { s with heap := h', toks := tk' })
    (postS : ∀ code R' vs' t0' t2' t3' t h' tk', dueS W R n0 bb n2' n3' = (.str code, R', n0, false, n2', n3') → BAre vs' R' → R'.length = R.length → SzAll R' → Fr h₀ L h' m →
      News h₀ L h' ((st, listOf [.int n0 t0', .bool false, .int n2' t2', .int n3' t3'].toArray k) :: (rw, listOf vs'.toArray n) :: rest) → Q (.str code t) { s with heap := h', toks := tk' }) :
    wpAny (model PySem.Challenge.rw_pb0233_01.row.prog w) (ktrTop dp un gd cn cs L a ccd cl outer) (call (.ref 242) [.ref st, .ref rw, .str W tw]) Q E s := by
  have N1 := p1.news N
  have N2 : News h₀ L s.heap ((st, listOf [.int n0 t0, .bool bb, .int n2' t2, .int n3' t3].toArray k) :: (rw, listOf vs.toArray n) :: rest) := fun q hq => by
    rcases List.mem_cons.mp hq with rfl | hq
    · exact N1 _ (.head _)
    · exact N1 _ (.tail _ (p2.mem hq))
  exact c_due B F X N2 T hk hd hu hR hr hne h0 h1 h2 h3 h4 h5 h6 hv hRs hW postT postS
end
structure PSt where
  R : List Bs
  vs : List Value
  us : List Value
  n0 : Int
  n2 : Int
  n3 : Int
  bb : Bool
  t0 : Tok
  t2 : Tok
  t3 : Tok
  kc : Nat
  kr : Nat
  ks : Nat
  kt : Nat
  kd : Nat
  D1 : Obj
  D2 : Obj
  tv : List Value
  dv : List Value
  ds : List Dat
abbrev PFoc (x1 d1 x2 d2 cl st rw to du : Addr) (c : PSt) : List (Addr × Obj) :=
  [(d1, c.D1), (x1, instObj 68 d1), (d2, c.D2), (x2, instObj 68 d2), (cl, listOf c.vs.toArray c.kc), (st, listOf [.int c.n0 c.t0, .bool c.bb, .int c.n2 c.t2, .int c.n3 c.t3].toArray c.ks), (rw, listOf c.us.toArray c.kr), (to, listOf c.tv.toArray c.kt), (du, listOf c.dv.toArray c.kd)]
def PInv (P : Params) (cl : Addr) (B0 : List Bs) (Ws : List Str) (i : Nat) (c : PSt) : Prop :=
  BAre c.vs c.R ∧ BAre c.us c.R ∧ SzAll c.R ∧ c.R.length = B0.length ∧ InvS c.R c.n0 c.bb c.n2 c.n3 ∧ c.n2 ≤ (i : Int) ∧ c.n3 ≤ (i : Int) ∧ play B0 (Ws.take i) = (c.ds, c.R, c.n0, c.bb, c.n2, c.n3) ∧
    ∃ i1 v1 l1 i2 v2 l2, CorrS c.R c.n0 c.bb c.n2 c.n3 i1 v1 l1 i2 v2 ∧ IsRF P c.D1 cl (Str.ofString "i-o") i1 v1 l1 ∧ IsRF P c.D2 cl (Str.ofString "input") i2 v2 l2
def PG (tl : List (Addr × Obj)) (c : PSt) : Prop := DatAll tl c.tv c.ds ∧ DatAll tl c.dv c.ds
section
variable {h₀ : Heap} {L : Addr} {x1 d1 x2 d2 cl st rw to du r1 r2 : Addr} {P : Params} {B0 : List Bs} {Ws : List Str} {i : Nat} {R R' R'' : List Bs} {vs us vs' us' tv dv : List Value} {n0 n2 n3 m0 m2 m3 i1 l1 i2 l2 j1 k1 j2 k2 : Int} {bb cc v1 v2 u1 u2 : Bool} {t0 t2 t3 ta tb ta' tb' t9 t9' : Tok}
  {kc kr ks kt kd : Nat} {D1 D2 : Obj} {ds : List Dat} {code code' : Str} {by1 by2 row : Bs} {W : Str} {tl rst' news' : List (Addr × Obj)} {m₀ m' : Str → Option Value} {h' : Heap} {tk' : Nat} {s₁ : Shared}
theorem play_next (hp : play B0 (Ws.take i) = (ds, R, n0, bb, n2, n3)) (hWi : Ws[i]? = some W) {d : Dat} (hD : dueS W R n0 bb n2 n3 = (d, R', m0, cc, m2, m3)) :
    play B0 (Ws.take (i + 1)) = ((ds ++ [d]) ++ [.str (Str.ofString "49")], R', m0, cc, m2, m3) := by
  rw [List.take_add_one, hWi]
  show play B0 (Ws.take i ++ [W]) = _
  rw [play_snoc, hp, playStep]
  simp only [hD]
theorem end_TT (hWm : W = Str.ofString "read" ∨ W = Str.ofString "other" ∨ W = Str.ofString "put" ∨ W = Str.ofString "long") (hWi : Ws[i]? = some W) (hI : InvS R n0 bb n2 n3) (hC : CorrS R n0 bb n2 n3 i1 v1 l1 i2 v2)
    (hp : play B0 (Ws.take i) = (ds, R, n0, bb, n2, n3)) (hRl : R.length = B0.length) (hRs : SzAll R) (hn2 : n2 ≤ (i : Int)) (hn3 : n3 ≤ (i : Int)) (hvs : BAre vs R) (hus : BAre us R) (hT : DatAll tl tv ds) (hV : DatAll tl dv ds) (hrow : row = rowS R n0)
    (hH : stepH W R i1 v1 l1 i2 v2 l2 row = (.tuple [.str code, .bytes by1], R, (j1, u1, k1), (j2, u2, k2))) (hD : dueS W R n0 bb n2 n3 = (.tuple [.str code', .bytes by2], R, m0, cc, m2, m3))
    (hD1 : IsRF P D1 cl (Str.ofString "i-o") j1 u1 k1) (hD2 : IsRF P D2 cl (Str.ofString "input") j2 u2 (-1)) (F : Fr h₀ L h' m') (hm : ∀ z, z ≠ Str.ofString "word" → [Str.ofString "row"].contains z = false → m' z = m₀ z) (N : News h₀ L h' news')
    (hsub : ∀ p ∈ (d1, D1) :: (x1, instObj 68 d1) :: (d2, D2) :: (x2, instObj 68 d2) :: (cl, listOf vs.toArray kc) :: (st, listOf [.int m0 t0, .bool cc, .int m2 t2, .int m3 t3].toArray ks) :: (rw, listOf us.toArray kr) :: (to, listOf ((tv.toArray.push (.ref r1)).push (.str (Str.ofString "49") t9)) kt) :: (du, listOf ((dv.toArray.push (.ref r2)).push (.str (Str.ofString "49") t9')) kd) :: (r1, tupO [.str code ta, .bytes by1 tb]) :: (r2, tupO [.str code' ta', .bytes by2 tb']) :: rst', p ∈ news')
    (hr1 : AllLt r1 rst') (hr2 : AllLt r2 rst') (ho : OwnOff [(r1, tupO [.str code ta, .bytes by1 tb]), (r2, tupO [.str code' ta', .bytes by2 tb'])] [d1, x1, d2, x2, cl, st, rw, to, du]) :
    LedEnd h₀ L (PFoc x1 d1 x2 d2 cl st rw to du) (fun _ => []) [Str.ofString "row"] (Str.ofString "word") m₀ [d1, x1, d2, x2, cl, st, rw, to, du] PG (PInv P cl B0 Ws (i + 1)) rst' tl s₁ { s₁ with heap := h', toks := tk' } := by
  subst hrow
  obtain ⟨hd, _, hI', hC', _, h2', h3'⟩ := agree hWm hI hC hH hD
  obtain ⟨rfl, rfl⟩ : code = code' ∧ by1 = by2 := by
    simp only [Dat.tuple.injEq, List.cons.injEq, Dat.str.injEq, Dat.bytes.injEq, and_true] at hd; exact hd
  refine ⟨h', tk', m', ⟨R, vs, us, m0, m2, m3, cc, t0, t2, t3, kc, kr, ks, kt, kd, D1, D2, (tv ++ [.ref r1]) ++ [.str (Str.ofString "49") t9], (dv ++ [.ref r2]) ++ [.str (Str.ofString "49") t9'], (ds ++ [.tuple [.str code, .bytes by1]]) ++ [.str (Str.ofString "49")]⟩,
    [(r1, tupO [.str code ta, .bytes by1 tb]), (r2, tupO [.str code ta', .bytes by1 tb'])], rfl, F, ?_, ?_, ho, (fun _ h => nomatch h), fun z h1 _ h3 => hm z h1 h3, ?_, ?_⟩
  · refine fun p hp => N p (hsub p ?_)
    simp only [PFoc, List.push_toArray, List.cons_append, List.nil_append] at hp ⊢
    exact hp
  · intro q hq q' hq'
    simp only [List.mem_cons, List.not_mem_nil, or_false] at hq
    rcases hq with rfl | rfl
    · exact Nat.ne_of_lt (lt_all hr1 q' hq')
    · exact Nat.ne_of_lt (lt_all hr2 q' hq')
  · refine ⟨((hT.mono fun _ h => List.mem_append.mpr (.inr h)).append (.one ?_)).append (.one (.str _ _)), ((hV.mono fun _ h => List.mem_append.mpr (.inr h)).append (.one ?_)).append (.one (.str _ _))⟩
    · exact .tuple (.head _) (.cons (.str _ _) (.cons (.bytes _ _) .nil))
    · exact .tuple (.tail _ (.head _)) (.cons (.str _ _) (.cons (.bytes _ _) .nil))
  · refine ⟨hvs, hus, hRs, hRl, hI', ?_, ?_, play_next hp hWi hD, j1, u1, k1, j2, u2, -1, hC', hD1, hD2⟩
    · show m2 ≤ ((i + 1 : Nat) : Int); omega
    · show m3 ≤ ((i + 1 : Nat) : Int); omega
theorem end_SS (hWm : W = Str.ofString "read" ∨ W = Str.ofString "other" ∨ W = Str.ofString "put" ∨ W = Str.ofString "long") (hWi : Ws[i]? = some W) (hI : InvS R n0 bb n2 n3) (hC : CorrS R n0 bb n2 n3 i1 v1 l1 i2 v2)
    (hp : play B0 (Ws.take i) = (ds, R, n0, bb, n2, n3)) (hRl : R.length = B0.length) (hRs : SzAll R'') (hn2 : n2 ≤ (i : Int)) (hn3 : n3 ≤ (i : Int)) (hvs : BAre vs' R') (hus : BAre us' R'') (hT : DatAll tl tv ds) (hV : DatAll tl dv ds) (hrow : row = rowS R n0)
    (hH : stepH W R i1 v1 l1 i2 v2 l2 row = (.str code, R', (j1, u1, k1), (j2, u2, k2))) (hD : dueS W R n0 bb n2 n3 = (.str code', R'', m0, cc, m2, m3))
    (hD1 : IsRF P D1 cl (Str.ofString "i-o") j1 u1 k1) (hD2 : IsRF P D2 cl (Str.ofString "input") j2 u2 (-1)) (F : Fr h₀ L h' m') (hm : ∀ z, z ≠ Str.ofString "word" → [Str.ofString "row"].contains z = false → m' z = m₀ z) (N : News h₀ L h' news')
    (hsub : ∀ p ∈ (d1, D1) :: (x1, instObj 68 d1) :: (d2, D2) :: (x2, instObj 68 d2) :: (cl, listOf vs'.toArray kc) :: (st, listOf [.int m0 t0, .bool cc, .int m2 t2, .int m3 t3].toArray ks) :: (rw, listOf us'.toArray kr) :: (to, listOf ((tv.toArray.push (.str code ta)).push (.str (Str.ofString "49") t9)) kt) :: (du, listOf ((dv.toArray.push (.str code' ta')).push (.str (Str.ofString "49") t9')) kd) :: rst', p ∈ news') :
    LedEnd h₀ L (PFoc x1 d1 x2 d2 cl st rw to du) (fun _ => []) [Str.ofString "row"] (Str.ofString "word") m₀ [d1, x1, d2, x2, cl, st, rw, to, du] PG (PInv P cl B0 Ws (i + 1)) rst' tl s₁ { s₁ with heap := h', toks := tk' } := by
  subst hrow
  obtain ⟨hd, rfl, hI', hC', hl', h2', h3'⟩ := agree hWm hI hC hH hD
  obtain rfl : code = code' := by simpa using hd
  refine ⟨h', tk', m', ⟨R', vs', us', m0, m2, m3, cc, t0, t2, t3, kc, kr, ks, kt, kd, D1, D2, (tv ++ [.str code ta]) ++ [.str (Str.ofString "49") t9], (dv ++ [.str code ta']) ++ [.str (Str.ofString "49") t9'], (ds ++ [.str code]) ++ [.str (Str.ofString "49")]⟩,
    [], rfl, F, ?_, (fun _ h => nomatch h), ownOff_nil, (fun _ h => nomatch h), fun z h1 _ h3 => hm z h1 h3, ?_, ?_⟩
  · refine fun p hp => N p (hsub p ?_)
    simp only [PFoc, List.push_toArray, List.cons_append, List.nil_append] at hp ⊢
    exact hp
  · exact ⟨(hT.append (.one (.str _ _))).append (.one (.str _ _)), (hV.append (.one (.str _ _))).append (.one (.str _ _))⟩
  · refine ⟨hvs, hus, hRs, hl'.trans hRl, hI', ?_, ?_, play_next hp hWi hD, j1, u1, k1, j2, u2, -1, hC', hD1, hD2⟩
    · show m2 ≤ ((i + 1 : Nat) : Int); omega
    · show m3 ≤ ((i + 1 : Nat) : Int); omega
end
theorem off_C7a : True := by
  w_top off
  trivial
theorem kst_one {x a : Str} {v : Option Value} {u m₀ : Str → Option Value} : (fun y => if y = x then v else kstB (fun z => if [a].contains z then u z else m₀ z) [] y) = fun y => if y = x then v else if y = a then u a else m₀ y := by
  funext y
  by_cases h : y = x
  · rw [if_pos h, if_pos h]
  · rw [if_neg h, if_neg h]
    show (if [a].contains y then u y else m₀ y) = _
    by_cases h2 : y = a
    · rw [if_pos h2, h2, if_pos (by simp)]
    · rw [if_neg h2, if_neg (by simpa using h2)]
theorem strs_get {vs : List Value} {ys : List Str} (h : StrsAre vs ys) : ∀ {k : Nat} {v : Value}, vs[k]? = some v → ∃ W t, ys[k]? = some W ∧ v = .str W t := by
  induction h with
  | nil => intro k v e; simp at e
  | cons y t _ ih =>
    intro k v e
    cases k with
    | zero => simp at e; exact ⟨y, t, by simp, e.symm⟩
    | succ k => simp at e; simpa using ih e
theorem strs_len {vs : List Value} {ys : List Str} (h : StrsAre vs ys) : vs.length = ys.length := by
  induction h with
  | nil => rfl
  | cons _ _ _ ih => simp [ih]
section
variable {prog : Program} {w : World} {A : Around} {E : Value → Shared → Prop} {s : Shared} {env : Env} {h₀ : Heap} {body : List Stmt} {Q : Flow → Shared → Prop} {m₀ : Str → Option Value} {news rst n1 n2 n3 n4 n5 n6 n7 n8 : List (Addr × Obj)} {P : Params}
theorem played_loop {x1 d1 x2 d2 cl st rw to du wl : Addr} {D1 D2 : Obj} {vs us wvs : List Value} {B0 : List Bs} {Ws : List Str} {kc kr ks kt kd nw : Nat} {t0 t2 t3 ta tb : Tok} (hh : A.handled = none) (F : Fr h₀ env.locals s.heap m₀) (N : News h₀ env.locals s.heap news)
    (e1 : m₀ (Str.ofString "first") = some (.ref x1)) (e2 : m₀ (Str.ofString "second") = some (.ref x2)) (e3 : m₀ (Str.ofString "rows") = some (.ref rw)) (e4 : m₀ (Str.ofString "state") = some (.ref st)) (e5 : m₀ (Str.ofString "told") = some (.ref to)) (e6 : m₀ (Str.ofString "dues") = some (.ref du))
    (p1 : Pick (x1, instObj 68 d1) news n1) (p2 : Pick (d1, D1) n1 n2) (p3 : Pick (x2, instObj 68 d2) n2 n3) (p4 : Pick (d2, D2) n3 n4) (hD1 : IsRF P D1 cl (Str.ofString "i-o") 0 true (-1)) (hD2 : IsRF P D2 cl (Str.ofString "input") 0 true (-1)) (p5 : Pick (cl, listOf vs.toArray kc) n4 n5) (hvs : BAre vs B0)
    (p6 : Pick (st, listOf [.int 0 t0, .bool false, .int 0 t2, .int 0 t3].toArray ks) n5 n6) (p7 : Pick (rw, listOf us.toArray kr) n6 n7) (hus : BAre us B0) (p8 : Pick (to, listOf [.str (Str.ofString "00") ta].toArray kt) n7 n8) (p9 : Pick (du, listOf [.str (Str.ofString "00") tb].toArray kd) n8 rst)
    (hch : @LT.lt Nat _ cl d1 ∧ @LT.lt Nat _ d1 x1 ∧ @LT.lt Nat _ x1 d2 ∧ @LT.lt Nat _ d2 x2 ∧ @LT.lt Nat _ x2 rw ∧ @LT.lt Nat _ rw st ∧ @LT.lt Nat _ st to ∧ @LT.lt Nat _ to du) (hl : (wl, listOf wvs.toArray nw) ∈ rst) (hoff : OwnOff rst [d1, x1, d2, x2, cl, st, rw, to, du]) (hWs : StrsAre wvs Ws) (hBs : SzAll B0)
    (turn : (@LT.lt Nat _ cl d1 ∧ @LT.lt Nat _ d1 x1 ∧ @LT.lt Nat _ x1 d2 ∧ @LT.lt Nat _ d2 x2 ∧ @LT.lt Nat _ x2 rw ∧ @LT.lt Nat _ rw st ∧ @LT.lt Nat _ st to ∧ @LT.lt Nat _ to du) → ∀ i W tw c rst' tl h tk (u : Option Value), Ws[i]? = some W → OwnOff rst' [d1, x1, d2, x2, cl, st, rw, to, du] → PG tl c → PInv P cl B0 Ws i c → Fr h₀ env.locals h (fun y => if y = Str.ofString "word" then some (.str W tw) else if y = Str.ofString "row" then u else m₀ y) → News h₀ env.locals h (PFoc x1 d1 x2 d2 cl st rw to du c ++ rst') →
      wpAny (model prog w) A (execs body env) (LedPost h₀ env.locals (PFoc x1 d1 x2 d2 cl st rw to du) (fun _ => []) [Str.ofString "row"] (Str.ofString "word") m₀ [d1, x1, d2, x2, cl, st, rw, to, du] PG (PInv P cl B0 Ws (i + 1)) rst' tl { s with heap := h, toks := tk } fun _ _ => False) (fun _ _ => False) { s with heap := h, toks := tk })
    (done : ∀ c tl h tk (u u' : Option Value), PG tl c → PInv P cl B0 Ws Ws.length c → Fr h₀ env.locals h (fun y => if y = Str.ofString "word" then u else if y = Str.ofString "row" then u' else m₀ y) → News h₀ env.locals h (PFoc x1 d1 x2 d2 cl st rw to du c ++ (rst ++ tl)) → Q .next { s with heap := h, toks := tk }) :
    wpAny (model prog w) A (pyIter (.ref wl)) (fun it s₂ => LoopAtV prog w A h₀ env (Str.ofString "word") body Q E it s₂) E s := by
  have _ := e1; have _ := e2; have _ := e3; have _ := e4; have _ := e5; have _ := e6
  have NN : News h₀ env.locals s.heap (PFoc x1 d1 x2 d2 cl st rw to du ⟨B0, vs, us, 0, 0, 0, false, t0, t2, t3, kc, kr, ks, kt, kd, D1, D2, [.str (Str.ofString "00") ta], [.str (Str.ofString "00") tb], [.str (Str.ofString "00")]⟩ ++ rst) := by
    have N1 := p1.news N
    intro q hq
    simp only [PFoc, List.cons_append, List.nil_append, List.mem_cons] at hq
    rcases hq with rfl | rfl | rfl | rfl | rfl | rfl | rfl | rfl | rfl | hq
    · exact N1 _ (.tail _ (p2.mem (.head _)))
    · exact N1 _ (.head _)
    · exact N1 _ (.tail _ (p2.mem (.tail _ (p3.mem (.tail _ (p4.mem (.head _)))))))
    · exact N1 _ (.tail _ (p2.mem (.tail _ (p3.mem (.head _)))))
    · exact N1 _ (.tail _ (p2.mem (.tail _ (p3.mem (.tail _ (p4.mem (.tail _ (p5.mem (.head _)))))))))
    · exact N1 _ (.tail _ (p2.mem (.tail _ (p3.mem (.tail _ (p4.mem (.tail _ (p5.mem (.tail _ (p6.mem (.head _)))))))))))
    · exact N1 _ (.tail _ (p2.mem (.tail _ (p3.mem (.tail _ (p4.mem (.tail _ (p5.mem (.tail _ (p6.mem (.tail _ (p7.mem (.head _)))))))))))))
    · exact N1 _ (.tail _ (p2.mem (.tail _ (p3.mem (.tail _ (p4.mem (.tail _ (p5.mem (.tail _ (p6.mem (.tail _ (p7.mem (.tail _ (p8.mem (.head _)))))))))))))))
    · exact N1 _ (.tail _ (p2.mem (.tail _ (p3.mem (.tail _ (p4.mem (.tail _ (p5.mem (.tail _ (p6.mem (.tail _ (p7.mem (.tail _ (p8.mem (.tail _ (p9.mem (.head _)))))))))))))))))
    · exact N1 _ (.tail _ (p2.mem (.tail _ (p3.mem (.tail _ (p4.mem (.tail _ (p5.mem (.tail _ (p6.mem (.tail _ (p7.mem (.tail _ (p8.mem (.tail _ (p9.mem (.tail _ hq)))))))))))))))))
  refine for_led (σ := PSt) (vs := wvs) (nn := nw) (rst := rst) (PFoc x1 d1 x2 d2 cl st rw to du) (fun _ => []) [Str.ofString "row"] [d1, x1, d2, x2, cl, st, rw, to, du] PG (PInv P cl B0 Ws) ⟨B0, vs, us, 0, 0, 0, false, t0, t2, t3, kc, kr, ks, kt, kd, D1, D2, [.str (Str.ofString "00") ta], [.str (Str.ofString "00") tb], [.str (Str.ofString "00")]⟩
    hh F NN (fun _ h => h) hl (fun _ => rfl) hoff (fun _ h => nomatch h) ⟨.one (.str _ _), .one (.str _ _)⟩ ?_ ?_ ?_
  · refine ⟨hvs, hus, hBs, rfl, ⟨Int.le_refl _, Int.natCast_nonneg _, Int.le_refl _, Int.le_refl _, (fun h => nomatch h), fun h => absurd rfl h⟩, Int.le_refl _, Int.le_refl _, rfl, 0, true, -1, 0, true, -1, ⟨rfl, rfl, rfl, ?_, ?_⟩, hD1, hD2⟩
    · show (0 : Int) = if (0 : Int) ≤ _ then 0 else _
      rw [if_pos (Int.natCast_nonneg _)]
    · exact (decide_eq_true (Int.natCast_nonneg _)).symm
  · intro i v c rst' tl h tk u hv ho _ _ hG hP F' N'
    obtain ⟨W, tw, hW, rfl⟩ := strs_get hWs hv
    rw [kst_one] at F'
    exact led_strict <| turn hch i W tw c rst' tl h tk _ hW ho hG hP F' N'
  · intro c tl h tk u ho hG hP F' N'
    rw [strs_len hWs] at hP
    have F2 : Fr h₀ env.locals h (fun y => if y = Str.ofString "word" then u (Str.ofString "word") else if y = Str.ofString "row" then u (Str.ofString "row") else m₀ y) := by
      rw [← kst_one (u := u)]
      have e : (fun y => if y = Str.ofString "word" then u (Str.ofString "word") else kstB (fun z => if [Str.ofString "row"].contains z then u z else m₀ z) [] y) = fun y => if y = Str.ofString "word" then u y else kstB (fun z => if [Str.ofString "row"].contains z then u z else m₀ z) [] y := by
        funext y
        by_cases h : y = Str.ofString "word"
        · rw [if_pos h, if_pos h, h]
        · rw [if_neg h, if_neg h]
      rw [e]; exact F'
    refine done c tl h tk _ _ hG hP F2 fun q hq => N' q ?_
    rcases List.mem_append.mp hq with hq | hq
    · exact List.mem_append.mpr (.inl hq)
    · rcases List.mem_append.mp hq with hq | hq
      · exact List.mem_append.mpr (.inr (List.mem_append.mpr (.inr hq)))
      · exact List.mem_append.mpr (.inr (List.mem_append.mpr (.inl hq)))
end
theorem corr_bounds {R : List Bs} {n0 n2 n3 i1 l1 i2 : Int} {bb v1 v2 : Bool} (hI : InvS R n0 bb n2 n3) (hC : CorrS R n0 bb n2 n3 i1 v1 l1 i2 v2) : 0 ≤ i1 ∧ 0 ≤ i2 ∧ l1 < (R.length : Int) := by
  obtain ⟨h1, h2, h3, h4, h5, h6⟩ := hI
  obtain ⟨rfl, _, rfl, rfl, _⟩ := hC
  refine ⟨h1, ?_, ?_⟩
  · split <;> omega
  · split <;> omega
theorem play_sizes {B0 : List Bs} {Ws : List Str} {i : Nat} {ds : List Dat} {z : List Bs × Int × Bool × Int × Int} {tv dv : List Value} {tl : List (Addr × Obj)} (hp : play B0 (Ws.take i) = (ds, z)) (hT : DatAll tl tv ds) (hV : DatAll tl dv ds) (hl : Ws.length ≤ 64) : tv.length ≤ 200 ∧ dv.length ≤ 200 := by
  have h := play_len B0 (Ws.take i)
  rw [hp] at h
  have h' : ds.length = 2 * (Ws.take i).length + 1 := h
  rw [List.length_take] at h'
  have h1 := hT.length
  have h2 := hV.length
  omega
theorem mixTS {W : Str} {R R1 R2 : List Bs} {n0 n2 n3 m0 m2 m3 i1 l1 i2 l2 j1 k1 j2 k2 : Int} {bb cc v1 v2 u1 u2 : Bool} {c1 c2 : Str} {b1 : Bs}
    (hH : stepH W R i1 v1 l1 i2 v2 l2 (rowS R n0) = (.tuple [.str c1, .bytes b1], R1, (j1, u1, k1), (j2, u2, k2))) (hD : dueS W R n0 bb n2 n3 = (.str c2, R2, m0, cc, m2, m3))
    (hW : W = Str.ofString "read" ∨ W = Str.ofString "other" ∨ W = Str.ofString "put" ∨ W = Str.ofString "long") (hI : InvS R n0 bb n2 n3) (hC : CorrS R n0 bb n2 n3 i1 v1 l1 i2 v2) : False := by
  have := (agree hW hI hC hH hD).1
  cases this
theorem mixST {W : Str} {R R1 R2 : List Bs} {n0 n2 n3 m0 m2 m3 i1 l1 i2 l2 j1 k1 j2 k2 : Int} {bb cc v1 v2 u1 u2 : Bool} {c1 c2 : Str} {b1 : Bs}
    (hH : stepH W R i1 v1 l1 i2 v2 l2 (rowS R n0) = (.str c2, R1, (j1, u1, k1), (j2, u2, k2))) (hD : dueS W R n0 bb n2 n3 = (.tuple [.str c1, .bytes b1], R2, m0, cc, m2, m3))
    (hW : W = Str.ofString "read" ∨ W = Str.ofString "other" ∨ W = Str.ofString "put" ∨ W = Str.ofString "long") (hI : InvS R n0 bb n2 n3) (hC : CorrS R n0 bb n2 n3 i1 v1 l1 i2 v2) : False := by
  have := (agree hW hI hC hH hD).1
  cases this
theorem rowS_pos {R : List Bs} {n0 : Int} (h : 0 < n0) : rowS R n0 = R.getD (n0 - 1).toNat #[] := if_pos h
theorem rowS_neg {R : List Bs} {n0 : Int} (h : ¬ 0 < n0) : rowS R n0 = #[] := if_neg h
theorem rowS_size {R : List Bs} {n0 : Int} (h : SzAll R) : (rowS R n0).size ≤ 100 := by
  unfold rowS
  split
  · exact sz_getD h _
  · decide
def RowEnd (b : Bs) (s : Shared) (v : Value) (s' : Shared) : Prop := ∃ t tk, v = .bytes b t ∧ s' = { s with toks := tk }
theorem row_join {M : Model} {A : Around} {E : Value → Shared → Prop} {s : Shared} {e : PySem.Expr} {env : Env} {Q : Value → Shared → Prop} (b : Bs) (h : wpAny M A (eval e env) (RowEnd b s) E s) (k : ∀ t tk, Q (.bytes b t) { s with toks := tk }) :
    wpAny M A (eval e env) Q E s := wpAny_mono h (fun v s' ⟨t, tk, e1, e2⟩ => by subst e1; subst e2; exact k t tk) fun _ _ x => x
theorem all_succ {d : Nat} {l : List (Addr × Obj)} (h : AllLt d l) : ∀ p ∈ l, (p.1 : Addr) ≠ d + 1 := fun p hp => Nat.ne_of_lt (Nat.lt_succ_of_lt (lt_all h p hp))
theorem off_C7 : True := by
  w_top off
  trivial
local macro_rules | `(tactic| walk_at "call ref") => `(tactic| (k_here; (with_reducible show wpAny _ _ (call (Value.ref 235) [Value.ref _, Value.ref _, Value.str _ _, Value.bytes _ _]) _ _ _); k_dflt (refine' p_step ?k1 ?k2 ?k3 ?k4 ?k5 ?k6 ?k7 ?k8 ?p1 ?p2 ?p3 ?p4 ?kA ?kB ?p5 ?kR ?kr ?ka ?k0 ?kb ?kc ?kv ?kx ?kw ?km ?_ ?_; (case k1 => k_asm); (case k2 => k_asm); (case k3 => k_asm); (case k4 => k_asm); (case k5 => k_asm); (case k6 => first | exact rfl | assumption); (case k7 => ktr_room); (case k8 => ktr_units); (case p1 => ktr_unf); (case p2 => ktr_unf); (case p3 => ktr_unf); (case p4 => ktr_unf); (case kA => assumption); (case kB => assumption); (case p5 => ktr_unf); (case kR => assumption); (case kr => ktr_rel); (case ka => (refine ⟨?_, ?_, ?_, ?_, ?_, ?_, ?_, ?_, ?_, ?_⟩ <;> k_ne)); (case k0 => omega); (case kb => omega); (case kc => omega); (case kv => omega); (case kx => assumption); (case kw => first | omega | exact rowS_size (by assumption) | exact sz_getD (by assumption) _); (case km => assumption); k_whole); all_goals (first
  | (intro cd9 by9; (have h9x : Array UInt8 := by9); clear h9x; intro i9 v9 l9 j9 w9 o9 D9 E9 r9 t9 u9 h' tk' e9 hD9 hE9 F' N' l1; (try k_lt l1); (try dsimp only); (try k_fold))
  | (intro cd9 R9; (have h9x : List (Array UInt8) := R9); clear h9x; intro vs9 D9 t9 h' tk' e9 hR9 hl9 hD9 F' N'; (try dsimp only); (try k_fold)))))
local macro_rules | `(tactic| walk_at "call ref") => `(tactic| (k_here; (with_reducible show wpAny _ _ (call (Value.ref 242) [Value.ref _, Value.ref _, Value.str _ _]) _ _ _); k_dflt (refine' p_due ?k1 ?k2 ?k3 ?k4 ?k5 ?k6 ?k7 ?k8 ?p1 ?p2 ?kR ?kr ?ka ?k0 ?kb ?kc ?ke ?kf ?kg ?kh ?kv ?kx ?km ?_ ?_; (case k1 => k_asm); (case k2 => k_asm); (case k3 => k_asm); (case k4 => k_asm); (case k5 => k_asm); (case k6 => first | exact rfl | assumption); (case k7 => ktr_room); (case k8 => ktr_units); (case p1 => ktr_unf); (case p2 => ktr_unf); (case kR => assumption); (case kr => ktr_rel); (case ka => k_ne); (case k0 => omega); (case kb => omega); (case kc => omega); (case ke => omega); (case kf => omega); (case kg => omega); (case kh => assumption); (case kv => omega); (case kx => assumption); (case km => assumption); k_whole); all_goals (first
  | (intro cd9 by9; (have h9x : Array UInt8 := by9); clear h9x; intro i9 v9 j9 l9 a9 b9 c9 r9 t9 u9 h' tk' e9 F' N' l1; first | exact (mixST (by assumption) e9 (by assumption) (by assumption) (by assumption)).elim | ((try k_lt l1); (try dsimp only); (try k_fold)))
  | (intro cd9 R9; (have h9x : List (Array UInt8) := R9); clear h9x; intro vs9 a9 b9 c9 t9 h' tk' e9 hR9 hl9 hS9 F' N'; first | exact (mixTS (by assumption) e9 (by assumption) (by assumption) (by assumption)).elim | ((try dsimp only); (try k_fold))))))
local macro_rules | `(tactic| walk_at "call builtin:list.append") => `(tactic| (k_here; (with_reducible show wpAny _ _ (call (Value.builtin _) [Value.ref _, _]) _ _ _); k_dflt (refine' append_K ?k1 ?k2 ?k3 ?_ ?z; (case k1 => k_asm); (case k2 => k_asm); (case k3 => k_upd); (case z => (simp only [Array.size_push, List.size_toArray, List.length_cons, List.length_nil, PySem.sizeLine_eq]; omega)); k_whole); intro h' F' N'; (try k_sweep)))
local macro_rules | `(tactic| walk_at "subscriptTail Name Constant ref int") => `(tactic| (k_here; (with_reducible show wpAny _ _ (subscriptTail _ _ (Value.ref _) (Value.int _ _)) _ _ _); (with_unfolding_all refine' item_lit ?k1 ?k2 ?k3 ?k4 ?k5 ?_ ?k7 ?k8; (case k1 => k_asm); (case k2 => k_mem); (case k3 => decide); (case k4 => decide); (case k5 => exact rfl); (case k7 => with_unfolding_all rfl); (case k8 => (intro _; with_unfolding_all rfl)); k_whole)))
local macro_rules | `(tactic| walk_at "subscriptTail Name BinOp ref int") => `(tactic| (k_here; (with_reducible show wpAny _ _ (subscriptTail _ _ (Value.ref _) (Value.int _ _)) _ _ _); (with_unfolding_all refine' item_by ?k1 ?k2 ?k3 ?k4 ?k5 ?k6 ?_ ?k7 ?k8; (case k1 => k_asm); (case k2 => k_mem); (case k3 => with_reducible assumption); (case k4 => omega); (case k5 => omega); (case k6 => omega); (case k7 => with_unfolding_all rfl); (case k8 => (intro _; with_unfolding_all rfl)); k_whole); intro t9))
local macro_rules | `(tactic| walk_at "call type:tuple") => `(tactic| (k_here; (with_reducible show wpAny _ _ (call (Value.type _) [Value.ref _]) _ _ _); k_dflt (refine' kde_tupleOf ?k1 ?k2 ?k3 ?k4 ?k5 ?_; (case k1 => k_asm); (case k2 => k_asm); (case k3 => exact News.isList (by k_asm) (by k_mem)); (case k4 => (simp only [List.size_toArray]; omega)); (case k5 => exact rfl); k_whole); intro D' h' F' N' l1; (try k_lt l1); (try k_sweep)))
local macro_rules | `(tactic| k_all) => `(tactic| ((fail_if_success (refine List.forall_mem_cons.mpr ?_)); (fail_if_success (exact List.forall_mem_nil _)); (repeat (with_reducible rename (_ < _ ∧ _) => l9; cases l9)); exact all_succ (by assumption)))
section
variable {w : World} {p : Program} {loose : List Str} {mean : ExcName → Option Value} {mg mb : Str → Option Value}
    {dp un : Nat} {gd : Option (List Code)} {cn : Str} {cs : Scope} {a : Addr} {ccd : Value} {cl : List (Str × Addr)} {outer : List Env} {A₀ : Around} {base h₀ : Heap} {L : Addr} {m : Str → Option Value} {rest : List (Addr × Obj)} {s : Shared}
    {Q E : Value → Shared → Prop}
theorem c_played {bl wl : Addr} {bvs wvs : List Value} {B0 : List Bs} {Ws : List Str} {nb nw : Nat}
    (B : Below A₀ base outer h₀) (F : Fr h₀ L s.heap m) (X : (Mine.hd1.heap_39 w.params).In h₀) (N : News h₀ L s.heap ((bl, listOf bvs.toArray nb) :: (wl, listOf wvs.toArray nw) :: rest)) (T : Top p loose mean mg mb h₀) (hk : cs.kind = .function)
    (hd : dp + 60 < recursionLimit) (hu : un + 600 < cLine)
    (hB : BAre bvs B0) (hBl : B0.length ≤ 64) (hBs : SzAll B0) (hWs : StrsAre wvs Ws) (hWl : Ws.length ≤ 64)
    (hW : ∀ W ∈ Ws, W = Str.ofString "read" ∨ W = Str.ofString "other" ∨ W = Str.ofString "put" ∨ W = Str.ofString "long") (hne : @Ne Nat bl wl)
    (post : ∀ (r to du lf rt : Addr) (tv dv vs us : List Value) (R : List Bs) (ds : List Dat) (z : Int × Bool × Int × Int) (tl : List (Addr × Obj)) (kt kd : Nat) h' tk', play B0 Ws = (ds, R, z) → DatAll tl tv ds → DatAll tl dv ds → BAre vs R → BAre us R → R.length = B0.length → Fr h₀ L h' m →
      News h₀ L h' ((r, tupO [.ref to, .ref du, .ref lf, .ref rt]) :: (to, listOf tv.toArray kt) :: (du, listOf dv.toArray kd) :: (lf, tupO vs) :: (rt, tupO us) :: (bl, listOf bvs.toArray nb) :: (wl, listOf wvs.toArray nw) :: (rest ++ tl)) → Q (.ref r) { s with heap := h', toks := tk' }) :
    wpAny (model PySem.Challenge.rw_pb0233_01.row.prog w) (ktrTop dp un gd cn cs L a ccd cl outer) (call (.ref 249) [.ref bl, .ref wl]) Q E s := by
  have hlen := hB.length
  refine wpAny_call ?_
  k_dflt ktr_enter
  rename Below _ _ _ _ => B7
  rename Frag.In _ _ => X7
  rename Top _ _ _ _ _ _ => T7
  k_steps
  rename Fr _ _ _ _ => F5
  with_unfolding_all refine' For_invVF F5 ?k1 ?k2 ?_
  case k1 => exact rfl
  case k2 => exact rfl
  k_steps
  rename Fr _ _ _ _ => F6
  rename News _ _ _ _ => N6
  rename (_ < _ ∧ _) => l6
  refine' lay_loop rfl F6 N6 ?zp1 ?zp2 ?zp3 hB ?zp4 ?zp5
  case zp1 => ktr_unf
  case zp2 => k_mem
  case zp3 => (repeat (cases ‹_ ∧ _›)); ktr_rel
  case zp4 =>
    clear F6 N6
    intro b t cvs k rst' h tk hb ho hcl F' N'
    k_steps
    exact ⟨_, _, _, _, rfl, rfl, by assumption, fun z hz => if_neg hz, by assumption⟩
  case zp5 =>
    intro cvs k h tk u hc F' N'
    clear F6 N6
    k_steps
    rename Fr _ _ _ _ => F7
    with_unfolding_all refine' For_invVF F7 ?zk1 ?zk2 ?_
    case zk1 => exact rfl
    case zk2 => exact rfl
    k_steps
    rename Fr _ _ _ _ => F8
    rename News _ _ _ _ => N8
    k_dflt (refine' played_loop rfl F8 N8 ?zq1 ?zq2 ?zq3 ?zq4 ?zq5 ?zq6 ?zp1 ?zp2 ?zp3 ?zp4 ?zd1 ?zd2 ?zp5 ?zb1 ?zp6 ?zp7 ?zb2 ?zp8 ?zp9 ?zh ?zl ?zo hWs hBs ?zt ?zd)
    case zq1 => exact rfl
    case zq2 => exact rfl
    case zq3 => exact rfl
    case zq4 => exact rfl
    case zq5 => exact rfl
    case zq6 => exact rfl
    case zp1 => ktr_unf
    case zp2 => ktr_unf
    case zp3 => ktr_unf
    case zp4 => ktr_unf
    case zd1 => exact ⟨_, _, _, _, _, _, _, _, rfl⟩
    case zd2 => exact ⟨_, _, _, _, _, _, _, _, rfl⟩
    case zp5 => ktr_unf
    case zb1 => exact hc
    case zp6 => ktr_unf
    case zp7 => ktr_unf
    case zb2 => exact hB
    case zp8 => ktr_unf
    case zp9 => ktr_unf
    case zh => (refine ⟨?_, ?_, ?_, ?_, ?_, ?_, ?_, ?_⟩ <;> omega)
    case zl => k_mem
    case zo => (repeat (cases ‹_ ∧ _›)); ktr_rel
    case zt =>
      clear F8 N8 hWs
      revert hd hu B7 X7 T7
      (repeat (rename (_ < _ ∧ _) => l9; clear l9))
      (repeat (rename Fr _ _ _ _ => l9; clear l9))
      (repeat (rename News _ _ _ _ => l9; clear l9))
      (repeat (rename Below _ _ _ _ => l9; clear l9))
      (repeat (rename Frag.In _ _ => l9; clear l9))
      (repeat (rename Top _ _ _ _ _ _ => l9; clear l9))
      (repeat (rename Obj.IsDictOf _ _ _ => l9; clear l9))
      (repeat (rename PyProof.V.FlatPairs _ _ _ => l9; clear l9))
      (repeat (rename (_ < _) => l9; clear l9))
      (repeat (rename (Flow → Shared → Prop) => l9; clear l9))
      (repeat (rename (Value → Shared → Prop) => l9; clear l9))
      intro hd hu B7 X7 T7
      intro hch i W tw c rst' tl h tk u hWi ho hG hP F' N'
      obtain ⟨R, vs, us, n0, n2, n3, bb, t0, t2, t3, kc, kr, ks, kt, kd, D1, D2, tv, dv, ds⟩ := c
      obtain ⟨hvs, hus, hRs, hRl, hI, hn2, hn3, hpl, i1, v1, l1, i2, v2, l2, hC, hD1, hD2⟩ := hP
      dsimp only at hvs hus hRs hRl hI hn2 hn3 hpl hC hD1 hD2 N'
      have hWm := hW W (List.mem_of_getElem? hWi)
      have hil : i < Ws.length := (List.getElem?_eq_some_iff.mp hWi).1
      obtain ⟨hb1, hb2, hb3⟩ := corr_bounds hI hC
      obtain ⟨hs1, hs2⟩ := play_sizes hpl hG.1 hG.2 hWl
      have hI' := hI
      obtain ⟨hJ1, hJ2, hJ3, hJ4, hJ5, hJ6⟩ := hI'
      simp only [PFoc, List.cons_append, List.nil_append] at N'
      iterate 2 (first | (k_unfold; (try dsimp only)) | (k_end; wrow_close) | walk1 | (dsimp only; walk1) | (leave1; walk_say "STEP leave1"; try dsimp only) | fail "no step")
      refine row_join (rowS R n0) ?_ ?_
      · k_steps
        · exact ⟨_, _, congrArg (fun b => Value.bytes b _) (rowS_pos (by assumption)).symm, rfl⟩
        · exact ⟨_, _, congrArg (fun b => Value.bytes b _) (rowS_neg (by assumption)).symm, rfl⟩
      intro t4 tk4
      k_steps
      · rename stepH _ _ _ _ _ _ _ _ _ = _ => eH
        rename dueS _ _ _ _ _ _ = _ => eD
        rename News _ _ _ _ => N9
        rename Fr _ _ _ _ => F9
        (repeat (with_reducible rename (_ < _ ∧ _) => l9; cases l9))
        refine' end_TT hWm hWi hI hC hpl hRl hRs hn2 hn3 hvs hus hG.1 hG.2 rfl eH eD ?za1 ?za2 F9 ?za3 N9 ?za4 ?za5 ?za6 ?za7
        case za4 => ktr_rel
        case za1 => assumption
        case za2 => assumption
        case za3 => exact fun z h1 h2 => have h3 : z ≠ Str.ofString "row" := (by rintro rfl; exact absurd h2 (by decide)); (if_neg h3).trans ((if_neg h1).trans (if_neg h3))
        case za5 => assumption
        case za6 => assumption
        case za7 => ktr_rel
      · rename stepH _ _ _ _ _ _ _ _ _ = _ => eH
        rename dueS _ _ _ _ _ _ = _ => eD
        rename News _ _ _ _ => N9
        rename Fr _ _ _ _ => F9
        refine' end_SS hWm hWi hI hC hpl hRl ?za0 hn2 hn3 ?za5 ?za6 hG.1 hG.2 rfl eH eD ?za1 ?za2 F9 ?za3 N9 ?za4
        case za4 => ktr_rel
        case za0 => assumption
        case za1 => assumption
        case za2 => assumption
        case za3 => exact fun z h1 h2 => have h3 : z ≠ Str.ofString "row" := (by rintro rfl; exact absurd h2 (by decide)); (if_neg h3).trans ((if_neg h1).trans (if_neg h3))
        case za5 => assumption
        case za6 => assumption
    case zd =>
      clear F8 N8
      intro c tl h tk u u' hG hP F' N'
      obtain ⟨R, vs, us, n0, n2, n3, bb, t0, t2, t3, kc, kr, ks, kt, kd, D1, D2, tv, dv, ds⟩ := c
      obtain ⟨hvs, hus, hRs, hRl, hI, hn2, hn3, hpl, i1, v1, l1, i2, v2, l2, hC, hD1, hD2⟩ := hP
      dsimp only at hvs hus hRs hRl hpl hC hD1 hD2 N'
      rw [List.take_length] at hpl
      clear hWs hC hI hn2 hn3 hD1 hD2
      have hvl := hvs.length
      have hul := hus.length
      simp only [PFoc, List.cons_append, List.nil_append] at N'
      generalize hrt : rest ++ tl = rt at N'
      k_steps
      subst hrt
      rename News _ _ _ _ => N9
      refine' post _ _ _ _ _ _ _ _ _ _ _ _ _ _ _ _ _ hpl hG.1 hG.2 hvs hus hRl (by k_asm) (news_sub N9 ?zz9)
      case zz9 => ((refine List.forall_mem_cons.mpr ⟨?_, ?_⟩); (first | exact List.Mem.head _ | k_mem); ktr_rel)
end
section
open PySem.SeqAt
mutual
inductive HIn (h : Heap) : Value → Dat → Prop
  | none : HIn h Value.none Dat.none
  | bool (b : Bool) : HIn h (Value.bool b) (Dat.bool b)
  | int (i : Int) (t : Tok) : HIn h (Value.int i t) (Dat.int i)
  | str (x : Str) (t : Tok) : HIn h (Value.str x t) (Dat.str x)
  | bytes (b : Array UInt8) (t : Tok) : HIn h (Value.bytes b t) (Dat.bytes b)
  | tuple {a : Addr} {vs : List Value} {ds : List Dat} : h.IsTuple a vs.toArray → HAll h vs ds → HIn h (Value.ref a) (Dat.tuple ds)
  | list {a : Addr} {vs : List Value} {ds : List Dat} : h.IsList a vs.toArray → HAll h vs ds → HIn h (Value.ref a) (Dat.list ds)
inductive HAll (h : Heap) : List Value → List Dat → Prop
  | nil : HAll h [] []
  | cons {v : Value} {vs : List Value} {d : Dat} {ds : List Dat} : HIn h v d → HAll h vs ds → HAll h (v :: vs) (d :: ds)
end
mutual
theorem hin_of {h₀ h : Heap} {L : Addr} {news n1 : List (Addr × Obj)} (N : News h₀ L h news) (hs : ∀ p ∈ n1, p ∈ news) : ∀ {v : Value} {d : Dat}, DatIn n1 v d → HIn h v d
  | _, _, .none => .none
  | _, _, .bool b => .bool b
  | _, _, .int i t => .int i t
  | _, _, .str x t => .str x t
  | _, _, .bytes b t => .bytes b t
  | _, _, .tuple hm r => .tuple ⟨_, (N _ (hs _ hm)).1, rfl, _, rfl⟩ (hall_of N hs r)
  | _, _, .list hm r => .list ⟨_, (N _ (hs _ hm)).1, rfl, _, rfl⟩ (hall_of N hs r)
theorem hall_of {h₀ h : Heap} {L : Addr} {news n1 : List (Addr × Obj)} (N : News h₀ L h news) (hs : ∀ p ∈ n1, p ∈ news) : ∀ {vs : List Value} {ds : List Dat}, DatAll n1 vs ds → HAll h vs ds
  | _, _, .nil => .nil
  | _, _, .cons a r => .cons (hin_of N hs a) (hall_of N hs r)
end
theorem HAll.length {h : Heap} {vs : List Value} {ds : List Dat} (x : HAll h vs ds) : vs.length = ds.length := by
  induction vs generalizing ds with
  | nil => cases x; rfl
  | cons v vs ih =>
    cases x with
    | cons _ r => rw [List.length_cons, List.length_cons, ih r]
theorem hall_bytes {h : Heap} {vs : List Value} {bs : List Bs} (x : BAre vs bs) : HAll h vs (bs.map Dat.bytes) := by
  induction x with
  | nil => exact .nil
  | cons b t _ ih => exact .cons (.bytes b t) ih
mutual
def ddep : Dat → Nat
  | .tuple ds => ddeps ds + 1
  | .list ds => ddeps ds + 1
  | _ => 0
def ddeps : List Dat → Nat
  | [] => 0
  | d :: ds => max (ddep d) (ddeps ds)
end
theorem eqAt_bytes {A : Around} {s : Shared} (b : Array UInt8) (t u : Tok) : EqAt A s (.bytes b t) (.bytes b u) true := fun prog w E Q hq => by
  unfold eqBool
  refine wpAny_holding ?_
  refine wpAny_ite_split (fun _ => ?_) (fun hab => ?_)
  · exact wpAny_bind (wpAny_rule (wpAny_pure hq))
  · have h1 : wpAny (model prog w) A (compareOp .Eq (.bytes b t) (.bytes b u)) (fun v s' => wpAny (model prog w) A (truthOfDropped v) Q E s') E s := eq_bytes (by
      rw [beq_self_eq_true]
      exact wpAny_truthy_bool hq)
    have h2 : wpAny (model prog w) A (richCompare .Eq (.bytes b t) (.bytes b u)) (fun v s' => wpAny (model prog w) A (truthOfDropped v) Q E s') E s := h1
    exact wpAny_bind h2
theorem eqAt_ref {A : Around} {s : Shared} {a b : Addr} (h : RcAt A s (.ref a) (.ref b) true) : EqAt A s (.ref a) (.ref b) true := by
  by_cases hab : a = b
  · subst hab; exact EqAt.same _
  · exact EqAt.of_refs hab h
theorem range_true (n : Nat) : (List.range n).all (fun _ => true) = true := by simp
mutual
theorem heq {A : Around} {s : Shared} : ∀ {v v' : Value} {d : Dat}, HIn s.heap v d → HIn s.heap v' d → A.units + ddep d < cLine → EqAt A s v v' true
  | _, _, _, .none, .none, _ => EqAt.same _
  | _, _, _, .bool b, .bool _, _ => EqAt.same _
  | _, _, _, .int i t, .int _ u, _ => by
    have := (MeetsSeq.EqGives.int i i t u).at A s
    simpa using this
  | _, _, _, .str x t, .str _ u, _ => by
    have := (eqGives_str x x t u).at A s
    simpa using this
  | _, _, _, .bytes b t, .bytes _ u, _ => eqAt_bytes b t u
  | _, _, _, .tuple (a := a) (vs := vs) (ds := ds) ha ra, .tuple (a := b) (vs := us) hb rb, hu => by
    have hu' : A.units + (ddeps ds + 1) < cLine := by simpa [ddep] using hu
    have e := RcAt.tuples (A := A) (e := fun _ => true) ha hb (by omega) fun j h1 h2 => by
      have := heqs (A := A.in1) ra rb (by rw [units_in1]; omega) j (by simpa using h1) (by simpa using h2)
      simpa using this
    have hsz : vs.toArray.size = us.toArray.size := by rw [List.size_toArray, List.size_toArray, ra.length, rb.length]
    rw [range_true, hsz, beq_self_eq_true, Bool.and_true] at e
    exact eqAt_ref e
  | _, _, _, .list (a := a) (vs := vs) (ds := ds) ha ra, .list (a := b) (vs := us) hb rb, hu => by
    have hu' : A.units + (ddeps ds + 1) < cLine := by simpa [ddep] using hu
    have hsz : vs.toArray.size = us.toArray.size := by rw [List.size_toArray, List.size_toArray, ra.length, rb.length]
    have e := RcAt.lists (A := A) (e := fun _ => true) ha hb hsz (by omega) fun j h1 h2 => by
      have := heqs (A := A.in1) ra rb (by rw [units_in1]; omega) j (by simpa using h1) (by simpa using h2)
      simpa using this
    rw [range_true] at e
    exact eqAt_ref e
theorem heqs {A : Around} {s : Shared} : ∀ {vs us : List Value} {ds : List Dat}, HAll s.heap vs ds → HAll s.heap us ds → A.units + ddeps ds < cLine → ∀ j (h1 : j < vs.length) (h2 : j < us.length), EqAt A s vs[j] us[j] true
  | _, _, _, .nil, .nil, _, j, h1, _ => absurd h1 (Nat.not_lt_zero _)
  | _, _, _, .cons (ds := ds) a r, .cons b t, hu, j, h1, h2 => by
    simp only [ddeps] at hu
    cases j with
    | zero => exact heq a b (by omega)
    | succ j => exact heqs r t (by omega) j (Nat.lt_of_succ_lt_succ h1) (Nat.lt_of_succ_lt_succ h2)
end
section
variable {prog : Program} {w : World} {A : Around} {E : Value → Shared → Prop} {s : Shared} {a b : Addr} {ds : List Dat} {Q : Value → Shared → Prop}
theorem cmp_list_eq {vs us : List Value} (ha : s.heap.IsList a vs.toArray) (ra : HAll s.heap vs ds) (hb : s.heap.IsList b us.toArray) (rb : HAll s.heap us ds) (hu : A.units + (ddeps ds + 1) < cLine) (h : Q (.bool true) s) : wpAny (model prog w) A (compareOp .Eq (.ref a) (.ref b)) Q E s := by
  have hsz : vs.toArray.size = us.toArray.size := by rw [List.size_toArray, List.size_toArray, ra.length, rb.length]
  refine RcAt.lists (A := A) (e := fun _ => true) ha hb hsz (by omega) (fun j h1 h2 => ?_) prog w E Q (by rw [range_true]; exact h)
  have := heqs (A := A.in1) ra rb (by rw [units_in1]; omega) j (by simpa using h1) (by simpa using h2)
  simpa using this
theorem cmp_list_ne {vs us : List Value} (ha : s.heap.IsList a vs.toArray) (ra : HAll s.heap vs ds) (hb : s.heap.IsList b us.toArray) (rb : HAll s.heap us ds) (hu : A.units + (ddeps ds + 1) < cLine) (h : Q (.bool false) s) : wpAny (model prog w) A (compareOp .NotEq (.ref a) (.ref b)) Q E s := by
  have hsz : vs.toArray.size = us.toArray.size := by rw [List.size_toArray, List.size_toArray, ra.length, rb.length]
  refine RcNeAt.lists (A := A) (e := fun _ => true) ha hb hsz (by omega) (fun j h1 h2 => ?_) prog w E Q (by rw [range_true]; exact h)
  have := heqs (A := A.in1) ra rb (by rw [units_in1]; omega) j (by simpa using h1) (by simpa using h2)
  simpa using this
theorem cmp_tuple_eq {vs us : List Value} (ha : s.heap.IsTuple a vs.toArray) (ra : HAll s.heap vs ds) (hb : s.heap.IsTuple b us.toArray) (rb : HAll s.heap us ds) (hu : A.units + (ddeps ds + 1) < cLine) (h : Q (.bool true) s) : wpAny (model prog w) A (compareOp .Eq (.ref a) (.ref b)) Q E s := by
  have hsz : vs.toArray.size = us.toArray.size := by rw [List.size_toArray, List.size_toArray, ra.length, rb.length]
  refine RcAt.tuples (A := A) (e := fun _ => true) ha hb (by omega) (fun j h1 h2 => ?_) prog w E Q (by rw [range_true, hsz, beq_self_eq_true]; exact h)
  have := heqs (A := A.in1) ra rb (by rw [units_in1]; omega) j (by simpa using h1) (by simpa using h2)
  simpa using this
theorem cmp_tuple_ne {vs us : List Value} (ha : s.heap.IsTuple a vs.toArray) (ra : HAll s.heap vs ds) (hb : s.heap.IsTuple b us.toArray) (rb : HAll s.heap us ds) (hu : A.units + (ddeps ds + 1) < cLine) (h : Q (.bool false) s) : wpAny (model prog w) A (compareOp .NotEq (.ref a) (.ref b)) Q E s := by
  have hsz : vs.toArray.size = us.toArray.size := by rw [List.size_toArray, List.size_toArray, ra.length, rb.length]
  refine RcNeAt.tuples (A := A) (e := fun _ => true) ha hb (by omega) (fun j h1 h2 => ?_) prog w E Q (by rw [range_true, hsz, beq_self_eq_true]; exact h)
  have := heqs (A := A.in1) ra rb (by rw [units_in1]; omega) j (by simpa using h1) (by simpa using h2)
  simpa using this
end
end
theorem off_L3 : True := by
  w_top off
  trivial
def defIn : List Stmt → Arguments × List Stmt × Scope
  | .FunctionDef _ a b _ _ _ s _ _ _ :: _ => (a, b, s)
  | _ :: r => defIn r
  | [] => default
def takeB (K : Frag) (f : Addr) : Arguments × List Stmt × Scope := match K.lookup f with
  | some ⟨_, _, .func fd, _⟩ => match fd.body with
    | .stmts b => defIn b
    | _ => default
  | _ => default
local macro_rules | `(tactic| walk_at "binaryOp FloorDiv int int") => `(tactic| ((with_reducible show wpAny _ _ (binaryOp Operator.FloorDiv (Value.int _ _) (Value.int (HPow.hPow _ _) _)) _ _ _); refine PyProof.Rows.floordiv_int (pw_ne _) ?_ (Or.inl (PyProof.noPylong_of_log2 (pw_log (by omega))))))
local macro_rules | `(tactic| walk_at "binaryOp Pow int int") => `(tactic| (refine pow_int_small ?za ?zb ?zc ?_; (case zc => decide); (case za => assumption); (case zb => omega)))
section
variable {w : World} {p : Program} {loose : List Str} {mean : ExcName → Option Value} {mg mb : Str → Option Value}
    {dp un : Nat} {gd : Option (List Code)} {cn : Str} {cs : Scope} {a : Addr} {ccd : Value} {cl : List (Str × Addr)} {outer : List Env} {A₀ : Around} {base h₀ : Heap} {L : Addr} {m : Str → Option Value} {rest : List (Addr × Obj)} {s : Shared}
    {Q E : Value → Shared → Prop}
theorem c_take {f c' pc cc pl ce : Addr} {o1 o2 oc : Obj} {cvs : List Value} {cns : List Int} {k lim : Int} {t0 tl t' : Tok} {n n2 : Nat} {vs' : Array Value} {q : Str} {dc pm ct : Value}
    (B : Below A₀ base outer h₀) (F : Fr h₀ L s.heap m) (X : (Mine.hd1.heap_39 w.params).In h₀) 
    (N : News h₀ L s.heap ((f, fnMade (Str.ofString "take") q (takeB (Mine.hd1.heap_39 w.params) 223).1 (takeB (Mine.hd1.heap_39 w.params) 223).2.1 (takeB (Mine.hd1.heap_39 w.params) 223).2.2 [(Str.ofString "place", pc), (Str.ofString "cells", cc)] dc pm c' ct) :: (c', oc) :: (pc, o1) :: (cc, o2) :: (pl, listOf [.int k t0].toArray n) :: (ce, listOf cvs.toArray n2) :: rest))
    (T : Top p loose mean mg mb h₀) (hk : cs.kind = .function) (hT : CodeHd h₀ 222 218)
    (hd : dp + 60 < recursionLimit) (hu : un + 600 < cLine) (d1 : oc.data = .fields vs') (d2 : vs'[1]? = some (.str q t')) (hp : o1.data = .cell (some (.ref pl))) (hc : o2.data = .cell (some (.ref ce)))
    (hI : IntsAre cvs cns) (hn : cns.length ≤ 40) (hn1 : 1 ≤ cns.length) (hk0 : 0 ≤ k) (hk1 : k ≤ 200) (hl0 : 1 ≤ lim) (hl1 : lim ≤ 256)
    (ho : OwnOff rest [pl]) (hne : @Ne Nat f pl ∧ @Ne Nat c' pl ∧ @Ne Nat pc pl ∧ @Ne Nat cc pl ∧ @Ne Nat ce pl)
    (post : ∀ r t t0' h' tk', 0 ≤ r → r < lim → Fr h₀ L h' m → News h₀ L h' ((f, fnMade (Str.ofString "take") q (takeB (Mine.hd1.heap_39 w.params) 223).1 (takeB (Mine.hd1.heap_39 w.params) 223).2.1 (takeB (Mine.hd1.heap_39 w.params) 223).2.2 [(Str.ofString "place", pc), (Str.ofString "cells", cc)] dc pm c' ct) :: (c', oc) :: (pc, o1) :: (cc, o2) :: (pl, listOf [.int (k + 1) t0'].toArray n) :: (ce, listOf cvs.toArray n2) :: rest) → Q (.int r t) { s with heap := h', toks := tk' }) :
    wpAny (model PySem.Challenge.rw_pb0233_01.row.prog w) (ktrTop dp un gd cn cs L a ccd cl outer) (call (.ref f) [.int lim tl]) Q E s := by
  have e : takeB (Mine.hd1.heap_39 w.params) 223 = takeB (Mine.hd1.heap_39 w.params) 223 := rfl
  conv at e => rhs; whnf
  rw [e] at N post
  clear e
  dsimp only at N post
  refine wpAny_call ?_
  k_dflt (refine' code_nest ?k1 ?k2 ?k3 ?k4 ?k5 ?kA ?kF ?kK ?k6 ?k7 ?k8 ?k9 ?kB ?_ ?c2 ?c3 ?c4 ?c5; (case kA => exact rfl); (case kF => exact rfl); (case kK => assumption); (case k1 => k_asm); (case k2 => k_asm); (case k3 => k_asm); (case k4 => k_asm); (case k5 => k_asm); (case k6 => k_mem); (case k7 => exact codeRec_news (by k_asm) (by k_mem) (by assumption) (by assumption)); (case k8 => ktr_room); (case k9 => exact BindsTo.of_eq rfl); (case c5 => decide); (case kB => exact locs rfl); (case c2 => exact rfl); (case c3 => exact rfl); (case c4 => exact rfl); k_whole)
  intro g' L' h' FG' F' N' B' X' T'
  have hT' : CodeHd g' 222 218 := hT.keeps FG'.keep
  have hlv0 : 0 ≤ k.fdiv ↑cns.length := Int.fdiv_nonneg hk0 (by omega)
  have hlv1 : k.fdiv ↑cns.length ≤ 200 := by
    have h1 : k.fdiv ↑cns.length = k / ↑cns.length := Int.fdiv_eq_ediv_of_nonneg _ (by omega)
    have h2 : k / (cns.length : Int) ≤ k := Int.ediv_le_self _ hk0
    omega
  (try dsimp only)
  (try k_fold)
  k_steps
  rename News _ _ _ _ => N9
  refine' post _ _ _ _ _ (Int.fmod_nonneg_of_pos _ (by omega)) (Int.fmod_lt_of_pos _ (by omega)) (by k_asm) (news_sub N9 ?zz9)
  case zz9 => ktr_rel
end
def TakeAt (K : Frag) (f0 : Addr) (imm : List (Addr × Obj)) (f pl : Addr) : Prop :=
  ∃ c' pc cc ce o1 o2 oc cvs cns n2 q dc pm ct vs' t', imm = [(f, fnMade (Str.ofString "take") q (takeB K f0).1 (takeB K f0).2.1 (takeB K f0).2.2 [(Str.ofString "place", pc), (Str.ofString "cells", cc)] dc pm c' ct), (c', oc), (pc, o1), (cc, o2), (ce, listOf cvs.toArray n2)] ∧
    oc.data = .fields vs' ∧ vs'[1]? = some (.str q t') ∧ o1.data = .cell (some (.ref pl)) ∧ o2.data = .cell (some (.ref ce)) ∧ IntsAre cvs cns ∧ cns.length ≤ 40 ∧ 1 ≤ cns.length ∧ (@Ne Nat f pl ∧ @Ne Nat c' pl ∧ @Ne Nat pc pl ∧ @Ne Nat cc pl ∧ @Ne Nat ce pl)
section
variable {w : World} {p : Program} {loose : List Str} {mean : ExcName → Option Value} {mg mb : Str → Option Value}
    {dp un : Nat} {gd : Option (List Code)} {cn : Str} {cs : Scope} {a : Addr} {ccd : Value} {cl : List (Str × Addr)} {outer : List Env} {A₀ : Around} {base h₀ : Heap} {L : Addr} {m : Str → Option Value} {news imm rest : List (Addr × Obj)} {s : Shared}
    {Q E : Value → Shared → Prop}
theorem p_take {f pl : Addr} {k lim : Int} {t0 tl : Tok} {n : Nat}
    (B : Below A₀ base outer h₀) (F : Fr h₀ L s.heap m) (X : (Mine.hd1.heap_39 w.params).In h₀) (N : News h₀ L s.heap news) (T : Top p loose mean mg mb h₀) (hk : cs.kind = .function)
    (hd : dp + 60 < recursionLimit) (hu : un + 600 < cLine) (hT : CodeHd h₀ 222 218) (hA : TakeAt (Mine.hd1.heap_39 w.params) 223 imm f pl) (pk : Pick (pl, listOf [.int k t0].toArray n) news rest) (hi : ∀ q ∈ imm, q ∈ rest)
    (ho : OwnOff rest [pl]) (hk0 : 0 ≤ k) (hk1 : k ≤ 200) (hl0 : 1 ≤ lim) (hl1 : lim ≤ 256)
    (post : ∀ r t t0' h' tk', 0 ≤ r → r < lim → Fr h₀ L h' m → News h₀ L h' ((pl, listOf [.int (k + 1) t0'].toArray n) :: rest) → Q (.int r t) { s with heap := h', toks := tk' }) :
    wpAny (model PySem.Challenge.rw_pb0233_01.row.prog w) (ktrTop dp un gd cn cs L a ccd cl outer) (call (.ref f) [.int lim tl]) Q E s := by
  obtain ⟨c', pc, cc, ce, o1, o2, oc, cvs, cns, n2, q, dc, pm, ct, vs', t', rfl, d1, d2, hp, hc, hI, hn, hn1, hne⟩ := hA
  have N1 := pk.news N
  refine c_take (rest := rest) (q := q) (dc := dc) (pm := pm) (ct := ct) (pc := pc) (cc := cc) (n := n) (n2 := n2) (o1 := o1) (o2 := o2) (oc := oc) (cvs := cvs) (c' := c') (pl := pl) (ce := ce) (t0 := t0) B F X (fun x hx => ?_) T hk hT hd hu d1 d2 hp hc hI hn hn1 hk0 hk1 hl0 hl1 ho hne (fun r t t0' h' tk' h0 h1 F' N' => post r t t0' h' tk' h0 h1 F' fun x hx => N' x ?_)
  · have hi' := fun q hq => N1 q (List.mem_cons_of_mem _ (hi q hq))
    rcases List.mem_cons.mp hx with rfl | hx
    · exact hi' _ (by simp)
    · rcases List.mem_cons.mp hx with rfl | hx
      · exact hi' _ (by simp)
      · rcases List.mem_cons.mp hx with rfl | hx
        · exact hi' _ (by simp)
        · rcases List.mem_cons.mp hx with rfl | hx
          · exact hi' _ (by simp)
          · rcases List.mem_cons.mp hx with rfl | hx
            · exact N1 _ (.head _)
            · rcases List.mem_cons.mp hx with rfl | hx
              · exact hi' _ (by simp)
              · exact N1 _ (.tail _ hx)
  · rcases List.mem_cons.mp hx with rfl | hx
    · exact .tail _ (.tail _ (.tail _ (.tail _ (.head _))))
    · exact .tail _ (.tail _ (.tail _ (.tail _ (.tail _ (.tail _ hx)))))
local macro_rules | `(tactic| k_all) => `(tactic| ((fail_if_success (refine List.forall_mem_cons.mpr ?_)); (fail_if_success (exact List.forall_mem_nil _)); first | exact all_succ1 (by assumption) | exact all_succ2 (by assumption)))
theorem c_taker {sc : Addr} {svs : List Value} {ns : List Int}
    (B : Below A₀ base outer h₀) (F : Fr h₀ L s.heap m) (X : (Mine.hd1.heap_39 w.params).In h₀) (N : News h₀ L s.heap ((218, tabObj #[]) :: rest)) (C : CodeHd h₀ 222 218) (ho : OwnOff rest [218]) (T : Top p loose mean mg mb h₀) (hk : cs.kind = .function)
    (hd : dp + 60 < recursionLimit) (hu : un + 600 < cLine) (hl : h₀.IsList sc svs.toArray) (hI : IntsAre svs ns) (hn : ns.length ≤ 63)
    (post : ∀ f imm pl t0 n ps h' tk', TakeAt (Mine.hd1.heap_39 w.params) 223 imm f pl → (∀ q ∈ imm, ∀ x ∈ (218, tabObj #[]) :: rest, x.1 < q.1) → (∀ x ∈ (218, tabObj #[]) :: rest, x.1 < pl) → (∀ q ∈ imm, q.1 ≠ pl) → Fr h₀ L h' m →
      News h₀ L h' ((pl, listOf [.int 0 t0].toArray n) :: (218, tabObj ps) :: (rest ++ imm)) → Q (.ref f) { s with heap := h', toks := tk' }) :
    wpAny (model PySem.Challenge.rw_pb0233_01.row.prog w) (ktrTop dp un gd cn cs L a ccd cl outer) (call (.ref 223) [.ref sc]) Q E s := by
  refine wpAny_call ?_
  k_dflt (refine' code_defC ?k1 ?k2 ?k3 ?k4 ?k5 ?kA ?kF ?kK ?k6 ?k7 ?k8 ?k9 ?kB ?kN ?_ ?c2 ?c3 ?c4; (case kA => exact rfl); (case kF => exact rfl); (case kK => assumption); (case k1 => k_asm); (case k2 => k_asm); (case k3 => k_asm); (case k4 => k_asm); (case k5 => k_asm); (case k6 => k_is); (case k7 => k_is); (case k8 => ktr_room); (case k9 => exact BindsTo.of_eq rfl); (case kB => exact rfl); (case kN => decide); (case c2 => exact rfl); (case c3 => exact rfl); (case c4 => exact rfl); k_whole)
  intro g' L' h' tk' cells' FG' F' N' Y' B' X' T' l1
  have l0 := allLt_of l1
  simp only [AllLt] at l0
  obtain ⟨l00, l0⟩ := l0
  clear l1
  k_cells Y'
  (try simp only [List.cons_append, List.nil_append] at N')
  (try dsimp only)
  have hl' : g'.IsList sc svs.toArray := hl.at fun o e => FG'.keep _ o e
  have C' : CodeHd g' 222 218 := C.keeps FG'.keep
  (try k_fold)
  k_steps
  · rename News _ _ _ _ => N9
    rename (_ = Data.fields _) => hf1
    rename (getElem? _ 1 = some _) => hf2
    rename (Obj.data _ = Data.cell (some _)) => hcp
    revert hcp
    rename (Obj.data _ = Data.cell (some _)) => hcc
    intro hcp
    (repeat (with_reducible rename (_ < _ ∧ _) => l9; cases l9))
    refine' post _ [(_, _), (_, _), (_, _), (_, _), (_, _)] _ _ _ _ _ _ ⟨_, _, _, _, _, _, _, _, [1], _, _, _, _, _, _, _, rfl, hf1, hf2, hcp, hcc, ?zi1A, ?zi2A, ?zi3A, ?zi4A⟩ ?zaA ?zbA ?zcA (by k_asm) (news_sub N9 ?znA)
    case znA => (refine List.forall_mem_cons.mpr ⟨?_, List.forall_mem_cons.mpr ⟨?_, List.forall_mem_append.mpr ⟨?_, ?_⟩⟩⟩); k_mem; k_mem; ktr_rel; ktr_rel
    case zi1A => first | exact .cons _ _ .nil | assumption
    case zi2A => simp only [List.length_cons, List.length_nil, List.length_take]; omega
    case zi3A => simp only [List.length_cons, List.length_nil]; omega
    case zi4A => (refine ⟨?_, ?_, ?_, ?_, ?_⟩ <;> k_ne)
    case zaA => (repeat' (first | exact List.forall_mem_nil _ | (refine List.forall_mem_cons.mpr ⟨?_, ?_⟩) | exact lt_all (by assumption) | exact lt_all (allLt_trans (by assumption) (by assumption)) | exact lt_all (allLt_trans (d := L') (by omega) l0) | (show @LT.lt Nat _ _ _; omega) | (show @Ne Nat _ _; omega)))
    case zbA => (repeat' (first | exact List.forall_mem_nil _ | (refine List.forall_mem_cons.mpr ⟨?_, ?_⟩) | exact lt_all (by assumption) | exact lt_all (allLt_trans (by assumption) (by assumption)) | exact lt_all (allLt_trans (d := L') (by omega) l0) | (show @LT.lt Nat _ _ _; omega) | (show @Ne Nat _ _; omega)))
    case zcA => (repeat' (first | exact List.forall_mem_nil _ | (refine List.forall_mem_cons.mpr ⟨?_, ?_⟩) | exact lt_all (by assumption) | exact lt_all (allLt_trans (by assumption) (by assumption)) | exact lt_all (allLt_trans (d := L') (by omega) l0) | (show @LT.lt Nat _ _ _; omega) | (show @Ne Nat _ _; omega)))
  · rename News _ _ _ _ => N9
    rename (_ = Data.fields _) => hf1
    rename (getElem? _ 1 = some _) => hf2
    rename (Obj.data _ = Data.cell (some _)) => hcp
    revert hcp
    rename (Obj.data _ = Data.cell (some _)) => hcc
    intro hcp
    (repeat (with_reducible rename (_ < _ ∧ _) => l9; cases l9))
    refine' post _ [(_, _), (_, _), (_, _), (_, _), (_, _)] _ _ _ _ _ _ ⟨_, _, _, _, _, _, _, _, (List.take 40 ns), _, _, _, _, _, _, _, rfl, hf1, hf2, hcp, hcc, ?zi1B, ?zi2B, ?zi3B, ?zi4B⟩ ?zaB ?zbB ?zcB (by k_asm) (news_sub N9 ?znB)
    case znB => (refine List.forall_mem_cons.mpr ⟨?_, List.forall_mem_cons.mpr ⟨?_, List.forall_mem_append.mpr ⟨?_, ?_⟩⟩⟩); k_mem; k_mem; ktr_rel; ktr_rel
    case zi1B => first | exact .cons _ _ .nil | assumption
    case zi2B => simp only [List.length_cons, List.length_nil, List.length_take]; omega
    case zi3B => exact List.length_pos_iff.mpr (of_decide_eq_false (by assumption))
    case zi4B => (refine ⟨?_, ?_, ?_, ?_, ?_⟩ <;> k_ne)
    case zaB => (repeat' (first | exact List.forall_mem_nil _ | (refine List.forall_mem_cons.mpr ⟨?_, ?_⟩) | exact lt_all (by assumption) | exact lt_all (allLt_trans (by assumption) (by assumption)) | exact lt_all (allLt_trans (d := L') (by omega) l0) | (show @LT.lt Nat _ _ _; omega) | (show @Ne Nat _ _; omega)))
    case zbB => (repeat' (first | exact List.forall_mem_nil _ | (refine List.forall_mem_cons.mpr ⟨?_, ?_⟩) | exact lt_all (by assumption) | exact lt_all (allLt_trans (by assumption) (by assumption)) | exact lt_all (allLt_trans (d := L') (by omega) l0) | (show @LT.lt Nat _ _ _; omega) | (show @Ne Nat _ _; omega)))
    case zcB => (repeat' (first | exact List.forall_mem_nil _ | (refine List.forall_mem_cons.mpr ⟨?_, ?_⟩) | exact lt_all (by assumption) | exact lt_all (allLt_trans (by assumption) (by assumption)) | exact lt_all (allLt_trans (d := L') (by omega) l0) | (show @LT.lt Nat _ _ _; omega) | (show @Ne Nat _ _; omega)))
theorem p_taker {sc : Addr} {svs : List Value} {ns : List Int}
    (B : Below A₀ base outer h₀) (F : Fr h₀ L s.heap m) (X : (Mine.hd1.heap_39 w.params).In h₀) (N : News h₀ L s.heap news) (C : CodeHd h₀ 222 218) (pk : Pick (218, tabObj #[]) news rest) (ho : OwnOff rest [218]) (T : Top p loose mean mg mb h₀) (hk : cs.kind = .function)
    (hd : dp + 60 < recursionLimit) (hu : un + 600 < cLine) (hl : h₀.IsList sc svs.toArray) (hI : IntsAre svs ns) (hn : ns.length ≤ 63)
    (post : ∀ f imm pl t0 n ps h' tk', TakeAt (Mine.hd1.heap_39 w.params) 223 imm f pl → OwnOff imm (pl :: 218 :: rest.map (·.1)) → (∀ x ∈ (218, tabObj #[]) :: rest, x.1 < pl) → Fr h₀ L h' m →
      News h₀ L h' ((pl, listOf [.int 0 t0].toArray n) :: (218, tabObj ps) :: (rest ++ imm)) → Q (.ref f) { s with heap := h', toks := tk' }) :
    wpAny (model PySem.Challenge.rw_pb0233_01.row.prog w) (ktrTop dp un gd cn cs L a ccd cl outer) (call (.ref 223) [.ref sc]) Q E s :=
  c_taker B F X (pk.news N) C ho T hk hd hu hl hI hn fun f imm pl t0 n ps h' tk' h1 h2 h3 h4 F' N' => post f imm pl t0 n ps h' tk' h1 (fun q hq b hb => by
    rcases List.mem_cons.mp hb with rfl | hb
    · exact h4 q hq
    · rcases List.mem_cons.mp hb with rfl | hb
      · exact Ne.symm (Nat.ne_of_lt (h2 q hq (218, tabObj #[]) (.head _)))
      · obtain ⟨x, hx, rfl⟩ := List.mem_map.mp hb
        exact Ne.symm (Nat.ne_of_lt (h2 q hq x (.tail _ hx)))) h3 F' N'
end
theorem off_L5 : True := by
  w_top off
  trivial
def WordsAre (vs : List Value) (ys : List Str) : Prop := StrsAre vs ys
section
variable {w : World} {p : Program} {loose : List Str} {mean : ExcName → Option Value} {mg mb : Str → Option Value}
    {dp un : Nat} {gd : Option (List Code)} {cn : Str} {cs : Scope} {a : Addr} {ccd : Value} {cl : List (Str × Addr)} {outer : List Env} {A₀ : Around} {base h₀ : Heap} {L : Addr} {m : Str → Option Value} {news n1 rest : List (Addr × Obj)} {s : Shared}
    {Q E : Value → Shared → Prop}
theorem p_played {bl wl : Addr} {bvs wvs : List Value} {B0 : List Bs} {Ws : List Str} {nb nw : Nat}
    (B : Below A₀ base outer h₀) (F : Fr h₀ L s.heap m) (X : (Mine.hd1.heap_39 w.params).In h₀) (N : News h₀ L s.heap news) (q1 : Pick (bl, listOf bvs.toArray nb) news n1) (q2 : Pick (wl, listOf wvs.toArray nw) n1 rest) (T : Top p loose mean mg mb h₀) (hk : cs.kind = .function)
    (hd : dp + 60 < recursionLimit) (hu : un + 600 < cLine)
    (hB : BAre bvs B0) (hBl : B0.length ≤ 64) (hBs : SzAll B0) (hWs : WordsAre wvs Ws) (hWl : Ws.length ≤ 64)
    (hW : ∀ W ∈ Ws, W = Str.ofString "read" ∨ W = Str.ofString "other" ∨ W = Str.ofString "put" ∨ W = Str.ofString "long") (hne : @Ne Nat bl wl)
    (post : ∀ (r to du lf rt : Addr) (tv dv vs us : List Value) (R : List Bs) (ds : List Dat) (z : Int × Bool × Int × Int) (tl : List (Addr × Obj)) (kt kd : Nat) h' tk', play B0 Ws = (ds, R, z) → DatAll tl tv ds → DatAll tl dv ds → BAre vs R → BAre us R → R.length = B0.length → Fr h₀ L h' m →
      News h₀ L h' ((r, tupO [.ref to, .ref du, .ref lf, .ref rt]) :: (to, listOf tv.toArray kt) :: (du, listOf dv.toArray kd) :: (lf, tupO vs) :: (rt, tupO us) :: (bl, listOf bvs.toArray nb) :: (wl, listOf wvs.toArray nw) :: (rest ++ tl)) → Q (.ref r) { s with heap := h', toks := tk' }) :
    wpAny (model PySem.Challenge.rw_pb0233_01.row.prog w) (ktrTop dp un gd cn cs L a ccd cl outer) (call (.ref 249) [.ref bl, .ref wl]) Q E s := by
  have N1 := q1.news N
  exact c_played B F X (fun x hx => by
    rcases List.mem_cons.mp hx with rfl | hx
    · exact N1 _ (.head _)
    · exact N1 _ (.tail _ (q2.mem hx))) T hk hd hu hB hBl hBs hWs hWl hW hne post
end
section
open PySem.Calls
inductive PairsAt (h : Heap) : List Addr → List (Value × Value) → Prop
  | nil : PairsAt h [] []
  | cons {r : Addr} {p : Value × Value} {rs : List Addr} {ps : List (Value × Value)} : IsTup h r #[p.1, p.2] → PairsAt h rs ps → PairsAt h (r :: rs) (p :: ps)
theorem PairsAt.length {h : Heap} {rs : List Addr} {ps : List (Value × Value)} (x : PairsAt h rs ps) : rs.length = ps.length := by
  induction x with
  | nil => rfl
  | cons _ _ ih => simp [ih]
theorem PairsAt.get {h : Heap} {rs : List Addr} {ps : List (Value × Value)} (x : PairsAt h rs ps) : ∀ {i : Nat} {r : Addr}, rs[i]? = some r → ∃ p, ps[i]? = some p ∧ IsTup h r #[p.1, p.2] := by
  induction x with
  | nil => intro i r e; simp at e
  | cons h1 _ ih =>
    intro i r e
    cases i with
    | zero => simp at e; subst e; exact ⟨_, by simp, h1⟩
    | succ i => simp at e; simpa using ih e
section
variable {prog : Program} {w : World} {A : Around} {E : Value → Shared → Prop} {s : Shared} {h₀ : Heap} {L : Addr} {m : Str → Option Value} {env : Env}
theorem letOwned_tupiter {elts : List PySem.Expr} {x1} {pos : Pos} {I l T : Addr} {i : Nat} {Q : Unit → Shared → Prop} (hit : s.heap.IsTupleIter I l i) (hQ : Q () s) :
    wpAny (model prog w) A (letOwnedTupleGo (.Tuple elts x1 pos) (.ref I) (.ref T)) Q E s := by
  obtain ⟨o, ho, hc, hd⟩ := hit
  have hn : (["enumerate", "zip", "dict_itemiterator", "dict_reverseitemiterator", "odict_iterator", "itertools.zip_longest", "itertools.pairwise"].contains "tuple_iterator") = false := by decide
  unfold letOwnedTupleGo
  refine wpAny_bind (wpAny_load ho ?_)
  rw [hc, hd]
  refine bm_if_false (c := ["enumerate", "zip", "dict_itemiterator", "dict_reverseitemiterator", "odict_iterator", "itertools.zip_longest", "itertools.pairwise"].contains "tuple_iterator" && (#[.ref l, .int i 0] : Array Value)[0]? == some (rawInt T)) ?_ (wpAny_pure hQ)
  rw [hn, Bool.false_and]
def SrcPK (A : Around) (h₀ : Heap) (L : Addr) (m : Str → Option Value) (sel : Value × Value → Value) (Q : Value → Shared → Prop) (xv : Value) (s₁ : Shared) : Prop :=
  ∃ (a : Addr) (refs : List Addr) (ps : List (Value × Value)) (news : List (Addr × Obj)), xv = .ref a ∧ A.handled = none ∧ Fr h₀ L s₁.heap m ∧ News h₀ L s₁.heap news ∧ h₀.IsTuple a (refs.map Value.ref).toArray ∧ PairsAt h₀ refs ps ∧ refs.length ≤ sizeLine ∧
    ∀ D h tk, Fr h₀ L h m → News h₀ L h ((D, LCg.lst (ps.map sel)) :: news) → (∀ p ∈ news, p.1 < D) → Q (.ref D) { s₁ with heap := h, toks := tk }
theorem ListComp_PK {iter : PySem.Expr} {x x₂ z : Str} {px px₂ tp pz : Pos} {tk} {scope : Scope} {cl : List (Str × Addr)} {pos : Pos} {Q : Value → Shared → Prop} (sel : Value × Value → Value) (_F₀ : Fr h₀ L s.heap m)
    (hclos : closureFor scope env = pure cl) (hcell : ∀ y ∈ scope.names, y.2 ≠ .cell) (hkind : scope.kind = .function)
    (hnames : ∀ y ∈ scope.names, y.2 = .local → scope.names.lookup y.1 = some .local) (hx : scope.names.lookup x = some .local) (hx₂ : scope.names.lookup x₂ = some .local) (hxx : x ≠ x₂)
    (hz : (z = x ∧ ∀ p, sel p = p.1) ∨ (z = x₂ ∧ ∀ p, sel p = p.2)) (hzd : (z == ("__debug__" : Str)) = false)
    (h : wpAny (model prog w) A (eval iter env) (SrcPK A h₀ L m sel Q) E s)
    (hs : ∀ x, foldedSetIterable iter env x = pure x := by intro _; rfl) :
    wpAny (model prog w) A (eval (.ListComp (.Name z pz) [⟨.Tuple [.Name x px, .Name x₂ px₂] tk tp, iter, [], 0⟩] scope pos) env) Q E s := by
  rw [eval_ListComp]
  refine wpAny_comprehension_free (use := none) rfl hs hclos hkind hnames (wpAny_mono h (fun xv s₁ h₁ => ?_) fun _ _ e => e)
  obtain ⟨a, refs, ps, news, rfl, hh, F, N, hT, hP, hsz, fin⟩ := h₁
  have hTs : s₁.heap.IsTuple a (refs.map Value.ref).toArray := hT.at fun o e => F.keep _ o e
  refine wpAny_pyIter_tuple hTs ?_
  refine wpAny_newObj_type (wpAny_newFunctionEnv hcell (by intro y hy; simp at hy) (fun h₁ hns₁ hsb₁ => ?_) hkind)
  dsimp only at hns₁ hsb₁ ⊢
  generalize hH1 : s₁.heap.push { cls := .type "tuple_iterator", data := .fields #[.ref a, .int 0 0] } = H1 at hns₁ hsb₁ ⊢
  generalize hH2 : H1.push { cls := .type "list", dict := none, data := .seq ([] : List Value).toArray } = H2 at hns₁ hsb₁ ⊢
  have hD : H1.objs.size = s₁.heap.objs.size + 1 := by rw [← hH1, Heap.size_push]
  have hC : H2.objs.size = H1.objs.size + 1 := by rw [← hH2, Heap.size_push]
  have hID : s₁.heap.objs.size ≠ H1.objs.size := by rw [hD]; exact Nat.ne_of_lt (Nat.lt_succ_self _)
  have hIC : s₁.heap.objs.size ≠ H2.objs.size := by rw [hC, hD]; exact Nat.ne_of_lt (Nat.lt_succ_of_lt (Nat.lt_succ_self _))
  have hDC : H1.objs.size ≠ H2.objs.size := by rw [hC]; exact Nat.ne_of_lt (Nat.lt_succ_self _)
  have upH : ∀ b o, s₁.heap.get? b = some o → H2.get? b = some o := fun b o e => hH2 ▸ Heap.get?_push_of_some _ (hH1 ▸ Heap.get?_push_of_some _ e)
  have low : ∀ b o, s₁.heap.get? b = some o → b ≠ H2.objs.size ∧ b ≠ H1.objs.size ∧ b ≠ s₁.heap.objs.size := fun b o e => by
    have hlt := Heap.lt_size e
    exact ⟨Nat.ne_of_lt (by rw [hC, hD]; exact Nat.lt_succ_of_lt (Nat.lt_succ_of_lt hlt)), Nat.ne_of_lt (by rw [hD]; exact Nat.lt_succ_of_lt hlt), Nat.ne_of_lt hlt⟩
  have old : ∀ b o, s₁.heap.get? b = some o → h₁.get? b = some o := fun b o e => hsb₁.extBut b o (low b o e).1 (Heap.get?_push_of_some _ (upH b o e))
  have hacc : h₁.get? H1.objs.size = some (LCg.lst []) := hsb₁.extBut _ _ hDC (Heap.get?_push_of_some _ (hH2 ▸ Heap.get?_push_size _ rfl))
  have hit₁ : h₁.IsTupleIter s₁.heap.objs.size a 0 := ⟨_, hsb₁.extBut _ _ hIC (Heap.get?_push_of_some _ (hH2 ▸ Heap.get?_push_of_some _ (hH1 ▸ Heap.get?_push_size _ rfl))), rfl, rfl⟩
  have fresh₀ : ∀ b, s₁.heap.objs.size ≤ b → h₀.get? b = none := fun b hb => by
    cases e : h₀.get? b with
    | none => rfl
    | some o' => exact absurd (Heap.lt_size (F.keep b o' e)) (Nat.not_lt.mpr hb)
  have hD₀ : h₀.get? H1.objs.size = none := fresh₀ _ (by rw [hD]; exact Nat.le_succ _)
  have hC₀ : h₀.get? H2.objs.size = none := fresh₀ _ (by rw [hC, hD]; exact Nat.le_succ_of_le (Nat.le_succ _))
  have hI₀ : h₀.get? s₁.heap.objs.size = none := fresh₀ _ (Nat.le_refl _)
  have hLlt : L < s₁.heap.objs.size := F.ns.lt
  have hDL : H1.objs.size ≠ L := Nat.ne_of_gt (by rw [hD]; exact Nat.lt_succ_of_lt hLlt)
  have hCL : H2.objs.size ≠ L := Nat.ne_of_gt (by rw [hC, hD]; exact Nat.lt_succ_of_lt (Nat.lt_succ_of_lt hLlt))
  have hIL : L ≠ s₁.heap.objs.size := Nat.ne_of_lt hLlt
  have ha₀ : a ≠ s₁.heap.objs.size := by obtain ⟨o, e, _⟩ := hTs; exact (low a o e).2.2
  have W := Walks.tuple (prog := prog) (w := w) hh s₁.heap.objs.size a ha₀ (refs.map Value.ref).toArray
  have hsize : (refs.map Value.ref).toArray.size = refs.length := by simp
  rw [hsize] at W
  have hpl := hP.length
  have hselx : ∀ (m₂ : Str → Option Value) (p : Value × Value), (fun y => if y = x₂ then some p.2 else (fun y => if y = x then some p.1 else m₂ y) y) z = some (sel p) := by
    intro m₂ p
    rcases hz with ⟨rfl, hp⟩ | ⟨rfl, hp⟩
    · rw [hp]; simp [hxx]
    · rw [hp]; simp
  have hzl : scope.names.lookup z = some .local := by
    rcases hz with ⟨rfl, _⟩ | ⟨rfl, _⟩
    · exact hx
    · exact hx₂
  have loop : ∀ (RR : Result → Shared → Prop) (s₃ : Shared), (∀ h tk m', Fr h₀ L h m → News h₀ L h ((H1.objs.size, LCg.lst (ps.map sel)) :: news) → h.Ns H2.objs.size m' → RR (.ok .next) { s₁ with heap := h, toks := tk }) → s₃ = { s₁ with heap := h₁, toks := s₁.toks + ([] : List (Str × Value)).length } →
      codeAny (model prog w) A (.compLoop (.ListComp (.Name z pz) [⟨.Tuple [.Name x px, .Name x₂ px₂] tk tp, iter, [], 0⟩] scope pos) 0 (.ref s₁.heap.objs.size) (.ref H1.objs.size) (compEnvC scope cl H2.objs.size env)) RR s₃ := by
    rintro RR s₃ hRR rfl
    refine LCp.codeAny_compLoop_pair
      (fun k s' => ∃ h' tk' i m', s' = { s₁ with heap := h', toks := tk' } ∧ i ≤ refs.length ∧ k = refs.length + 1 - i ∧ (h'.IsTupleIter s₁.heap.objs.size a i ∧ h'.IsTuple a (refs.map Value.ref).toArray) ∧ Fr h₀ L h' m ∧ h'.Ns H2.objs.size m' ∧ News h₀ L h' ((H1.objs.size, LCg.lst ((ps.take i).map sel)) :: news))
      ?_ (refs.length + 1) ⟨h₁, _, 0, _, rfl, Nat.zero_le _, rfl, ⟨hit₁, hTs.at fun o e => old _ o e⟩, F.keeps old, hns₁, ?_⟩
    · rintro k s' ⟨h', tk', i, m', rfl, hi, rfl, hst, F', hn', N'⟩
      by_cases hlt : i < refs.length
      · refine W.item i _ _ _ hlt hst fun v h₂ tk₂ hv hst₂ hk₂ => ?_
        obtain ⟨r, hr, rfl⟩ : ∃ r, refs[i]? = some r ∧ v = .ref r := by
          have hv' : (refs.map Value.ref)[i]? = some v := by simpa using hv
          rw [List.getElem?_map] at hv'
          cases e : refs[i]? with
          | none => rw [e] at hv'; cases hv'
          | some r => rw [e] at hv'; exact ⟨r, rfl, (Option.some.inj hv').symm⟩
        obtain ⟨p, hp, ht⟩ := hP.get hr
        have keep₂ : ∀ b o, h₀.get? b = some o → h₂.get? b = some o := fun b o e => hk₂ b o (fun hb => by rw [List.mem_singleton.mp hb, hI₀] at e; cases e) (F'.keep b o e)
        have ht₂ : IsTup h₂ r #[p.1, p.2] := let ⟨o, e, q⟩ := ht; ⟨o, keep₂ _ _ e, q⟩
        refine letOwned_tupiter hst₂.1 ?_
        refine assign_Tuple_tuple hh ht₂ rfl rfl fun h₅ he => ?_
        have he' : ∀ b o, h₂.get? b = some o → h₅.get? b = some o := fun b o e => he b o (Nat.ne_of_lt (Heap.lt_size e)) e
        have hn₅ : h₅.Ns H2.objs.size m' := (hn'.at' fun o e => hk₂ _ o (by simpa using Ne.symm hIC) e).at' fun o e => he' _ o e
        refine assignInOrder_cons (wpAny_assign_Name (wpAny_storeName_local (lookup_relabel_local hx) hn₅ (fun h₆ hn₆ hs₆ => ?_) (by simp [compEnvC, relabel, hkind])))
        refine assignInOrder_cons (wpAny_assign_Name (wpAny_storeName_local (lookup_relabel_local hx₂) hn₆ (fun h₃ hn₃ hs₃ => ?_) (by simp [compEnvC, relabel, hkind])))
        refine assignInOrder_nil ?_
        have old3 : ∀ b o, b ≠ H2.objs.size → h₂.get? b = some o → h₃.get? b = some o := fun b o hb e => hs₃.extBut b o hb (hs₆.extBut b o hb (he' b o e))
        refine ldVarK hn₃ (hselx _ p) ?_ (by simp [compEnvC, relabel, hkind]) (lookup_relabel_local hzl) hzd
        have N₂ : News h₀ L h₂ ((H1.objs.size, LCg.lst ((ps.take i).map sel)) :: news) := LCg.news_but N' hk₂ fun q hq => by
          rcases List.mem_cons.mp hq with rfl | hq
          · exact Ne.symm hID
          · exact (low _ _ (N q hq).1).2.2
        have zD : h₃.get? H1.objs.size = some (LCg.lst ((ps.take i).map sel)) := old3 _ _ hDC (N₂ _ (.head _)).1
        have hips : i < ps.length := by rw [← hpl]; exact hlt
        refine append_at (hsz := by show ((ps.take i).map sel).toArray.size ≤ sizeLine; rw [List.size_toArray, List.length_map, List.length_take]; exact Nat.le_trans (Nat.min_le_left _ _) (Nat.le_trans (Nat.le_of_lt hlt) hsz)) zD fun h₇ hs₇ hD₇ => ?_
        have F₃ : Fr h₀ L h₃ m := (((LCg.fr_but F' hk₂ hIL hI₀).keeps he').change hs₆ hCL hC₀).change hs₃ hCL hC₀
        refine ⟨refs.length + 1 - (i + 1), by omega, h₇, _, i + 1, _, rfl, hlt, rfl, ⟨?_, ?_⟩, F₃.change hs₇ hDL hD₀, hn₃.sameBut hs₇ (Ne.symm hDC), fun q hq => ?_⟩
        · exact (hst₂.1.at fun o e => old3 _ o hIC e).at fun o e => hs₇.extBut _ o hID e
        · have haD : a ≠ H1.objs.size := by obtain ⟨o, e, _⟩ := hTs; exact (low a o e).2.1
          have haC : a ≠ H2.objs.size := by obtain ⟨o, e, _⟩ := hTs; exact (low a o e).1
          exact (hst₂.2.at fun o e => old3 _ o haC e).at fun o e => hs₇.extBut _ o haD e
        · rcases List.mem_cons.mp hq with rfl | hq
          · refine ⟨hD₇.trans (congrArg some ?_), hDL, hD₀⟩
            rw [List.take_add_one, hp, Option.toList_some, List.map_append]
            have := LCg.lst_snoc ((ps.take i).map sel) (sel p)
            rw [List.length_map, List.length_take, Nat.min_eq_left (Nat.le_of_lt hips)] at this ⊢
            exact this
          · have q1 := N₂ q (.tail _ hq)
            exact ⟨hs₇.extBut _ _ (low _ _ (N q hq).1).2.1 (old3 _ _ (low _ _ (N q hq).1).1 q1.1), q1.2⟩
      · obtain rfl : i = refs.length := Nat.le_antisymm hi (Nat.not_lt.mp hlt)
        refine W.done _ _ _ hst fun h₂ tk₂ hk₂ => ?_
        rw [List.take_of_length_le (by rw [hpl]; exact Nat.le_refl _)] at N'
        exact hRR h₂ tk₂ m' (LCg.fr_but F' hk₂ hIL hI₀) (LCg.news_but N' hk₂ fun q hq => by
          rcases List.mem_cons.mp hq with rfl | hq
          · exact Ne.symm hID
          · exact (low _ _ (N q hq).1).2.2) (hn'.at' fun o e => hk₂ _ o (by simpa using Ne.symm hIC) e)
    · intro p hp
      rcases List.mem_cons.mp hp with rfl | hp
      · exact ⟨hacc, hDL, hD₀⟩
      · exact ⟨old _ _ (N p hp).1, (N p hp).2⟩
  refine codeAny_compStart_list (loop _ _ ?_ rfl) (W.self 0 _ _ _ ⟨hit₁, hTs.at fun o e => old _ o e⟩ (loop _ _ ?_ rfl))
  all_goals
    intro h tk' m' F' N' hn
    refine ⟨m', hn, fun h'' hs'' => fin _ h'' tk' (F'.change hs'' hCL hC₀) (fun q hq => ?_) fun q hq => ?_⟩
    · refine ⟨hs''.extBut _ _ ?_ (N' q hq).1, (N' q hq).2⟩
      rcases List.mem_cons.mp hq with rfl | hq
      · exact hDC
      · exact (low _ _ (N q hq).1).1
    · have := Heap.lt_size (N q hq).1
      show q.1 < H1.objs.size
      rw [hD]; exact Nat.lt_succ_of_lt this
end
def kPairsOf (K : Frag) : List Addr → Option (List (Value × Value))
  | [] => some []
  | r :: rs => match K.lookup r, kPairsOf K rs with
    | some ⟨.type "tuple", _, .seq ⟨[v₁, v₂]⟩ _, _⟩, some ps => some ((v₁, v₂) :: ps)
    | _, _ => none
theorem kPairs_at {K : Frag} {h : Heap} (X : K.In h) : ∀ {refs : List Addr} {ps : List (Value × Value)}, kPairsOf K refs = some ps → PairsAt h refs ps
  | [], ps, e => by
    simp only [kPairsOf, Option.some.injEq] at e
    subst e; exact .nil
  | r :: rs, ps, e => by
    simp only [kPairsOf] at e
    split at e
    · rename_i v₁ v₂ n sl ps' h1 h2
      simp only [Option.some.injEq] at e
      subst e
      exact .cons ⟨_, X _ _ h1, rfl, _, rfl⟩ (kPairs_at X h2)
    · cases e
theorem srcPK_ofK {A : Around} {h₀ : Heap} {L : Addr} {m : Str → Option Value} {sel : Value × Value → Value} {Q : Value → Shared → Prop} {s₁ : Shared} {K : Frag} {a : Addr} {refs : List Addr} {ps : List (Value × Value)} {news : List (Addr × Obj)} {dd : Option Addr} {n : Nat} {sl : Array (Option Value)} {vs : List Value}
    (hh : A.handled = none) (F : Fr h₀ L s₁.heap m) (N : News h₀ L s₁.heap news) (X : K.In h₀) (hl : K.lookup a = some ⟨.type "tuple", dd, .seq vs.toArray n, sl⟩) (hr : vs = refs.map Value.ref) (hp : kPairsOf K refs = some ps) (hsz : refs.length ≤ sizeLine)
    (fin : ∀ D h tk, Fr h₀ L h m → News h₀ L h ((D, LCg.lst (ps.map sel)) :: news) → (∀ p ∈ news, p.1 < D) → Q (.ref D) { s₁ with heap := h, toks := tk }) : SrcPK A h₀ L m sel Q (.ref a) s₁ :=
  ⟨a, refs, ps, news, rfl, hh, F, N, ⟨_, X _ _ hl, rfl, n, by rw [hr]⟩, kPairs_at X hp, hsz, fin⟩
end
section
open PySem.SeqAt
theorem off_L6 : True := by
  w_top off
  trivial
theorem szAll_lit {R : List Bs} (h : (R.all fun r => decide (r.size ≤ 100)) = true) : SzAll R := fun r hr => by
  simpa using List.all_eq_true.mp h r hr
theorem words_lit {Ws : List Str} (h : (Ws.all fun W => decide (W = Str.ofString "read" ∨ W = Str.ofString "other" ∨ W = Str.ofString "put" ∨ W = Str.ofString "long")) = true) : ∀ W ∈ Ws, W = Str.ofString "read" ∨ W = Str.ofString "other" ∨ W = Str.ofString "put" ∨ W = Str.ofString "long" := fun W hW => by
  simpa using List.all_eq_true.mp h W hW
theorem hall_get {h : Heap} : ∀ {vs : List Value} {ds : List Dat} (_ : HAll h vs ds) (k : Nat), (vs[k]? = none ∧ ds[k]? = none) ∨ ∃ v d, vs[k]? = some v ∧ ds[k]? = some d ∧ HIn h v d
  | _, _, .nil, _ => .inl ⟨rfl, rfl⟩
  | _, _, .cons a _, 0 => .inr ⟨_, _, rfl, rfl, a⟩
  | _, _, .cons _ r, k + 1 => hall_get r k
theorem hall_pick {h : Heap} {vs : List Value} {ds : List Dat} (x : HAll h vs ds) : ∀ ks : List Nat, HAll h (ks.filterMap (vs[·]?)) (ks.filterMap (ds[·]?))
  | [] => .nil
  | k :: ks => by
    rcases hall_get x k with ⟨e1, e2⟩ | ⟨v, d, e1, e2, i⟩
    · rw [List.filterMap_cons_none e1, List.filterMap_cons_none e2]; exact hall_pick x ks
    · rw [List.filterMap_cons_some e1, List.filterMap_cons_some e2]; exact .cons i (hall_pick x ks)
def pickD (ds : List Dat) (lo hi st : Option Int) : List Dat := (sliceRange (sliceBounds lo hi st ds.length).1 (sliceBounds lo hi st ds.length).2.1 (sliceBounds lo hi st ds.length).2.2).filterMap (ds[·]?)
theorem hall_slice {h : Heap} {vs : List Value} {ds : List Dat} (x : HAll h vs ds) (lo hi st : Option Int) : HAll h (slicePick vs.toArray lo hi st).toList (pickD ds lo hi st) := by
  have e : (slicePick vs.toArray lo hi st).toList = (sliceRange (sliceBounds lo hi st ds.length).1 (sliceBounds lo hi st ds.length).2.1 (sliceBounds lo hi st ds.length).2.2).filterMap (vs[·]?) := by
    rw [slicePick, List.size_toArray, x.length]
    simp
  rw [e]
  exact hall_pick x _
def datAtom : Value → Option Dat
  | .none => some .none
  | .bool b => some (.bool b)
  | .int i _ => some (.int i)
  | .str x _ => some (.str x)
  | .bytes b _ => some (.bytes b)
  | _ => none
def datList (f : Value → Option Dat) : List Value → Option (List Dat)
  | [] => some []
  | v :: vs => match f v, datList f vs with
    | some d, some ds => some (d :: ds)
    | _, _ => none
def datK (K : Frag) : Nat → Value → Option Dat
  | 0, v => datAtom v
  | n + 1, .ref a => match K.lookup a with
    | some ⟨.type "tuple", _, .seq ⟨vs⟩ _, _⟩ => (datList (datK K n) vs).map Dat.tuple
    | _ => none
  | _ + 1, v => datAtom v
theorem hin_atom {h : Heap} {v : Value} {d : Dat} (e : datAtom v = some d) : HIn h v d := by
  cases v with
  | none => simp only [datAtom, Option.some.injEq] at e; subst e; exact .none
  | bool b => simp only [datAtom, Option.some.injEq] at e; subst e; exact .bool b
  | int i t => simp only [datAtom, Option.some.injEq] at e; subst e; exact .int i t
  | str x t => simp only [datAtom, Option.some.injEq] at e; subst e; exact .str x t
  | bytes b t => simp only [datAtom, Option.some.injEq] at e; subst e; exact .bytes b t
  | _ => simp [datAtom] at e
theorem hall_list {h : Heap} {f : Value → Option Dat} (hf : ∀ v d, f v = some d → HIn h v d) : ∀ (vs : List Value) (ds : List Dat), datList f vs = some ds → HAll h vs ds
  | [], _, e => by simp only [datList, Option.some.injEq] at e; subst e; exact .nil
  | v :: vs, ds, e => by
    simp only [datList] at e
    split at e
    · rename_i d ds' h1 h2
      simp only [Option.some.injEq] at e
      subst e
      exact .cons (hf v d h1) (hall_list hf vs ds' h2)
    · cases e
theorem hin_K {K : Frag} {h : Heap} (X : K.In h) : ∀ (n : Nat) (v : Value) (d : Dat), datK K n v = some d → HIn h v d
  | 0, v, d, e => hin_atom e
  | n + 1, v, d, e => by
    cases v with
    | ref a =>
      simp only [datK] at e
      split at e
      · rename_i dd vs k sl h1
        cases hds : datList (datK K n) vs with
        | none => rw [hds] at e; cases e
        | some ds =>
          rw [hds] at e
          simp only [Option.map_some, Option.some.injEq] at e
          subst e
          exact .tuple ⟨_, X _ _ h1, rfl, k, rfl⟩ (hall_list (hin_K X n) vs ds hds)
      · cases e
    | _ => exact hin_atom e
theorem hall_K {K : Frag} {h : Heap} (X : K.In h) (n : Nat) (vs : List Value) (ds : List Dat) (e : datList (datK K n) vs = some ds) : HAll h vs ds := hall_list (hin_K X n) vs ds e
theorem fnAt_take {K : Frag} {f0 f pl L : Addr} {h₀ h : Heap} {imm news : List (Addr × Obj)} (hA : TakeAt K f0 imm f pl) (N : News h₀ L h news) (hi : ∀ q ∈ imm, q ∈ news) : FnAt f h := by
  obtain ⟨c', pc, cc, ce, o1, o2, oc, cvs, cns, n2, q, dc, pm, ct, vs', t', rfl, _⟩ := hA
  exact FnAt.of N (hi _ (.head _))
def RngRest (prog : Program) (w : World) (A : Around) (h₀ : Heap) (L : Addr) (m : Str → Option Value) (env : Env) (elt : PySem.Expr) (x : Str) (scope : Scope) (cl : List (Str × Addr)) (Fin : Shared → List Value → List (Addr × Obj) → Prop) (n : Int) (news : List (Addr × Obj)) (s : Shared) : Prop :=
  ∀ k : Nat, n = (k : Int) → ∀ s₂ : Shared, (∃ h tk, s₂ = { s with heap := h, toks := tk }) → LCg.CompRest prog w A h₀ L m env elt x scope cl s₂ (fun _ => True) (fun i v => ∃ t, v = .int (i : Int) t) (Fin s₂) k 0 [] news
theorem rng_comp {prog : Program} {w : World} {A : Around} {E : Value → Shared → Prop} {s : Shared} {h₀ : Heap} {L : Addr} {m : Str → Option Value} {env : Env} {elt : PySem.Expr} {x : Str} {scope : Scope} {cl : List (Str × Addr)} {Fin : Shared → List Value → List (Addr × Obj) → Prop} {n : Int} {t : Tok} {news : List (Addr × Obj)}
    (hh : A.handled = none) (F : Fr h₀ L s.heap m) (N : News h₀ L s.heap news) (h0 : 0 ≤ n) (h1 : n ≤ 1000) (h : RngRest prog w A h₀ L m env elt x scope cl Fin n news s) :
    wpAny (model prog w) A (call (.type "range") [.int n t]) (LCg.CompSrc prog w A h₀ L m env elt x scope cl Fin) E s := by
  refine range1_rows F N fun h' tk t₁ u₁ v₁ hr F' N' _ => ?_
  refine .inr ⟨_, 0, n, _, _, _, n.toNat, news, rfl, hh, F', N', hr, small_one (by omega) (by omega) (by omega) (by omega), ?_, ?_, ?_⟩
  · rw [rangeSize_nat]; simp
  · rw [sizeLine_eq]; omega
  · rintro s₂ ⟨g, rfl⟩
    have := h n.toNat (by omega) { s with heap := g, toks := tk } ⟨_, _, rfl⟩
    simpa using this
def TkInv (G : Nat → List Value → Int → Prop) (pl : Addr) (n : Nat) (rest : List (Addr × Obj)) (i : Nat) (ys : List Value) (news : List (Addr × Obj)) : Prop :=
  ∃ kk t0, news = (pl, listOf [.int kk t0].toArray n) :: rest ∧ 0 ≤ kk ∧ G i ys kk
theorem TkInv.mk0 {G : Nat → List Value → Int → Prop} {pl : Addr} {n : Nat} {rest : List (Addr × Obj)} {kk : Int} {t0 : Tok} (h0 : 0 ≤ kk) (g : G 0 [] kk) : TkInv G pl n rest 0 [] ((pl, listOf [.int kk t0].toArray n) :: rest) := ⟨kk, t0, rfl, h0, g⟩
theorem rest_start {h₀ h : Heap} {L pl a1 a2 : Addr} {o o1 o2 : Obj} {imm : List (Addr × Obj)} {adr : List Addr} (N : News h₀ L h ((pl, o) :: (a1, o1) :: (a2, o2) :: imm)) (h1 : @Ne Nat a1 pl) (h2 : @Ne Nat a2 pl) (ho : OwnOff imm (pl :: adr)) :
    ∃ rest, OwnOff rest [pl] ∧ @Ne Nat a2 pl ∧ (a1, o1) ∈ rest ∧ (∀ q ∈ imm, q ∈ rest) ∧ News h₀ L h ((pl, o) :: (a2, o2) :: rest) :=
  ⟨(a1, o1) :: imm, ownOff_cons (fun _ hb => by rw [List.mem_singleton.mp hb]; exact h1) (ownOff_sub ho fun _ hb => by rw [List.mem_singleton.mp hb]; exact .head _), h2, .head _, fun _ h => .tail _ h, fun p hp => N p (by
    simp only [List.mem_cons] at hp ⊢
    rcases hp with h | h | h | h
    · exact .inl h
    · exact .inr (.inr (.inl h))
    · exact .inr (.inl h)
    · exact .inr (.inr (.inr h)))⟩
theorem rest_up {h₀ h : Heap} {L pl ce I C D : Addr} {o oc oI oC oD : Obj} {rest : List (Addr × Obj)} (N : News h₀ L h ((I, oI) :: (C, oC) :: (D, oD) :: (pl, o) :: (ce, oc) :: rest)) (off : LCg.Off3 I C D ((pl, o) :: (ce, oc) :: rest)) (ho : OwnOff rest [pl]) :
    ∃ rest2, OwnOff rest2 [pl] ∧ (∀ q ∈ rest, q ∈ rest2) ∧ (∀ p ∈ (I, oI) :: (C, oC) :: (D, oD) :: rest, p ∈ rest2) ∧ News h₀ L h ((pl, o) :: (ce, oc) :: rest2) := by
  refine ⟨(I, oI) :: (C, oC) :: (D, oD) :: rest, ownOff_cons (fun _ hb => by rw [List.mem_singleton.mp hb]; exact Ne.symm off.1.1) (ownOff_cons (fun _ hb => by rw [List.mem_singleton.mp hb]; exact Ne.symm off.1.2.1) (ownOff_cons (fun _ hb => by rw [List.mem_singleton.mp hb]; exact Ne.symm off.1.2.2) ho)), fun _ h => .tail _ (.tail _ (.tail _ h)), fun _ h => h, fun p hp => N p ?_⟩
  simp only [List.mem_cons] at hp ⊢
  rcases hp with h | h | h | h | h | h
  · exact .inr (.inr (.inr (.inl h)))
  · exact .inr (.inr (.inr (.inr (.inl h))))
  · exact .inl h
  · exact .inr (.inl h)
  · exact .inr (.inr (.inl h))
  · exact .inr (.inr (.inr (.inr (.inr h))))
theorem rest_back {pl ce I C D : Addr} {o oc oI oC oD : Obj} {rest rest2 : List (Addr × Obj)} (hS : ∀ p ∈ (I, oI) :: (C, oC) :: (D, oD) :: rest, p ∈ rest2) : ∀ p ∈ (I, oI) :: (C, oC) :: (D, oD) :: (pl, o) :: (ce, oc) :: rest, p ∈ (pl, o) :: (ce, oc) :: rest2 := by
  intro p hp
  simp only [List.mem_cons] at hp
  rcases hp with h | h | h | h | h | h
  · exact .tail _ (.tail _ (hS p (by simp only [List.mem_cons]; exact .inl h)))
  · exact .tail _ (.tail _ (hS p (by simp only [List.mem_cons]; exact .inr (.inl h))))
  · exact .tail _ (.tail _ (hS p (by simp only [List.mem_cons]; exact .inr (.inr (.inl h)))))
  · rw [h]; exact .head _
  · rw [h]; exact .tail _ (.head _)
  · exact .tail _ (.tail _ (hS p (by simp only [List.mem_cons]; exact .inr (.inr (.inr h)))))
def IsWord (x : Value) : Prop := ∃ W t, x = .str W t ∧ (W = Str.ofString "read" ∨ W = Str.ofString "other" ∨ W = Str.ofString "put" ∨ W = Str.ofString "long")
theorem item_menu {prog : Program} {w : World} {A : Around} {E : Value → Shared → Prop} {s : Shared} {h₀ : Heap} {L : Addr} {news : List (Addr × Obj)} {a : Addr} {o : Obj} {vs : List Value} {n : Nat} {k : Int} {u : Tok} {value slice : PySem.Expr} {Q : Value → Shared → Prop} (P : Value → Prop)
    (N : News h₀ L s.heap news) (hm : (a, o) ∈ news) (hc : o.cls = .type "tuple") (hd : o.data = .seq vs.toArray n) (h0 : 0 ≤ k) (h1 : k < (vs.length : Int)) (hsz : vs.length ≤ 1000) (hP : ∀ x ∈ vs, P x) (h : ∀ x, P x → Q x s)
    (hs : subscripted slice false (.ref a) (.int k u) = operate [.ref a, .int k u] (getItem (.ref a) (.int k u))) :
    wpAny (model prog w) A (subscriptTail value slice (.ref a) (.int k u)) Q E s := by
  have hlt : k.toNat < vs.length := by omega
  refine item_tupleT (j := k.toNat) ⟨o, (N _ hm).1, hc, n, hd⟩ (by omega) (by omega) ?_ (List.getElem?_eq_getElem hlt) (h _ (hP _ (List.getElem_mem hlt))) hs
  unfold seqIndex?
  simp only [show ¬ k < 0 by omega, if_false]
  rw [if_pos (by simp only [Bool.and_eq_true, decide_eq_true_eq]; omega)]
theorem off1_mem {D : Addr} : ∀ {l : List (Addr × Obj)}, LCg.Off1 D l → ∀ p ∈ l, @Ne Nat p.1 D
  | [], _, _, h => nomatch h
  | _ :: _, x, p, h => by
    rcases List.mem_cons.mp h with rfl | h
    · exact x.1
    · exact off1_mem x.2 p h
theorem rest_beg {h₀ h : Heap} {L pl ce D : Addr} {o oc oD : Obj} {rest : List (Addr × Obj)} (N : News h₀ L h ((D, oD) :: (pl, o) :: (ce, oc) :: rest)) (ho : OwnOff rest [pl]) (hne : @Ne Nat pl D) :
    ∃ rest2, OwnOff rest2 [pl] ∧ (∀ q ∈ rest, q ∈ rest2) ∧ (D, oD) ∈ rest2 ∧ News h₀ L h ((pl, o) :: (ce, oc) :: rest2) := by
  refine ⟨(D, oD) :: rest, ownOff_cons (fun _ hb => by rw [List.mem_singleton.mp hb]; exact Ne.symm hne) ho, fun _ h => .tail _ h, .head _, fun p hp => N p ?_⟩
  simp only [List.mem_cons] at hp ⊢
  rcases hp with h | h | h | h
  · exact .inr (.inl h)
  · exact .inr (.inr (.inl h))
  · exact .inl h
  · exact .inr (.inr (.inr h))
theorem led_three {h₀ h : Heap} {L a b c : Addr} {oa ob oc : Obj} {l : List (Addr × Obj)} (N : News h₀ L h l) (ha : (a, oa) ∈ l) (hb : (b, ob) ∈ l) (hc : (c, oc) ∈ l) : News h₀ L h [(a, oa), (b, ob), (c, oc)] := by
  intro p hp
  simp only [List.mem_cons, List.not_mem_nil, or_false] at hp
  rcases hp with rfl | rfl | rfl
  · exact N _ ha
  · exact N _ hb
  · exact N _ hc
theorem strs_snoc {vs : List Value} {ys : List Str} (h : WordsAre vs ys) (y : Str) (t : Tok) : WordsAre (vs ++ [.str y t]) (ys ++ [y]) := by
  have h' : StrsAre vs ys := h
  show StrsAre _ _
  induction h' with
  | nil => exact .cons _ _ .nil
  | cons _ _ r ih => exact .cons _ _ (ih r)
theorem led_mid {a b p : Addr × Obj} {x : Addr × Obj} {l : List (Addr × Obj)} (h : p ∈ a :: b :: l) : p ∈ a :: x :: b :: l := by
  simp only [List.mem_cons] at h ⊢
  rcases h with h | h | h
  · exact .inl h
  · exact .inr (.inr (.inl h))
  · exact .inr (.inr (.inr h))
theorem ddeps_app : ∀ (xs ys : List Dat) (k : Nat), ddeps xs ≤ k → ddeps ys ≤ k → ddeps (xs ++ ys) ≤ k
  | [], _, _, _, h => h
  | x :: xs, ys, k, h, g => by
    simp only [ddeps, List.cons_append] at h ⊢
    have := ddeps_app xs ys k (by omega) g
    omega
theorem due_dep (W : Str) (R : List Bs) (n0 : Int) (bb : Bool) (n2 n3 : Int) : ddep (dueS W R n0 bb n2 n3).1 ≤ 1 := by
  unfold dueS
  repeat' split
  all_goals simp [ddep, ddeps]
theorem play_dep {B0 : List Bs} {Ws : List Str} {ds : List Dat} {R : List Bs} {z : Int × Bool × Int × Int} (h : play B0 Ws = (ds, R, z)) : ddeps ds ≤ 1 := by
  have key : ∀ (Ws : List Str) (a : PlayT), ddeps a.1 ≤ 1 → ddeps (Ws.foldl playStep a).1 ≤ 1 := by
    intro Ws
    induction Ws with
    | nil => exact fun a h => h
    | cons W r ih =>
      intro a ha
      refine ih _ (ddeps_app _ _ _ (ddeps_app _ _ _ ha ?_) ?_)
      · have := due_dep W a.2.1 a.2.2.1 a.2.2.2.1 a.2.2.2.2.1 a.2.2.2.2.2
        simp only [ddeps]; omega
      · simp [ddeps, ddep]
  have := key Ws ([.str (Str.ofString "00")], B0, 0, false, 0, 0) (by simp [ddeps, ddep])
  have e : Ws.foldl playStep ([.str (Str.ofString "00")], B0, 0, false, 0, 0) = (ds, R, z) := h
  rw [e] at this
  exact this
theorem ddeps_bytes : ∀ R : List Bs, ddeps (R.map Dat.bytes) = 0
  | [] => rfl
  | b :: R => by simp only [List.map_cons, ddeps, ddep, ddeps_bytes R]; rfl
theorem led_tup {h₀ h : Heap} {L a : Addr} {news : List (Addr × Obj)} {o : Obj} {vs : List Value} {n : Nat} (N : News h₀ L h news) (hm : (a, o) ∈ news) (hc : o.cls = .type "tuple") (hd : o.data = .seq vs.toArray n) : h.IsTuple a vs.toArray := ⟨_, (N _ hm).1, hc, n, hd⟩
def dues0 : List Dat := [.tuple [.str (Str.ofString "00"), .bytes #[97, 97]], .tuple [.str (Str.ofString "00"), .bytes #[97, 97]], .str (Str.ofString "00"), .tuple [.str (Str.ofString "00"), .bytes #[98]], .tuple [.str (Str.ofString "00"), .bytes #[98]], .str (Str.ofString "44"), .str (Str.ofString "43"),
  .tuple [.str (Str.ofString "00"), .bytes #[]], .str (Str.ofString "00"), .tuple [.str (Str.ofString "00"), .bytes #[]], .tuple [.str (Str.ofString "10"), .bytes #[]], .tuple [.str (Str.ofString "10"), .bytes #[]], .str (Str.ofString "43"), .tuple [.str (Str.ofString "46"), .bytes #[]]]
def told0 : List Dat := .str (Str.ofString "00") :: dues0.flatMap fun d => [d, .str (Str.ofString "49")]
theorem play0 : play [#[97, 97], #[98], #[]] [Str.ofString "read", Str.ofString "other", Str.ofString "put", Str.ofString "other", Str.ofString "read", Str.ofString "long", Str.ofString "put", Str.ofString "read", Str.ofString "put", Str.ofString "other", Str.ofString "other", Str.ofString "read", Str.ofString "put", Str.ofString "other"] = (told0, [#[98, 98], #[98], #[]], 3, false, 1, 5) := by rfl
section
variable {w : World} {p : Program} {loose : List Str} {mean : ExcName → Option Value} {mg mb : Str → Option Value}
    {dp un : Nat} {gd : Option (List Code)} {cn : Str} {cs : Scope} {a : Addr} {ccd : Value} {cl : List (Str × Addr)} {outer : List Env} {A₀ : Around} {base h₀ : Heap} {L : Addr} {m : Str → Option Value} {news n1 rest : List (Addr × Obj)} {s : Shared}
    {Q E : Value → Shared → Prop}
theorem p_played2 {bl wl : Addr} {bvs wvs : List Value} {B0 : List Bs} {Ws : List Str} {nb nw : Nat}
    (B : Below A₀ base outer h₀) (F : Fr h₀ L s.heap m) (X : (Mine.hd1.heap_39 w.params).In h₀) (N : News h₀ L s.heap news) (q1 : Pick (bl, listOf bvs.toArray nb) news n1) (q2 : Pick (wl, listOf wvs.toArray nw) n1 rest) (T : Top p loose mean mg mb h₀) (hk : cs.kind = .function)
    (hd : dp + 60 < recursionLimit) (hu : un + 600 < cLine)
    (hB : BAre bvs B0) (hBl : B0.length ≤ 64) (hBs : SzAll B0) (hWs : WordsAre wvs Ws) (hWl : Ws.length ≤ 64)
    (hW : ∀ W ∈ Ws, W = Str.ofString "read" ∨ W = Str.ofString "other" ∨ W = Str.ofString "put" ∨ W = Str.ofString "long") (hne : @Ne Nat bl wl)
    (post : ∀ (r to du lf rt : Addr) (tv dv vs us : List Value) (kt kd : Nat) (R : List Bs) (ds : List Dat) (z : Int × Bool × Int × Int) (tl : List (Addr × Obj)) h' tk', play B0 Ws = (ds, R, z) → DatAll tl tv ds → DatAll tl dv ds → BAre vs R → BAre us R → R.length = B0.length → (∀ q ∈ rest, q ∈ tl) → Fr h₀ L h' m →
      News h₀ L h' ((r, tupO [.ref to, .ref du, .ref lf, .ref rt]) :: (to, listOf tv.toArray kt) :: (du, listOf dv.toArray kd) :: (lf, tupO vs) :: (rt, tupO us) :: tl) → Q (.ref r) { s with heap := h', toks := tk' }) :
    wpAny (model PySem.Challenge.rw_pb0233_01.row.prog w) (ktrTop dp un gd cn cs L a ccd cl outer) (call (.ref 249) [.ref bl, .ref wl]) Q E s := by
  refine p_played B F X N q1 q2 T hk hd hu hB hBl hBs hWs hWl hW hne (fun r to du lf rt tv dv vs us R ds z tl kt kd h' tk' h1 h2 h3 h4 h5 h6 F' N' => ?_)
  refine post r to du lf rt tv dv vs us kt kd R ds z (rest ++ tl) h' tk' h1 (h2.mono fun _ h => List.mem_append.mpr (.inr h)) (h3.mono fun _ h => List.mem_append.mpr (.inr h)) h4 h5 h6 (fun _ h => List.mem_append.mpr (.inl h)) F' (news_sub N' fun q hq => ?_)
  simp only [List.mem_cons] at hq ⊢
  rcases hq with h | h | h | h | h | h
  · exact .inl h
  · exact .inr (.inl h)
  · exact .inr (.inr (.inl h))
  · exact .inr (.inr (.inr (.inl h)))
  · exact .inr (.inr (.inr (.inr (.inl h))))
  · exact .inr (.inr (.inr (.inr (.inr (.inr (.inr h))))))
end
theorem pick0 : pickD told0 (some 1) none (some 2) = dues0 := by rfl
end
theorem off_L4 : True := by
  w_top off
  trivial
local macro_rules | `(tactic| walk_at "call ref") => `(tactic| (k_here; (with_reducible show wpAny _ _ (call (Value.ref 223) [Value.ref _]) _ _ _); k_dflt (refine' p_taker ?k1 ?k2 ?k3 ?k4 ?kc ?kp ?ko ?k5 ?k6 ?k7 ?k8 ?kl ?ki ?kn ?_; (case k1 => k_asm); (case k2 => k_asm); (case k3 => k_asm); (case k4 => k_asm); (case kc => kn_code); (case kp => ktr_unf); (case ko => ktr_rel); (case k5 => k_asm); (case k6 => first | exact rfl | assumption); (case k7 => ktr_room); (case k8 => ktr_units); (case kl => k_asm); (case ki => assumption); (case kn => omega); k_whole); intro f9 imm9 pl9 t9 n9 ps9 h' tk' hA9 ho9 hp9 F' N'; (try k_lt hp9); (simp only [List.map_cons, List.map_nil] at ho9); (simp only [List.cons_append, List.nil_append] at N'); (try dsimp only); (try k_fold)))
local macro_rules | `(tactic| walk_at "call ref") => `(tactic| (k_here; (with_reducible show wpAny _ _ (call (Value.ref 249) [Value.ref _, Value.ref _]) _ _ _); k_dflt (refine' p_played2 ?k1 ?k2 ?k3 ?k4 ?q1 ?q2 ?k5 ?k6 ?k7 ?k8 ?kb ?kl ?ks ?kw ?kv ?kx ?kn ?_; (case k1 => k_asm); (case k2 => k_asm); (case k3 => k_asm); (case k4 => k_asm); (case k5 => k_asm); (case k6 => first | exact rfl | assumption); (case k7 => ktr_room); (case k8 => ktr_units); (case q1 => ktr_unf); (case q2 => ktr_unf); (case kb => first | assumption | (repeat constructor)); (case kl => first | decide | omega); (case ks => first | assumption | exact szAll_lit (by decide)); (case kw => first | assumption | (unfold WordsAre; repeat constructor)); (case kv => first | decide | omega); (case kx => first | assumption | exact words_lit (by decide)); (case kn => k_ne); k_whole); intro r9 to9 du9 lf9 rt9 tv9 dv9 vs9 us9 kt9 kd9 R9 ds9 z9 tl9 h' tk' hpl9 hT9 hV9 hR9 hU9 hL9 hS9 F' N'; (try dsimp only); (try k_fold)))
local macro_rules | `(tactic| walk_at "eval ListComp") => `(tactic| (k_here; k_dflt (first
  | refine ListComp_PK (fun p => p.1) (by k_asm) (by with_unfolding_all rfl) (by decide) (by rfl) (by decide) (by rfl) (by rfl) (by decide) (Or.inl ⟨rfl, fun _ => rfl⟩) (by decide) ?_
  | refine ListComp_PK (fun p => p.2) (by k_asm) (by with_unfolding_all rfl) (by decide) (by rfl) (by decide) (by rfl) (by rfl) (by decide) (Or.inr ⟨rfl, fun _ => rfl⟩) (by decide) ?_)))
local macro_rules | `(tactic| walk_at "SrcPK") => `(tactic| (k_here; k_dflt (refine' srcPK_ofK (refs := [194, 196, 197, 199, 201, 202, 203, 205, 206, 208, 210, 212, 213, 215]) ?k0 ?k1 ?k2 ?k3 ?k4 ?k5 ?k6 ?k7 ?_; (case k0 => exact rfl); (case k1 => k_asm); (case k2 => k_asm); (case k3 => k_asm); (case k4 => k_is); (case k5 => exact rfl); (case k6 => exact rfl); (case k7 => exact Nat.le_of_ble_eq_true rfl); k_whole); intro D' h' tk' F' N' l1; (try k_lt l1); (simp only [List.map_cons, List.map_nil] at N')))
local macro_rules | `(tactic| walk_at "subscriptTail Name Slice ref ref") => `(tactic| (k_here; (with_reducible show wpAny _ _ (subscriptTail _ (PySem.Expr.Slice _ _ (some _) _) (Value.ref _) (Value.ref _)) _ _ _); k_dflt (refine' kmk_slice3_lit ?F ?N ?l ?p ?q ?k ?o ?e ?_ ?s ?t ?z; (case F => k_asm); (case N => k_asm); (case l => exact News.isList (by k_asm) (by k_mem)); (case p => kmk_part); (case q => kmk_part); (case k => kmk_part); (case o => decide); (case e => exact rfl); (case s => with_unfolding_all rfl); (case t => kmk_pure); (case z => (simp only [List.size_toArray, PySem.sizeLine_eq]; omega))); intro D' h' F' N' l1; (try k_lt l1); (try k_sweep)))
local macro_rules | `(tactic| walk_at "FnAt") => `(tactic| (k_dflt (exact fnAt_take (by assumption) (by k_asm) (by ktr_rel))))
local macro_rules | `(tactic| walk_at "callWith ref") => `(tactic| (k_here; (with_reducible show wpAny _ _ (callWith _ (Value.ref _) [] (backTo _ (starEach [Expr.Constant _ _ _] _)) []) _ _ _); k_dflt (refine' callWith_F ?k1 ?_; (case k1 => exact fnAt_take (by assumption) (by k_asm) (by ktr_rel)); k_whole)))
local macro_rules | `(tactic| walk_at "eval ListComp") => `(tactic| (k_here; (with_reducible show wpAny _ _ (eval (PySem.Expr.ListComp _ [⟨PySem.Expr.Name _ _, _, [], 0⟩] _ _) _) _ _ _); k_dflt (refine LCg.ListComp_U (F₀ := by k_asm) (by with_unfolding_all rfl) (by decide) (by rfl) (by decide) (by rfl) ?_)))
local macro_rules | `(tactic| walk_at "exec Assign cons ListComp") => `(tactic| (k_here; k_dflt (refine LCg.Assign_ListComp_U (F₀ := by k_asm) (by rfl) (by with_unfolding_all rfl) (by with_unfolding_all rfl) (by decide) (by rfl) (by decide) (by rfl) (by rfl) (by rfl) ?_)))
local macro_rules | `(tactic| walk_at "call ref") => `(tactic| (k_here; k_dflt (show wpAny _ _ (call (Value.ref _) [Value.int _ _]) _ _ _); k_dflt (refine' p_take ?k1 ?k2 ?k3 ?k4 ?k5 ?k6 ?k7 ?k8 ?kc ?kA ?kp ?ki ?ko ?ka ?kb ?ke ?kf ?_; (case k1 => k_asm); (case k2 => k_asm); (case k3 => k_asm); (case k4 => k_asm); (case k5 => k_asm); (case k6 => first | exact rfl | assumption); (case k7 => ktr_room); (case k8 => ktr_units); (case kc => kn_code); (case kA => assumption); (case kp => ktr_unf); (case ki => ktr_rel); (case ko => ktr_rel); (case ka => omega); (case kb => omega); (case ke => decide); (case kf => decide); k_whole); intro r9 t9 u9 h' tk' g9 g8 F' N'; (try dsimp only); (try k_fold)))
local macro_rules | `(tactic| walk_at "call type:range") => `(tactic| (k_here; k_dflt (show wpAny _ _ (call (Value.type _) [Value.int _ _]) _ _ _); k_dflt (refine' rng_comp ?k1 ?k2 ?k3 ?k4 ?k5 ?_; (case k1 => exact rfl); (case k2 => k_asm); (case k3 => k_asm); (case k4 => omega); (case k5 => omega); k_whole)))
local macro_rules | `(tactic| k_mem) => `(tactic| with_reducible assumption)
theorem tstL : PySem.Challenge.rw_pb0233_01.Holds := Mine.hd1 (by
  k_go0
  (all_goals try k_fold)
  iterate 33 (first | (k_unfold; (try dsimp only)) | (k_end; wrow_close) | walk1 | (dsimp only; walk1) | (leave1; walk_say "STEP leave1"; try dsimp only) | fail "no step")
  iterate 1 (first | (k_unfold; (try dsimp only)) | (k_end; wrow_close) | walk1 | (dsimp only; walk1) | (leave1; walk_say "STEP leave1"; try dsimp only) | fail "no step")
  rename play _ _ = _ => hpl
  rw [play0] at hpl
  rename DatAll _ _ _ => hV
  revert hV
  rename DatAll _ _ _ => hT
  rename BAre _ _ => hU
  revert hU
  rename BAre _ _ => hR
  intro hU hV
  rename (∀ q ∈ _, q ∈ _) => hsub
  rename News _ _ _ _ => N1
  rename Fr _ _ _ _ => F1
  rename TakeAt _ _ _ _ _ => hTk
  rename OwnOff _ _ => hOff
  simp only [Prod.mk.injEq] at hpl
  obtain ⟨rfl, rfl, rfl⟩ := hpl
  have hTl := hT.length
  have hVl := hV.length
  rw [show told0.length = 29 from rfl] at hTl hVl
  iterate 32 (first | (k_unfold; (try dsimp only)) | (k_end; wrow_close) | walk1 | (dsimp only; walk1) | (leave1; walk_say "STEP leave1"; try dsimp only) | fail "no step")
  refine' cmp_list_ne (ds := dues0) (News.isList (by k_asm) (by k_mem)) ?ra (News.isList (by k_asm) (by k_mem)) ?rb ?ku ?_
  case ra =>
    rename News _ _ _ _ => N2
    rw [← pick0]
    exact hall_slice (hall_of N2 (fun _ h => by simp only [List.mem_cons]; simp only [h, or_true]) hT) _ _ _
  case rb => exact hall_K (Frag.In.keeps (by k_asm) (Fr.keep (by k_asm))) 3 _ _ rfl
  case ku => (have hcL9 := cLine_is; have e9 : ddeps dues0 = 1 := rfl; simp only [units_deeper, units_caller]; omega)
  iterate 14 (first | (k_unfold; (try dsimp only)) | (k_end; wrow_close) | walk1 | (dsimp only; walk1) | (leave1; walk_say "STEP leave1"; try dsimp only) | fail "no step")
  refine' cmp_tuple_ne (led_tup (by k_asm) (by k_mem) rfl rfl) (hall_bytes hU) (led_tup (by k_asm) (by k_mem) rfl rfl) ?rb ?ku ?_
  case rb => exact hall_bytes (by repeat constructor)
  case ku => (have hcL9 := cLine_is; have e9 : ddeps (List.map Dat.bytes [#[98, 98], #[98], #[]]) = 0 := rfl; simp only [units_deeper, units_caller]; omega)
  iterate 6 (first | (k_unfold; (try dsimp only)) | (k_end; wrow_close) | walk1 | (dsimp only; walk1) | (leave1; walk_say "STEP leave1"; try dsimp only) | fail "no step")
  rename News _ _ _ _ => N2
  refine' cmp_list_ne (ds := told0) (News.isList N2 (by k_mem)) ?ra (News.isList N2 (by k_mem)) ?rb ?ku ?_
  case ra => exact hall_of N2 (fun _ h => by simp only [List.mem_cons]; simp only [h, or_true]) hT
  case rb => exact hall_of N2 (fun _ h => by simp only [List.mem_cons]; simp only [h, or_true]) hV
  case ku => (have hcL9 := cLine_is; have e9 : ddeps told0 = 1 := rfl; simp only [units_deeper, units_caller]; omega)
  iterate 6 (first | (k_unfold; (try dsimp only)) | (k_end; wrow_close) | walk1 | (dsimp only; walk1) | (leave1; walk_say "STEP leave1"; try dsimp only) | fail "no step")
  refine' cmp_tuple_ne (led_tup N2 (by k_mem) rfl rfl) (hall_bytes hR) (led_tup N2 (by k_mem) rfl rfl) (hall_bytes hU) ?ku ?_
  case ku => (have hcL9 := cLine_is; have e9 : ddeps (List.map Dat.bytes [#[98, 98], #[98], #[]]) = 0 := rfl; simp only [units_deeper, units_caller]; omega)
  have N3 := news_sub N2 (fun q hq => by simp only [List.mem_cons]; have := hsub q hq; simp only [this, or_true])
  obtain ⟨rest, hR1, hcp, hRt, hRi, N4⟩ := rest_start N3 (by k_ne) (by k_ne) hOff
  clear N3 N2 hsub hT hV hR hU hTl hVl hOff
  (repeat (rename (_ < _ ∧ _) => l9; clear l9))
  iterate 4 (first | (k_unfold; (try dsimp only)) | (k_end; wrow_close) | walk1 | (dsimp only; walk1) | (leave1; walk_say "STEP leave1"; try dsimp only) | fail "no step")
  iterate 3 (first | (k_unfold; (try dsimp only)) | (k_end; wrow_close) | walk1 | (dsimp only; walk1) | (leave1; walk_say "STEP leave1"; try dsimp only) | fail "no step")
  iterate 17 (first | (k_unfold; (try dsimp only)) | (k_end; wrow_close) | walk1 | (dsimp only; walk1) | (leave1; walk_say "STEP leave1"; try dsimp only) | fail "no step")
  rintro k hk s₂ ⟨g', tk', rfl⟩
  refine comp_inv (TkInv (fun i ys kk => ∃ bs, BAre ys bs ∧ bs.length = i ∧ (∀ b ∈ bs, b.size ≤ 3) ∧ kk ≤ 1 + 4 * (i : Int)) _ _ _) ?fin ?turn _ _ _ _ (Nat.zero_add _) (TkInv.mk0 ?i0 ?i1)
  case i0 => omega
  case i1 => exact ⟨[], .nil, rfl, (fun _ h => nomatch h), by omega⟩
  case turn =>
    rintro i ys news v I oI C oC D m₂ h tk E' hi ⟨kk, t0, rfl, hk0, bs, hB, hbl, hbs, hk1⟩ ⟨u, rfl⟩ hC hx F' N' off ne
    obtain ⟨rest2, hQ1, hQ2, hQ3, N5⟩ := rest_up N' off hR1
    have hQt := hQ2 _ hRt
    have hQi := fun q hq => hQ2 q (hRi q hq)
    clear N' ne
    iterate 22 (first | (k_unfold; (try dsimp only)) | (k_end; wrow_close) | walk1 | (dsimp only; walk1) | (leave1; walk_say "STEP leave1"; try dsimp only) | fail "no step")
    rintro k2 hk2 s₂ ⟨g2, tk2, rfl⟩
    refine comp_inv (TkInv (fun j zs kq => ∃ ns, IntsAre zs ns ∧ ns.length = j ∧ (∀ n ∈ ns, 0 ≤ n ∧ n < 256) ∧ kq ≤ kk + 1 + (j : Int)) _ _ _) ?fin2 ?turn2 _ _ _ _ (Nat.zero_add _) (TkInv.mk0 ?i2 ?i3)
    case i2 => omega
    case i3 => exact ⟨[], .nil, rfl, (fun _ h => nomatch h), by omega⟩
    case turn2 =>
      rintro j zs news v I2 oI2 C2 oC2 D2 m₃ h3 tk3 E3 hj ⟨kq, t2, rfl, hk3, ns, hB2, hbl2, hbs2, hk4⟩ ⟨u2, rfl⟩ hC2 hx2 F3 N3 off2 ne2
      obtain ⟨rest3, hP1, hP2, hP3, N6⟩ := rest_up N3 off2 hQ1
      have hPt := hP2 _ hQt
      have hPi := fun q hq => hP2 q (hQi q hq)
      clear N3 ne2
      iterate 10 (first | (k_unfold; (try dsimp only)) | (k_end; wrow_close) | walk1 | (dsimp only; walk1) | (leave1; walk_say "STEP leave1"; try dsimp only) | fail "no step")
      k_unfold
      try dsimp only
      rename (_ < 256) => hr1
      rename News _ _ _ _ => N9
      refine LCg.CompEnd.intro (by k_asm) N9 _ (rest_back hP3) ?off True.intro ⟨_, _, rfl, ?h0, ns ++ [_], intsAre_snoc hB2 _ _, ?len, ?inn, ?le⟩
      case off => exact off2
      case h0 => omega
      case len => simp [hbl2]
      case inn =>
        intro n hn
        rcases List.mem_append.mp hn with h | h
        · exact hbs2 n h
        · rw [List.mem_singleton.mp h]; omega
      case le => omega
    case fin2 =>
      rintro zs news ⟨kq, t2, rfl, hk3, ns, hB2, hbl2, hbs2, hk4⟩
      iterate 3 (first | (k_unfold; (try dsimp only)) | (k_end; wrow_close) | walk1 | (dsimp only; walk1) | (leave1; walk_say "STEP leave1"; try dsimp only) | fail "no step")
      try k_unfold
      try dsimp only
      rename News _ _ _ _ => N9
      refine LCg.CompEnd.intro (by k_asm) N9 _ (fun p hp => List.mem_cons_of_mem _ (rest_back hQ3 p hp)) ?off True.intro ⟨_, _, rfl, ?h0, bs ++ [byteArr ns], hB.append (.one _ _), ?len, ?inn, ?le⟩
      case off => exact off
      case h0 => omega
      case len => simp [hbl]
      case inn =>
        intro b hb
        rcases List.mem_append.mp hb with h | h
        · exact hbs b h
        · rw [List.mem_singleton.mp h, byteArr_size]; omega
      case le => omega
  case fin =>
    rintro ys news ⟨kk, t0, rfl, hk0, bs, hB, hbl, hbs, hk1⟩
    iterate 2 (first | (k_unfold; (try dsimp only)) | (k_end; wrow_close) | walk1 | (dsimp only; walk1) | (leave1; walk_say "STEP leave1"; try dsimp only) | fail "no step")
    have hbs' : SzAll bs := fun b hb => Nat.le_trans (hbs b hb) (by decide)
    have hbl' : bs.length ≤ 6 := by omega
    rename News _ _ _ _ => N5
    rename (_ ∧ _) => o1
    obtain ⟨rest2, hQ1, hQ2, hQb, N6⟩ := rest_beg N5 hR1 o1.1
    have hQt := hQ2 _ hRt
    have hQi := fun q hq => hQ2 q (hRi q hq)
    clear N5 o1
    iterate 17 (first | (k_unfold; (try dsimp only)) | (k_end; wrow_close) | walk1 | (dsimp only; walk1) | (leave1; walk_say "STEP leave1"; try dsimp only) | fail "no step")
    rintro k2 hk2 s₂ ⟨g2, tk2, rfl⟩
    have hkk : kk ≤ 100 := by omega
    refine comp_inv (TkInv (fun j zs kq => ∃ Ws, WordsAre zs Ws ∧ Ws.length = j ∧ (∀ W ∈ Ws, W = Str.ofString "read" ∨ W = Str.ofString "other" ∨ W = Str.ofString "put" ∨ W = Str.ofString "long") ∧ kq ≤ 101 + (j : Int)) _ _ _) ?fin3 ?turn3 _ _ _ _ (Nat.zero_add _) (TkInv.mk0 ?i4 ?i5)
    case i4 => omega
    case i5 => exact ⟨[], StrsAre.nil, rfl, (fun _ h => nomatch h), by omega⟩
    case turn3 =>
      rintro j zs news v I oI C oC D m₂ h tk E' hi ⟨kq, t0, rfl, hk3, Ws, hB3, hbl3, hbs3, hk4⟩ ⟨u, rfl⟩ hC hx F' N' off ne
      obtain ⟨rest3, hP1, hP2, hP3, N7⟩ := rest_up N' off hQ1
      have hPt := hP2 _ hQt
      have hPi := fun q hq => hP2 q (hQi q hq)
      clear N' ne
      iterate 27 (first | (k_unfold; (try dsimp only)) | (k_end; wrow_close) | walk1 | (dsimp only; walk1) | (leave1; walk_say "STEP leave1"; try dsimp only) | fail "no step")
      k_unfold
      try dsimp only
      k_here
      refine' item_menu IsWord (by k_asm) (by k_mem) rfl rfl ?h0 ?h1 ?h2 ?hP ?_ ?hs
      case h0 => omega
      case h1 => simp only [List.length_cons, List.length_nil]; omega
      case h2 => simp only [List.length_cons, List.length_nil]; omega
      case hP => (intro x hx; simp only [List.mem_cons, List.not_mem_nil, or_false] at hx; rcases hx with rfl | rfl | rfl | rfl | rfl | rfl <;> exact ⟨_, _, rfl, by decide⟩)
      case hs => with_unfolding_all rfl
      rintro x ⟨W, tW, rfl, hW⟩
      k_unfold
      try dsimp only
      rename News _ _ _ _ => N9
      refine LCg.CompEnd.intro (by k_asm) N9 _ (fun p hp => led_mid (rest_back hP3 p hp)) ?off True.intro ⟨_, _, rfl, ?h0, Ws ++ [W], strs_snoc hB3 W _, ?len, ?inn, ?le⟩
      case off => exact off
      case h0 => omega
      case len => simp [hbl3]
      case inn =>
        intro n hn
        rcases List.mem_append.mp hn with h | h
        · exact hbs3 n h
        · rw [List.mem_singleton.mp h]; exact hW
      case le => omega
    case fin3 =>
      rintro zs news ⟨kq, t0, rfl, hk3, Ws, hB3, hbl3, hbs3, hk4⟩
      iterate 2 (first | (k_unfold; (try dsimp only)) | (k_end; wrow_close) | walk1 | (dsimp only; walk1) | (leave1; walk_say "STEP leave1"; try dsimp only) | fail "no step")
      rename News _ _ _ _ => N8
      rename (_ ∧ _) => o1
      have N9 := led_three N8 (.head _) (List.mem_cons_of_mem _ (List.mem_cons_of_mem _ (List.mem_cons_of_mem _ hQb))) (List.mem_cons_of_mem _ (List.mem_cons_of_mem _ (List.mem_cons_of_mem _ hQt)))
      have hne1 := off1_mem o1.2.2 _ hQb
      have hne2 := off1_mem o1.2.2 _ hQt
      have hne3 := hQ1 _ hQt _ (.head _)
      clear N8 o1 hQ1 hQ2 hQb hQt hQi hR1
      have hWl : Ws.length ≤ 18 := by omega
      have hBl : bs.length ≤ 64 := by omega
      iterate 21 (first | (k_unfold; (try dsimp only)) | (k_end; wrow_close) | walk1 | (dsimp only; walk1) | (leave1; walk_say "STEP leave1"; try dsimp only) | fail "no step")
      rename play _ _ = _ => hpl
      rename DatAll _ _ _ => hV
      revert hV
      rename DatAll _ _ _ => hT
      rename BAre _ _ => hU
      revert hU
      rename BAre _ _ => hR
      intro hU hV
      rename (∀ q ∈ _, q ∈ _) => hsub
      rename News _ _ _ _ => N1
      have hTl := hT.length
      have hVl := hV.length
      have hdl := play_len bs Ws
      rw [hpl] at hdl
      have hdp := play_dep hpl
      iterate 12 (first | (k_unfold; (try dsimp only)) | (k_end; wrow_close) | walk1 | (dsimp only; walk1) | (leave1; walk_say "STEP leave1"; try dsimp only) | fail "no step")
      rename News _ _ _ _ => N2
      refine' cmp_list_eq (News.isList N2 (by k_mem)) ?ra (News.isList N2 (by k_mem)) ?rb ?ku ?_
      case ra => exact hall_of N2 (fun _ h => by simp only [List.mem_cons]; simp only [h, or_true]) hT
      case rb => exact hall_of N2 (fun _ h => by simp only [List.mem_cons]; simp only [h, or_true]) hV
      case ku => (have hcL9 := cLine_is; simp only [units_deeper, units_caller]; omega)
      iterate 6 (first | (k_unfold; (try dsimp only)) | (k_end; wrow_close) | walk1 | (dsimp only; walk1) | (leave1; walk_say "STEP leave1"; try dsimp only) | fail "no step")
      have hRl := hR.length
      refine' cmp_tuple_eq (led_tup N2 (by k_mem) rfl rfl) (hall_bytes hR) (led_tup N2 (by k_mem) rfl rfl) (hall_bytes hU) ?ku ?_
      case ku => (have hcL9 := cLine_is; have e9 := ddeps_bytes; simp only [units_deeper, units_caller, ddeps_bytes]; omega)
      have N3 := news_sub N2 (fun q hq => by simp only [List.mem_cons]; have := hsub q hq; simp only [this, or_true])
      clear N2 hsub hT hV hR hU hTl hVl
      k_steps)
end Mine
theorem PySem.Challenge.cw_pb0233_01_holds : PySem.Challenge.rw_pb0233_01.Holds := by
  exact Mine.tstL
