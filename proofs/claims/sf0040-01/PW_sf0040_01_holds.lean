import PyProof.Rows.All
import Wide.All
import OpenK.AllK
import Wide.FinOn
import PySem.Challenge.RW_sf0040_01
open PySem PySem.W PyProof.Rows
set_option Elab.async false
namespace Mine
section
set_option maxRecDepth 100000
set_option maxHeartbeats 8000000
theorem said_ok : PySem.Challenge.rw_sf0040_01.wellSaid = true := by kernel_rfl
section
local macro_rules | `(tactic| o_law) => `(tactic| refine holds_law said_ok fun said => ?_)
local macro_rules | `(tactic| refine $e) => `(tactic| (refine' $e; (case hl => exact fun w => by kernel_rfl)))
open_top hd for PySem.Challenge.rw_sf0040_01
end
end

section
set_option maxRecDepth 100000
set_option maxHeartbeats 1000000
open PySem.Builtin PySem.Builtin._codecs
abbrev tooText : Array Nat := #[116, 111, 111, 32, 108, 97, 114, 103, 101, 32, 97, 32, 116, 114, 101, 101]
theorem too_cps : (Str.ofString "too large a tree").cps = tooText := by rfl
theorem enc_find : tooText.findIdx? utf8Codec.bad = none := by
  simp [tooText, utf8Codec, Str.isSurrogate]
abbrev tooBytes : Array UInt8 := Array.foldl (fun acc y => acc ++ (utf8Codec.bytesOf y).toArray) #[] tooText 0 16
theorem too_size : tooBytes.size = 16 := by decide +kernel
theorem enc_narrow (v : Value) : encodeNarrow "str.encode" utf8Codec none v (Str.ofString "too large a tree") = pure tooBytes := by kernel_rfl
theorem u8_cps : (Str.ofString "utf-8").cps = #[117, 116, 102, 45, 56] := by rfl
theorem encode_meets (t u : Tok) : Meets (Builtin.«str.encode» ⟨[.str (Str.ofString "too large a tree") t, .str (Str.ofString "utf-8") u], []⟩) (fun _ R s => ∀ t', R (.ok (.ret (.bytes tooBytes t'))) { s with toks := s.toks + 1 }) :=
  .of_wp fun prog w A R s h => by
    obtain ⟨hp, g, d, tk, os⟩ := s
    wp_walk
    have a1 : ((Str.ofString "utf-8").cps.any fun x => decide (x ≥ 128)) = false := by rw [u8_cps]; simp
    have a2 : (Str.ofString "utf-8").cps.contains 0 = false := by rw [u8_cps]; simp
    simp only [a1, a2, Bool.false_eq_true, if_false]
    refine wpAny_pure ?_
    simp only [Option.getD_some]
    refine wpAny_bind (wpAny_pure ?_)
    rw [encodeRoad_utf8, enc_narrow, pure_bind]
    exact wpAny_bind (wpAny_mkBytes (wpAny_pure ⟨_, rfl, h _⟩) (by rw [too_size]; decide))
end

section
set_option maxRecDepth 100000
/-- what a call of the def at `f` on `vs` does, from any frame whose ledger is `news` -/
def Ctr (w : World) (f : Addr) (need : Nat) (news : List (Addr × Obj)) (vs : List Value) (Post : Value → List (Addr × Obj) → Prop) : Prop :=
  ∀ (mean : ExcName → Option Value) (mg mb : Str → Option Value) (dp un : Nat) (gd : Option (List Code)) (cn : Str) (cs : Scope) (a : Addr) (ccd : Value) (cl : List (Str × Addr)) (outer : List Env) (A₀ : Around) (base h₀ : Heap) (L : Addr) (m : Str → Option Value) (s : Shared)
    (Q E : Value → Shared → Prop),
    Below A₀ base outer h₀ → Fr h₀ L s.heap m → (hd.heap_1 w.params).In h₀ → News h₀ L s.heap news → Top hd.view_1 (looseW hd.view_1 [Str.ofString "RowsError", Str.ofString "int_value", Str.ofString "named"]) mean mg mb h₀ → cs.kind = .function → dp + need < recursionLimit → un + 8 * need < cLine →
    (∀ v h' tk' news', Fr h₀ L h' m → News h₀ L h' news' → Post v news' → Q v { s with heap := h', toks := tk' }) →
    wpAny (model PySem.Challenge.rw_sf0040_01.row.prog w) (ktrTop dp un gd cn cs L a ccd cl outer) (call (.ref f) vs) Q E s
theorem Ctr.use {w : World} {f : Addr} {need : Nat} {news₀ news : List (Addr × Obj)} {vs : List Value} {Post : Value → List (Addr × Obj) → Prop}
    {mean : ExcName → Option Value} {mg mb : Str → Option Value} {dp un : Nat} {gd : Option (List Code)} {cn : Str} {cs : Scope} {a : Addr} {ccd : Value} {cl : List (Str × Addr)} {outer : List Env} {A₀ : Around} {base h₀ : Heap} {L : Addr} {m : Str → Option Value} {s : Shared}
    {Q E : Value → Shared → Prop} (C : Ctr w f need news vs Post)
    (B : Below A₀ base outer h₀) (F : Fr h₀ L s.heap m) (X : (hd.heap_1 w.params).In h₀) (N : News h₀ L s.heap news₀) (hs : ∀ p ∈ news, p ∈ news₀) (T : Top hd.view_1 (looseW hd.view_1 [Str.ofString "RowsError", Str.ofString "int_value", Str.ofString "named"]) mean mg mb h₀) (hk : cs.kind = .function) (hd : dp + need < recursionLimit) (hu : un + 8 * need < cLine)
    (ret : ∀ v h' tk' news', Fr h₀ L h' m → News h₀ L h' news' → Post v news' → Q v { s with heap := h', toks := tk' }) :
    wpAny (model PySem.Challenge.rw_sf0040_01.row.prog w) (ktrTop dp un gd cn cs L a ccd cl outer) (call (.ref f) vs) Q E s :=
  C _ _ _ _ _ _ _ _ _ _ _ _ _ _ _ _ _ _ _ _ B F X (fun p hp => N p (hs p hp)) T hk hd hu ret
theorem allne_of {d : Addr} {l : List (Addr × Obj)} (h : AllLt d l) : ∀ p ∈ l, p.1 ≠ d := fun p hp => Nat.ne_of_lt (tb_ltOf h p hp)
end

local macro_rules | `(tactic| k_all) => `(tactic| with_reducible assumption)
section
set_option maxRecDepth 100000
set_option maxHeartbeats 4000000
local macro_rules | `(tactic| walk_at "pad") => `(tactic| skip)
theorem digit_ctr (w : World) (a : Addr) (x y : Int) (tx ty tm : Tok) (n : Nat) (mm : Int) (news : List (Addr × Obj)) (h0 : 0 ≤ x) (hy : 0 ≤ y) (hy2 : y < 2 ^ 33) (hm : 2 ≤ mm) (hm' : mm ≤ 4) (hne : ∀ p ∈ news, p.1 ≠ a) :
    Ctr w 233 2 ((a, listOf #[.int x tx, .int y ty] n) :: news) [.ref a, .int mm tm]
      (fun v news' => ∃ d t x' y' tx' ty' n', v = .int d t ∧ 0 ≤ d ∧ d < mm ∧ 0 ≤ x' ∧ 0 ≤ y' ∧ y' < 2 ^ 33 ∧ news' = (a, listOf #[.int x' tx', .int y' ty'] n') :: news) := by
  unfold Ctr
  k_fill
  intro mean mg mb dp un gd cn cs ac ccd cl outer A₀ base h₀ L m s Q E B F X N T hk hd hu hret
  w_on
  k_fill
  refine wpAny_call ?_
  k_dflt ktr_enter
  k_steps
  · refine hret _ _ _ _ (by k_asm) (by k_asm) ⟨_, _, _, _, _, _, _, rfl, Int.fmod_nonneg (by simpa using h0) (by omega), Int.fmod_lt_of_pos _ (by omega), Int.fdiv_nonneg (by simpa using h0) (by omega), hy, hy2, rfl⟩
  · refine hret _ _ _ _ (by k_asm) (by k_asm) ⟨_, _, _, _, _, _, _, rfl, Int.fmod_nonneg (Int.fdiv_nonneg ?_ (by decide)) (by omega), Int.fmod_lt_of_pos _ (by omega), h0, ?_, ?_, rfl⟩
    · show 0 ≤ (y * 69621 + 67).fmod 2147483647
      exact Int.fmod_nonneg (by omega) (by decide)
    · exact Int.fmod_nonneg (by simp; omega) (by decide)
    · refine Int.lt_trans (Int.fmod_lt_of_pos _ (by decide)) (by decide)
end

section
set_option maxRecDepth 100000
section
open PySem.Calls PyProof.Rows.LCg
variable {prog : Program} {w : World} {A : Around} {E : Value → Shared → Prop} {s : Shared} {h₀ : Heap} {L : Addr} {m : Str → Option Value} {env : Env}
/-- a tuple that a comprehension goes over: of the base or of the ledger -/
def SrcTu (h₀ : Heap) (ax : Addr) (its : Array Value) (news : List (Addr × Obj)) : Prop := h₀.IsTuple ax its ∨ ∃ o, (ax, o) ∈ news ∧ o.cls = .type "tuple" ∧ ∃ n, o.data = .seq its n
theorem SrcTu.tuple {h₀ h : Heap} {L ax : Addr} {its : Array Value} {news : List (Addr × Obj)} (x : SrcTu h₀ ax its news) (k : ∀ b o, h₀.get? b = some o → h.get? b = some o) (N : News h₀ L h news) : h.IsTuple ax its := by
  rcases x with ⟨o, e, r⟩ | ⟨o, hm, r⟩
  · exact ⟨o, k _ _ e, r⟩
  · exact ⟨o, (N _ hm).1, r⟩
def CompTu (prog : Program) (w : World) (A : Around) (h₀ : Heap) (L : Addr) (m : Str → Option Value) (env : Env) (elt : PySem.Expr) (x : Str) (scope : Scope) (cl : List (Str × Addr)) (Fin : Shared → List Value → List (Addr × Obj) → Prop) (xv : Value) (s₁ : Shared) : Prop :=
  ∃ ax its news, xv = .ref ax ∧ A.handled = none ∧ Fr h₀ L s₁.heap m ∧ News h₀ L s₁.heap news ∧ SrcTu h₀ ax its news ∧ its.size ≤ sizeLine ∧
    ∀ s₂ : Shared, (∃ h, s₂ = { s₁ with heap := h }) → CompRest prog w A h₀ L m env elt x scope cl s₂ (SrcTu h₀ ax its) (fun i v => its[i]? = some v) (Fin s₂) its.size 0 [] news
theorem CompTu.ledger {elt : PySem.Expr} {x : Str} {scope : Scope} {cl : List (Str × Addr)} {Fin : Shared → List Value → List (Addr × Obj) → Prop} {ax : Addr} {vs : List Value} {k : Nat} {news : List (Addr × Obj)} {s₁ : Shared} {dd : Option Addr} {sl : Array (Option Value)}
    (hh : A.handled = none) (F : Fr h₀ L s₁.heap m) (N : News h₀ L s₁.heap news) (hm : (ax, ({ cls := .type "tuple", dict := dd, data := .seq vs.toArray k, slots := sl } : Obj)) ∈ news) (hsz : vs.length ≤ sizeLine)
    (h : ∀ g, CompRest prog w A h₀ L m env elt x scope cl { s₁ with heap := g } (SrcTu h₀ ax vs.toArray) (fun i v => vs.toArray[i]? = some v) (Fin { s₁ with heap := g }) vs.length 0 [] news) :
    CompTu prog w A h₀ L m env elt x scope cl Fin (.ref ax) s₁ := ⟨ax, vs.toArray, news, rfl, hh, F, N, .inr ⟨_, hm, rfl, _, rfl⟩, by rwa [List.size_toArray], fun _ ⟨g, e⟩ => by have := h g; rw [List.size_toArray]; exact e ▸ this⟩
theorem CompTu.base {elt : PySem.Expr} {x : Str} {scope : Scope} {cl : List (Str × Addr)} {Fin : Shared → List Value → List (Addr × Obj) → Prop} {ax : Addr} {vs : List Value} {news : List (Addr × Obj)} {s₁ : Shared}
    (hh : A.handled = none) (F : Fr h₀ L s₁.heap m) (N : News h₀ L s₁.heap news) (hl : h₀.IsTuple ax vs.toArray) (hsz : vs.length ≤ sizeLine)
    (h : ∀ g, CompRest prog w A h₀ L m env elt x scope cl { s₁ with heap := g } (SrcTu h₀ ax vs.toArray) (fun i v => vs.toArray[i]? = some v) (Fin { s₁ with heap := g }) vs.length 0 [] news) :
    CompTu prog w A h₀ L m env elt x scope cl Fin (.ref ax) s₁ := ⟨ax, vs.toArray, news, rfl, hh, F, N, .inl hl, by rwa [List.size_toArray], fun _ ⟨g, e⟩ => by have := h g; rw [List.size_toArray]; exact e ▸ this⟩
theorem tuple_st {h₀ : Heap} {L ax I : Addr} {its : Array Value} : ∀ i (h h' : Heap) (o : Obj) (nw : List (Addr × Obj)), (h.IsTupleIter I ax i ∧ h.IsTuple ax its) → h.get? I = some o → h'.get? I = some o → (∀ b o, h₀.get? b = some o → h'.get? b = some o) → News h₀ L h' nw → SrcTu h₀ ax its nw → (h'.IsTupleIter I ax i ∧ h'.IsTuple ax its) :=
  fun i h h' o nw st e e' k N S => ⟨by obtain ⟨o', q, r⟩ := st.1; rw [e] at q; cases q; exact ⟨o, e', r⟩, S.tuple k N⟩
theorem comp_tuple {elt iter : PySem.Expr} {x : Str} {px : Pos} {scope : Scope} {cl : List (Str × Addr)} {pos : Pos} {Q : Value → Shared → Prop} (F₀ : Fr h₀ L s.heap m)
    (hclos : closureFor scope env = pure cl) (hcell : ∀ y ∈ scope.names, y.2 ≠ .cell) (hkind : scope.kind = .function)
    (hnames : ∀ y ∈ scope.names, y.2 = .local → scope.names.lookup y.1 = some .local) (hx : scope.names.lookup x = some .local)
    (h : wpAny (model prog w) A (eval iter env) (CompTu prog w A h₀ L m env elt x scope cl (fun s₂ => FinE h₀ L m s₂ Q)) E s)
    (hs : ∀ x, foldedSetIterable iter env x = pure x := by intro _; rfl) :
    wpAny (model prog w) A (eval (.ListComp elt [⟨.Name x px, iter, [], 0⟩] scope pos) env) Q E s := by
  rw [eval_ListComp]
  refine wpAny_comprehension_free (use := none) rfl hs hclos hkind hnames (wpAny_mono h (fun xv s₁ h₁ => ?_) fun _ _ e => e)
  rcases h₁ with ⟨ax, its, news, rfl, hh, F, N, S, hsz, R⟩
  have hl := S.tuple F.keep N
  have hlt : ax < s₁.heap.objs.size := by obtain ⟨_, e, _⟩ := hl; exact Heap.lt_size e
  refine wpAny_pyIter_tuple hl ?_
  have up : ∀ b o, s₁.heap.get? b = some o → (s₁.heap.push { cls := .type "tuple_iterator", data := .fields #[.ref ax, .int 0 0] }).get? b = some o := fun b o e => Heap.get?_push_of_some _ e
  refine block_U (Walks.tuple hh s₁.heap.objs.size ax (Nat.ne_of_lt hlt) its) hsz (fun i h st => by obtain ⟨o, e, _⟩ := st.1; exact ⟨o, e⟩) tuple_st hcell hkind hx ⟨⟨_, Heap.get?_push_size _ rfl, rfl, rfl⟩, hl.push _⟩ (fun b hb => ?_)
    (F.keeps up) (N.grown up) (Nat.ne_of_lt F.ns.lt) (next_is_new F) (fun p hp => Nat.ne_of_lt (Heap.lt_size (N p hp).1)) S (R _ ⟨_, rfl⟩) ?_
  · show b < (s₁.heap.push _).objs.size
    rw [Heap.size_push]
    rcases List.mem_cons.mp hb with rfl | hb
    · exact Nat.lt_succ_self _
    · rw [List.mem_singleton.mp hb]; exact Nat.lt_succ_of_lt hlt
  · intro D C h tk m' ys news' F' N' o1 hn hC₀ hD₀ hCL hDL hCD offC fin
    refine ⟨m', hn, fun h'' hs'' => fin D h'' tk (F'.change hs'' hCL hC₀) (fun p hp => ?_) o1⟩
    refine ⟨hs''.extBut _ _ ?_ (N' p hp).1, (N' p hp).2⟩
    rcases List.mem_cons.mp hp with rfl | hp
    · exact Ne.symm hCD
    · exact offC p hp
/-- the end of a turn whose element made no, one, two or three objects -/
theorem ce0 {I C D : Addr} {s₁ : Shared} {oI oC oD : Obj} {S : List (Addr × Obj) → Prop} {rest : Value → List (Addr × Obj) → Prop} {y : Value} {h' : Heap} {tk : Nat} {news : List (Addr × Obj)}
    (F : Fr h₀ L h' m) (N : News h₀ L h' ((I, oI) :: (C, oC) :: (D, oD) :: news)) (off : Off3 I C D news) (hS : S news) (r : rest y news) : CompEnd h₀ L m s₁ I oI C oC D oD S rest y { s₁ with heap := h', toks := tk } :=
  CompEnd.intro F N news (fun _ h => h) off hS r
theorem ce1 {I C D : Addr} {s₁ : Shared} {oI oC oD : Obj} {S : List (Addr × Obj) → Prop} {rest : Value → List (Addr × Obj) → Prop} {y : Value} {h' : Heap} {tk : Nat} {q : Addr × Obj} {news : List (Addr × Obj)}
    (F : Fr h₀ L h' m) (N : News h₀ L h' (q :: (I, oI) :: (C, oC) :: (D, oD) :: news)) (off : Off3 I C D news) (h1 : (@Ne Nat q.1 I) ∧ (@Ne Nat q.1 C) ∧ (@Ne Nat q.1 D)) (hS : S (q :: news)) (r : rest y (q :: news)) :
    CompEnd h₀ L m s₁ I oI C oC D oD S rest y { s₁ with heap := h', toks := tk } :=
  CompEnd.intro F N (q :: news) (fun p hp => by
    simp only [List.mem_cons] at hp ⊢
    rcases hp with h | h | h | h | h <;> simp [h]) ⟨h1, off⟩ hS r
theorem ce2 {I C D : Addr} {s₁ : Shared} {oI oC oD : Obj} {S : List (Addr × Obj) → Prop} {rest : Value → List (Addr × Obj) → Prop} {y : Value} {h' : Heap} {tk : Nat} {q q2 : Addr × Obj} {news : List (Addr × Obj)}
    (F : Fr h₀ L h' m) (N : News h₀ L h' (q2 :: q :: (I, oI) :: (C, oC) :: (D, oD) :: news)) (off : Off3 I C D news) (h1 : (@Ne Nat q.1 I) ∧ (@Ne Nat q.1 C) ∧ (@Ne Nat q.1 D)) (h2 : (@Ne Nat q2.1 I) ∧ (@Ne Nat q2.1 C) ∧ (@Ne Nat q2.1 D)) (hS : S (q2 :: q :: news)) (r : rest y (q2 :: q :: news)) :
    CompEnd h₀ L m s₁ I oI C oC D oD S rest y { s₁ with heap := h', toks := tk } :=
  CompEnd.intro F N (q2 :: q :: news) (fun p hp => by
    simp only [List.mem_cons] at hp ⊢
    rcases hp with h | h | h | h | h | h <;> simp [h]) ⟨h2, h1, off⟩ hS r
theorem ce3 {I C D : Addr} {s₁ : Shared} {oI oC oD : Obj} {S : List (Addr × Obj) → Prop} {rest : Value → List (Addr × Obj) → Prop} {y : Value} {h' : Heap} {tk : Nat} {q q2 q3 : Addr × Obj} {news : List (Addr × Obj)}
    (F : Fr h₀ L h' m) (N : News h₀ L h' (q3 :: q2 :: q :: (I, oI) :: (C, oC) :: (D, oD) :: news)) (off : Off3 I C D news) (h1 : (@Ne Nat q.1 I) ∧ (@Ne Nat q.1 C) ∧ (@Ne Nat q.1 D)) (h2 : (@Ne Nat q2.1 I) ∧ (@Ne Nat q2.1 C) ∧ (@Ne Nat q2.1 D)) (h3 : (@Ne Nat q3.1 I) ∧ (@Ne Nat q3.1 C) ∧ (@Ne Nat q3.1 D))
    (hS : S (q3 :: q2 :: q :: news)) (r : rest y (q3 :: q2 :: q :: news)) : CompEnd h₀ L m s₁ I oI C oC D oD S rest y { s₁ with heap := h', toks := tk } :=
  CompEnd.intro F N (q3 :: q2 :: q :: news) (fun p hp => by
    simp only [List.mem_cons] at hp ⊢
    rcases hp with h | h | h | h | h | h | h <;> simp [h]) ⟨h3, h2, h1, off⟩ hS r
end
end

section
set_option maxRecDepth 100000
set_option maxHeartbeats 4000000
abbrev tupO (vs : List Value) (n : Nat := 0) : Obj := { cls := .type "tuple", data := .seq vs.toArray n }
/-- an exception of the class Thrown: its own dict, its tuple of arguments -/
abbrev excO (d : Option Addr) (t : Addr) : Obj := { cls := .ref 52, dict := d, data := .fields #[.ref t, .none, .none, .none, .bool false, .none] }
abbrev bmT : List Value := [.ref 32, .type "Exception", .type "BaseException", .type "object"]
theorem thr_cls {w : World} {h : Heap} (X : (hd.heap_1 w.params).In h) : ∃ nm q N bs hdct sn sub ab col dd k0 k1 k2 k3 k5, h.get? 52 = some (excClassObj nm q 52 N bs bmT hdct sn sub ab col dd k0 k1 k2 k3 k5 "Exception.__new__") := by
  refine ⟨?nm, ?q, ?N, ?bs, ?hdct, ?sn, ?sub, ?ab, ?col, ?dd, ?k0, ?k1, ?k2, ?k3, ?k5, ?e⟩
  case e => exact X 52 _ (by with_unfolding_all rfl)
section
variable {prog : Program} {w : World} {A : Around} {E : Value → Shared → Prop} {R : Result → Shared → Prop} {h : Heap} {g : Array GenState} {d : Drawn} {t : Nat} {os : OsState}
theorem thr_new {v : Value} (X : (hd.heap_1 w.params).In h)
    (hq : R (.ok (.ret (.ref (h.objs.size + 1)))) ⟨(h.push (tupO [v])).push (excO none h.objs.size), g, d, t, os⟩) :
    codeAny (model prog w) A (.call (.builtin "Exception.__new__") ⟨[.ref 52, v], []⟩) R ⟨h, g, d, t, os⟩ := by
  obtain ⟨nm, q, N, bs, hdct, sn, sub, ab, col, dd, k0, k1, k2, k3, k5, hC⟩ := thr_cls X
  have F := PySem.F.excBase_Exception
  have hends := F.ends
  have hc : (Value.ref 52 :: bmT).contains (.type "Exception") = true := by decide
  have hcA : (Value.ref 52 :: bmT).contains (.type "AttributeError") = false := by decide
  have hcN : (Value.ref 52 :: bmT).contains (.type "NameError") = false := by decide
  refine codeAny_call_builtin_code (Code.quiet_builtin _ F.quiet) ?_
  have hstar := F.noStar
  simp only [checkBuiltinCall, F.newKind, F.newSplit, F.newRow]
  repeat (first | refine wpAny_loadPart_at hC ?_ | (refine wpAny_isSubtype_exc hC ?_; rw [hc]) | refine wpAny_staticBase_exc hC ?_ | refine wpAny_madeBy_exc hC ?_ | simp only [bne_self_eq_false, Bool.false_eq_true, if_false] | wp_step)
  refine codeAny_builtinAt F.entry ?_
  unfold Builtin.«BaseException.__new__»
  refine PySem.wpAt_bind ?_
  show PySem.wpAt _ _ _ (stack >>= _) _ _ _
  refine PySem.wpAt_bind (PySem.wpAt_stack fun p below => PySem.wpAt_of_wpAny ?_)
  wp_walk
  refine PySem.wpAt_of_wpAny ?_
  rw [F.owner]
  repeat (first | with_reducible refine wpAny_madeHere_exc F.canon hC ?_ | with_reducible refine wpAny_loadPart_at hC ?_ | (with_reducible refine wpAny_isSubtype_exc hC ?_; first | rw [hc] | rw [hcA] | rw [hcN]) | wp_step)
  show R _ _
  rw [Heap.size_push]
  exact hq
theorem thr_call0 {v : Value} {Q : Value → Shared → Prop} (X : (hd.heap_1 w.params).In h)
    (hq : wpAny (model prog w) (A.under (.builtin "type.__call__" ⟨[.ref 52, v], []⟩)) (call (.ref 49) [.ref (h.objs.size + 1), v]) (fun r s' => r = .none ∧ Q (.ref (h.objs.size + 1)) s') E
      ⟨(h.push (tupO [v])).push (excO none h.objs.size), g, d, t, os⟩) :
    wpAny (model prog w) A (call (.ref 52) [v]) Q E ⟨h, g, d, t, os⟩ := by
  obtain ⟨nm, q, N, bs, hdct, sn, sub, ab, col, dd, k0, k1, k2, k3, k5, hC⟩ := thr_cls X
  have F := PySem.F.excBase_Exception
  have f1 := tc_lookup
  have f2 := tc_bind (.ref 52)
  have hT : (⟨h, g, d, t, os⟩ : Shared).TypeIs (.ref 52) "type" := ⟨_, hC, rfl⟩
  refine wpAny_call (codeAny_of_tree ?_)
  show wpAny _ _ (callAny (.ref 52) _) _ _ _
  repeat (any_goals (first | assumption | with_reducible refine wpAny_loadPart_at hC ?_ | wp_step))
  refine ⟨rfl, ?_⟩
  refine codeAny_call_builtin_at (Code.quiet_builtin _ (by decide +kernel)) entry_typeCall (wpAny_check_type_call_sub hC ?_)
  repeat (first | with_reducible refine wpAny_loadPart_at hC ?_ | with_reducible refine wpAny_madeBy_exc hC ?_ | wp_step)
  refine thr_new X ?_
  have kp : ∀ b o, h.get? b = some o → ((h.push (tupO [v])).push (excO none h.objs.size)).get? b = some o := fun b o e => Heap.get?_push_of_some _ (Heap.get?_push_of_some _ e)
  have hC₁ := kp _ _ hC
  have X₁ : (hd.heap_1 w.params).In ((h.push (tupO [v])).push (excO none h.objs.size)) := X.keeps kp
  have hget : ((h.push (tupO [v])).push (excO none h.objs.size)).get? (h.objs.size + 1) = some (excO none h.objs.size) := by heap_get
  have hcC : (Value.ref 52 :: bmT).contains (.ref 52) = true := by decide
  have hI : Looks (model prog w) ((h.push (tupO [v])).push (excO none h.objs.size)) (typeLookup (.ref 52) "__init__") (some (.ref 49)) := looks_findIn X₁ (by kernel_rfl)
  have hB : Looks (model prog w) ((h.push (tupO [v])).push (excO none h.objs.size)) (bindSpecial (.ref 49) (.ref (h.objs.size + 1))) (.ref 49, [.ref (h.objs.size + 1)]) := bind_fn X₁ _ (by kernel_rfl)
  show wpAny _ _ _ _ _ _
  unfold isInstance
  repeat (first | with_reducible refine wpAny_loadPart_at hget ?_ | (with_reducible refine wpAny_isSubtype_exc hC₁ ?_; rw [hcC]) | wp_step)
  show wpAny _ _ (typeLookup (.ref 52) _) _ _ _
  refine hI.at ?_
  refine wpAny_holding (wpAny_bind (hB.at (wpAny_bind (wpAny_mono hq (fun r s' hr => ?_) fun _ _ x => x))))
  obtain ⟨rfl, hQ⟩ := hr
  wp_walk
  exact hQ
end
end

section
open PySem PySem.W PyProof.Rows Builtin Builtin.ObjectAttr
set_option maxRecDepth 100000
set_option maxHeartbeats 4000000
theorem exc_passes (self : Value) : refuseLoop self "__setattr__" [.ref 52, .ref 32, .type "Exception", .type "BaseException", .type "object"] = pure () := by
  rw [refuseLoop_ref, refuseLoop_ref]; kernel_rfl
section
variable {prog : Program} {w : World} {A : Around} {E : Value → Shared → Prop} {R : Result → Shared → Prop} {s : Shared} {h₀ : Heap} {L : Addr} {m : Str → Option Value} {news : List (Addr × Obj)}
theorem thr_call {v : Value} {Q : Value → Shared → Prop} (F : Fr h₀ L s.heap m) (X₀ : (hd.heap_1 w.params).In h₀) (N : News h₀ L s.heap news)
    (h : ∀ e t h', Fr h₀ L h' m → News h₀ L h' ((e, excO none t) :: (t, tupO [v]) :: news) → (∀ p ∈ news, p.1 < t) → t < e →
      wpAny (model prog w) (A.under (.builtin "type.__call__" ⟨[.ref 52, v], []⟩)) (call (.ref 49) [.ref e, v]) (fun r s' => r = .none ∧ Q (.ref e) s') E { s with heap := h' }) :
    wpAny (model prog w) A (call (.ref 52) [v]) Q E s := by
  obtain ⟨hh, g, d, t, os⟩ := s
  refine thr_call0 (X₀.keeps F.keep) (h _ hh.objs.size _ ((F.push _).push _) ?_ (fun p hp => Heap.lt_size (N p hp).1) (Nat.lt_succ_self _))
  have := (N.push F (tupO [v])).push (F.push _) (excO none hh.objs.size)
  rwa [Heap.size_push] at this
theorem exc_init {e t : Addr} {d : Option Addr} {v : Value} {news' : Addr → List (Addr × Obj)} {Q : Value → Shared → Prop} (F : Fr h₀ L s.heap m := by k_asm) (X₀ : (hd.heap_1 w.params).In h₀ := by k_asm) (N : News h₀ L s.heap news := by k_asm)
    (U : ∀ t', Upd e (excO d t) (excO d t') news (news' t') := by intro t9; k_upd)
    (h : ∀ t' h', Fr h₀ L h' m → News h₀ L h' ((t', tupO [v]) :: news' t') → (∀ p ∈ news, p.1 < t') → Q .none { s with heap := h' }) :
    wpAny (model prog w) A (call (.builtin "Exception.__init__") [.ref e, v]) Q E s := by
  obtain ⟨hh, g, dr, tk, os⟩ := s
  have X := X₀.keeps F.keep
  obtain ⟨nm, q, N', bs, hdct, sn, sub, ab, col, dd, k0, k1, k2, k3, k5, hC⟩ := thr_cls X
  have B := PySem.F.excBase_Exception
  have hc : (Value.ref 52 :: bmT).contains (.type "Exception") = true := by decide
  have hshort := B.noStar
  obtain ⟨pre, post, rfl, hn', a, b⟩ := (U hh.objs.size).split
  have he : hh.get? e = some (excO d t) := (N (e, excO d t) (by simp)).1
  refine wpAny_call (codeAny_call_builtin B.init.plain B.initEntry ?_)
  simp only [checkBuiltinCall, B.initKind, B.initSplit, B.initRow]
  repeat (first | with_reducible refine wpAny_loadPart_at he ?_ | with_reducible refine wpAny_loadPart_at hC ?_ | (with_reducible refine wpAny_isSubtype_exc hC ?_; rw [hc]) | wp_step)
  have N₁ := N.push F (tupO [v])
  have N₂ : News h₀ L (hh.push (tupO [v])) (((hh.objs.size, tupO [v]) :: pre) ++ (e, excO d t) :: post) := N₁
  obtain ⟨U1, U2⟩ := news_upd (f := Obj.mapFields (·.setIfInBounds 0 (Value.ref hh.objs.size))) (o' := excO d hh.objs.size) (F.push _) N₂
    (by intro p hp; rcases List.mem_cons.mp hp with rfl | hp; exact (Nat.ne_of_gt (Heap.lt_size he)); exact a p hp) b rfl rfl
  refine h hh.objs.size _ U1 ?_ (fun p hp => Heap.lt_size (N p hp).1)
  rw [hn']
  exact U2
theorem exc_osa {x : Addr} {ox : Obj} {od : Option Obj} {name : Str} {tk : Tok} {v : Value} (X : (hd.heap_1 w.params).In s.heap) (I : InstAt s.heap x ox 52 od) (hf : findIn (hd.heap_1 w.params) (.ref 52) name = some none)
    (h : wpAny (model prog w) A.in1 (storeInOwnDict (.ref x) (.ref 52) (.str name tk) name v false)
      (fun fin s' => match fin with | .done f => R (.ok f) s' | .again c' => c'.quiet = true ∧ codeAny (model prog w) A c' R s') (fun e s' => R (.error e) s') s) :
    codeAny (model prog w) A (.call (.builtin "object.__setattr__") ⟨[.ref x, .str name tk, v], []⟩) R s := by
  have SF := PySem.F.store_object
  have sub : Looks (model prog w) s.heap (isInstance (.ref x) (.type "object")) true := I.type.andThen (looks_mroIn X (by kernel_rfl))
  refine codeAny_call_builtin SF.slot.plain SF.entry (@check_slot (model prog w) _ _ s "object.__setattr__" "object" "__setattr__" (.ref x) [.str name tk, v] [] _ SF.kind SF.split sub (SF.args (.ref x) (.str name tk) v) ?_)
  have hm : Looks (model prog w) s.heap (mroOf (.ref 52)) [.ref 52, .ref 32, .type "Exception", .type "BaseException", .type "object"] := (looks_clsIn X (cd := _) (by with_unfolding_all rfl)).andThen .now
  rw [osa_eq, refuse_eq]
  refine wpAny_bind (wpAny_bind (I.type.here (wpAny_bind (hm.here ?_))))
  rw [exc_passes]
  exact wpAny_pure (wpAny_bind (I.type.here (wpAny_bind ((looks_findIn X hf).here (wpAny_bind (wpAny_pure h))))))
theorem exc_store_in {dx : Addr} {name : Str} {tk : Tok} {v : Value} {es es' : List DictEntry} {n n' : Nat} {news' : List (Addr × Obj)} {Q : Fin → Shared → Prop} (F : Fr h₀ L s.heap m) (N : News h₀ L s.heap news)
    (hl : (getL name es).isSome = true)
    (e : (putL name (PyData.keyHash w.params name) (.str name s.toks) v es, putN name es n) = (es', n')) (U : Upd dx (dictOf es n) (dictOf es' n') news news') (hz : es'.length ≤ 1000)
    (h : ∀ h', Fr h₀ L h' m → News h₀ L h' news' → Q (.done (.ret .none)) { s with heap := h', toks := s.toks + 1 }) :
    wpAny (model prog w) A (storeInDict dx (.str name tk) name v) Q E s := by
  obtain ⟨pre, post, rfl, rfl, h1, h2⟩ := U.split
  obtain ⟨e1, e2⟩ := Prod.mk.inj e
  obtain ⟨U1, U2⟩ := news_upd (f := Obj.putName name (PyData.keyHash w.params name) (.str name s.toks) v) F N h1 h2 (by rw [putName_dict, e1, e2]) rfl
  have D := (N (dx, dictOf es n) (by simp)).1
  have D' := (U2 (dx, dictOf es' n') (by simp)).1
  refine wpAny_bind (wpAny_pure (wpAny_bind ?_))
  unfold nsSet
  refine wpAny_bind (wpAny_bind (wpAny_askSetting (wpAny_pure (wpAny_bind (wpAny_mkText (wpAny_bind (wpAny_loadPart D ?_)))))))
  have hl' := hl
  unfold getL at hl'
  have c : (!es.toArray.any (·.key.isStr name) && es.toArray.any (·.refKey)) = false := by
    rw [List.any_toArray, List.any_toArray]
    split at hl'
    · rename_i en he
      rw [List.any_eq_true.mpr ⟨en, List.mem_of_find?_eq_some he, List.find?_some he⟩]; rfl
    · split at hl'
      · cases hl'
      · rename_i z; rw [Bool.not_eq_true] at z; rw [z, Bool.and_false]
  dsimp only
  rw [aRefKeyMayBeTheName_at, c]
  refine wpAny_updatePart D ?_
  refine wpAny_bind (wpAny_lookBehind D' (pastItsLine_dict (by rw [List.size_toArray, sizeLine_eq]; omega)) ?_)
  exact wpAny_pure (h _ U1 U2)
theorem exc_at {x dx : Addr} {ox od : Obj} {h : Heap} (N : News h₀ L h news) (hx : (x, ox) ∈ news) (hdx : (dx, od) ∈ news) (hc : ox.cls = .ref 52) (hn : notCls ox = true) (he : ox.dict = some dx) : InstAt h x ox 52 (some od) := by
  refine ⟨(N _ hx).1, hc, hn, ?_⟩
  rw [he]
  exact (N _ hdx).1
/-- a store into an exception that has its dict -/
theorem exc_set {x dx : Addr} {ox : Obj} {name : Str} {v : Value} {es es' : List DictEntry} {n n' : Nat} {news' : List (Addr × Obj)} {Q : Unit → Shared → Prop} (F : Fr h₀ L s.heap m := by k_asm) (X₀ : (hd.heap_1 w.params).In h₀ := by k_asm) (N : News h₀ L s.heap news := by k_asm)
    (hx : (x, ox) ∈ news := by k_mem) (hc : ox.cls = .ref 52 := by exact rfl) (hn : notCls ox = true := by exact rfl) (hdd : ox.dict = some dx := by exact rfl) (hdx : (dx, dictOf es n) ∈ news := by k_mem) (hf : findIn (hd.heap_1 w.params) (.ref 52) name = some none := by k_is) (hl : (getL name es).isSome = true := by k_get)
    (e : (putL name (PyData.keyHash w.params name) (.str name (s.toks + 1)) v es, putN name es n) = (es', n') := by k_put) (U : Upd dx (dictOf es n) (dictOf es' n') news news' := by k_upd) (hz : es'.length ≤ 1000 := by exact Nat.le_of_ble_eq_true rfl)
    (h : ∀ h', Fr h₀ L h' m → News h₀ L h' news' → Q () { s with heap := h', toks := s.toks + 2 }) :
    wpAny (model prog w) A (setAttr (.ref x) name v) Q E s := by
  have X := X₀.keeps F.keep
  have I := exc_at N hx hdx hc hn hdd
  refine set_plain X I (by kernel_rfl) (exc_osa (s := { s with toks := s.toks + 1 }) X I hf ?_)
  have hxx := (N _ hx).1
  obtain ⟨oc, odi, oda, osl⟩ := ox
  dsimp only at hc hdd hxx
  subst hc hdd
  have hcl : Looks (model prog w) s.heap (classData 52) _ := looks_clsIn X (cd := _) (by with_unfolding_all rfl)
  refine wpAny_bind (wpAny_pure (wpAny_bind (wpAny_bind (wpAny_loadPart hxx (wpAny_bind (hcl _ _ _ _ (fun _ _ e => e) ?_))))))
  refine wpAny_pure (a := some dx) ?_
  exact exc_store_in (s := { s with toks := s.toks + 1 }) F N hl e U hz fun h' F' N' => h h' F' N'
/-- the first store into an exception: its dict is made -/
theorem exc_set_new {x t : Addr} {name : Str} {v : Value} {news' : Addr → List (Addr × Obj)} {Q : Unit → Shared → Prop} (F : Fr h₀ L s.heap m := by k_asm) (X₀ : (hd.heap_1 w.params).In h₀ := by k_asm) (N : News h₀ L s.heap news := by k_asm)
    (hf : findIn (hd.heap_1 w.params) (.ref 52) name = some none := by k_is) (U : ∀ dx, Upd x (excO none t) (excO (some dx) t) news (news' dx) := by intro d9; k_upd)
    (h : ∀ dx h', Fr h₀ L h' m → News h₀ L h' ((dx, dictOf [⟨PyData.keyHash w.params name, .str name (s.toks + 1), v⟩] 1) :: news' dx) → (∀ p ∈ news, p.1 < dx) → Q () { s with heap := h', toks := s.toks + 2 }) :
    wpAny (model prog w) A (setAttr (.ref x) name v) Q E s := by
  have X := X₀.keeps F.keep
  obtain ⟨pre, post, rfl, hn', a, b⟩ := (U s.heap.objs.size).split
  have hx := (N (x, excO none t) (by simp)).1
  have I : InstAt s.heap x (excO none t) 52 none := ⟨hx, rfl, rfl, trivial⟩
  refine set_plain X I (by kernel_rfl) (exc_osa (s := { s with toks := s.toks + 1 }) X I hf ?_)
  have hcl : Looks (model prog w) s.heap (classData 52) _ := looks_clsIn X (cd := _) (by with_unfolding_all rfl)
  refine wpAny_bind (wpAny_pure (wpAny_bind (wpAny_bind (wpAny_loadPart hx (wpAny_bind (hcl _ _ _ _ (fun _ _ e => e) ?_))))))
  have N₁ : News h₀ L (s.heap.push (dictOf [] 0)) (((s.heap.objs.size, dictOf [] 0) :: pre) ++ (x, excO none t) :: post) := N.push F (dictOf [] 0)
  obtain ⟨U1, U2⟩ := news_upd (f := fun o => { o with dict := some s.heap.objs.size }) (o' := excO (some s.heap.objs.size) t) (F.push _) N₁
    (by intro p hp; rcases List.mem_cons.mp hp with rfl | hp; exact (Nat.ne_of_gt (Heap.lt_size hx)); exact a p hp) b rfl rfl
  refine wpAny_bind (wpAny_alloc ?_)
  refine wpAny_bind (wpAny_update (N₁ (x, excO none t) (by simp)).1 ?_)
  refine wpAny_pure (a := some s.heap.objs.size) ?_
  have hlt : ∀ p ∈ pre ++ (x, excO none t) :: post, p.1 < s.heap.objs.size := fun p hp => Heap.lt_size (N p hp).1
  have hlt2 : ∀ p ∈ pre ++ (x, excO (some s.heap.objs.size) t) :: post, p.1 ≠ s.heap.objs.size := by
    intro p hp
    rcases List.mem_append.mp hp with hp | hp
    · exact Nat.ne_of_lt (hlt p (by simp [hp]))
    · rcases List.mem_cons.mp hp with rfl | hp
      · exact Nat.ne_of_lt (hlt (x, excO none t) (by simp))
      · exact Nat.ne_of_lt (hlt p (by simp [hp]))
  refine exc_store_in (s := { s with heap := _, toks := s.toks + 1 }) (es := []) (n := 0) U1 U2 rfl rfl (.head hlt2) (Nat.le_of_ble_eq_true rfl) fun h' F' N' => h _ h' F' ?_ hlt
  rw [hn']
  exact N'
end
end

local macro_rules | `(tactic| kpc_if) => `(tactic| first | with_reducible_and_instances assumption | (apply And.left; (iterate 16 (first | done | with_reducible_and_instances assumption | apply And.right)); done))
local macro_rules | `(tactic| k_ne) => `(tactic| (refine neN ?_; (try dsimp only); first | (refine Nat.ne_of_gt ?_; kpc_if) | (refine Nat.ne_of_lt ?_; kpc_if) | kpc_if | (refine Ne.symm ?_; kpc_if)))
local macro_rules | `(tactic| k_room) => `(tactic| ((try simp only [depth_mark, depth_under_make, depth_under_kw, depth_in1, depth_deeper, depth_caller]); (try dsimp only [ktrTop]); omega))
local macro_rules | `(tactic| k_units) => `(tactic| ktr_units)
local macro_rules | `(tactic| k_all) => `(tactic| ((try refine allne_of ?_); (iterate 16 (first | done | with_reducible assumption | apply And.right)); done))
section
set_option maxRecDepth 100000
set_option maxHeartbeats 4000000
local macro_rules | `(tactic| walk_at "call builtin:Exception.__init__") => `(tactic| (k_dflt (refine' exc_init (h := ?_)); intro t' h' F' N' l1; (try dsimp only at N'); (try k_lt l1); (try k_sweep)))
local macro_rules | `(tactic| walk_at "setAttr ref") => `(tactic| (k_dflt (first
  | (refine' exc_set (h := ?_); intro h' F' N')
  | (refine' exc_set_new (h := ?_); intro d' h' F' N' l1; (try dsimp only at N'); (try k_lt l1))); (try k_sweep)))
local macro_rules | `(tactic| walk_at "getMethod type:Exception") => `(tactic| (k_here; refine' method_type ?F ?X ?m (by decide +kernel) ?e ?h ?_; (case F => k_asm); (case X => k_asm); (case m => kernel_rfl); (case e => k_dflt k_is); (case h => k_handed)))
/-- the dict of a Thrown that bears v -/
abbrev thrD (w : World) (v : Value) (t1 t2 t3 t4 : Tok) : Obj := dictOf [⟨PyData.keyHash w.params (Str.ofString "message"), .str (Str.ofString "message") t1, .str (Str.ofString "a value is thrown") t4⟩, ⟨PyData.keyHash w.params (Str.ofString "spot"), .str (Str.ofString "spot") t2, .none⟩, ⟨PyData.keyHash w.params (Str.ofString "value"), .str (Str.ofString "value") t3, v⟩] 3
theorem thr_fin {w : World} {v : Value} {news : List (Addr × Obj)} {e dx t : Addr} {t1 t2 t3 t4 : Tok} {h₀ h : Heap} {L : Addr} {x1 x2 : Addr × Obj} (N : News h₀ L h ((dx, thrD w v t1 t2 t3 t4) :: x1 :: (e, excO (some dx) t) :: x2 :: news)) :
    News h₀ L h ((e, excO (some dx) t) :: (dx, thrD w v t1 t2 t3 t4) :: news) := by
  intro p hp
  refine N p ?_
  simp only [List.mem_cons] at hp ⊢
  rcases hp with h | h | h
  · exact .inr (.inr (.inl h))
  · exact .inl h
  · exact .inr (.inr (.inr (.inr h)))
theorem thr_ctr {w : World} {v : Value} {news : List (Addr × Obj)} :
    Ctr w 52 4 news [v] (fun r news' => ∃ e dx t t1 t2 t3 t4, r = .ref e ∧ news' = (e, excO (some dx) t) :: (dx, thrD w v t1 t2 t3 t4) :: news ∧ AllLt e news ∧ AllLt dx news ∧ e < dx) := by
  unfold Ctr
  k_fill
  intro mean mg mb dp un gd cn cs ac ccd cl outer A₀ base h₀ L m s Q E B F X N T hk hd hu hret
  w_on
  k_dflt (refine' thr_call ?k1 ?k2 ?k3 ?_; (case k1 => k_asm); (case k2 => k_asm); (case k3 => k_asm); k_whole)
  intro e' t' h' F' N' l1 l2
  have l3 : ∀ p ∈ news, p.1 < e' := fun p hp => Nat.lt_trans (l1 p hp) l2
  replace l1 := allLt_of l1; k_lt2 l2; replace l3 := allLt_of l3
  refine wpAny_call ?_
  k_dflt ktr_enter
  k_steps
  (rename Fr _ _ _ _ => kF9); (rename News _ _ _ _ => kN9)
  refine hret _ _ _ _ kF9 (thr_fin kN9) ⟨e', _, _, _, _, _, _, rfl, rfl, l3, ?_, ?_⟩
  all_goals ((repeat (rename (_ ∧ _) => hh9; obtain ⟨_, _⟩ := hh9)); assumption)
theorem thr_go {w : World} {v : Value} {news : List (Addr × Obj)} {mean : ExcName → Option Value} {mg mb : Str → Option Value} {dp un : Nat} {gd : Option (List Code)} {cn : Str} {cs : Scope} {aF : Addr} {ccd : Value} {cl : List (Str × Addr)} {outer : List Env} {A₀ : Around} {base h₀ : Heap} {LF : Addr} {mF : Str → Option Value} {sF : Shared} {Q E : Value → Shared → Prop} {f9 : Addr} {vs9 : List Value} {news9 : List (Addr × Obj)}
    (ret : ∀ (h9 : Heap) (kk9 : Nat) (e dx : Addr) (t t1 t2 t3 t4 : Tok), Fr h₀ LF h9 mF → News h₀ LF h9 ((e, excO (some dx) t) :: (dx, thrD w v t1 t2 t3 t4) :: news) → AllLt e news → AllLt dx news → @LT.lt Nat _ e dx → Q (.ref e) { sF with heap := h9, toks := kk9 })
    (hf9 : f9 = 52 := by exact rfl) (hv9 : vs9 = [v] := by exact rfl) (hB9 : Below A₀ base outer h₀ := by k_asm) (hF9 : Fr h₀ LF sF.heap mF := by k_asm) (hX9 : (hd.heap_1 w.params).In h₀ := by k_asm) (hN9 : News h₀ LF sF.heap news9 := by k_asm) (hs9 : ∀ q9 ∈ (news : List (Addr × Obj)), q9 ∈ news9 := by exact fun _ h => h) (hT9 : Top hd.view_1 (looseW hd.view_1 [Str.ofString "RowsError", Str.ofString "int_value", Str.ofString "named"]) mean mg mb h₀ := by k_asm) (hk9 : cs.kind = .function := by first | exact rfl | assumption) (hd9 : dp + 4 < recursionLimit := by k_room) (hu9 : un + 8 * 4 < cLine := by k_units)  :
    wpAny (model PySem.Challenge.rw_sf0040_01.row.prog w) (ktrTop dp un gd cn cs LF aF ccd cl outer) (call (.ref f9) vs9) Q E sF := by
  subst hf9 hv9
  refine Ctr.use (thr_ctr) hB9 hF9 hX9 hN9 hs9 hT9 hk9 hd9 hu9 ?_
  rintro v9 h9 kk9 n9 hF8 hN8 ⟨e, dx, t, t1, t2, t3, t4, rfl, rfl, l1, l2, l3⟩
  exact ret h9 kk9 _ _ _ _ _ _ _ hF8 hN8 l1 l2 l3
end

local macro_rules | `(tactic| walk_at "call type:tuple") => `(tactic| (k_here; (with_reducible show wpAny _ _ (call (Value.type _) [Value.ref _]) _ _ _); k_dflt (refine' call_tuple_tup ?ht ?_; (case ht => first | exact News.isTup (by k_asm) (by k_mem) | (refine' tupK ?x1 ?x2; (case x1 => k_in); (case x2 => k_is))))))
local macro_rules | `(tactic| walk_at "call ref") => `(tactic| (k_dflt (refine' thr_go ?_); (intros; (try simp only [AllLt, and_true] at *); (try dsimp only); (try k_fold); (try k_sweep))))
section
set_option maxRecDepth 100000
set_option maxHeartbeats 4000000
theorem thrown_fin {w : World} {nm : Str} {tn : Tok} {news : List (Addr × Obj)} {e dx t D K u p : Addr} {t1 t2 t3 t4 b1 b2 : Tok} {h₀ h : Heap} {L : Addr} {x1 x2 : Addr × Obj}
    (N : News h₀ L h ((e, excO (some dx) t) :: (dx, thrD w (.ref D) t1 t2 t3 t4) :: (D, tupO [.str (Str.ofString "struct") b1, .ref K, .ref p]) :: (K, tupO [.str (Str.ofString "name") b2, .str nm tn, .ref u]) :: x1 :: x2 :: news)) :
    News h₀ L h ((e, excO (some dx) t) :: (dx, thrD w (.ref D) t1 t2 t3 t4) :: (D, tupO [.str (Str.ofString "struct") b1, .ref K, .ref p]) :: (K, tupO [.str (Str.ofString "name") b2, .str nm tn, .ref u]) :: news) := by
  intro p hp
  refine N p ?_
  simp only [List.mem_cons] at hp ⊢
  rcases hp with h | h | h | h | h <;> simp [h]
theorem thrown_ctr {w : World} {nm : Str} {tn : Tok} {p : Addr} {vs : List Value} {np : Nat} {news : List (Addr × Obj)} :
    Ctr w 104 8 ((p, tupO vs np) :: news) [.str nm tn, .ref p] (fun r news' => ∃ e dx t D K u t1 t2 t3 t4 b1 b2, r = .ref e ∧ AllLt e news ∧ AllLt dx news ∧ (@LT.lt Nat _ K D ∧ @LT.lt Nat _ D e ∧ @LT.lt Nat _ e dx) ∧
      news' = (e, excO (some dx) t) :: (dx, thrD w (.ref D) t1 t2 t3 t4) :: (D, tupO [.str (Str.ofString "struct") b1, .ref K, .ref p]) :: (K, tupO [.str (Str.ofString "name") b2, .str nm tn, .ref u]) :: news) := by
  unfold Ctr
  k_fill
  intro mean mg mb dp un gd cn cs ac ccd cl outer A₀ base h₀ L m s Q E B F X N T hk hd hu hret
  w_on
  refine wpAny_call ?_
  k_dflt ktr_enter
  k_steps
  (rename Fr _ _ _ _ => kF9); (rename News _ _ _ _ => kN9)
  refine hret _ _ _ _ kF9 (thrown_fin kN9) ⟨_, _, _, _, _, _, _, _, _, _, _, _, rfl, ?_, ?_, ⟨?_, ?_, ?_⟩, rfl⟩
  all_goals ((repeat (rename (_ ∧ _) => hh9; obtain ⟨_, _⟩ := hh9)); assumption)
theorem thrown_go {w : World} {nm : Str} {tn : Tok} {p : Addr} {vs : List Value} {np : Nat} {news : List (Addr × Obj)} {mean : ExcName → Option Value} {mg mb : Str → Option Value} {dp un : Nat} {gd : Option (List Code)} {cn : Str} {cs : Scope} {aF : Addr} {ccd : Value} {cl : List (Str × Addr)} {outer : List Env} {A₀ : Around} {base h₀ : Heap} {LF : Addr} {mF : Str → Option Value} {sF : Shared} {Q E : Value → Shared → Prop} {f9 : Addr} {vs9 : List Value} {news9 : List (Addr × Obj)}
    (ret : ∀ (h9 : Heap) (kk9 : Nat) (e dx : Addr) (t : Tok) (D K u : Addr) (t1 t2 t3 t4 b1 b2 : Tok), Fr h₀ LF h9 mF → News h₀ LF h9 ((e, excO (some dx) t) :: (dx, thrD w (.ref D) t1 t2 t3 t4) :: (D, tupO [.str (Str.ofString "struct") b1, .ref K, .ref p]) :: (K, tupO [.str (Str.ofString "name") b2, .str nm tn, .ref u]) :: news) → AllLt e news → AllLt dx news → (@LT.lt Nat _ K D ∧ @LT.lt Nat _ D e ∧ @LT.lt Nat _ e dx) → Q (.ref e) { sF with heap := h9, toks := kk9 })
    (hf9 : f9 = 104 := by exact rfl) (hv9 : vs9 = [.str nm tn, .ref p] := by exact rfl) (hB9 : Below A₀ base outer h₀ := by k_asm) (hF9 : Fr h₀ LF sF.heap mF := by k_asm) (hX9 : (hd.heap_1 w.params).In h₀ := by k_asm) (hN9 : News h₀ LF sF.heap news9 := by k_asm) (hs9 : ∀ q9 ∈ ((p, tupO vs np) :: news : List (Addr × Obj)), q9 ∈ news9 := by exact fun _ h => h) (hT9 : Top hd.view_1 (looseW hd.view_1 [Str.ofString "RowsError", Str.ofString "int_value", Str.ofString "named"]) mean mg mb h₀ := by k_asm) (hk9 : cs.kind = .function := by first | exact rfl | assumption) (hd9 : dp + 8 < recursionLimit := by k_room) (hu9 : un + 8 * 8 < cLine := by k_units)  :
    wpAny (model PySem.Challenge.rw_sf0040_01.row.prog w) (ktrTop dp un gd cn cs LF aF ccd cl outer) (call (.ref f9) vs9) Q E sF := by
  subst hf9 hv9
  refine Ctr.use (thrown_ctr (vs := vs) (np := np)) hB9 hF9 hX9 hN9 hs9 hT9 hk9 hd9 hu9 ?_
  rintro v9 h9 kk9 n9 hF8 hN8 ⟨e, dx, t, D, K, u, t1, t2, t3, t4, b1, b2, rfl, l1, l2, l3, rfl⟩
  exact ret h9 kk9 _ _ _ _ _ _ _ _ _ _ _ _ hF8 hN8 l1 l2 l3
end

section
set_option maxRecDepth 100000
set_option maxHeartbeats 4000000
/-- a tree without calls whose stores leave every object's dict as it is -/
def Still {α : Type} : Sem α → Prop
  | .pure _ => True
  | .raise _ => True
  | .unsupported _ => True
  | .finish _ => True
  | .rule _ k => Still (k ())
  | .at _ k => Still (k ())
  | .point _ k => Still (k ())
  | .load _ _ k => ∀ o, Still (k o)
  | .loadIfAlive _ k => ∀ o, Still (k o)
  | .update _ _ f k => (∀ o : Obj, (f o).dict = o.dict ∧ (f o).isFreed = o.isFreed) ∧ Still (k ())
  | .alloc _ k => ∀ a, Still (k a)
  | .fresh k => ∀ t, Still (k t)
  | .ask k => ∀ x, Still (k x)
  | .handled _ k => ∀ x, Still (k x)
  | .stack k => ∀ x, Still (k x)
  | _ => False
def HasD (e dx : Addr) (h : Heap) : Prop := ∃ o, h.get? e = some o ∧ o.dict = some dx
theorem Still.bind' {α β : Type} {f : α → Sem β} (hf : ∀ a, Still (f a)) : ∀ {m : Sem α}, Still m → Still (m.bind f) := by
  intro m hm
  induction m with
  | pure a => exact hf a
  | raise e => trivial
  | unsupported w => trivial
  | finish e => trivial
  | rule t k ih => exact ih () hm
  | «at» p k ih => exact ih () hm
  | point l k ih => exact ih () hm
  | load a p k ih => exact fun o => ih o (hm o)
  | loadIfAlive a k ih => exact fun o => ih o (hm o)
  | update a p f k ih => exact ⟨hm.1, ih () hm.2⟩
  | alloc o k ih => exact fun a => ih a (hm a)
  | fresh k ih => exact fun a => ih a (hm a)
  | ask k ih => exact fun a => ih a (hm a)
  | handled o k ih => exact fun a => ih a (hm a)
  | stack k ih => exact fun a => ih a (hm a)
  | _ => exact hm.elim
theorem Still.bind {α β : Type} {m : Sem α} {f : α → Sem β} (hm : Still m) (hf : ∀ a, Still (f a)) : Still (m >>= f) := Still.bind' hf hm
theorem HasD.update {e dx a : Addr} {h : Heap} {f : Obj → Obj} (H : HasD e dx h) (hf : ∀ o : Obj, (f o).dict = o.dict ∧ (f o).isFreed = o.isFreed) : HasD e dx (h.update a f) := by
  obtain ⟨o, ho, hd⟩ := H
  by_cases q : a = e
  · subst q
    exact ⟨f o, Heap.get?_update_self _ ho ((hf o).2.trans (Heap.get?_some_iff.mp ho).2), (hf o).1.trans hd⟩
  · exact ⟨o, (Heap.get?_update_other _ _ q).trans ho, hd⟩
theorem Still.wp {α : Type} {M : Model} {Γ : Ctx} {e dx : Addr} : ∀ {t : Sem α}, Still t → ∀ {Q : α → Pos → Shared → Prop} {E : Value → Pos → Shared → Prop} {p : Pos} {s : Shared}, HasD e dx s.heap →
    Sem.wp M Γ t (fun a p' s' => HasD e dx s'.heap → Q a p' s') (fun x p' s' => HasD e dx s'.heap → E x p' s') p s → Sem.wp M Γ t Q E p s := by
  intro t ht
  induction t with
  | pure a => intro Q E p s H h; exact h H
  | raise x => intro Q E p s H h; exact h H
  | unsupported w => intro Q E p s H h; exact h
  | finish x => intro Q E p s H h; exact h
  | rule tg k ih => intro Q E p s H h; exact ih () ht H h
  | «at» q k ih => intro Q E p s H h; exact ih () ht H h
  | point l k ih => intro Q E p s H h; exact ih () ht H h
  | load a q k ih =>
    intro Q E p s H h
    obtain ⟨o, ho, h⟩ := h
    exact ⟨o, ho, ih o (ht o) H h⟩
  | loadIfAlive a k ih => intro Q E p s H h; exact ih _ (ht _) H h
  | update a q f k ih =>
    intro Q E p s H h
    exact ⟨h.1, ih () ht.2 (H.update ht.1) h.2⟩
  | alloc o k ih =>
    intro Q E p s H h
    obtain ⟨o', ho, hd⟩ := H
    exact ih _ (ht _) ⟨o', Heap.get?_push_of_some _ ho, hd⟩ h
  | fresh k ih => intro Q E p s H h; exact ih _ (ht _) H h
  | ask k ih => intro Q E p s H h; exact ih _ (ht _) H h
  | handled o k ih => intro Q E p s H h; exact ih _ (ht _) H h
  | stack k ih => intro Q E p s H h; exact ih _ (ht _) H h
  | _ => exact ht.elim
theorem wpAny_still {α : Type} {M : Model} {A : Around} {t : Sem α} {Q : α → Shared → Prop} {E : Value → Shared → Prop} {s : Shared} {e dx : Addr} (ht : Still t) (H : HasD e dx s.heap)
    (h : wpAny M A t (fun a s' => HasD e dx s'.heap → Q a s') (fun x s' => HasD e dx s'.heap → E x s') s) : wpAny M A t Q E s :=
  fun Γ p hΓ => ht.wp H (h Γ p hΓ)
theorem mapFields_still (f : Array Value → Array Value) (o : Obj) : (Obj.mapFields f o).dict = o.dict ∧ (Obj.mapFields f o).isFreed = o.isFreed := by
  obtain ⟨c, d, dt, sl⟩ := o
  cases dt <;> exact ⟨rfl, rfl⟩
theorem still_fieldsOf (v : Value) : Still (fieldsOf v) := by
  unfold fieldsOf
  cases v with
  | ref a =>
    refine Still.bind (m := load a) (fun o => trivial) fun o => ?_
    cases o.data <;> trivial
  | _ => trivial
theorem still_field (v : Value) (i : Nat) : Still (field v i) := by
  unfold field
  refine Still.bind (still_fieldsOf v) fun vs => ?_
  split <;> trivial
theorem still_setField (v : Value) (i : Nat) (x : Value) : Still (setField v i x) := by
  unfold setField
  cases v with
  | ref a =>
    show Still (updateField a i x)
    unfold updateField
    refine Still.bind (m := load a) (fun o => trivial) fun o => ?_
    split
    · split
      · exact ⟨fun o => mapFields_still _ o, trivial⟩
      · trivial
    · trivial
  | _ => trivial
theorem still_setFlight (v : Value) (f : Option Addr) : Still (setFlight v f) := by
  unfold setFlight
  refine Still.bind (still_field v 1) fun tb => ?_
  split
  · exact still_setField _ _ _
  · trivial
theorem still_newFields (ty : String) (vs : List Value) : Still (newFields ty vs) := by
  unfold newFields newObj
  dsimp only
  split
  · exact trivial
  · unfold newObjAsIs
    exact fun a => trivial
theorem still_behind (env : Env) (outer : List Env) : Still (behindIsImport env outer) := by
  unfold behindIsImport
  split
  · trivial
  · split
    · trivial
    · exact Still.bind (still_field _ _) fun _ => trivial
theorem still_keptBack (env : Env) (i : Bool) (l : List Env) : Still (keptBack env i l) := by
  unfold keptBack
  split
  · split
    · trivial
    · exact fun st => trivial
  · trivial
theorem still_ready : ∀ l : List Env, Still (readyFrames l)
  | [] => trivial
  | env :: outer => by
    unfold readyFrames
    split
    · refine Still.bind (m := load _) (fun o => trivial) fun o => ?_
      split
      · trivial
      · refine Still.bind (still_behind _ _) fun i => Still.bind (still_keptBack _ _ _) fun b => Still.bind ⟨fun o => ⟨rfl, ?_⟩, trivial⟩ fun _ => still_ready outer
        obtain ⟨c, d, dt, sl⟩ := o
        cases dt <;> rfl
    · trivial
theorem still_frameOf (env : Env) : Still (PySem.frameOf env) := by
  unfold PySem.frameOf
  refine Still.bind (m := frameEnvs) (fun st => trivial) fun l => ?_
  refine Still.bind ?_ fun r => ?_
  · unfold frameObject
    split
    · trivial
    · exact Still.bind (still_ready _) fun _ => trivial
  · split <;> trivial
theorem still_place (f : Addr) (b : Bool) : Still (entryPlaceOf f b) := by
  unfold entryPlaceOf
  refine Still.bind (m := stack) (fun st => trivial) fun acts => ?_
  split <;> trivial
theorem still_noteFrame (v : Value) (env : Env) : Still (noteFrame v env) := by
  unfold noteFrame
  split
  · refine Still.bind (still_field _ _) fun hd => ?_
    have tail : ∀ (f : Addr) (b : Bool), Still (do let a ← PySem.frameOf env; let pl ← entryPlaceOf f b; let b ← EntryCells.newEntry hd a .none (rawInt f) .none pl; setField v 1 b) := fun f b =>
      Still.bind (still_frameOf env) fun a => Still.bind (still_place _ _) fun pl => Still.bind (still_newFields _ _) fun b => still_setField _ _ _
    split
    · refine Still.bind (still_field _ _) fun x => ?_
      split
      · trivial
      · exact Still.bind (still_setField _ _ _) fun _ => tail _ _
    · exact tail _ _
  · trivial
theorem still_leaving (env : Env) (v : Value) : Still (leaving env v) := by
  unfold leaving
  exact Still.bind (still_noteFrame _ _) fun _ => still_setFlight _ _
end

section
open PySem PySem.W PyProof.Rows PySem.Spec PySem.Calls
set_option maxRecDepth 100000
set_option maxHeartbeats 4000000
/-- a Thrown in flight whose dict is known -/
def RaisD (base G : Heap) (l : List Env) (e dx : Addr) (news : List (Addr × Obj)) (h : Heap) : Prop := RaisedSN base G l e (.ref 52) news h ∧ HasD e dx h
section
variable {M : Model} {A : Around} {E : Value → Shared → Prop} {s' : Shared} {base g g₂ : Heap} {outer : List Env} {L a e dx t : Addr} {m : Str → Option Value} {name : Str} {scope : Scope} {cd : Value} {Q : Unit → Shared → Prop} {news : List (Addr × Obj)}
theorem leave_raiseD (K : Below A base outer g := by k_asm) (F : Fr g L s'.heap m := by k_asm) (N : News g L s'.heap ((e, excO (some dx) t) :: news) := by k_asm) (hne : ∀ p ∈ news, p.1 ≠ e := by k_all)
    (hQ : ∀ h', RaisD base g outer e dx news h' → g.UpToSlots h' → Q () { s' with heap := h' }) (hk : scope.kind = .function := by rfl) :
    wpAny M (A.deeper (envOf name scope L a cd)) (leaving (envOf name scope L a cd) (.ref e)) Q E s' := by
  have K' := K.push (name := name) (a := a) (cd := cd) F hk
  have he := (N _ (.head _)).1
  have heg : g.get? e = none := (N _ (.head _)).2.2
  have heL : e ≠ L := (N _ (.head _)).2.1
  have heb : base.get? e = none := fresh_of_stays K.stays heg
  have inF : ∀ b, b ∈ (envOf name scope L a cd :: outer).filterMap (·.frame) → b = L ∨ b ∈ outer.filterMap (·.frame) := fun b hb => kts_mem hb
  have hin : ∀ env ∈ (envOf name scope L a cd :: outer), ∀ b, env.frame = some b → b ∈ e :: (envOf name scope L a cd :: outer).filterMap (·.frame) :=
    fun env he b hb => List.mem_cons_of_mem _ (List.mem_filterMap.mpr ⟨env, he, hb⟩)
  have st : base.StaysIn (hideAll s'.heap (e :: (envOf name scope L a cd :: outer).filterMap (·.frame))) := fun b o q => hideAll_get _ (K'.stays b o q) fun hm => by
    rcases List.mem_cons.mp hm with z | z
    · rw [z, heb] at q; cases q
    · rw [(K'.frames.mem z).1] at q; cases q
  have sg : ∀ b o, g.get? b = some o → b ∉ outer.filterMap (·.frame) → (hideAll s'.heap (e :: (envOf name scope L a cd :: outer).filterMap (·.frame))).get? b = some o := fun b o q nm => hideAll_get _ (F.keep b o q) fun hm => by
    rcases List.mem_cons.mp hm with z | z
    · rw [z, heg] at q; cases q
    · rcases inF b z with y | y
      · rw [y, kts_self F] at q; cases q
      · exact nm y
  have hl : ∀ q ∈ news, (hideAll s'.heap (e :: (envOf name scope L a cd :: outer).filterMap (·.frame))).get? q.1 = some q.2 ∧ g.get? q.1 = none ∧ base.get? q.1 = none := fun q hq => by
    have n := N q (.tail _ hq)
    refine ⟨hideAll_get _ n.1 fun hm => ?_, n.2.2, fresh_of_stays K.stays n.2.2⟩
    rcases List.mem_cons.mp hm with z | z
    · exact hne q hq z
    · rcases inF _ z with y | y
      · exact n.2.1 y
      · obtain ⟨env, hv, hf⟩ := List.mem_filterMap.mp y
        obtain ⟨o, ho, _⟩ := (K.frames.mem (List.mem_filterMap.mpr ⟨env, hv, hf⟩)).2
        rw [n.2.2] at ho; cases ho
  have hen : (hideAll s'.heap (e :: (envOf name scope L a cd :: outer).filterMap (·.frame))).get? e = none := hideAll_none _ (.head _)
  refine wpAny_still (still_leaving _ _) ⟨_, he, rfl⟩ ?_
  refine wpAny_leaving_firstW (a0 := .ref t) K'.stack (funFrames_hide K'.frames hin) rfl he (fun b o hb => of_hideAll _ hb) hen rfl rfl rfl fun h' hL hD => ?_
  obtain ⟨k1, ⟨_, _, k2⟩, k3, k4⟩ := hL
  exact hQ h' ⟨⟨_, .ref t, st, sg, hl, k1, hen, k2, k3⟩, hD⟩ ((Heap.UpToSlots.of_keeps F.keep).trans k4)
theorem leave_onD (R : RaisD base g₂ (envOf name scope L a cd :: outer) e dx news s'.heap := by k_asm) (K : Below A base outer g := by k_asm) (hsm : g₂.UpToSlots s'.heap := by k_asm) (F : Fr g L g₂ m := by k_asm)
    (hQ : ∀ h', RaisD base g outer e dx news h' → g.UpToSlots h' → Q () { s' with heap := h' }) :
    wpAny M (A.deeper (envOf name scope L a cd)) (leaving (envOf name scope L a cd) (.ref e)) Q E s' :=
  wpAny_still (still_leaving _ _) R.2 (leave_onSN K F R.1 hsm fun h' R' _ hsm' hD => hQ h' ⟨R', hD⟩ hsm')
end
section
variable {prog : Program} {w : World} {A₀ : Around} {E : Value → Shared → Prop} {s' : Shared} {base g G : Heap} {outer : List Env} {L a e dx : Addr} {m : Str → Option Value} {name : Str} {scope : Scope} {cd : Value}
  {n : Str} {b₀ : Stmt} {suite : List Stmt} {pos np : Pos} {rest : List ExceptHandler} {Q : Flow → Shared → Prop} {news : List (Addr × Obj)}
  {p : Program} {loose : List Str} {mean : ExcName → Option Value} {mg mb : Str → Option Value}
theorem caught_D (R : RaisD base G (envOf name scope L a cd :: outer) e dx news s'.heap := by k_asm) (F : Fr g L G m := by k_asm) (K : Below A₀ base outer g := by k_asm) (hsm : G.UpToSlots s'.heap := by k_asm) (XB : (hd.heap_1 w.params).In base := by k_asm) (TB : Top p loose mean mg mb base := by k_asm)
    (k : ∀ h' g' ws sl tk, KtsTurn (outer.filterMap (·.frame)) g g' → Fr g' L h' (fun y => if y = n then some (.ref e) else m y) → News g' L h' ((e, ⟨.ref 52, some dx, .fields ws, sl⟩) :: news) → Below A₀ base outer g' → (hd.heap_1 w.params).In g' → Top p loose mean mg mb g' →
      wpAny (model prog w) ((A₀.deeper (envOf name scope L a cd)).mark (some (.ref e))) (execs (b₀ :: suite) (envOf name scope L a cd))
        (fun f s₄ => wpAny (model prog w) (A₀.deeper (envOf name scope L a cd)) (do bindName (envOf name scope L a cd) n .none; unbindBehindTheSuite (envOf name scope L a cd) n pos) (fun _ s₅ => Q f s₅) E s₄)
        (AsSuiteRaised (model prog w) ((A₀.deeper (envOf name scope L a cd)).mark (some (.ref e))) (envOf name scope L a cd) n pos (notedBy (model prog w) ((A₀.deeper (envOf name scope L a cd)).mark (some (.ref e))) (envOf name scope L a cd) (cameBackBy (model prog w) (A₀.deeper (envOf name scope L a cd)) (envOf name scope L a cd) E)))
        { s' with heap := h', toks := tk })
    (hk : scope.kind = .function := by rfl) (hlo : (envOf name scope L a cd).kindOf n = some .local := by rfl) (hx : (envOf name scope L a cd).kindOf "Thrown" = some .globalImplicit := by rfl) :
    wpAny (model prog w) (A₀.deeper (envOf name scope L a cd)) (noteFrame (.ref e) (envOf name scope L a cd))
      (fun _ s₂ => wpAny (model prog w) (A₀.deeper (envOf name scope L a cd)) (setFlight (.ref e) none) (fun _ s₃ =>
        wpAny (model prog w) (A₀.deeper (envOf name scope L a cd)) (handleBy (.ref e) (envOf name scope L a cd) (.ExceptHandler (some (.Name "Thrown" np)) (some n) (b₀ :: suite) pos :: rest)) Q E s₃) E s₂) E s' := by
  obtain ⟨⟨B, a0, hB, hBG, hl, hfl⟩, hD⟩ := R
  have hL : B.get? L = none := by
    obtain ⟨_, ⟨L', _, hf, hn', _⟩, _⟩ := hfl.2.2.1
    obtain rfl : L = L' := Option.some.inj hf
    exact hn'
  refine wpAny_still (still_noteFrame _ _) hD (wpAny_looks_onW (Around.frames_deeper K.stack) rfl hfl fun h₄ hheld₄ hsm₄ hD₄ => ?_)
  refine wpAny_still (still_setFlight _ _) hD₄ (wpAny_landsW hheld₄ fun h₅ hheld hsm₅' hD₅ => ?_)
  have hsm₅ := hsm₄.trans hsm₅'
  obtain ⟨g₅, T₅, F₅, K₅⟩ := kts_ground K F hBG hheld.1 (hsm.trans hsm₅)
  have X₅ : (hd.heap_1 w.params).In g₅ := XB.keeps K₅.stays
  have P₅ : TopRead p loose mg mb g₅ := topRead_of (TB.keeps K₅.stays)
  obtain ⟨ob, hob, hobc⟩ := hheld.there
  obtain ⟨nm, q', N, bs, hdct, sn, sub, ab, col, dd, k0, k1, k2, k3, k5, hC⟩ := thr_cls X₅
  have hC₅ := F₅.keep _ _ hC
  refine wpAny_handleBy_cons (codeAny_handlers_test (name_K F₅ X₅ P₅ (by with_unfolding_all rfl) ?_ hk hx (by decide))) (by intro q; cases q)
  refine wpAny_excMatches_sub_self hC₅ hob hobc (by decide) (codeAny_handlers_suite_as ?_)
  refine wpAny_still (still_setFlight _ _) hD₅ (lands_againW hheld fun h₆ hfl₆ hsm₆ hD₆ => ?_)
  obtain ⟨g₆, T₆, F₆, K₆⟩ := kts_ground K F hBG hfl₆.1 ((hsm.trans hsm₅).trans hsm₆)
  obtain ⟨oe, ws, hoe, hoec, hoed, _⟩ := hfl₆.first
  have ne₆ : g₆.get? e = none := T₆.none_ _ (kts_fresh F hBG hfl₆.2.1 fun o ho m => by
    obtain ⟨_, o', ho', hd⟩ := K.frames.mem m
    rw [ho] at ho'
    cases ho'
    obtain ⟨sl, hs⟩ := ((hsm.trans hsm₅).trans hsm₆) _ _ (F.keep _ _ ho) hd
    rw [hoe] at hs
    cases hs
    exact hd _ hoed)
  have N₆ := News.more F₆ News.nil hoe (fun es n q => by rw [hoed] at q; cases q) ne₆
  have Nl : News g₆ L h₆ news := fun q hq => ⟨hfl₆.1 _ _ (hl q hq).1, (fun z => by have := (hl q hq).1; rw [z, hL] at this; cases this), T₆.none_ _ (kts_none F.keep (hl q hq).2.1)⟩
  have X₆ : (hd.heap_1 w.params).In g₆ := XB.keeps K₆.stays
  have P₆ : Top p loose mean mg mb g₆ := TB.keeps K₆.stays
  obtain ⟨o', ho', hdd⟩ := hD₆
  rw [hoe] at ho'
  cases ho'
  obtain ⟨oc, od, odt, osl⟩ := oe
  dsimp only at hoec hoed hdd
  subst hoec hoed hdd
  refine stN F₆ (news := (e, ⟨.ref 52, some dx, .fields ws, osl⟩) :: news) (fun q hq => ?_) (fun h₇ F₇ N₇ => k h₇ g₆ _ _ _ T₆ F₇ N₇ K₆ X₆ P₆) hk hlo
  rcases List.mem_cons.mp hq with rfl | hq
  · exact N₆ _ (.head _)
  · exact Nl q hq
end
/-- a Thrown is raised -/
def RaisT (w : World) (E : Value → Shared → Prop) (v : Value) (s₁ : Shared) : Prop :=
  ∃ a ob vs, v = .ref a ∧ (hd.heap_1 w.params).In s₁.heap ∧ s₁.heap.get? a = some ob ∧ ob.cls = .ref 52 ∧ ob.data = .fields vs ∧ vs[1]? = some .none ∧ E (.ref a) s₁
theorem raise_thr {prog : Program} {w : World} {A : Around} {env : Env} {E : Value → Shared → Prop} {s : Shared} {e : PySem.Expr} {pos : Pos} {Q : Flow → Shared → Prop} (hh : A.handled = none)
    (h : wpAny (model prog w) A (eval e env) (RaisT w E) E s) : wpAny (model prog w) A (exec (.Raise (some e) none pos) env) Q E s := by
  show wpAny _ A (do standAt pos; raiseStmt env (some (do let v ← eval e env; standAt pos; pure v)) none) Q E s
  refine wpAny_bind (wpAny_standAt ?_)
  unfold raiseStmt
  dsimp only
  refine wpAny_bind (wpAny_bind (wpAny_mono h (fun v s₁ h₁ => wpAny_bind (wpAny_standAt (wpAny_pure ?_))) fun _ _ x => x))
  obtain ⟨a, ob, vs, rfl, X, ha, hcls, hd, h1, hE⟩ := h₁
  obtain ⟨nm, q', N, bs, hdct, sn, sub, ab, col, dd, k0, k1, k2, k3, k5, hC⟩ := thr_cls X
  obtain ⟨hp, g, d, tk, os⟩ := s₁
  obtain ⟨oc, od, odt, osl⟩ := ob
  dsimp only at hcls hd ha hC
  subst hcls hd
  have hcB : (Value.ref 52 :: bmT).contains (.type "BaseException") = true := by decide
  repeat (first | with_reducible refine wpAny_loadPart_at ha ?_ | with_reducible refine wpAny_loadPart_at hC ?_ | (with_reducible refine wpAny_isSubtype_exc hC ?_; rw [hcB]) | wp_step)
  rw [h1]
  refine wpAny_pure ?_
  rw [if_neg (by decide)]
  exact wpAny_pure (wpAny_raiseNew_none hh hE)
end

section
set_option maxRecDepth 100000
/-- as Ctr, from the outermost frame: the callee may catch what is raised below it -/
def Ctr0 (w : World) (f : Addr) (need : Nat) (news : List (Addr × Obj)) (vs : List Value) (Post : Value → List (Addr × Obj) → Prop) : Prop :=
  ∀ (mean : ExcName → Option Value) (mg mb : Str → Option Value) (dp un : Nat) (gd : Option (List Code)) (cn : Str) (cs : Scope) (a : Addr) (ccd : Value) (A₀ : Around) (h₀ : Heap) (L : Addr) (m : Str → Option Value) (s : Shared)
    (Q E : Value → Shared → Prop),
    Below A₀ h₀ [] h₀ → Fr h₀ L s.heap m → (hd.heap_1 w.params).In h₀ → News h₀ L s.heap news → Top hd.view_1 (looseW hd.view_1 [Str.ofString "RowsError", Str.ofString "int_value", Str.ofString "named"]) mean mg mb h₀ → cs.kind = .function → dp + need < recursionLimit → un + 8 * need < cLine →
    (∀ v h' tk' news', Fr h₀ L h' m → News h₀ L h' news' → Post v news' → Q v { s with heap := h', toks := tk' }) →
    wpAny (model PySem.Challenge.rw_sf0040_01.row.prog w) (ktrTop dp un gd cn cs L a ccd [] []) (call (.ref f) vs) Q E s
theorem Ctr0.use {w : World} {f : Addr} {need : Nat} {news₀ news : List (Addr × Obj)} {vs : List Value} {Post : Value → List (Addr × Obj) → Prop}
    {mean : ExcName → Option Value} {mg mb : Str → Option Value} {dp un : Nat} {gd : Option (List Code)} {cn : Str} {cs : Scope} {a : Addr} {ccd : Value} {A₀ : Around} {h₀ : Heap} {L : Addr} {m : Str → Option Value} {s : Shared}
    {Q E : Value → Shared → Prop} (C : Ctr0 w f need news vs Post)
    (B : Below A₀ h₀ [] h₀) (F : Fr h₀ L s.heap m) (X : (hd.heap_1 w.params).In h₀) (N : News h₀ L s.heap news₀) (hs : ∀ p ∈ news, p ∈ news₀) (T : Top hd.view_1 (looseW hd.view_1 [Str.ofString "RowsError", Str.ofString "int_value", Str.ofString "named"]) mean mg mb h₀) (hk : cs.kind = .function) (hd : dp + need < recursionLimit) (hu : un + 8 * need < cLine)
    (ret : ∀ v h' tk' news', Fr h₀ L h' m → News h₀ L h' news' → Post v news' → Q v { s with heap := h', toks := tk' }) :
    wpAny (model PySem.Challenge.rw_sf0040_01.row.prog w) (ktrTop dp un gd cn cs L a ccd [] []) (call (.ref f) vs) Q E s :=
  C _ _ _ _ _ _ _ _ _ _ _ _ _ _ _ _ _ B F X (fun p hp => N p (hs p hp)) T hk hd hu ret
theorem raisT_of {w : World} {E : Value → Shared → Prop} {s : Shared} {h₀ : Heap} {L a t : Addr} {d : Option Addr} {m : Str → Option Value} {news : List (Addr × Obj)} (F : Fr h₀ L s.heap m) (X : (hd.heap_1 w.params).In h₀) (N : News h₀ L s.heap news) (hm : (a, excO d t) ∈ news) (hE : E (.ref a) s) : RaisT w E (.ref a) s :=
  ⟨a, _, _, rfl, X.keeps F.keep, (N _ hm).1, rfl, rfl, rfl, hE⟩
end

section
open PySem PySem.W PyProof.Rows PySem.Spec PySem.Calls
set_option maxRecDepth 100000
set_option maxHeartbeats 4000000
theorem slot_bga : Slot "BaseException" "__getattribute__" "BaseException.__getattribute__" :=
  .of (owner := "BaseException") (n := "__getattribute__") (by rw [typeLookup_type, builtinLookup_eq_fast]; kernel_rfl) (by decide +kernel) (by decide +kernel) (by decide +kernel)
    (by first | exact .inl (by decide +kernel) | exact .inr (by decide +kernel)) (by rw [isSubtype_type]; kernel_rfl)
/-- a field read off a Thrown's own dict -/
theorem exc_get {prog : Program} {w : World} {A : Around} {E : Value → Shared → Prop} {s : Shared} {h₀ : Heap} {L x dx : Addr} {m : Str → Option Value} {news : List (Addr × Obj)} {ox : Obj} {name : Str} {v : Value} {es : List DictEntry} {n : Nat} {expr : Bool} {Q : Value → Shared → Prop}
    (F : Fr h₀ L s.heap m := by k_asm) (X₀ : (hd.heap_1 w.params).In h₀ := by k_asm) (N : News h₀ L s.heap news := by k_asm)
    (hx : (x, ox) ∈ news := by k_mem) (hc : ox.cls = .ref 52 := by exact rfl) (hn : notCls ox = true := by exact rfl) (hdd : ox.dict = some dx := by exact rfl) (hdx : (dx, dictOf es n) ∈ news := by k_mem) (hf : findIn (hd.heap_1 w.params) (.ref 52) name = some none := by k_is) (hl : getL name es = some (some v) := by k_get) (hv : handedIn v = true := by k_handed)
    (h : Q v { s with toks := s.toks + 1 }) : wpAny (model prog w) A (getAttr (.ref x) name expr) Q E s := by
  have X := X₀.keeps F.keep
  have I := exc_at N hx hdx hc hn hdd
  have hfind : findObj (hd.heap_1 w.params) 52 (some (dictOf es n)) name = some (.value v) := findObj_own (by kernel_rfl) hf rfl hl
  obtain ⟨hh, g, d, t, os⟩ := s
  have L0 := I.type (M := model prog w)
  have L1 : Looks (model prog w) hh (typeLookup (.ref 52) "__getattribute__") (some (.builtin "BaseException.__getattribute__")) := looks_findIn X (by kernel_rfl)
  have L2 : Looks (model prog w) hh (typeLookup (.ref 52) "__getattr__") none := looks_findIn X (by kernel_rfl)
  have L3 := looks_find (M := model prog w) X I hfind
  have sub : Looks (model prog w) hh (isInstance (.ref x) (.type "BaseException")) true := I.type.andThen (looks_mroIn X (by kernel_rfl))
  unfold getAttr getAttrBy
  refine wpAny_bind (wpAny_mkText (wpAny_holding (wpAny_bind (L0.at (wpAny_bind (L1.at ?_))))))
  have e1 : (onTheHeap (.ref 52) && Value.builtin "BaseException.__getattribute__" == Value.builtin "object.__getattribute__") = false := by decide +kernel
  dsimp only
  rw [e1, if_neg Bool.false_ne_true]
  unfold getAttrByItsOwn
  refine wpAny_bind ?_
  show wpAny _ _ (typeLookup (.ref 52) "__getattr__") _ _ _
  refine L2.at (wpAny_bind (wpAny_attempt (wpAny_holding ?_)))
  have e2 : (expr && onTheHeap (.builtin "BaseException.__getattribute__")) = false := by cases expr <;> rfl
  unfold callGetattribute
  rw [e2, if_neg Bool.false_ne_true]
  unfold boundAndCalled
  rw [slot_bga.bind]
  refine wpAny_bind (wpAny_pure (wpAny_call (codeAny_call_builtin slot_bga.plain PySem.F.entry_bexc_ga (@check_slot (model prog w) _ _ _ "BaseException.__getattribute__" "BaseException" "__getattribute__" (.ref x) [.str name t] [] _ (by decide +kernel) (by decide +kernel) sub (PySem.F.args_bexc_ga _ _) ?_))))
  refine wpAny_bind (wpAny_pure (wpAny_bind (wpAny_pure (wpAny_bind (L0.at (wpAny_bind (L3.at ?_)))))))
  refine wpAny_pure ?_
  show wpAny _ _ (handedOut v) _ _ _
  rw [handedOut_of hv]; exact wpAny_pure h
end

local macro_rules | `(tactic| kpc_piece) => `(tactic| (intros; (try dsimp only); (try k_fold); (try k_sweep)))
local macro_rules | `(tactic| kpc_loop) => `(tactic| (rename (@Membership.mem _ _ _ _ _) => hp; (repeat (first | exact List.mem_append_left _ hp | exact hp | (refine (?_ : ∀ q : Addr × Obj, q ∈ (_ : List (Addr × Obj)) → q ∈ (_ : List (Addr × Obj))) _ hp; with_reducible assumption) | refine List.Mem.tail _ ?_ | refine List.mem_append_right _ ?_)); done))
local macro_rules | `(tactic| kpc_g) => `(tactic| (intro p hp; first | kpc_loop | (rcases List.mem_append.mp hp with hp | hp <;> kpc_loop)))
local macro_rules | `(tactic| walk_at "eval Dict") => `(tactic| (k_here; k_dflt ((refine' kdn_str ?q ?F ?N ?b ?a ?l ?e ?n ?_; (case q => rfl); (case F => k_asm); (case N => k_asm); (case b => exact Top.nolimit (by k_asm)); (case a => rfl); (case l => rfl); (case e => exact List.cons_ne_nil _ _); (case n => exact Nat.le_of_ble_eq_true rfl))); intro d' h' o' F' N' l1 lo' hd'; (try k_lt l1)))
local macro_rules | `(tactic| walk_at "call type:tuple") => `(tactic| ((with_reducible show wpAny _ _ (call (Value.type _) [Value.ref _]) _ _ _); k_dflt (refine' call_tuple_tup ?ht ?_; (case ht => first | exact News.isTup (by k_asm) (by k_mem) | (refine' tupK ?x1 ?x2; (case x1 => k_in); (case x2 => k_is))))))
local macro_rules | `(tactic| walk_at "subscriptTail") => `(tactic| ((with_reducible show wpAny _ _ (subscriptTail _ _ (Value.ref _) (Value.int _ _)) _ _ _); k_dflt (refine' item_tupleT ?t ?a ?b ?c ?d ?_; (case t => exact News.isTup (by k_asm) (by k_mem)); (case a => decide); (case b => decide); (case c => rfl); (case d => rfl); k_whole)))
section
set_option maxRecDepth 100000
set_option maxHeartbeats 4000000
inductive RowsMade (w : World) (news : List (Addr × Obj)) : Value → List (Addr × Obj) → Prop
  | mk (d : Addr) (o : Obj) (R0 R1 R2 R3 R4 R5 : Addr) (k0 k1 k2 k3 k4 k5 t0a t1a t1b t2a t2b t3a t3b t4a t4b t5a t5b : Tok) (h : o.IsDictOf (PySem.strKind PySem.Challenge.rw_sf0040_01.row.prog w) (strPairs [(.str (Str.ofString "make_expr") k0, .ref R0), (.str (Str.ofString "expr_head") k1, .ref R1), (.str (Str.ofString "expr_args") k2, .ref R2), (.str (Str.ofString "expr_arg") k3, .ref R3), (.str (Str.ofString "expr_count") k4, .ref R4), (.str (Str.ofString "gensym_like") k5, .ref R5)])) :
    RowsMade w news (.ref d) ((R5, tupO [.int 0 t5a, .int 1 t5b, .ref 205, .ref 158, .bool false] 0) :: (R4, tupO [.int 1 t4a, .int 1 t4b, .ref 212, .none, .bool true] 0) :: (R3, tupO [.int 2 t3a, .int 2 t3b, .ref 198, .none, .bool true] 0) :: (R2, tupO [.int 1 t2a, .int 1 t2b, .ref 191, .none, .bool true] 0) :: (R1, tupO [.int 1 t1a, .int 1 t1b, .ref 184, .ref 158, .bool true] 0) :: (R0, tupO [.int 1 t0a, .none, .ref 177, .none, .bool true] 0) :: (d, o) :: news)
theorem rows_ctr {w : World} {news : List (Addr × Obj)} : Ctr w 219 4 news [] (RowsMade w news) := by
  unfold Ctr
  k_fill
  intro mean mg mb dp un gd cn cs ac ccd cl outer A₀ base h₀ L m s Q E B F X N T hk hd hu hret
  w_on
  refine wpAny_call ?_
  k_dflt ktr_enter
  k_steps
  (rename Fr _ _ _ _ => kF9); (rename News _ _ _ _ => kN9); (rename Obj.IsDictOf _ _ _ => kD9)
  k_dflt (refine hret _ _ _ _ kF9 kN9 (.mk _ _ _ _ _ _ _ _ _ _ _ _ _ _ _ _ _ _ _ _ _ _ _ _ _ kD9))
theorem rows_go {w : World} {news : List (Addr × Obj)} {mean : ExcName → Option Value} {mg mb : Str → Option Value} {dp un : Nat} {gd : Option (List Code)} {cn : Str} {cs : Scope} {aF : Addr} {ccd : Value} {cl : List (Str × Addr)} {outer : List Env} {A₀ : Around} {base h₀ : Heap} {LF : Addr} {mF : Str → Option Value} {sF : Shared} {Q E : Value → Shared → Prop} {f9 : Addr} {vs9 : List Value} {news9 : List (Addr × Obj)}
    (ret : ∀ (h9 : Heap) (kk9 : Nat) (d : Addr) (o : Obj) (R0 R1 R2 R3 R4 R5 : Addr) (k0 k1 k2 k3 k4 k5 t0a t1a t1b t2a t2b t3a t3b t4a t4b t5a t5b : Tok), Fr h₀ LF h9 mF → News h₀ LF h9 ((R5, tupO [.int 0 t5a, .int 1 t5b, .ref 205, .ref 158, .bool false] 0) :: (R4, tupO [.int 1 t4a, .int 1 t4b, .ref 212, .none, .bool true] 0) :: (R3, tupO [.int 2 t3a, .int 2 t3b, .ref 198, .none, .bool true] 0) :: (R2, tupO [.int 1 t2a, .int 1 t2b, .ref 191, .none, .bool true] 0) :: (R1, tupO [.int 1 t1a, .int 1 t1b, .ref 184, .ref 158, .bool true] 0) :: (R0, tupO [.int 1 t0a, .none, .ref 177, .none, .bool true] 0) :: (d, o) :: news) → o.IsDictOf (PySem.strKind PySem.Challenge.rw_sf0040_01.row.prog w) (strPairs [(.str (Str.ofString "make_expr") k0, .ref R0), (.str (Str.ofString "expr_head") k1, .ref R1), (.str (Str.ofString "expr_args") k2, .ref R2), (.str (Str.ofString "expr_arg") k3, .ref R3), (.str (Str.ofString "expr_count") k4, .ref R4), (.str (Str.ofString "gensym_like") k5, .ref R5)]) → Q (.ref d) { sF with heap := h9, toks := kk9 })
    (hf9 : f9 = 219 := by exact rfl) (hv9 : vs9 = [] := by exact rfl) (hB9 : Below A₀ base outer h₀ := by k_asm) (hF9 : Fr h₀ LF sF.heap mF := by k_asm) (hX9 : (hd.heap_1 w.params).In h₀ := by k_asm) (hN9 : News h₀ LF sF.heap news9 := by k_asm) (hs9 : ∀ q9 ∈ (news : List (Addr × Obj)), q9 ∈ news9 := by exact fun _ h => h) (hT9 : Top hd.view_1 (looseW hd.view_1 [Str.ofString "RowsError", Str.ofString "int_value", Str.ofString "named"]) mean mg mb h₀ := by k_asm) (hk9 : cs.kind = .function := by first | exact rfl | assumption) (hd9 : dp + 4 < recursionLimit := by k_room) (hu9 : un + 8 * 4 < cLine := by k_units)  :
    wpAny (model PySem.Challenge.rw_sf0040_01.row.prog w) (ktrTop dp un gd cn cs LF aF ccd cl outer) (call (.ref f9) vs9) Q E sF := by
  subst hf9 hv9
  refine Ctr.use (rows_ctr) hB9 hF9 hX9 hN9 hs9 hT9 hk9 hd9 hu9 ?_
  rintro v9 h9 kk9 n9 hF8 hN8 ⟨d, o, R0, R1, R2, R3, R4, R5, k0, k1, k2, k3, k4, k5, t0a, t1a, t1b, t2a, t2b, t3a, t3b, t4a, t4b, t5a, t5b, hD⟩
  exact ret h9 kk9 _ _ _ _ _ _ _ _ _ _ _ _ _ _ _ _ _ _ _ _ _ _ _ _ _ hF8 hN8 hD
end

local macro_rules | `(tactic| walk_at "call ref") => `(tactic| (k_dflt (refine' thrown_go ?_); (intros; (try simp only [AllLt, and_true] at *); (try dsimp only); (try k_fold); (try k_sweep))))
local macro_rules | `(tactic| walk_at "exec Raise some none") => `(tactic| (k_here; k_dflt (refine' raise_thr ?hh ?_; (case hh => exact rfl))))
local macro_rules | `(tactic| walk_at "RaisT") => `(tactic| (k_here; k_dflt (refine' raisT_of ?kF ?kX ?kN ?kM ?_; (case kF => k_asm); (case kX => k_asm); (case kN => k_asm); (case kM => k_mem); k_whole)))
local macro_rules | `(tactic| walk_at "leaving ref") => `(tactic| (k_dflt first | refine' leave_raiseD (hQ := ?_) | refine' leave_onD (hQ := ?_)); intro h' R' U'; (try dsimp only at R' U' ⊢))
local macro_rules | `(tactic| walk_at "noteFrame ref") => `(tactic| (k_dflt (refine' caught_D (k := ?_)); intros; (try k_sweep)))
local macro_rules | `(tactic| walk_at "getAttr ref") => `(tactic| k_dflt (refine' exc_get (h := ?_)))
local macro_rules | `(tactic| walk_at "call ref") => `(tactic| (k_dflt (refine' rows_go ?_); kpc_piece))
section
set_option maxRecDepth 100000
set_option maxHeartbeats 4000000
theorem did_text (w : World) (a b : Addr) (t1 t2 t3 : Tok) (n n2 : Nat) (news : List (Addr × Obj)) :
    Ctr0 w 247 12 ((a, listOf #[.ref b] n) :: (b, tupO [.str (Str.ofString "text") t1, .bytes #[98, 108, 111, 99, 107] t2] n2) :: news) [.str (Str.ofString "make_expr") t3, .ref a]
      (fun v news' => (∃ t, v = .str (Str.ofString "TypeError") t) ∧ news' = news) := by
  unfold Ctr0
  k_fill
  intro mean mg mb dp un gd cn cs ac ccd A₀ h₀ L m s Q E B F X N T hk hd hu hret
  w_on
  refine wpAny_call ?_
  k_dflt (refine' code_defS0 ?k1 ?k2 ?k3 ?k4 ?k5 ?kA ?k6 ?k7 ?k8 ?k9 ?kB ?_ ?kK ?c2 ?c3 ?c4 ?c5; (case kA => exact rfl); (case kK => assumption); (case k1 => k_asm); (case k2 => k_asm); (case k3 => k_asm); (case k4 => k_asm); (case k5 => k_asm); (case k6 => k_is); (case k7 => k_is); (case k8 => ktr_room); (case k9 => exact BindsTo.of_eq rfl); (case c5 => decide); (case kB => exact locs rfl); (case c2 => exact rfl); (case c3 => exact rfl); (case c4 => exact rfl); k_whole; intro g' L' h' FG' F' N' B' X' T' D'; (try dsimp only); (try k_fold))
  k_steps
  (rename Fr _ _ _ _ => kF9); (rename News _ _ _ _ => kN9)
  exact hret _ _ _ news kF9 (cb_drop kN9 (fun p hp => by simp only [List.mem_cons, hp, or_true])) ⟨⟨_, rfl⟩, rfl⟩
end

section
set_option maxRecDepth 100000
set_option maxHeartbeats 4000000
/-- a tree as the ledger bears it: its value, its levels, how many it is in all -/
inductive TreeIn (news : List (Addr × Obj)) : Value → Nat → Nat → Prop
  | sym {a : Addr} {x : Str} {t1 t2 : Tok} {n : Nat} : (a, tupO [.str (Str.ofString "sym") t1, .str x t2] n) ∈ news → TreeIn news (.ref a) 1 1
  | int {a : Addr} {k : Int} {t1 t2 : Tok} {n : Nat} : (a, tupO [.str (Str.ofString "int") t1, .int k t2] n) ∈ news → TreeIn news (.ref a) 1 1
  | node1 {a p : Addr} {x : Str} {t1 t2 : Tok} {n n' : Nat} {u : Value} {d c : Nat} : (a, tupO [.str (Str.ofString "expr") t1, .str x t2, .ref p] n) ∈ news → (p, tupO [u] n') ∈ news → TreeIn news u d c → TreeIn news (.ref a) (d + 1) (c + 1)
  | node2 {a p : Addr} {x : Str} {t1 t2 : Tok} {n n' : Nat} {u v : Value} {d c d' c' : Nat} : (a, tupO [.str (Str.ofString "expr") t1, .str x t2, .ref p] n) ∈ news → (p, tupO [u, v] n') ∈ news → TreeIn news u d c → TreeIn news v d' c' →
      TreeIn news (.ref a) (max d d' + 1) (c + c' + 1)
  | node3 {a p : Addr} {x : Str} {t1 t2 : Tok} {n n' : Nat} {u v y : Value} {d c d' c' d'' c'' : Nat} : (a, tupO [.str (Str.ofString "expr") t1, .str x t2, .ref p] n) ∈ news → (p, tupO [u, v, y] n') ∈ news → TreeIn news u d c → TreeIn news v d' c' → TreeIn news y d'' c'' →
      TreeIn news (.ref a) (max (max d d') d'' + 1) (c + c' + c'' + 1)
theorem TreeIn.mono {news news' : List (Addr × Obj)} {v : Value} {d c : Nat} (h : TreeIn news v d c) (hs : ∀ p ∈ news, p ∈ news') : TreeIn news' v d c := by
  induction h with
  | sym h => exact .sym (hs _ h)
  | int h => exact .int (hs _ h)
  | node1 h h' _ i => exact .node1 (hs _ h) (hs _ h') i
  | node2 h h' _ _ i j => exact .node2 (hs _ h) (hs _ h') i j
  | node3 h h' _ _ _ i j k => exact .node3 (hs _ h) (hs _ h') i j k
theorem TreeIn.pos {news : List (Addr × Obj)} {v : Value} {d c : Nat} (h : TreeIn news v d c) : 1 ≤ d ∧ 1 ≤ c := by
  cases h <;> omega
def TLoop (WR : Shared → Prop) (s : Shared) : Prop := WR s
theorem tl_start {prog : Program} {w : World} {A : Around} {E : Value → Shared → Prop} {s : Shared} {env : Env} {test : PySem.Expr} {body orelse : List Stmt} {Q : Flow → Shared → Prop} {pos : Pos}
    (h : TLoop (fun s => WhlRest prog w A E env test body orelse Q 1 s) s) : wpAny (model prog w) A (exec (.While test body orelse pos) env) Q E s := whl_start 1 h
theorem tl_ind {WR : Shared → Prop} (P : Nat → Shared → Prop) (step : ∀ T s, P T s → (∀ T' s', T' < T → P T' s' → WR s') → WR s) : ∀ T s, P T s → TLoop WR s := by
  intro T
  induction T using Nat.strongRecOn with
  | ind T ih => exact fun s h => step T s h fun T' s' hl h' => ih T' hl s' h'
theorem fr_ext {h₀ h : Heap} {L : Addr} {m m' : Str → Option Value} (F : Fr h₀ L h m) (e : ∀ x, m x = m' x) : Fr h₀ L h m' := by
  have : m = m' := funext e
  exact this ▸ F
theorem fr_put {h₀ h : Heap} {L : Addr} {m : Str → Option Value} {x : Str} {v : Value} (F : Fr h₀ L h m) (e : m x = some v) : Fr h₀ L h (fun y => if y = x then some v else m y) := by
  refine fr_ext F fun y => ?_
  by_cases hy : y = x
  · rw [if_pos hy, hy, e]
  · rw [if_neg hy]
/-- the work left: each a (tree, depth) pair of the ledger; T nodes in all, M the most levels -/
inductive WorkIn (news : List (Addr × Obj)) : List Value → Nat → Int → Prop
  | nil : WorkIn news [] 0 0
  | snoc {ws : List Value} {T : Nat} {M : Int} {t : Addr} {v : Value} {d : Int} {tk : Tok} {n D N : Nat} : WorkIn news ws T M → (t, tupO [v, .int d tk] n) ∈ news → 1 ≤ d → TreeIn news v D N → WorkIn news (ws ++ [.ref t]) (T + N) (max M (d + D - 1))
theorem WorkIn.mono {news news' : List (Addr × Obj)} {ws : List Value} {T : Nat} {M : Int} (h : WorkIn news ws T M) (hs : ∀ p ∈ news, p ∈ news') : WorkIn news' ws T M := by
  induction h with
  | nil => exact .nil
  | snoc _ m d t i => exact .snoc i (hs _ m) d (t.mono hs)
theorem WorkIn.len {news : List (Addr × Obj)} {ws : List Value} {T : Nat} {M : Int} (h : WorkIn news ws T M) : ws.length ≤ T := by
  induction h with
  | nil => exact Nat.le_refl _
  | snoc _ _ _ t i =>
    have := t.pos
    rw [List.length_append]
    simp only [List.length_cons, List.length_nil]
    omega
section
variable {prog : Program} {w : World} {A : Around} {E : Value → Shared → Prop} {s : Shared} {h₀ : Heap} {L : Addr} {news : List (Addr × Obj)}
theorem ne_fresh {l b : Addr} {ws : List Value} {n n2 : Nat} {Q : Value → Shared → Prop} (N : News h₀ L s.heap news := by k_asm) (hl : (l, listOf ws.toArray n) ∈ news := by k_mem) (hb : (b, listOf #[] n2) ∈ news := by k_mem) (hu : A.units < cLine := by k_units)
    (h : Q (.bool (!ws.isEmpty)) s) : wpAny (model prog w) A (compareOp .NotEq (.ref l) (.ref b)) Q E s := by
  cases ws with
  | nil => exact PySem.EqBoolInt.of_rcne (SeqAt.RcNeAt.lists (e := fun _ => true) (News.isList N hl) (News.isList N hb) rfl hu (fun j h1 _ => absurd h1 (Nat.not_lt_zero _))) h
  | cons x r => exact PySem.EqBoolInt.of_rcne (SeqAt.RcNeAt.lists_lengths (News.isList N hl) (News.isList N hb) rfl hu) h
end
local macro_rules | `(tactic| walk_at "exec While Compare cons nil") => `(tactic| (k_dflt (refine tl_start ?_)))
local macro_rules | `(tactic| walk_at "compareOp NotEq ref ref") => `(tactic| k_dflt (refine' ne_fresh (h := ?_)))
theorem init_news {h₀ h : Heap} {L : Addr} {q : Addr × Obj} {l D1 c : Addr} {lo ob oc : Obj} {news : List (Addr × Obj)} (N : News h₀ L h (q :: (l, lo) :: (D1, ob) :: (c, oc) :: news)) : News h₀ L h ((l, lo) :: (c, oc) :: (D1, ob) :: news) :=
  cb_drop N fun p hp => by
    simp only [List.mem_cons] at hp ⊢
    rcases hp with h | h | h | h <;> simp [h]
theorem turn_prep {h₀ h : Heap} {L : Addr} {l c : Addr} {lo oc : Obj} {wl rest : List (Addr × Obj)} {G : Prop} (N : News h₀ L h ((l, lo) :: (c, oc) :: wl)) (hl : ∀ p ∈ wl, p.1 ≠ l) (hc : ∀ p ∈ wl, p.1 ≠ c) (hs : ∀ p ∈ rest, p ∈ wl)
    (k : News h₀ L h ((l, lo) :: (c, oc) :: rest) → (∀ p ∈ rest, p.1 ≠ l) → (∀ p ∈ rest, p.1 ≠ c) → G) : G :=
  k (cb_drop N (List.forall_mem_cons.mpr ⟨.head _, List.forall_mem_cons.mpr ⟨.tail _ (.head _), fun p hp => .tail _ (.tail _ (hs p hp))⟩⟩)) (fun p hp => hl p (hs p hp)) (fun p hp => hc p (hs p hp))
section
variable {prog : Program} {w : World} {A : Around} {E : Value → Shared → Prop} {s : Shared} {h₀ : Heap} {L D b : Addr} {m : Str → Option Value} {news news' : List (Addr × Obj)} {n : Nat} {ws zs : List Value}
theorem ext_sym {Q : Value → Shared → Prop} (F : Fr h₀ L s.heap m := by k_asm) (N : News h₀ L s.heap news := by k_asm) (hb : (b, LCg.lst zs) ∈ news := by k_mem) (hne : zs.length ≠ 0 := by exact Nat.succ_ne_zero _) (U : Upd D (listOf ws.toArray n) (listOf (ws ++ zs).toArray (n + 1)) news news' := by k_upd)
    (hz : ws.length + zs.length ≤ 5000 := by (simp only [List.length_cons, List.length_nil]); omega) (h : ∀ h', Fr h₀ L h' m → News h₀ L h' news' → Q .none { s with heap := h' }) : wpAny (model prog w) A (call (.builtin "list.extend") [.ref D, .ref b]) Q E s := by
  refine kl_extend (its := ws.toArray) (its2 := zs.toArray) (l := ws ++ zs) F N hb (by simp) (by simpa using hne) U ?_ ?_ ?_ h
  · have : Builtin.List.listTooLong (ws.toArray.size + zs.toArray.size) = false := by
      rw [Builtin.List.listTooLong, List.size_toArray, List.size_toArray]
      exact decide_eq_false (by rw [show PySem.sizeLine = 16777216 from rfl]; omega)
    rw [this]
    simp
  · rw [show PySem.sizeLine = 16777216 from rfl]
    simp
    omega
  · rw [show PySem.sizeLine = 16777216 from rfl, List.size_toArray, List.size_toArray]
    omega
theorem ext_none {Q : Value → Shared → Prop} (F : Fr h₀ L s.heap m := by k_asm) (N : News h₀ L s.heap news := by k_asm) (hb : (b, LCg.lst []) ∈ news := by k_mem) (U : Upd D (listOf ws.toArray n) (listOf ws.toArray n) news news' := by k_upd)
    (hz : ws.length ≤ 5000 := by omega) (h : ∀ h', Fr h₀ L h' m → News h₀ L h' news' → Q .none { s with heap := h' }) : wpAny (model prog w) A (call (.builtin "list.extend") [.ref D, .ref b]) Q E s := by
  refine kxn_extend (its := ws.toArray) (its2 := ([] : List Value).toArray) F N hb rfl U ?_ ?_ ?_ h
  · have : Builtin.List.listTooLong (ws.toArray.size + ([] : List Value).toArray.size) = false := by
      rw [Builtin.List.listTooLong, List.size_toArray, List.size_toArray]
      exact decide_eq_false (by rw [show PySem.sizeLine = 16777216 from rfl]; simp; omega)
    rw [this]
    simp
  · rw [show PySem.sizeLine = 16777216 from rfl]
    simp
    omega
  · rw [show PySem.sizeLine = 16777216 from rfl, List.size_toArray, List.size_toArray]
    simp
    omega
end
theorem WorkIn.ext0 {wl : List (Addr × Obj)} {ws : List Value} {T : Nat} {M : Int} (W : WorkIn wl ws T M) : WorkIn wl ws T M := W
theorem WorkIn.ext1 {wl : List (Addr × Obj)} {ws : List Value} {T : Nat} {M : Int} {a : Addr} {u : Value} {d : Int} {t : Tok} {n D C : Nat} (W : WorkIn wl ws T M) (m : (a, tupO [u, .int d t] n) ∈ wl) (hd : 1 ≤ d) (x : TreeIn wl u D C) : WorkIn wl (ws ++ [.ref a]) (T + C) (max M (d + D - 1)) := W.snoc m hd x
theorem WorkIn.ext2 {wl : List (Addr × Obj)} {ws : List Value} {T : Nat} {M : Int} {a a' : Addr} {u u' : Value} {d d' : Int} {t t' : Tok} {n n' D D' C C' : Nat} (W : WorkIn wl ws T M) (m : (a, tupO [u, .int d t] n) ∈ wl) (m' : (a', tupO [u', .int d' t'] n') ∈ wl) (hd : 1 ≤ d) (hd' : 1 ≤ d') (x : TreeIn wl u D C) (x' : TreeIn wl u' D' C') :
    WorkIn wl (ws ++ [.ref a, .ref a']) (T + C + C') (max (max M (d + D - 1)) (d' + D' - 1)) := by
  have := (W.snoc m hd x).snoc m' hd' x'
  simpa using this
theorem WorkIn.ext3 {wl : List (Addr × Obj)} {ws : List Value} {T : Nat} {M : Int} {a a' a'' : Addr} {u u' u'' : Value} {d d' d'' : Int} {t t' t'' : Tok} {n n' n'' D D' D'' C C' C'' : Nat} (W : WorkIn wl ws T M) (m : (a, tupO [u, .int d t] n) ∈ wl) (m' : (a', tupO [u', .int d' t'] n') ∈ wl) (m'' : (a'', tupO [u'', .int d'' t''] n'') ∈ wl)
    (hd : 1 ≤ d) (hd' : 1 ≤ d') (hd'' : 1 ≤ d'') (x : TreeIn wl u D C) (x' : TreeIn wl u' D' C') (x'' : TreeIn wl u'' D'' C'') : WorkIn wl (ws ++ [.ref a, .ref a', .ref a'']) (T + C + C' + C'') (max (max (max M (d + D - 1)) (d' + D' - 1)) (d'' + D'' - 1)) := by
  have := ((W.snoc m hd x).snoc m' hd' x').snoc m'' hd'' x''
  simpa using this
local macro_rules | `(tactic| walk_at "call builtin:list.extend") => `(tactic| (k_dflt first | refine' ext_sym (h := ?_) | refine' ext_none (h := ?_)); kl_rest)
def TBack (prog : Program) (w : World) (A : Around) (E : Value → Shared → Prop) (env : Env) (test : PySem.Expr) (body orelse : List Stmt) (Q : Flow → Shared → Prop) (s : Shared) : Prop := WhlRest prog w A E env test body orelse Q 0 s
theorem whl_back {prog : Program} {w : World} {A : Around} {E : Value → Shared → Prop} {env : Env} {test : PySem.Expr} {body orelse : List Stmt} {Q : Flow → Shared → Prop} {s : Shared} {k : Nat} (h : TBack prog w A E env test body orelse Q s) : WhlPost prog w A E env test body orelse Q k .next s := h
local macro_rules | `(tactic| walk_at "WhlPost") => `(tactic| first | refine whl_back ?_ | dsimp only [WhlPost])
local macro_rules | `(tactic| walk_at "WhlIf") => `(tactic| (refine WhlIf.yes (by simp) ?_))
local macro_rules | `(tactic| walk_at "call builtin:list.pop") => `(tactic| (k_dflt (refine' kl_pop ?F ?N ?e ?U ?z ?_; (case F => k_asm); (case N => k_asm); (case U => k_upd); (case e => exact kpa_last _ _); (case z => ((simp [show PySem.sizeLine = 16777216 from rfl]) <;> omega))); kl_rest))
local macro_rules | `(tactic| walk_at "eval ListComp") => `(tactic| (k_here; lcf_look; k_dflt (refine comp_tuple (F₀ := by k_asm) (by with_unfolding_all rfl) (by decide) (by rfl) (by decide) (by rfl) ?_)))
local macro_rules | `(tactic| walk_at "CompTu") => `(tactic| (k_here; k_dflt (refine CompTu.ledger (by rfl) (by k_asm) (by k_asm) (by k_mem) (by exact Nat.le_of_ble_eq_true rfl) ?_; intro g'; lcg_lit)))
local macro_rules | `(tactic| walk_at "CompRest") => `(tactic| (with_unfolding_all first
  | (refine LCg.CompRest.succ ?_; intro v' I' oI' C' oC' D' m' h' tk' E' hv' hC' hx' F' N' off' ne'; lcg_open hv')
  | refine LCg.CompRest.zero ?_))
local macro_rules | `(tactic| walk_at "CompEnd") => `(tactic| (k_dflt (first
  | refine ce0 (by k_asm) (by k_asm) (by assumption) (Or.inr ⟨_, by k_mem, rfl, _, rfl⟩) ?_
  | refine ce1 (by k_asm) (by k_asm) (by assumption) ⟨by k_ne, by k_ne, by k_ne⟩ (Or.inr ⟨_, by k_mem, rfl, _, rfl⟩) ?_)))
theorem after0 {h₀ h : Heap} {L : Addr} {D lx ax l c : Addr} {oD lo ox lo2 oc : Obj} {q0 q1 : Addr × Obj} {wl : List (Addr × Obj)} (N : News h₀ L h ((D, oD) :: (ax, ox) :: (lx, lo) :: (l, lo2) :: (c, oc) :: q0 :: q1 :: wl)) :
    News h₀ L h ((l, lo2) :: (c, oc) :: wl) :=
  cb_drop N fun p hp => by
    simp only [List.mem_cons] at hp ⊢
    rcases hp with h | h | h <;> simp [h]
theorem after1 {h₀ h : Heap} {L : Addr} {a1 D lx l c : Addr} {o1 oD lo lo2 oc : Obj} {q0 q1 q2 : Addr × Obj} {wl : List (Addr × Obj)} (N : News h₀ L h ((D, oD) :: (a1, o1) :: (lx, lo) :: (l, lo2) :: (c, oc) :: q0 :: q1 :: q2 :: wl)) :
    News h₀ L h ((l, lo2) :: (c, oc) :: (a1, o1) :: wl) :=
  cb_drop N fun p hp => by
    simp only [List.mem_cons] at hp ⊢
    rcases hp with h | h | h | h <;> simp [h]
theorem after2 {h₀ h : Heap} {L : Addr} {a1 a2 D lx l c : Addr} {o1 o2 oD lo lo2 oc : Obj} {q0 q1 q2 : Addr × Obj} {wl : List (Addr × Obj)} (N : News h₀ L h ((D, oD) :: (a2, o2) :: (a1, o1) :: (lx, lo) :: (l, lo2) :: (c, oc) :: q0 :: q1 :: q2 :: wl)) :
    News h₀ L h ((l, lo2) :: (c, oc) :: (a1, o1) :: (a2, o2) :: wl) :=
  cb_drop N fun p hp => by
    simp only [List.mem_cons] at hp ⊢
    rcases hp with h | h | h | h | h <;> simp [h]
theorem after3 {h₀ h : Heap} {L : Addr} {a1 a2 a3 D lx l c : Addr} {o1 o2 o3 oD lo lo2 oc : Obj} {q0 q1 q2 : Addr × Obj} {wl : List (Addr × Obj)} (N : News h₀ L h ((D, oD) :: (a3, o3) :: (a2, o2) :: (a1, o1) :: (lx, lo) :: (l, lo2) :: (c, oc) :: q0 :: q1 :: q2 :: wl)) :
    News h₀ L h ((l, lo2) :: (c, oc) :: (a1, o1) :: (a2, o2) :: (a3, o3) :: wl) :=
  cb_drop N fun p hp => by
    simp only [List.mem_cons] at hp ⊢
    rcases hp with h | h | h | h | h | h <;> simp [h]
def Most (M : Int) (D : Nat) : Prop := 100 < M ↔ 100 < D
theorem Most.no {D : Nat} (h : Most 0 D) : ¬ 100 < D := fun x => by have := h.2 x; omega
theorem Most.over {M d : Int} {D' D : Nat} (h : Most (max M (d + (D' : Int) - 1)) D) (h1 : 1 ≤ D') (hd : 100 < d) : 100 < D := h.1 (by omega)
theorem most0 {M d : Int} {D : Nat} (h : Most (max M (d + ((1 : Nat) : Int) - 1)) D) (hd : d ≤ 100) : Most M D := by unfold Most at *; omega
theorem most1 {M d : Int} {d1 D : Nat} (h : Most (max M (d + ((d1 + 1 : Nat) : Int) - 1)) D) (_ : d ≤ 100) : Most (max M (d + 1 + (d1 : Int) - 1)) D := by
  rwa [show d + ((d1 + 1 : Nat) : Int) - 1 = d + 1 + (d1 : Int) - 1 by omega] at h
theorem most2 {M d : Int} {d1 d2 D : Nat} (h : Most (max M (d + ((max d1 d2 + 1 : Nat) : Int) - 1)) D) (_ : d ≤ 100) : Most (max (max M (d + 1 + (d1 : Int) - 1)) (d + 1 + (d2 : Int) - 1)) D := by
  rwa [Int.max_assoc, show max (d + 1 + (d1 : Int) - 1) (d + 1 + (d2 : Int) - 1) = d + ((max d1 d2 + 1 : Nat) : Int) - 1 by omega]
theorem most3 {M d : Int} {d1 d2 d3 D : Nat} (h : Most (max M (d + ((max (max d1 d2) d3 + 1 : Nat) : Int) - 1)) D) (_ : d ≤ 100) : Most (max (max (max M (d + 1 + (d1 : Int) - 1)) (d + 1 + (d2 : Int) - 1)) (d + 1 + (d3 : Int) - 1)) D := by
  rwa [Int.max_assoc, Int.max_assoc, ← Int.max_assoc (d + 1 + (d1 : Int) - 1), show max (d + 1 + (d1 : Int) - 1) (d + 1 + (d2 : Int) - 1) = d + ((max d1 d2 + 1 : Nat) : Int) - 1 by omega, show max (d + ((max d1 d2 + 1 : Nat) : Int) - 1) (d + 1 + (d3 : Int) - 1) = d + ((max (max d1 d2) d3 + 1 : Nat) : Int) - 1 by omega]
theorem large_ctr {w : World} {v : Value} {D C : Nat} {news : List (Addr × Obj)} (hT : TreeIn news v D C) (hC : C ≤ 4000) :
    Ctr w 170 4 news [v] (fun r news' => r = .bool (decide (100 < D)) ∧ news' = news) := by
  unfold Ctr
  k_fill
  intro mean mg mb dp un gd cn cs ac ccd cl outer A₀ base h₀ L m s Q E B F X N T hk hd hu hret
  w_on
  refine wpAny_call ?_
  k_dflt (refine' code_defC ?k1 ?k2 ?k3 ?k4 ?k5 ?kA ?kF ?kK ?k6 ?k7 ?k8 ?k9 ?kB ?kD ?_ ?c2 ?c3 ?c4; (case kA => exact rfl); (case kF => exact rfl); (case kK => assumption); (case k1 => k_asm); (case k2 => k_asm); (case k3 => k_asm); (case k4 => k_asm); (case k5 => k_asm); (case k6 => k_is); (case k7 => k_is); (case k8 => k_room); (case k9 => exact BindsTo.of_eq rfl); (case kB => exact rfl); (case kD => decide +kernel); (case c2 => exact rfl); (case c3 => exact rfl); (case c4 => exact rfl); k_whole)
  intro g1 L1 h1 tk1 cells1 FG1 F1 N1 Y1 B1 X1 T1 l1
  replace l1 := allLt_of l1
  k_cells Y1
  (try simp only [List.cons_append, List.nil_append] at N1)
  (try dsimp only)
  (try k_fold)
  k_steps
  (rename Fr _ _ _ _ => F2); (rename News _ _ _ _ => N2)
  rename_i o1 d1 D1 hA1 lD1 l hA2 ll D2 hA3 lD2 hB1 hB2 h2
  refine tl_ind (P := fun T s' => ∃ h tk m1 n oc x wl k tkk ws M, s' = { s with heap := h, toks := tk } ∧ Fr g1 L1 h m1 ∧ News g1 L1 h ((l, listOf ws.toArray n) :: (L1 + 1, oc) :: wl) ∧ (∀ p ∈ wl, p.1 ≠ l) ∧ (∀ p ∈ wl, p.1 ≠ L1 + 1) ∧
      (∀ p ∈ news, p ∈ wl) ∧ oc.data = .cell x ∧ m1 (Str.ofString "left") = some (.ref l) ∧ m1 (Str.ofString "many") = some (.int k tkk) ∧ 0 ≤ k ∧ k + (T : Int) ≤ 4000 ∧ WorkIn wl ws T M ∧ Most M D) ?step C _ ?init
  case init =>
    have N4 := init_news N2
    refine ⟨_, _, _, 0, o1, _, _, 0, _, [.ref D1], max 0 (1 + (D : Int) - 1), rfl, F2, N4, ?_, ?_, fun p hp => List.Mem.tail _ hp, d1, by rfl, by rfl, Int.le_refl _, by omega, ?_, (by unfold Most; omega)⟩
    · obtain ⟨a1, a2, a3⟩ := ll
      exact List.forall_mem_cons.mpr ⟨Nat.ne_of_lt a1, fun p hp => Nat.ne_of_lt (tb_ltOf a3 p hp)⟩
    · obtain ⟨a1, a2⟩ := lD1
      exact List.forall_mem_cons.mpr ⟨Nat.ne_of_gt a1, fun p hp => Nat.ne_of_lt (Nat.lt_succ_of_lt (tb_ltOf l1 p hp))⟩
    · rw [← Nat.zero_add C]
      exact WorkIn.snoc (ws := []) (d := 1) (D := D) (N := C) .nil (List.Mem.head _) (Int.le_refl _) (hT.mono fun p hp => List.Mem.tail _ hp)
  case step =>
    rintro T s' ⟨h, tk, m1, n, oc, x, wl, k, tkk, ws, M, rfl, F3, N3, hl3, hc3, hs3, hox, hm1, hm2, hk0, hkT, W, hM⟩ ih
    have hll : @Ne Nat (L1 + 1) l := neN (by omega)
    replace F3 := fr_put (fr_put F3 hm1) (x := Str.ofString "many") (v := .int k tkk) ((if_neg (by decide)).trans hm2)
    cases W with
    | nil =>
      k_steps
      rename News _ _ _ _ => N9
      have hfin : Q (.bool (decide (100 < D))) = Q (.bool false) := by rw [decide_eq_false hM.no]
      rw [← hfin]
      exact hret _ _ _ news (by assumption) (cb_drop N9 fun p hp => .tail _ (.tail _ (.tail _ (hs3 p hp)))) ⟨rfl, rfl⟩
    | @snoc ws T M t v' d tk' nt D' C' W ht hd1 hT' =>
      have hwl := W.len
      cases hT' with
      | @sym a x t1 t2 na ha =>
        refine turn_prep (rest := (t, tupO [.ref a, .int d tk'] nt) :: (a, tupO [.str (Str.ofString "sym") t1, .str x t2] na) :: wl) (by assumption) (by assumption) (by assumption) (List.forall_mem_cons.mpr ⟨ht, List.forall_mem_cons.mpr ⟨ha, fun _ h => h⟩⟩) ?_
        intro N4 hl4 hc4
        k_steps
        · rename News _ _ _ _ => N9
          have hfin : Q (.bool (decide (100 < D))) = Q (.bool true) := by rw [decide_eq_true (hM.over (Nat.le_refl 1) (by omega))]
          rw [← hfin]
          exact hret _ _ _ news (by assumption) (cb_drop N9 fun p hp => .tail _ (.tail _ (.tail _ (.tail _ (.tail _ (hs3 p hp)))))) ⟨rfl, rfl⟩
        · rename News _ _ _ _ => N9
          refine ih (T) _ (by omega) ⟨_, _, _, _, _, _, _, _, _, _, M, rfl, by assumption, after0 N9, hl3, hc3, fun p hp => hs3 p hp, by assumption, by rfl, by rfl, by omega, by omega, WorkIn.ext0 (W.mono (fun p hp => hp)), most0 hM (by omega)⟩
      | @int a x t1 t2 na ha =>
        refine turn_prep (rest := (t, tupO [.ref a, .int d tk'] nt) :: (a, tupO [.str (Str.ofString "int") t1, .int x t2] na) :: wl) (by assumption) (by assumption) (by assumption) (List.forall_mem_cons.mpr ⟨ht, List.forall_mem_cons.mpr ⟨ha, fun _ h => h⟩⟩) ?_
        intro N4 hl4 hc4
        k_steps
        · rename News _ _ _ _ => N9
          have hfin : Q (.bool (decide (100 < D))) = Q (.bool true) := by rw [decide_eq_true (hM.over (Nat.le_refl 1) (by omega))]
          rw [← hfin]
          exact hret _ _ _ news (by assumption) (cb_drop N9 fun p hp => .tail _ (.tail _ (.tail _ (.tail _ (.tail _ (hs3 p hp)))))) ⟨rfl, rfl⟩
        · rename News _ _ _ _ => N9
          refine ih (T) _ (by omega) ⟨_, _, _, _, _, _, _, _, _, _, M, rfl, by assumption, after0 N9, hl3, hc3, fun p hp => hs3 p hp, by assumption, by rfl, by rfl, by omega, by omega, WorkIn.ext0 (W.mono (fun p hp => hp)), most0 hM (by omega)⟩
      | @node1 a p x t1 t2 na np u d1 c1 ha hp hu =>
        refine turn_prep (rest := (t, tupO [.ref a, .int d tk'] nt) :: (a, tupO [.str (Str.ofString "expr") t1, .str x t2, .ref p] na) :: (p, tupO [u] np) :: wl) (by assumption) (by assumption) (by assumption) (List.forall_mem_cons.mpr ⟨ht, List.forall_mem_cons.mpr ⟨ha, List.forall_mem_cons.mpr ⟨hp, fun _ h => h⟩⟩⟩) ?_
        intro N4 hl4 hc4
        k_steps
        · rename News _ _ _ _ => N9
          have hfin : Q (.bool (decide (100 < D))) = Q (.bool true) := by rw [decide_eq_true (hM.over (Nat.le_add_left 1 _) (by omega))]
          rw [← hfin]
          exact hret _ _ _ news (by assumption) (cb_drop N9 fun p hp => .tail _ (.tail _ (.tail _ (.tail _ (.tail _ (.tail _ (hs3 p hp))))))) ⟨rfl, rfl⟩
        · rename News _ _ _ _ => N9
          refine ih (T + c1) _ (by omega) ⟨_, _, _, _, _, _, _, _, _, _, max (M) (d + 1 + (d1 : Int) - 1), rfl, by assumption, after1 N9, List.forall_mem_cons.mpr ⟨by k_ne, hl3⟩, List.forall_mem_cons.mpr ⟨by k_ne, hc3⟩, fun p hp => .tail _ (hs3 p hp), by assumption, by rfl, by rfl, by omega, by omega, WorkIn.ext1 (W.mono (fun p hp => .tail _ (hp))) (.head _) (by omega) (hu.mono (fun p hp => .tail _ (hp))), most1 hM (by omega)⟩
      | @node2 a p x t1 t2 na np u v2 d1 c1 d2 c2 ha hp hu hv =>
        refine turn_prep (rest := (t, tupO [.ref a, .int d tk'] nt) :: (a, tupO [.str (Str.ofString "expr") t1, .str x t2, .ref p] na) :: (p, tupO [u, v2] np) :: wl) (by assumption) (by assumption) (by assumption) (List.forall_mem_cons.mpr ⟨ht, List.forall_mem_cons.mpr ⟨ha, List.forall_mem_cons.mpr ⟨hp, fun _ h => h⟩⟩⟩) ?_
        intro N4 hl4 hc4
        k_steps
        · rename News _ _ _ _ => N9
          have hfin : Q (.bool (decide (100 < D))) = Q (.bool true) := by rw [decide_eq_true (hM.over (Nat.le_add_left 1 _) (by omega))]
          rw [← hfin]
          exact hret _ _ _ news (by assumption) (cb_drop N9 fun p hp => .tail _ (.tail _ (.tail _ (.tail _ (.tail _ (.tail _ (hs3 p hp))))))) ⟨rfl, rfl⟩
        · rename News _ _ _ _ => N9
          refine ih (T + c1 + c2) _ (by omega) ⟨_, _, _, _, _, _, _, _, _, _, max (max (M) (d + 1 + (d1 : Int) - 1)) (d + 1 + (d2 : Int) - 1), rfl, by assumption, after2 N9, List.forall_mem_cons.mpr ⟨by k_ne, List.forall_mem_cons.mpr ⟨by k_ne, hl3⟩⟩, List.forall_mem_cons.mpr ⟨by k_ne, List.forall_mem_cons.mpr ⟨by k_ne, hc3⟩⟩, fun p hp => .tail _ (.tail _ (hs3 p hp)), by assumption, by rfl, by rfl, by omega, by omega, WorkIn.ext2 (W.mono (fun p hp => .tail _ (.tail _ (hp)))) (.head _) (.tail _ (.head _)) (by omega) (by omega) (hu.mono (fun p hp => .tail _ (.tail _ (hp)))) (hv.mono (fun p hp => .tail _ (.tail _ (hp)))), most2 hM (by omega)⟩
      | @node3 a p x t1 t2 na np u v2 v3 d1 c1 d2 c2 d3 c3 ha hp hu hv hw =>
        refine turn_prep (rest := (t, tupO [.ref a, .int d tk'] nt) :: (a, tupO [.str (Str.ofString "expr") t1, .str x t2, .ref p] na) :: (p, tupO [u, v2, v3] np) :: wl) (by assumption) (by assumption) (by assumption) (List.forall_mem_cons.mpr ⟨ht, List.forall_mem_cons.mpr ⟨ha, List.forall_mem_cons.mpr ⟨hp, fun _ h => h⟩⟩⟩) ?_
        intro N4 hl4 hc4
        k_steps
        · rename News _ _ _ _ => N9
          have hfin : Q (.bool (decide (100 < D))) = Q (.bool true) := by rw [decide_eq_true (hM.over (Nat.le_add_left 1 _) (by omega))]
          rw [← hfin]
          exact hret _ _ _ news (by assumption) (cb_drop N9 fun p hp => .tail _ (.tail _ (.tail _ (.tail _ (.tail _ (.tail _ (hs3 p hp))))))) ⟨rfl, rfl⟩
        · rename News _ _ _ _ => N9
          refine ih (T + c1 + c2 + c3) _ (by omega) ⟨_, _, _, _, _, _, _, _, _, _, max (max (max (M) (d + 1 + (d1 : Int) - 1)) (d + 1 + (d2 : Int) - 1)) (d + 1 + (d3 : Int) - 1), rfl, by assumption, after3 N9, List.forall_mem_cons.mpr ⟨by k_ne, List.forall_mem_cons.mpr ⟨by k_ne, List.forall_mem_cons.mpr ⟨by k_ne, hl3⟩⟩⟩, List.forall_mem_cons.mpr ⟨by k_ne, List.forall_mem_cons.mpr ⟨by k_ne, List.forall_mem_cons.mpr ⟨by k_ne, hc3⟩⟩⟩, fun p hp => .tail _ (.tail _ (.tail _ (hs3 p hp))), by assumption, by rfl, by rfl, by omega, by omega, WorkIn.ext3 (W.mono (fun p hp => .tail _ (.tail _ (.tail _ (hp))))) (.head _) (.tail _ (.head _)) (.tail _ (.tail _ (.head _))) (by omega) (by omega) (by omega) (hu.mono (fun p hp => .tail _ (.tail _ (.tail _ (hp))))) (hv.mono (fun p hp => .tail _ (.tail _ (.tail _ (hp))))) (hw.mono (fun p hp => .tail _ (.tail _ (.tail _ (hp))))), most3 hM (by omega)⟩
end

section
set_option maxRecDepth 100000
set_option maxHeartbeats 4000000
theorem deed_go {w : World} {need : Nat} {news : List (Addr × Obj)} {Post : Value → List (Addr × Obj) → Prop} {mean : ExcName → Option Value} {mg mb : Str → Option Value} {dp un : Nat} {gd : Option (List Code)} {cn : Str} {cs : Scope} {aF : Addr} {ccd : Value} {cl : List (Str × Addr)} {outer : List Env} {A₀ : Around} {base h₀ : Heap} {LF : Addr} {mF : Str → Option Value} {sF : Shared} {Q E : Value → Shared → Prop} {f9 : Addr} {vs9 : List Value} {news9 : List (Addr × Obj)}
    (ret : ∀ (h9 : Heap) (kk9 : Nat) (v : Value) (n9 : List (Addr × Obj)), Fr h₀ LF h9 mF → News h₀ LF h9 (n9) → Post v n9 → Q (v) { sF with heap := h9, toks := kk9 })
    (C : Ctr w f9 need news vs9 Post := by assumption) (hB9 : Below A₀ base outer h₀ := by k_asm) (hF9 : Fr h₀ LF sF.heap mF := by k_asm) (hX9 : (hd.heap_1 w.params).In h₀ := by k_asm) (hN9 : News h₀ LF sF.heap news9 := by k_asm) (hs9 : ∀ q9 ∈ (news : List (Addr × Obj)), q9 ∈ news9 := by kpc_g) (hT9 : Top hd.view_1 (looseW hd.view_1 [Str.ofString "RowsError", Str.ofString "int_value", Str.ofString "named"]) mean mg mb h₀ := by k_asm) (hk9 : cs.kind = .function := by first | exact rfl | assumption) (hd9 : dp + need < recursionLimit := by k_room) (hu9 : un + 8 * need < cLine := by k_units)  :
    wpAny (model PySem.Challenge.rw_sf0040_01.row.prog w) (ktrTop dp un gd cn cs LF aF ccd cl outer) (call (.ref f9) vs9) Q E sF := by
  refine Ctr.use (C) hB9 hF9 hX9 hN9 hs9 hT9 hk9 hd9 hu9 ?_
  rintro v9 h9 kk9 n9 hF8 hN8 hP8
  exact ret h9 kk9 _ _ hF8 hN8 hP8
local macro_rules | `(tactic| walk_at "call ref") => `(tactic| (k_dflt (refine' deed_go ?_); kpc_piece))
theorem did_make_expr {w : World} {news : List (Addr × Obj)} {t : Tok} {l : Addr} {need : Nat} {Post : Value → List (Addr × Obj) → Prop} (hneed : need ≤ 24) (C : Ctr w 177 need news [.none, .ref l] Post) :
    Ctr w 247 32 news [.str (Str.ofString "make_expr") t, .ref l] Post := by
  unfold Ctr
  k_fill
  intro mean mg mb dp un gd cn cs ac ccd cl outer A₀ base h₀ L m s Q E B F X N T hk hd hu hret
  w_on
  refine wpAny_call ?_
  k_dflt ktr_enter
  k_steps
  (rename Fr _ _ _ _ => kF9); (rename News _ _ _ _ => kN9)
  exact hret _ _ _ _ kF9 kN9 (by assumption)
theorem did_expr_head {w : World} {news : List (Addr × Obj)} {t : Tok} {l : Addr} {need : Nat} {Post : Value → List (Addr × Obj) → Prop} (hneed : need ≤ 24) (C : Ctr w 184 need news [.none, .ref l] Post) :
    Ctr w 247 32 news [.str (Str.ofString "expr_head") t, .ref l] Post := by
  unfold Ctr
  k_fill
  intro mean mg mb dp un gd cn cs ac ccd cl outer A₀ base h₀ L m s Q E B F X N T hk hd hu hret
  w_on
  refine wpAny_call ?_
  k_dflt ktr_enter
  k_steps
  (rename Fr _ _ _ _ => kF9); (rename News _ _ _ _ => kN9)
  exact hret _ _ _ _ kF9 kN9 (by assumption)
theorem did_expr_args {w : World} {news : List (Addr × Obj)} {t : Tok} {l : Addr} {need : Nat} {Post : Value → List (Addr × Obj) → Prop} (hneed : need ≤ 24) (C : Ctr w 191 need news [.none, .ref l] Post) :
    Ctr w 247 32 news [.str (Str.ofString "expr_args") t, .ref l] Post := by
  unfold Ctr
  k_fill
  intro mean mg mb dp un gd cn cs ac ccd cl outer A₀ base h₀ L m s Q E B F X N T hk hd hu hret
  w_on
  refine wpAny_call ?_
  k_dflt ktr_enter
  k_steps
  (rename Fr _ _ _ _ => kF9); (rename News _ _ _ _ => kN9)
  exact hret _ _ _ _ kF9 kN9 (by assumption)
theorem did_expr_arg {w : World} {news : List (Addr × Obj)} {t : Tok} {l : Addr} {need : Nat} {Post : Value → List (Addr × Obj) → Prop} (hneed : need ≤ 24) (C : Ctr w 198 need news [.none, .ref l] Post) :
    Ctr w 247 32 news [.str (Str.ofString "expr_arg") t, .ref l] Post := by
  unfold Ctr
  k_fill
  intro mean mg mb dp un gd cn cs ac ccd cl outer A₀ base h₀ L m s Q E B F X N T hk hd hu hret
  w_on
  refine wpAny_call ?_
  k_dflt ktr_enter
  k_steps
  (rename Fr _ _ _ _ => kF9); (rename News _ _ _ _ => kN9)
  exact hret _ _ _ _ kF9 kN9 (by assumption)
theorem did_expr_count {w : World} {news : List (Addr × Obj)} {t : Tok} {l : Addr} {need : Nat} {Post : Value → List (Addr × Obj) → Prop} (hneed : need ≤ 24) (C : Ctr w 212 need news [.none, .ref l] Post) :
    Ctr w 247 32 news [.str (Str.ofString "expr_count") t, .ref l] Post := by
  unfold Ctr
  k_fill
  intro mean mg mb dp un gd cn cs ac ccd cl outer A₀ base h₀ L m s Q E B F X N T hk hd hu hret
  w_on
  refine wpAny_call ?_
  k_dflt ktr_enter
  k_steps
  (rename Fr _ _ _ _ => kF9); (rename News _ _ _ _ => kN9)
  exact hret _ _ _ _ kF9 kN9 (by assumption)
end

section
set_option maxRecDepth 100000
set_option maxHeartbeats 4000000
local macro_rules | `(tactic| k_all) => `(tactic| ((repeat (rename (_ ∧ _) => hh9; obtain ⟨_, _⟩ := hh9)); exact fun p hp => Nat.ne_of_lt (tb_ltOf (by assumption) p hp)))
/-- lists of values that are equal item by item -/
inductive SameL (news : List (Addr × Obj)) : Nat → List Value → List Value → Prop
  | nil {k : Nat} : SameL news k [] []
  | self {k : Nat} {v : Value} {r r' : List Value} : SameL news k r r' → SameL news k (v :: r) (v :: r')
  | int {k : Nat} {x : Int} {t u : Tok} {r r' : List Value} : SameL news k r r' → SameL news k (.int x t :: r) (.int x u :: r')
  | str {k : Nat} {x : Str} {t u : Tok} {r r' : List Value} : SameL news k r r' → SameL news k (.str x t :: r) (.str x u :: r')
  | tup {k : Nat} {a b : Addr} {vs us : List Value} {n m : Nat} {r r' : List Value} : (a, tupO vs n) ∈ news → (b, tupO us m) ∈ news → SameL news k vs us → SameL news (k + 1) r r' → SameL news (k + 1) (.ref a :: r) (.ref b :: r')
theorem SameL.mono {news news' : List (Addr × Obj)} {k : Nat} {xs ys : List Value} (S : SameL news k xs ys) (hs : ∀ p ∈ news, p ∈ news') : SameL news' k xs ys := by
  induction S with
  | nil => exact .nil
  | self _ i => exact .self i
  | int _ i => exact .int i
  | str _ i => exact .str i
  | tup h h' _ _ i j => exact .tup (hs _ h) (hs _ h') i j
theorem SameL.len {news : List (Addr × Obj)} {k : Nat} {xs ys : List Value} (S : SameL news k xs ys) : xs.length = ys.length := by
  induction S with
  | nil => rfl
  | self _ i => simp [i]
  | int _ i => simp [i]
  | str _ i => simp [i]
  | tup _ _ _ _ _ j => simp [j]
theorem eq_from_cons {A : Around} {s : Shared} {x y : Value} {r r' : List Value} (h : SeqAt.EqAt A s x y true) (t : ∀ j (h1 : j < r.length) (h2 : j < r'.length), SeqAt.EqAt A s r[j] r'[j] true) :
    ∀ j (h1 : j < (x :: r).length) (h2 : j < (y :: r').length), SeqAt.EqAt A s (x :: r)[j] (y :: r')[j] true := fun j h1 h2 => by
  cases j with
  | zero => exact h
  | succ j => exact t j (Nat.lt_of_succ_lt_succ h1) (Nat.lt_of_succ_lt_succ h2)
theorem all_true {n m : Nat} (h : n = m) : ((List.range (min n m)).all (fun _ => true) && n == m) = true := by simp [h]
theorem SameL.at {news : List (Addr × Obj)} {k : Nat} {xs ys : List Value} (S : SameL news k xs ys) {h₀ : Heap} {L : Addr} {s : Shared} (N : News h₀ L s.heap news) :
    ∀ A : Around, A.units + k < cLine → ∀ j (h1 : j < xs.length) (h2 : j < ys.length), SeqAt.EqAt A s xs[j] ys[j] true := by
  induction S with
  | nil => exact fun A _ j h1 => absurd h1 (Nat.not_lt_zero _)
  | @self k v r r' _ i => exact fun A hu => eq_from_cons (SeqAt.EqAt.same v) (i A hu)
  | @int k x t u r r' _ i => exact fun A hu => eq_from_cons (by have := SeqAt.EqAt.int_int (A := A) (s := s) x t x u; simpa using this) (i A hu)
  | @str k x t u r r' _ i => exact fun A hu => eq_from_cons (by have := SeqAt.EqAt.str_str (A := A) (s := s) x t x u; simpa using this) (i A hu)
  | @tup k a b vs us n m r r' ha hb S _ i j =>
    refine fun A hu => eq_from_cons ?_ (j A hu)
    by_cases hab : a = b
    · subst hab
      exact SeqAt.EqAt.same _
    · have key := SeqAt.RcAt.tuples (A := A) (s := s) (e := fun _ => true) (News.isTup N ha) (News.isTup N hb) (by omega) (fun j h1 h2 => by
        have := i A.in1 (by show A.units + 1 + k < cLine; omega) j (by simpa using h1) (by simpa using h2)
        simpa using this)
      rw [all_true (by simpa using S.len)] at key
      exact SeqAt.EqAt.of_refs hab key
section
variable {prog : Program} {w : World} {A : Around} {E : Value → Shared → Prop} {s : Shared} {h₀ : Heap} {L : Addr} {news : List (Addr × Obj)} {a b : Addr} {vs us : List Value} {n m k : Nat} {Q : Value → Shared → Prop}
theorem eq_tup (N : News h₀ L s.heap news := by k_asm) (ha : (a, tupO vs n) ∈ news := by k_mem) (hb : (b, tupO us m) ∈ news := by k_mem) (S : SameL news k vs us := by keq_rows) (hu : A.units + (k + 1) < cLine := by k_units) (h : Q (.bool true) s) : wpAny (model prog w) A (compareOp .Eq (.ref a) (.ref b)) Q E s := by
  have key := SeqAt.RcAt.tuples (A := A) (s := s) (e := fun _ => true) (News.isTup N ha) (News.isTup N hb) (by omega) (fun j h1 h2 => by
    have := S.at N A.in1 (by show A.units + 1 + k < cLine; omega) j (by simpa using h1) (by simpa using h2)
    simpa using this)
  rw [all_true (by simpa using S.len)] at key
  exact cmp_ofEq (key prog w E Q h)
theorem ne_tup (N : News h₀ L s.heap news := by k_asm) (ha : (a, tupO vs n) ∈ news := by k_mem) (hb : (b, tupO us m) ∈ news := by k_mem) (S : SameL news k vs us := by keq_rows) (hu : A.units + (k + 1) < cLine := by k_units) (h : Q (.bool false) s) : wpAny (model prog w) A (compareOp .NotEq (.ref a) (.ref b)) Q E s := by
  have key := SeqAt.RcNeAt.tuples (A := A) (s := s) (e := fun _ => true) (News.isTup N ha) (News.isTup N hb) (by omega) (fun j h1 h2 => by
    have := S.at N A.in1 (by show A.units + 1 + k < cLine; omega) j (by simpa using h1) (by simpa using h2)
    simpa using this)
  rw [all_true (by simpa using S.len)] at key
  exact cmp_ofNotEq (key prog w E Q h)
theorem eq_lst {o o' : Obj} (N : News h₀ L s.heap news) (ha : (a, listOf vs.toArray n) ∈ news) (hb : (b, listOf us.toArray m) ∈ news) (S : SameL news k vs us) (hu : A.units + (k + 1) < cLine) (h : Q (.bool true) s) : wpAny (model prog w) A (compareOp .Eq (.ref a) (.ref b)) Q E s := by
  have key := SeqAt.RcAt.lists (A := A) (s := s) (e := fun _ => true) (News.isList N ha) (News.isList N hb) (by simpa using S.len) (by omega) (fun j h1 h2 => by
    have := S.at N A.in1 (by show A.units + 1 + k < cLine; omega) j (by simpa using h1) (by simpa using h2)
    simpa using this)
  have e1 : (List.range vs.toArray.size).all (fun _ => true) = true := by simp
  rw [e1] at key
  exact cmp_ofEq (key prog w E Q h)
end
def CompMark : Prop := True
def CompHere (p : Prop) : Prop := p
theorem comp_here {p : Prop} (h : CompHere p) : p := h
end

section
set_option maxRecDepth 100000
set_option maxHeartbeats 4000000
local macro_rules | `(tactic| keq_rows) => `(tactic| first | exact SameL.nil | (refine SameL.self ?_; keq_rows) | (refine SameL.int ?_; keq_rows) | (refine SameL.str ?_; keq_rows) | (refine' SameL.tup ?ha ?hb ?hc ?hd; (case ha => k_mem); (case hb => k_mem); (case hc => keq_rows); (case hd => keq_rows)))
local macro_rules | `(tactic| walk_at "compareOp Eq ref ref") => `(tactic| k_dflt (refine' eq_tup (k := 3) (h := ?_)))
local macro_rules | `(tactic| walk_at "compareOp NotEq ref ref") => `(tactic| k_dflt (refine' ne_tup (k := 3) (h := ?_)))
/-- a value of the program that stands for a tree of `d` levels and `c` nodes -/
inductive Val (news : List (Addr × Obj)) : Value → Nat → Nat → Prop
  | tree {a t p : Addr} {x : Str} {t1 t2 t3 : Tok} {n n2 : Nat} {d c : Nat} : (a, tupO [.str (Str.ofString "tree") t1, .ref t] n) ∈ news → (t, tupO [.str (Str.ofString "expr") t2, .str x t3, .ref p] n2) ∈ news → TreeIn news (.ref t) d c → Val news (.ref a) d c
  | sym {a : Addr} {x : Str} {t1 t2 : Tok} {n : Nat} : (a, tupO [.str (Str.ofString "sym") t1, .str x t2] n) ∈ news → Val news (.ref a) 1 1
  | int {a : Addr} {t1 t2 t3 : Tok} {n : Nat} : (a, tupO [.str (Str.ofString "int") t1, .str (Str.ofString "Int64") t2, .int 5 t3] n) ∈ news → Val news (.ref a) 1 1
theorem Val.mono {news news' : List (Addr × Obj)} {v : Value} {d c : Nat} (h : Val news v d c) (hs : ∀ p ∈ news, p ∈ news') : Val news' v d c := by
  cases h with
  | tree h h' x => exact .tree (hs _ h) (hs _ h') (x.mono hs)
  | sym h => exact .sym (hs _ h)
  | int h => exact .int (hs _ h)
/-- `u` is the part of a tree that the value `v` becomes -/
inductive Part (news : List (Addr × Obj)) : Value → Value → Nat → Nat → Prop
  | tree {a t p : Addr} {x : Str} {t1 t2 t3 : Tok} {n n2 : Nat} {d c : Nat} : (a, tupO [.str (Str.ofString "tree") t1, .ref t] n) ∈ news → (t, tupO [.str (Str.ofString "expr") t2, .str x t3, .ref p] n2) ∈ news → TreeIn news (.ref t) d c → Part news (.ref t) (.ref a) d c
  | sym {a : Addr} {x : Str} {t1 t2 : Tok} {n : Nat} : (a, tupO [.str (Str.ofString "sym") t1, .str x t2] n) ∈ news → Part news (.ref a) (.ref a) 1 1
  | int {a b : Addr} {t1 t2 t3 t4 t5 : Tok} {n n2 : Nat} : (a, tupO [.str (Str.ofString "int") t1, .str (Str.ofString "Int64") t2, .int 5 t3] n) ∈ news → (b, tupO [.str (Str.ofString "int") t4, .int 5 t5] n2) ∈ news → Part news (.ref b) (.ref a) 1 1
theorem Part.mono {news news' : List (Addr × Obj)} {u v : Value} {d c : Nat} (h : Part news u v d c) (hs : ∀ p ∈ news, p ∈ news') : Part news' u v d c := by
  cases h with
  | tree h h' x => exact .tree (hs _ h) (hs _ h') (x.mono hs)
  | sym h => exact .sym (hs _ h)
  | int h h' => exact .int (hs _ h) (hs _ h')
theorem Part.treeIn {news : List (Addr × Obj)} {u v : Value} {d c : Nat} (h : Part news u v d c) : TreeIn news u d c := by
  cases h with
  | tree h h' x => exact x
  | sym h => exact .sym h
  | int h h' => exact .int h'
theorem Part.val {news : List (Addr × Obj)} {u v : Value} {d c : Nat} (h : Part news u v d c) : Val news v d c := by
  cases h with
  | tree h h' x => exact .tree h h' x
  | sym h => exact .sym h
  | int h h' => exact .int h
theorem news_put {h₀ h : Heap} {L : Addr} {news more : List (Addr × Obj)} {G : Prop} (N : News h₀ L h news) (hm : ∀ p ∈ more, p ∈ news) (k : News h₀ L h (more ++ news) → G) : G :=
  k (cb_drop N fun p hp => (List.mem_append.mp hp).elim (hm p) id)
theorem put1 {h₀ h : Heap} {L : Addr} {q1 : Addr × Obj} {rest news : List (Addr × Obj)} (N : News h₀ L h (q1 :: rest)) (hs : ∀ p ∈ news, p ∈ rest) : News h₀ L h ([q1] ++ news) :=
  fun p hp => N p (by
    rcases List.mem_cons.mp hp with h | h
    · rw [h]; exact .head _
    · exact .tail _ (hs p h))
theorem tov_ctr {w : World} {ld news : List (Addr × Obj)} {v : Value} {d c : Nat} (hb : ∀ p ∈ ld, p ∈ news) (hv : Val ld v d c) :
    Ctr w 118 6 news [v] (fun r news' => ∃ ex, news' = ex ++ news ∧ (∀ q ∈ ex, AllLt q.1 news) ∧ Part (ex ++ ld) r v d c) := by
  unfold Ctr
  k_fill
  intro mean mg mb dp un gd cn cs ac ccd cl outer A₀ base h₀ L m s Q E B F X N T hk hd hu hret
  w_on
  refine wpAny_call ?_
  cases hv with
  | @tree a t p x t1 t2 t3 n n2 d c ha ht hT =>
    refine news_put (more := [(a, tupO [.str (Str.ofString "tree") t1, .ref t] n)]) N (by simp [hb _ ha]) ?_
    clear N; intro N; simp only [List.cons_append, List.nil_append] at N
    k_dflt ktr_enter
    k_steps
    (rename Fr _ _ _ _ => kF9); (rename News _ _ _ _ => kN9)
    exact hret _ _ _ _ kF9 (cb_drop kN9 (fun p hp => .tail _ hp)) ⟨[], rfl, (fun _ h => nomatch h), .tree ha ht hT⟩
  | @sym a x t1 t2 n ha =>
    refine news_put (more := [(a, tupO [.str (Str.ofString "sym") t1, .str x t2] n)]) N (by simp [hb _ ha]) ?_
    clear N; intro N; simp only [List.cons_append, List.nil_append] at N
    k_dflt ktr_enter
    k_steps
    (rename Fr _ _ _ _ => kF9); (rename News _ _ _ _ => kN9)
    exact hret _ _ _ news kF9 (cb_drop kN9 (fun p hp => by simp only [List.mem_cons, hp, or_true])) ⟨[], rfl, (fun _ h => nomatch h), .sym ha⟩
  | @int a t1 t2 t3 n ha =>
    refine news_put (more := [(a, tupO [.str (Str.ofString "int") t1, .str (Str.ofString "Int64") t2, .int 5 t3] n)]) N (by simp [hb _ ha]) ?_
    clear N; intro N; simp only [List.cons_append, List.nil_append] at N
    k_dflt ktr_enter
    k_steps
    (rename Fr _ _ _ _ => kF9); (rename News _ _ _ _ => kN9)
    refine hret _ _ _ _ kF9 (put1 kN9 (fun p hp => by simp only [List.mem_cons, hp, or_true])) ⟨_, rfl, ?_, .int (.tail _ ha) (.head _)⟩
    intro q hq; rw [List.mem_singleton.mp hq]; dsimp only; k_all
theorem tov_go {w : World} {ld news : List (Addr × Obj)} {v : Value} {d c : Nat} {mean : ExcName → Option Value} {mg mb : Str → Option Value} {dp un : Nat} {gd : Option (List Code)} {cn : Str} {cs : Scope} {aF : Addr} {ccd : Value} {cl : List (Str × Addr)} {outer : List Env} {A₀ : Around} {base h₀ : Heap} {LF : Addr} {mF : Str → Option Value} {sF : Shared} {Q E : Value → Shared → Prop} {f9 : Addr} {vs9 : List Value} {news9 : List (Addr × Obj)}
    (ret : ∀ (h9 : Heap) (kk9 : Nat) (r9 : Value) (ex : List (Addr × Obj)), Fr h₀ LF h9 mF → News h₀ LF h9 (ex ++ news) → (∀ q ∈ ex, AllLt q.1 news) → Part (ex ++ ld) r9 v d c → Q (r9) { sF with heap := h9, toks := kk9 })
    (hf9 : f9 = 118 := by exact rfl) (hv9 : vs9 = [v] := by exact rfl) (hB9 : Below A₀ base outer h₀ := by k_asm) (hF9 : Fr h₀ LF sF.heap mF := by k_asm) (hX9 : (hd.heap_1 w.params).In h₀ := by k_asm) (hN9 : News h₀ LF sF.heap news9 := by k_asm) (hs9 : ∀ q9 ∈ (news : List (Addr × Obj)), q9 ∈ news9 := by exact fun _ h => h) (hT9 : Top hd.view_1 (looseW hd.view_1 [Str.ofString "RowsError", Str.ofString "int_value", Str.ofString "named"]) mean mg mb h₀ := by k_asm) (hk9 : cs.kind = .function := by first | exact rfl | assumption) (hd9 : dp + 6 < recursionLimit := by k_room) (hu9 : un + 8 * 6 < cLine := by k_units) (hv : Val ld v d c := by assumption) (hb : ∀ p ∈ ld, p ∈ news := by kpc_g) :
    wpAny (model PySem.Challenge.rw_sf0040_01.row.prog w) (ktrTop dp un gd cn cs LF aF ccd cl outer) (call (.ref f9) vs9) Q E sF := by
  subst hf9 hv9
  refine Ctr.use (tov_ctr hb hv) hB9 hF9 hX9 hN9 hs9 hT9 hk9 hd9 hu9 ?_
  rintro v9 h9 kk9 n9 hF8 hN8 ⟨ex, rfl, hf, hp⟩
  exact ret h9 kk9 _ _ hF8 hN8 hf hp
end

local macro_rules | `(tactic| k_mem) => `(tactic| (refine List.mem_append_right _ ?_; k_mem))
section
set_option maxRecDepth 100000
set_option maxHeartbeats 4000000
theorem ceX {h₀ : Heap} {L : Addr} {m : Str → Option Value} {I C D : Addr} {s₁ : Shared} {oI oC oD : Obj} {S : List (Addr × Obj) → Prop} {rest : Value → List (Addr × Obj) → Prop} {y : Value} {h' : Heap} {tk : Nat} {ex news : List (Addr × Obj)}
    (F : Fr h₀ L h' m) (N : News h₀ L h' (ex ++ (I, oI) :: (C, oC) :: (D, oD) :: news)) (off : LCg.Off3 I C D news) (hf : ∀ q ∈ ex, AllLt q.1 ((I, oI) :: (C, oC) :: (D, oD) :: news)) (hS : S (ex ++ news)) (r : rest y (ex ++ news)) : LCg.CompEnd h₀ L m s₁ I oI C oC D oD S rest y { s₁ with heap := h', toks := tk } :=
  LCg.CompEnd.intro F N (ex ++ news) (fun p hp => by
    simp only [List.mem_cons, List.mem_append] at hp ⊢
    rcases hp with h | h | h | h | h <;> simp [h]) (LCg.Off3.of fun p hp => by
    rcases List.mem_append.mp hp with h | h
    · obtain ⟨a, b, c, _⟩ := hf p h
      exact ⟨Nat.ne_of_gt a, Nat.ne_of_gt b, Nat.ne_of_gt c⟩
    · exact off.mem p h) hS r
theorem allLt_sub {d : Addr} {l l' : List (Addr × Obj)} (h : AllLt d l) (hs : ∀ p ∈ l', p ∈ l) : AllLt d l' := allLt_of fun p hp => tb_ltOf h p (hs p hp)
inductive Vals (news : List (Addr × Obj)) : List Value → Nat → Nat → Prop
  | one {v : Value} {d c : Nat} : Val news v d c → Vals news [v] d c
  | two {v v2 : Value} {d c d2 c2 : Nat} : Val news v d c → Val news v2 d2 c2 → Vals news [v, v2] (max d d2) (c + c2)
  | three {v v2 v3 : Value} {d c d2 c2 d3 c3 : Nat} : Val news v d c → Val news v2 d2 c2 → Val news v3 d3 c3 → Vals news [v, v2, v3] (max (max d d2) d3) (c + c2 + c3)
inductive Parts (news : List (Addr × Obj)) : List Value → List Value → Nat → Nat → Prop
  | one {u v : Value} {d c : Nat} : Part news u v d c → Parts news [u] [v] d c
  | two {u v u2 v2 : Value} {d c d2 c2 : Nat} : Part news u v d c → Part news u2 v2 d2 c2 → Parts news [u, u2] [v, v2] (max d d2) (c + c2)
  | three {u v u2 v2 u3 v3 : Value} {d c d2 c2 d3 c3 : Nat} : Part news u v d c → Part news u2 v2 d2 c2 → Part news u3 v3 d3 c3 → Parts news [u, u2, u3] [v, v2, v3] (max (max d d2) d3) (c + c2 + c3)
theorem Parts.mono {news news' : List (Addr × Obj)} {us vs : List Value} {d c : Nat} (h : Parts news us vs d c) (hs : ∀ p ∈ news, p ∈ news') : Parts news' us vs d c := by
  cases h with
  | one a => exact .one (a.mono hs)
  | two a b => exact .two (a.mono hs) (b.mono hs)
  | three a b c => exact .three (a.mono hs) (b.mono hs) (c.mono hs)
theorem Parts.tree {news : List (Addr × Obj)} {us vs : List Value} {d c : Nat} {a p : Addr} {x : Str} {t1 t2 : Tok} {n n2 : Nat} (h : Parts news us vs d c) (ha : (a, tupO [.str (Str.ofString "expr") t1, .str x t2, .ref p] n) ∈ news) (hp : (p, tupO us n2) ∈ news) : TreeIn news (.ref a) (d + 1) (c + 1) := by
  cases h with
  | one q => exact .node1 ha hp q.treeIn
  | two q r => exact .node2 ha hp q.treeIn r.treeIn
  | three q r s => exact .node3 ha hp q.treeIn r.treeIn s.treeIn
local macro_rules | `(tactic| walk_at "call ref") => `(tactic| (k_dflt (refine' tov_go ?_); kpc_piece))
local macro_rules | `(tactic| walk_at "eval ListComp") => `(tactic| (k_here; lcg_look; k_dflt (refine LCg.ListComp_U (F₀ := by k_asm) (by rfl) (by decide) (by rfl) (by decide) (by rfl) ?_)))
local macro_rules | `(tactic| walk_at "CompRest") => `(tactic| (with_unfolding_all first
  | (refine LCg.CompRest.succ ?_; intro v' I' oI' C' oC' D' m' h' tk' E' hv' hC' hx' F' N' off' ne'; lcg_open hv')
  | refine LCg.CompRest.zero ?_))
local macro_rules | `(tactic| walk_at "CompEnd") => `(tactic| (k_dflt (refine ceX (by k_asm) (by k_asm) (by assumption) (by assumption) (Or.inr ⟨_, by k_mem, rfl, _, rfl⟩) ?_)))
def Made (vs : List Value) (d c : Nat) (x : Str) (tx : Tok) (ld news : List (Addr × Obj)) (r : Value) (news' : List (Addr × Obj)) : Prop :=
  ∃ W t p us ex t1 t2, r = .ref W ∧ news' = (W, tupO [.str (Str.ofString "tree") t1, .ref t] 0) :: (t, tupO [.str (Str.ofString "expr") t2, .str x tx, .ref p] 0) :: (p, tupO us 0) :: (ex ++ news) ∧ AllLt W news ∧ AllLt t news ∧ AllLt p news ∧ (∀ q ∈ ex, AllLt q.1 news) ∧ Parts (ex ++ ld) us vs d c
theorem made_close1 {h₀ h : Heap} {L W t p Dl l I1 C1 D1 : Addr} {oW ot op oDl lo oI1 oC1 oD1 : Obj} {e1 news : List (Addr × Obj)} (N : News h₀ L h ((W, oW) :: (t, ot) :: (p, op) :: (Dl, oDl) :: (e1 ++ (l, lo) :: news))) (aW : AllLt W (e1 ++ (l, lo) :: news)) (at' : AllLt t (e1 ++ (l, lo) :: news)) (ap : AllLt p (e1 ++ (l, lo) :: news)) (f1 : ∀ q ∈ e1, AllLt q.1 ((I1, oI1) :: (C1, oC1) :: (D1, oD1) :: (l, lo) :: news)) :
    News h₀ L h ((W, oW) :: (t, ot) :: (p, op) :: (e1 ++ news)) ∧ AllLt W news ∧ AllLt t news ∧ AllLt p news ∧ ∀ q ∈ e1, AllLt q.1 news := by
  refine ⟨cb_drop N fun q hq => ?_, allLt_sub aW fun q hq => by simp [hq], allLt_sub at' fun q hq => by simp [hq], allLt_sub ap fun q hq => by simp [hq], fun q hq => ?_⟩
  · simp only [List.mem_cons, List.mem_append] at hq ⊢
    rcases hq with h | h | h | h
    · simp [h]
    · simp [h]
    · simp [h]
    · rcases h with h | h <;> simp [h]
  · exact allLt_sub (f1 q hq) fun p hp => by simp [hp]
theorem made_close2 {h₀ h : Heap} {L W t p Dl l I1 C1 D1 I2 C2 D2 : Addr} {oW ot op oDl lo oI1 oC1 oD1 oI2 oC2 oD2 : Obj} {e1 e2 news : List (Addr × Obj)} (N : News h₀ L h ((W, oW) :: (t, ot) :: (p, op) :: (Dl, oDl) :: (e2 ++ ((e1 ++ (l, lo) :: news))))) (aW : AllLt W (e2 ++ ((e1 ++ (l, lo) :: news)))) (at' : AllLt t (e2 ++ ((e1 ++ (l, lo) :: news)))) (ap : AllLt p (e2 ++ ((e1 ++ (l, lo) :: news)))) (f1 : ∀ q ∈ e1, AllLt q.1 ((I1, oI1) :: (C1, oC1) :: (D1, oD1) :: (l, lo) :: news)) (f2 : ∀ q ∈ e2, AllLt q.1 ((I2, oI2) :: (C2, oC2) :: (D2, oD2) :: (e1 ++ (l, lo) :: news))) :
    News h₀ L h ((W, oW) :: (t, ot) :: (p, op) :: ((e2 ++ e1) ++ news)) ∧ AllLt W news ∧ AllLt t news ∧ AllLt p news ∧ ∀ q ∈ (e2 ++ e1), AllLt q.1 news := by
  refine ⟨cb_drop N fun q hq => ?_, allLt_sub aW fun q hq => by simp [hq], allLt_sub at' fun q hq => by simp [hq], allLt_sub ap fun q hq => by simp [hq], fun q hq => ?_⟩
  · simp only [List.mem_cons, List.mem_append] at hq ⊢
    rcases hq with h | h | h | h
    · simp [h]
    · simp [h]
    · simp [h]
    · rcases h with (h | h) | h <;> simp [h]
  · rcases List.mem_append.mp hq with h | h
    · exact allLt_sub (f2 q h) fun p hp => by simp [hp]
    · exact allLt_sub (f1 q h) fun p hp => by simp [hp]
theorem made_close3 {h₀ h : Heap} {L W t p Dl l I1 C1 D1 I2 C2 D2 I3 C3 D3 : Addr} {oW ot op oDl lo oI1 oC1 oD1 oI2 oC2 oD2 oI3 oC3 oD3 : Obj} {e1 e2 e3 news : List (Addr × Obj)} (N : News h₀ L h ((W, oW) :: (t, ot) :: (p, op) :: (Dl, oDl) :: (e3 ++ ((e2 ++ ((e1 ++ (l, lo) :: news))))))) (aW : AllLt W (e3 ++ ((e2 ++ ((e1 ++ (l, lo) :: news)))))) (at' : AllLt t (e3 ++ ((e2 ++ ((e1 ++ (l, lo) :: news)))))) (ap : AllLt p (e3 ++ ((e2 ++ ((e1 ++ (l, lo) :: news)))))) (f1 : ∀ q ∈ e1, AllLt q.1 ((I1, oI1) :: (C1, oC1) :: (D1, oD1) :: (l, lo) :: news)) (f2 : ∀ q ∈ e2, AllLt q.1 ((I2, oI2) :: (C2, oC2) :: (D2, oD2) :: (e1 ++ (l, lo) :: news))) (f3 : ∀ q ∈ e3, AllLt q.1 ((I3, oI3) :: (C3, oC3) :: (D3, oD3) :: (e2 ++ ((e1 ++ (l, lo) :: news))))) :
    News h₀ L h ((W, oW) :: (t, ot) :: (p, op) :: (((e3 ++ e2) ++ e1) ++ news)) ∧ AllLt W news ∧ AllLt t news ∧ AllLt p news ∧ ∀ q ∈ ((e3 ++ e2) ++ e1), AllLt q.1 news := by
  refine ⟨cb_drop N fun q hq => ?_, allLt_sub aW fun q hq => by simp [hq], allLt_sub at' fun q hq => by simp [hq], allLt_sub ap fun q hq => by simp [hq], fun q hq => ?_⟩
  · simp only [List.mem_cons, List.mem_append] at hq ⊢
    rcases hq with h | h | h | h
    · simp [h]
    · simp [h]
    · simp [h]
    · rcases h with ((h | h) | h) | h <;> simp [h]
  · rcases List.mem_append.mp hq with h | h
    · rcases List.mem_append.mp h with h | h
      · exact allLt_sub (f3 q h) fun p hp => by simp [hp]
      · exact allLt_sub (f2 q h) fun p hp => by simp [hp]
    · exact allLt_sub (f1 q h) fun p hp => by simp [hp]
theorem made_ctr {w : World} {ld news : List (Addr × Obj)} {vs : List Value} {d c : Nat} {x : Str} {tx : Tok} {l : Addr} {n : Nat} (hb : ∀ p ∈ ld, p ∈ news) (hv : Vals ld vs d c) :
    Ctr w 151 12 ((l, listOf vs.toArray n) :: news) [.str x tx, .ref l] (Made vs d c x tx ld news) := by
  unfold Ctr
  k_fill
  intro mean mg mb dp un gd cn cs ac ccd cl outer A₀ base h₀ L m s Q E B F X N T hk hd hu hret
  w_on
  refine wpAny_call ?_
  replace hb : ∀ p ∈ ld, p ∈ (l, listOf vs.toArray n) :: news := fun p hp => .tail _ (hb p hp)
  cases hv with
  | one h1 =>
    k_dflt ktr_enter
    k_steps
    (rename Fr _ _ _ _ => kF9); (rename News _ _ _ _ => kN9)
    obtain ⟨n1, a1, a2, a3, a4⟩ := made_close1 kN9 (by k_all) (by k_all) (by k_all) (by assumption)
    exact hret _ _ _ _ kF9 n1 ⟨_, _, _, _, _, _, _, rfl, rfl, a1, a2, a3, a4, .one (by assumption)⟩
  | two h1 h2 =>
    k_dflt ktr_enter
    k_steps
    (rename Fr _ _ _ _ => kF9); (rename News _ _ _ _ => kN9)
    obtain ⟨n1, a1, a2, a3, a4⟩ := made_close2 kN9 (by k_all) (by k_all) (by k_all) (by assumption) (by assumption)
    exact hret _ _ _ _ kF9 n1 ⟨_, _, _, _, _, _, _, rfl, rfl, a1, a2, a3, a4, .two (Part.mono (by assumption) (fun p hp => by simp only [List.mem_append] at hp ⊢; rcases hp with h | h <;> simp [h])) (Part.mono (by assumption) (fun p hp => by simp only [List.mem_append] at hp ⊢; rcases hp with h | h <;> simp [h]))⟩
  | three h1 h2 h3 =>
    k_dflt ktr_enter
    k_steps
    (rename Fr _ _ _ _ => kF9); (rename News _ _ _ _ => kN9)
    obtain ⟨n1, a1, a2, a3, a4⟩ := made_close3 kN9 (by k_all) (by k_all) (by k_all) (by assumption) (by assumption) (by assumption)
    exact hret _ _ _ _ kF9 n1 ⟨_, _, _, _, _, _, _, rfl, rfl, a1, a2, a3, a4, .three (Part.mono (by assumption) (fun p hp => by simp only [List.mem_append] at hp ⊢; rcases hp with h | h <;> simp [h])) (Part.mono (by assumption) (fun p hp => by simp only [List.mem_append] at hp ⊢; rcases hp with h | h <;> simp [h])) (Part.mono (by assumption) (fun p hp => by simp only [List.mem_append] at hp ⊢; rcases hp with h | h <;> simp [h]))⟩
theorem made_go {w : World} {ld news : List (Addr × Obj)} {vs : List Value} {d c : Nat} {x : Str} {tx : Tok} {l : Addr} {n : Nat} {mean : ExcName → Option Value} {mg mb : Str → Option Value} {dp un : Nat} {gd : Option (List Code)} {cn : Str} {cs : Scope} {aF : Addr} {ccd : Value} {cl : List (Str × Addr)} {outer : List Env} {A₀ : Around} {base h₀ : Heap} {LF : Addr} {mF : Str → Option Value} {sF : Shared} {Q E : Value → Shared → Prop} {f9 : Addr} {vs9 : List Value} {news9 : List (Addr × Obj)}
    (ret : ∀ (h9 : Heap) (kk9 : Nat) (W t p : Addr) (us : List Value) (ex : List (Addr × Obj)) (t1 t2 : Tok), Fr h₀ LF h9 mF → News h₀ LF h9 ((W, tupO [.str (Str.ofString "tree") t1, .ref t] 0) :: (t, tupO [.str (Str.ofString "expr") t2, .str x tx, .ref p] 0) :: (p, tupO us 0) :: (ex ++ news)) → AllLt W news → AllLt t news → AllLt p news → (∀ q ∈ ex, AllLt q.1 news) → Parts (ex ++ ld) us vs d c → Q (.ref W) { sF with heap := h9, toks := kk9 })
    (hf9 : f9 = 151 := by exact rfl) (hv9 : vs9 = [.str x tx, .ref l] := by exact rfl) (hB9 : Below A₀ base outer h₀ := by k_asm) (hF9 : Fr h₀ LF sF.heap mF := by k_asm) (hX9 : (hd.heap_1 w.params).In h₀ := by k_asm) (hN9 : News h₀ LF sF.heap news9 := by k_asm) (hs9 : ∀ q9 ∈ ((l, listOf vs.toArray n) :: news : List (Addr × Obj)), q9 ∈ news9 := by exact fun _ h => h) (hT9 : Top hd.view_1 (looseW hd.view_1 [Str.ofString "RowsError", Str.ofString "int_value", Str.ofString "named"]) mean mg mb h₀ := by k_asm) (hk9 : cs.kind = .function := by first | exact rfl | assumption) (hd9 : dp + 12 < recursionLimit := by k_room) (hu9 : un + 8 * 12 < cLine := by k_units) (hv : Vals ld vs d c := by assumption) (hb : ∀ p ∈ ld, p ∈ news := by kpc_g) :
    wpAny (model PySem.Challenge.rw_sf0040_01.row.prog w) (ktrTop dp un gd cn cs LF aF ccd cl outer) (call (.ref f9) vs9) Q E sF := by
  subst hf9 hv9
  refine Ctr.use (made_ctr (l := l) (n := n) hb hv) hB9 hF9 hX9 hN9 hs9 hT9 hk9 hd9 hu9 ?_
  rintro v9 h9 kk9 n9 hF8 hN8 ⟨W, t, p, us, ex, t1, t2, rfl, rfl, a1, a2, a3, a4, hp⟩
  exact ret h9 kk9 _ _ _ _ _ _ _ hF8 hN8 a1 a2 a3 a4 hp
end

section
set_option maxRecDepth 100000
set_option maxHeartbeats 4000000
theorem large_no {w : World} {v : Value} {D C : Nat} {news : List (Addr × Obj)} (hT : TreeIn news v D C) (hC : C ≤ 4000) (hD : D ≤ 100) : Ctr w 170 4 news [v] (fun r news' => r = .bool false ∧ news' = news) := by
  have := large_ctr (w := w) hT hC
  rwa [decide_eq_false (by omega)] at this
theorem large_yes {w : World} {v : Value} {D C : Nat} {news : List (Addr × Obj)} (hT : TreeIn news v D C) (hC : C ≤ 4000) (hD : 100 < D) : Ctr w 170 4 news [v] (fun r news' => r = .bool true ∧ news' = news) := by
  have := large_ctr (w := w) hT hC
  rwa [decide_eq_true hD] at this
theorem large_no_go {w : World} {news ld : List (Addr × Obj)} {us vs : List Value} {d c : Nat} {a p : Addr} {x : Str} {t1 t2 : Tok} {n n2 : Nat} {mean : ExcName → Option Value} {mg mb : Str → Option Value} {dp un : Nat} {gd : Option (List Code)} {cn : Str} {cs : Scope} {aF : Addr} {ccd : Value} {cl : List (Str × Addr)} {outer : List Env} {A₀ : Around} {base h₀ : Heap} {LF : Addr} {mF : Str → Option Value} {sF : Shared} {Q E : Value → Shared → Prop} {f9 : Addr} {vs9 : List Value} {news9 : List (Addr × Obj)}
    (ret : ∀ (h9 : Heap) (kk9 : Nat), Fr h₀ LF h9 mF → News h₀ LF h9 (news) → Q (.bool false) { sF with heap := h9, toks := kk9 })
    (hf9 : f9 = 170 := by exact rfl) (hv9 : vs9 = [.ref a] := by exact rfl) (hB9 : Below A₀ base outer h₀ := by k_asm) (hF9 : Fr h₀ LF sF.heap mF := by k_asm) (hX9 : (hd.heap_1 w.params).In h₀ := by k_asm) (hN9 : News h₀ LF sF.heap news9 := by k_asm) (hs9 : ∀ q9 ∈ (news : List (Addr × Obj)), q9 ∈ news9 := by exact fun _ h => h) (hT9 : Top hd.view_1 (looseW hd.view_1 [Str.ofString "RowsError", Str.ofString "int_value", Str.ofString "named"]) mean mg mb h₀ := by k_asm) (hk9 : cs.kind = .function := by first | exact rfl | assumption) (hd9 : dp + 4 < recursionLimit := by k_room) (hu9 : un + 8 * 4 < cLine := by k_units) (h1 : (a, tupO [.str (Str.ofString "expr") t1, .str x t2, .ref p] n) ∈ news := by k_mem) (h2 : (p, tupO us n2) ∈ news := by k_mem) (hP : Parts ld us vs d c := by assumption) (hm : ∀ p ∈ ld, p ∈ news := by kpc_g) (hC : c + 1 ≤ 4000 := by omega) (hD : d + 1 ≤ 100 := by omega) :
    wpAny (model PySem.Challenge.rw_sf0040_01.row.prog w) (ktrTop dp un gd cn cs LF aF ccd cl outer) (call (.ref f9) vs9) Q E sF := by
  subst hf9 hv9
  refine Ctr.use (large_no ((hP.mono hm).tree h1 h2) hC hD) hB9 hF9 hX9 hN9 hs9 hT9 hk9 hd9 hu9 ?_
  rintro v9 h9 kk9 n9 hF8 hN8 ⟨rfl, rfl⟩
  exact ret h9 kk9  hF8 hN8
theorem large_yes_go {w : World} {news ld : List (Addr × Obj)} {us vs : List Value} {d c : Nat} {a p : Addr} {x : Str} {t1 t2 : Tok} {n n2 : Nat} {mean : ExcName → Option Value} {mg mb : Str → Option Value} {dp un : Nat} {gd : Option (List Code)} {cn : Str} {cs : Scope} {aF : Addr} {ccd : Value} {cl : List (Str × Addr)} {outer : List Env} {A₀ : Around} {base h₀ : Heap} {LF : Addr} {mF : Str → Option Value} {sF : Shared} {Q E : Value → Shared → Prop} {f9 : Addr} {vs9 : List Value} {news9 : List (Addr × Obj)}
    (ret : ∀ (h9 : Heap) (kk9 : Nat), Fr h₀ LF h9 mF → News h₀ LF h9 (news) → Q (.bool true) { sF with heap := h9, toks := kk9 })
    (hf9 : f9 = 170 := by exact rfl) (hv9 : vs9 = [.ref a] := by exact rfl) (hB9 : Below A₀ base outer h₀ := by k_asm) (hF9 : Fr h₀ LF sF.heap mF := by k_asm) (hX9 : (hd.heap_1 w.params).In h₀ := by k_asm) (hN9 : News h₀ LF sF.heap news9 := by k_asm) (hs9 : ∀ q9 ∈ (news : List (Addr × Obj)), q9 ∈ news9 := by exact fun _ h => h) (hT9 : Top hd.view_1 (looseW hd.view_1 [Str.ofString "RowsError", Str.ofString "int_value", Str.ofString "named"]) mean mg mb h₀ := by k_asm) (hk9 : cs.kind = .function := by first | exact rfl | assumption) (hd9 : dp + 4 < recursionLimit := by k_room) (hu9 : un + 8 * 4 < cLine := by k_units) (h1 : (a, tupO [.str (Str.ofString "expr") t1, .str x t2, .ref p] n) ∈ news := by k_mem) (h2 : (p, tupO us n2) ∈ news := by k_mem) (hP : Parts ld us vs d c := by assumption) (hm : ∀ p ∈ ld, p ∈ news := by kpc_g) (hC : c + 1 ≤ 4000 := by omega) (hD : 100 < d + 1 := by omega) :
    wpAny (model PySem.Challenge.rw_sf0040_01.row.prog w) (ktrTop dp un gd cn cs LF aF ccd cl outer) (call (.ref f9) vs9) Q E sF := by
  subst hf9 hv9
  refine Ctr.use (large_yes ((hP.mono hm).tree h1 h2) hC hD) hB9 hF9 hX9 hN9 hs9 hT9 hk9 hd9 hu9 ?_
  rintro v9 h9 kk9 n9 hF8 hN8 ⟨rfl, rfl⟩
  exact ret h9 kk9  hF8 hN8
end
local macro_rules | `(tactic| walk_at "call ref") => `(tactic| (k_dflt (refine' made_go ?_); kpc_piece))
section
set_option maxRecDepth 100000
set_option maxHeartbeats 4000000
local macro_rules | `(tactic| walk_at "call ref") => `(tactic| (k_dflt (refine' large_no_go ?_); kpc_piece))
theorem make_close {h₀ h : Heap} {L W t p : Addr} {oW ot op : Obj} {ex news NI : List (Addr × Obj)} (N : News h₀ L h ((W, oW) :: (t, ot) :: (p, op) :: (ex ++ NI))) (hs : ∀ q ∈ news, q ∈ NI) (aW : AllLt W NI) (at' : AllLt t NI) (ap : AllLt p NI) (hf : ∀ q ∈ ex, AllLt q.1 NI) :
    News h₀ L h ((W, oW) :: (t, ot) :: (p, op) :: (ex ++ news)) ∧ AllLt W news ∧ AllLt t news ∧ AllLt p news ∧ ∀ q ∈ ex, AllLt q.1 news := by
  refine ⟨cb_drop N fun q hq => ?_, allLt_sub aW hs, allLt_sub at' hs, allLt_sub ap hs, fun q hq => allLt_sub (hf q hq) hs⟩
  simp only [List.mem_cons, List.mem_append] at hq ⊢
  rcases hq with h | h | h | h | h
  · simp [h]
  · simp [h]
  · simp [h]
  · simp [h]
  · simp [hs q h]
theorem make_ok {w : World} {ld news : List (Addr × Obj)} {vs : List Value} {d c : Nat} {x : Str} {tx ts : Tok} {al s0 : Addr} {n ns : Nat} (hb : ∀ p ∈ ld, p ∈ news) (hv : Vals ld vs d c) (h100 : d + 1 ≤ 100) (hc : c + 1 ≤ 4000) :
    Ctr w 177 20 ((al, listOf (.ref s0 :: vs).toArray n) :: (s0, tupO [.str (Str.ofString "sym") ts, .str x tx] ns) :: news) [.none, .ref al] (Made vs d c x tx ld news) := by
  unfold Ctr
  k_fill
  intro mean mg mb dp un gd cn cs ac ccd cl outer A₀ base h₀ L m s Q E B F X N T hk hd hu hret
  w_on
  refine wpAny_call ?_
  replace hb : ∀ p ∈ ld, p ∈ (al, listOf (.ref s0 :: vs).toArray n) :: (s0, tupO [.str (Str.ofString "sym") ts, .str x tx] ns) :: news := fun p hp => .tail _ (.tail _ (hb p hp))
  have hv2 := hv
  cases hv with
  | one h1 =>
    k_dflt ktr_enter
    k_steps
    (rename Fr _ _ _ _ => kF9); (rename News _ _ _ _ => kN9)
    obtain ⟨n1, a1, a2, a3, a4⟩ := make_close (news := news) kN9 (fun q hq => .tail _ (.tail _ (.tail _ hq))) (by assumption) (by assumption) (by assumption) (by assumption)
    exact hret _ _ _ _ kF9 n1 ⟨_, _, _, _, _, _, _, rfl, rfl, a1, a2, a3, a4, by assumption⟩
  | two h1 h2 =>
    k_dflt ktr_enter
    k_steps
    (rename Fr _ _ _ _ => kF9); (rename News _ _ _ _ => kN9)
    obtain ⟨n1, a1, a2, a3, a4⟩ := make_close (news := news) kN9 (fun q hq => .tail _ (.tail _ (.tail _ hq))) (by assumption) (by assumption) (by assumption) (by assumption)
    exact hret _ _ _ _ kF9 n1 ⟨_, _, _, _, _, _, _, rfl, rfl, a1, a2, a3, a4, by assumption⟩
  | three h1 h2 h3 =>
    k_dflt ktr_enter
    k_steps
    (rename Fr _ _ _ _ => kF9); (rename News _ _ _ _ => kN9)
    obtain ⟨n1, a1, a2, a3, a4⟩ := make_close (news := news) kN9 (fun q hq => .tail _ (.tail _ (.tail _ hq))) (by assumption) (by assumption) (by assumption) (by assumption)
    exact hret _ _ _ _ kF9 n1 ⟨_, _, _, _, _, _, _, rfl, rfl, a1, a2, a3, a4, by assumption⟩
theorem did_make {w : World} {ld news : List (Addr × Obj)} {vs : List Value} {d c : Nat} {x : Str} {tx ts t : Tok} {al s0 : Addr} {n ns : Nat} (hb : ∀ p ∈ ld, p ∈ news) (hv : Vals ld vs d c) (h100 : d + 1 ≤ 100) (hc : c + 1 ≤ 4000) :
    Ctr w 247 32 ((al, listOf (.ref s0 :: vs).toArray n) :: (s0, tupO [.str (Str.ofString "sym") ts, .str x tx] ns) :: news) [.str (Str.ofString "make_expr") t, .ref al] (Made vs d c x tx ld news) := did_make_expr (by decide) (make_ok hb hv h100 hc)
end

section
set_option maxRecDepth 100000
set_option maxHeartbeats 4000000
section
open PySem.Calls
variable {prog : Program} {w : World} {A : Around} {E : Value → Shared → Prop} {s : Shared}
theorem enc_method {t : Tok} {pl : Sem Bool} {x : PySem.Str} {Q : Value × List Value → Shared → Prop} {M : Model} (h : Q (.builtin "str.encode", [.str x t]) s) : wpAny M A (getMethod (.str x t) (Str.ofString "encode") pl) Q E s := by
  with_reducible exact GM.of (.str x t) (typeIs_str _ _ _) PySem.F.slot_str_encode PySem.F.type_str_encode GM.noRef h
theorem enc_call {t u : Tok} {Q : Value → Shared → Prop} (h : ∀ t', Q (.bytes tooBytes t') { s with toks := s.toks + 1 }) : wpAny (model prog w) A (call (.builtin "str.encode") [.str (Str.ofString "too large a tree") t, .str (Str.ofString "utf-8") u]) Q E s :=
  call_meets PySem.F.slot_str_encode (typeIs_str s _ t) PySem.F.entry_str_encode (PySem.F.args_str_encode_2 _ _) (encode_meets t u) h
end
local macro_rules | `(tactic| walk_at "getMethod str") => `(tactic| (k_here; k_dflt (refine enc_method ?_)))
local macro_rules | `(tactic| walk_at "call builtin:str.encode") => `(tactic| (k_here; k_dflt (refine enc_call ?_); intro t'))
theorem thrown_fin3 {h₀ h : Heap} {L : Addr} {q1 q2 q3 q4 x1 x2 x3 : Addr × Obj} {news : List (Addr × Obj)} (N : News h₀ L h (q1 :: q2 :: q3 :: q4 :: x1 :: x2 :: x3 :: news)) : News h₀ L h (q1 :: q2 :: q3 :: q4 :: news) := by
  intro p hp
  refine N p ?_
  simp only [List.mem_cons] at hp ⊢
  rcases hp with h | h | h | h | h <;> simp [h]
theorem thrown_text_ctr {w : World} {nm : Str} {tn tt : Tok} {news : List (Addr × Obj)} :
    Ctr w 111 8 news [.str nm tn, .str (Str.ofString "too large a tree") tt] (fun r news' => ∃ e dx t D K u p t1 t2 t3 t4 b1 b2, r = .ref e ∧ AllLt e news ∧ AllLt dx news ∧ (@LT.lt Nat _ K D ∧ @LT.lt Nat _ D e ∧ @LT.lt Nat _ e dx) ∧
      news' = (e, excO (some dx) t) :: (dx, thrD w (.ref D) t1 t2 t3 t4) :: (D, tupO [.str (Str.ofString "struct") b1, .ref K, .ref p]) :: (K, tupO [.str (Str.ofString "name") b2, .str nm tn, .ref u]) :: news) := by
  unfold Ctr
  k_fill
  intro mean mg mb dp un gd cn cs ac ccd cl outer A₀ base h₀ L m s Q E B F X N T hk hd hu hret
  w_on
  refine wpAny_call ?_
  k_dflt ktr_enter
  k_steps
  (rename Fr _ _ _ _ => kF9); (rename News _ _ _ _ => kN9)
  refine hret _ _ _ _ kF9 (thrown_fin3 kN9) ⟨_, _, _, _, _, _, _, _, _, _, _, _, _, rfl, ?_, ?_, ⟨?_, ?_, ?_⟩, rfl⟩
  all_goals (first | k_all | kpc_if)
theorem thrown_text_go {w : World} {nm : Str} {tn tt : Tok} {news : List (Addr × Obj)} {mean : ExcName → Option Value} {mg mb : Str → Option Value} {dp un : Nat} {gd : Option (List Code)} {cn : Str} {cs : Scope} {aF : Addr} {ccd : Value} {cl : List (Str × Addr)} {outer : List Env} {A₀ : Around} {base h₀ : Heap} {LF : Addr} {mF : Str → Option Value} {sF : Shared} {Q E : Value → Shared → Prop} {f9 : Addr} {vs9 : List Value} {news9 : List (Addr × Obj)}
    (ret : ∀ (h9 : Heap) (kk9 : Nat) (e dx : Addr) (t : Tok) (D K u p : Addr) (t1 t2 t3 t4 b1 b2 : Tok), Fr h₀ LF h9 mF → News h₀ LF h9 ((e, excO (some dx) t) :: (dx, thrD w (.ref D) t1 t2 t3 t4) :: (D, tupO [.str (Str.ofString "struct") b1, .ref K, .ref p]) :: (K, tupO [.str (Str.ofString "name") b2, .str nm tn, .ref u]) :: news) → AllLt e news → AllLt dx news → (@LT.lt Nat _ K D ∧ @LT.lt Nat _ D e ∧ @LT.lt Nat _ e dx) → Q (.ref e) { sF with heap := h9, toks := kk9 })
    (hf9 : f9 = 111 := by exact rfl) (hv9 : vs9 = [.str nm tn, .str (Str.ofString "too large a tree") tt] := by exact rfl) (hB9 : Below A₀ base outer h₀ := by k_asm) (hF9 : Fr h₀ LF sF.heap mF := by k_asm) (hX9 : (hd.heap_1 w.params).In h₀ := by k_asm) (hN9 : News h₀ LF sF.heap news9 := by k_asm) (hs9 : ∀ q9 ∈ (news : List (Addr × Obj)), q9 ∈ news9 := by exact fun _ h => h) (hT9 : Top hd.view_1 (looseW hd.view_1 [Str.ofString "RowsError", Str.ofString "int_value", Str.ofString "named"]) mean mg mb h₀ := by k_asm) (hk9 : cs.kind = .function := by first | exact rfl | assumption) (hd9 : dp + 8 < recursionLimit := by k_room) (hu9 : un + 8 * 8 < cLine := by k_units)  :
    wpAny (model PySem.Challenge.rw_sf0040_01.row.prog w) (ktrTop dp un gd cn cs LF aF ccd cl outer) (call (.ref f9) vs9) Q E sF := by
  subst hf9 hv9
  refine Ctr.use (thrown_text_ctr) hB9 hF9 hX9 hN9 hs9 hT9 hk9 hd9 hu9 ?_
  rintro v9 h9 kk9 n9 hF8 hN8 ⟨e, dx, t, D, K, u, p, t1, t2, t3, t4, b1, b2, rfl, l1, l2, l3, rfl⟩
  exact ret h9 kk9 _ _ _ _ _ _ _ _ _ _ _ _ _ hF8 hN8 l1 l2 l3
end

section
set_option maxRecDepth 100000
set_option maxHeartbeats 4000000
local macro_rules | `(tactic| walk_at "pad") => `(tactic| skip)
local macro_rules | `(tactic| walk_at "call ref") => `(tactic| (k_dflt (refine' large_yes_go ?_); kpc_piece))
local macro_rules | `(tactic| walk_at "call ref") => `(tactic| (k_dflt (refine' thrown_text_go ?_); (intros; (try simp only [AllLt, and_true] at *); (try dsimp only); (try k_fold); (try k_sweep))))
theorem did_too {w : World} {ld news : List (Addr × Obj)} {vs : List Value} {d c : Nat} {x : Str} {tx ts t : Tok} {al s0 : Addr} {n ns : Nat} (hb : ∀ p ∈ ld, p ∈ news) (hv : Vals ld vs d c) (h100 : 100 < d + 1) (hc : c + 1 ≤ 4000) :
    Ctr0 w 247 32 ((al, listOf (.ref s0 :: vs).toArray n) :: (s0, tupO [.str (Str.ofString "sym") ts, .str x tx] ns) :: news) [.str (Str.ofString "make_expr") t, .ref al] (fun v news' => (∃ t, v = .str (Str.ofString "ErrorException") t) ∧ news' = news) := by
  unfold Ctr0
  k_fill
  intro mean mg mb dp un gd cn cs ac ccd A₀ h₀ L m s Q E B F X N T hk hd hu hret
  w_on
  refine wpAny_call ?_
  replace hb : ∀ p ∈ ld, p ∈ (al, listOf (.ref s0 :: vs).toArray n) :: (s0, tupO [.str (Str.ofString "sym") ts, .str x tx] ns) :: news := fun p hp => .tail _ (.tail _ (hb p hp))
  have hv2 := hv
  cases hv with
  | one h1 =>
    k_dflt (refine' code_defS0 ?k1 ?k2 ?k3 ?k4 ?k5 ?kA ?k6 ?k7 ?k8 ?k9 ?kB ?_ ?kK ?c2 ?c3 ?c4 ?c5; (case kA => exact rfl); (case kK => assumption); (case k1 => k_asm); (case k2 => k_asm); (case k3 => k_asm); (case k4 => k_asm); (case k5 => k_asm); (case k6 => k_is); (case k7 => k_is); (case k8 => ktr_room); (case k9 => exact BindsTo.of_eq rfl); (case c5 => decide); (case kB => exact locs rfl); (case c2 => exact rfl); (case c3 => exact rfl); (case c4 => exact rfl); k_whole; intro g' L' h' FG' F' N' B' X' T' D'; (try dsimp only); (try k_fold))
    k_steps
    (rename Fr _ _ _ _ => kF9); (rename News _ _ _ _ => kN9)
    exact hret _ _ _ news kF9 (cb_drop kN9 (fun p hp => by simp only [List.mem_cons, List.mem_append, hp, or_true])) ⟨⟨_, rfl⟩, rfl⟩
  | two h1 h2 =>
    k_dflt (refine' code_defS0 ?k1 ?k2 ?k3 ?k4 ?k5 ?kA ?k6 ?k7 ?k8 ?k9 ?kB ?_ ?kK ?c2 ?c3 ?c4 ?c5; (case kA => exact rfl); (case kK => assumption); (case k1 => k_asm); (case k2 => k_asm); (case k3 => k_asm); (case k4 => k_asm); (case k5 => k_asm); (case k6 => k_is); (case k7 => k_is); (case k8 => ktr_room); (case k9 => exact BindsTo.of_eq rfl); (case c5 => decide); (case kB => exact locs rfl); (case c2 => exact rfl); (case c3 => exact rfl); (case c4 => exact rfl); k_whole; intro g' L' h' FG' F' N' B' X' T' D'; (try dsimp only); (try k_fold))
    k_steps
    (rename Fr _ _ _ _ => kF9); (rename News _ _ _ _ => kN9)
    exact hret _ _ _ news kF9 (cb_drop kN9 (fun p hp => by simp only [List.mem_cons, List.mem_append, hp, or_true])) ⟨⟨_, rfl⟩, rfl⟩
  | three h1 h2 h3 =>
    k_dflt (refine' code_defS0 ?k1 ?k2 ?k3 ?k4 ?k5 ?kA ?k6 ?k7 ?k8 ?k9 ?kB ?_ ?kK ?c2 ?c3 ?c4 ?c5; (case kA => exact rfl); (case kK => assumption); (case k1 => k_asm); (case k2 => k_asm); (case k3 => k_asm); (case k4 => k_asm); (case k5 => k_asm); (case k6 => k_is); (case k7 => k_is); (case k8 => ktr_room); (case k9 => exact BindsTo.of_eq rfl); (case c5 => decide); (case kB => exact locs rfl); (case c2 => exact rfl); (case c3 => exact rfl); (case c4 => exact rfl); k_whole; intro g' L' h' FG' F' N' B' X' T' D'; (try dsimp only); (try k_fold))
    k_steps
    (rename Fr _ _ _ _ => kF9); (rename News _ _ _ _ => kN9)
    exact hret _ _ _ news kF9 (cb_drop kN9 (fun p hp => by simp only [List.mem_cons, List.mem_append, hp, or_true])) ⟨⟨_, rfl⟩, rfl⟩
end

section
set_option maxRecDepth 100000
set_option maxHeartbeats 4000000
theorem did_sym {w : World} {a b : Addr} {t1 t2 t3 : Tok} {n n2 : Nat} {x : Str} {news : List (Addr × Obj)} :
    Ctr0 w 247 16 ((a, listOf #[.ref b] n) :: (b, tupO [.str (Str.ofString "sym") t1, .str x t2] n2) :: news) [.str (Str.ofString "expr_head") t3, .ref a]
      (fun v news' => (∃ t, v = .str (Str.ofString "TypeError") t) ∧ news' = news) := by
  unfold Ctr0
  k_fill
  intro mean mg mb dp un gd cn cs ac ccd A₀ h₀ L m s Q E B F X N T hk hd hu hret
  w_on
  refine wpAny_call ?_
  k_dflt (refine' code_defS0 ?k1 ?k2 ?k3 ?k4 ?k5 ?kA ?k6 ?k7 ?k8 ?k9 ?kB ?_ ?kK ?c2 ?c3 ?c4 ?c5; (case kA => exact rfl); (case kK => assumption); (case k1 => k_asm); (case k2 => k_asm); (case k3 => k_asm); (case k4 => k_asm); (case k5 => k_asm); (case k6 => k_is); (case k7 => k_is); (case k8 => ktr_room); (case k9 => exact BindsTo.of_eq rfl); (case c5 => decide); (case kB => exact locs rfl); (case c2 => exact rfl); (case c3 => exact rfl); (case c4 => exact rfl); k_whole; intro g' L' h' FG' F' N' B' X' T' D'; (try dsimp only); (try k_fold))
  k_steps
  (rename Fr _ _ _ _ => kF9); (rename News _ _ _ _ => kN9)
  exact hret _ _ _ news kF9 (cb_drop kN9 (fun p hp => by simp only [List.mem_cons, hp, or_true])) ⟨⟨_, rfl⟩, rfl⟩
end

section
set_option maxRecDepth 100000
set_option maxHeartbeats 4000000
local macro_rules | `(tactic| walk_at "pad") => `(tactic| skip)
theorem pv_ctr {w : World} {ld news : List (Addr × Obj)} {u v : Value} {d c : Nat} (hb : ∀ p ∈ ld, p ∈ news) (hp : Part ld u v d c) :
    Ctr w 137 6 news [u] (fun r news' => ∃ ex, news' = ex ++ news ∧ (∀ q ∈ ex, AllLt q.1 news) ∧ SameL (ex ++ ld) 2 [r] [v]) := by
  unfold Ctr
  k_fill
  intro mean mg mb dp un gd cn cs ac ccd cl outer A₀ base h₀ L m s Q E B F X N T hk hd hu hret
  w_on
  refine wpAny_call ?_
  cases hp with
  | @tree a t p x t1 t2 t3 n n2 d c ha ht hT =>
    refine news_put (more := [(a, tupO [.str (Str.ofString "tree") t1, .ref t] n), (t, tupO [.str (Str.ofString "expr") t2, .str x t3, .ref p] n2)]) N (List.forall_mem_cons.mpr ⟨hb _ ha, List.forall_mem_cons.mpr ⟨hb _ ht, fun _ h => nomatch h⟩⟩) ?_
    clear N; intro N; simp only [List.cons_append, List.nil_append] at N
    k_dflt ktr_enter
    k_steps
    (rename Fr _ _ _ _ => kF9); (rename News _ _ _ _ => kN9)
    refine hret _ _ _ _ kF9 (put1 kN9 (fun p hp => by simp only [List.mem_cons, hp, or_true])) ⟨_, rfl, ?_, .tup (.head _) (.tail _ ha) (.str (.self .nil)) .nil⟩
    intro q hq; rw [List.mem_singleton.mp hq]; dsimp only; k_all
  | @sym a x t1 t2 n ha =>
    refine news_put (more := [(a, tupO [.str (Str.ofString "sym") t1, .str x t2] n)]) N (List.forall_mem_cons.mpr ⟨hb _ ha, fun _ h => nomatch h⟩) ?_
    clear N; intro N; simp only [List.cons_append, List.nil_append] at N
    k_dflt ktr_enter
    k_steps
    (rename Fr _ _ _ _ => kF9); (rename News _ _ _ _ => kN9)
    exact hret _ _ _ news kF9 (cb_drop kN9 (fun p hp => by simp only [List.mem_cons, hp, or_true])) ⟨[], rfl, (fun _ h => nomatch h), .self .nil⟩
  | @int a b t1 t2 t3 t4 t5 n n2 ha hb2 =>
    refine news_put (more := [(b, tupO [.str (Str.ofString "int") t4, .int 5 t5] n2)]) N (List.forall_mem_cons.mpr ⟨hb _ hb2, fun _ h => nomatch h⟩) ?_
    clear N; intro N; simp only [List.cons_append, List.nil_append] at N
    k_dflt ktr_enter
    k_steps
    (rename Fr _ _ _ _ => kF9); (rename News _ _ _ _ => kN9)
    refine hret _ _ _ _ kF9 (put1 kN9 (fun p hp => by simp only [List.mem_cons, hp, or_true])) ⟨_, rfl, ?_, .tup (.head _) (.tail _ ha) (.str (.str (.int .nil))) .nil⟩
    intro q hq; rw [List.mem_singleton.mp hq]; dsimp only; k_all
theorem pv_go {w : World} {ld news : List (Addr × Obj)} {u v : Value} {d c : Nat} {mean : ExcName → Option Value} {mg mb : Str → Option Value} {dp un : Nat} {gd : Option (List Code)} {cn : Str} {cs : Scope} {aF : Addr} {ccd : Value} {cl : List (Str × Addr)} {outer : List Env} {A₀ : Around} {base h₀ : Heap} {LF : Addr} {mF : Str → Option Value} {sF : Shared} {Q E : Value → Shared → Prop} {f9 : Addr} {vs9 : List Value} {news9 : List (Addr × Obj)}
    (ret : ∀ (h9 : Heap) (kk9 : Nat) (r9 : Value) (ex : List (Addr × Obj)), Fr h₀ LF h9 mF → News h₀ LF h9 (ex ++ news) → (∀ q ∈ ex, AllLt q.1 news) → SameL (ex ++ ld) 2 [r9] [v] → Q (r9) { sF with heap := h9, toks := kk9 })
    (hf9 : f9 = 137 := by exact rfl) (hv9 : vs9 = [u] := by exact rfl) (hB9 : Below A₀ base outer h₀ := by k_asm) (hF9 : Fr h₀ LF sF.heap mF := by k_asm) (hX9 : (hd.heap_1 w.params).In h₀ := by k_asm) (hN9 : News h₀ LF sF.heap news9 := by k_asm) (hs9 : ∀ q9 ∈ (news : List (Addr × Obj)), q9 ∈ news9 := by exact fun _ h => h) (hT9 : Top hd.view_1 (looseW hd.view_1 [Str.ofString "RowsError", Str.ofString "int_value", Str.ofString "named"]) mean mg mb h₀ := by k_asm) (hk9 : cs.kind = .function := by first | exact rfl | assumption) (hd9 : dp + 6 < recursionLimit := by k_room) (hu9 : un + 8 * 6 < cLine := by k_units) (hv : Part ld u v d c := by assumption) (hb : ∀ p ∈ ld, p ∈ news := by kpc_g) :
    wpAny (model PySem.Challenge.rw_sf0040_01.row.prog w) (ktrTop dp un gd cn cs LF aF ccd cl outer) (call (.ref f9) vs9) Q E sF := by
  subst hf9 hv9
  refine Ctr.use (pv_ctr hb hv) hB9 hF9 hX9 hN9 hs9 hT9 hk9 hd9 hu9 ?_
  rintro v9 h9 kk9 n9 hF8 hN8 ⟨ex, rfl, hf, hs⟩
  exact ret h9 kk9 _ _ hF8 hN8 hf hs
end

section
set_option maxRecDepth 100000
set_option maxHeartbeats 4000000
theorem head_deed {w : World} {ld news : List (Addr × Obj)} {W t p al : Addr} {x : Str} {tx t1 t2 : Tok} {us : List Value} {n n1 n2 n3 : Nat} (hb : ∀ p ∈ ld, p ∈ news) (hW : (W, tupO [.str (Str.ofString "tree") t1, .ref t] n1) ∈ ld) (ht : (t, tupO [.str (Str.ofString "expr") t2, .str x tx, .ref p] n2) ∈ ld) (hp : (p, tupO us n3) ∈ ld) :
    Ctr w 184 8 ((al, listOf #[.ref W] n) :: news) [.none, .ref al] (fun r news' => ∃ R tR, r = .ref R ∧ news' = (R, tupO [.str (Str.ofString "sym") tR, .str x tx] 0) :: news) := by
  unfold Ctr
  k_fill
  intro mean mg mb dp un gd cn cs ac ccd cl outer A₀ base h₀ L m s Q E B F X N T hk hd hu hret
  w_on
  refine wpAny_call ?_
  replace N : News h₀ L s.heap ((W, tupO [.str (Str.ofString "tree") t1, .ref t] n1) :: (t, tupO [.str (Str.ofString "expr") t2, .str x tx, .ref p] n2) :: (p, tupO us n3) :: (al, listOf #[.ref W] n) :: news) := fun q hq => by
    simp only [List.mem_cons] at hq
    rcases hq with h | h | h | h | h
    · exact N q (h ▸ .tail _ (hb _ hW))
    · exact N q (h ▸ .tail _ (hb _ ht))
    · exact N q (h ▸ .tail _ (hb _ hp))
    · exact N q (h ▸ .head _)
    · exact N q (.tail _ h)
  k_dflt ktr_enter
  k_steps
  (rename Fr _ _ _ _ => kF9); (rename News _ _ _ _ => kN9)
  refine hret _ _ _ _ kF9 (put1 kN9 (fun p hp => by simp only [List.mem_cons, hp, or_true])) ⟨_, _, rfl, rfl⟩
theorem len_us {prog : Program} {w : World} {A : Around} {E : Value → Shared → Prop} {s : Shared} {h₀ : Heap} {L p : Addr} {news : List (Addr × Obj)} {us : List Value} {n : Nat} {Q : Value → Shared → Prop} (N : News h₀ L s.heap news := by k_asm) (hm : (p, tupO us n) ∈ news := by k_mem) (hu : us.length = 1 ∨ us.length = 2 ∨ us.length = 3 := by assumption)
    (h : Q (.int (us.length : Int) (s.toks + 1)) { s with toks := s.toks + 1 + 1 }) : wpAny (model prog w) A (call (.builtin "len") [.ref p]) Q E s :=
  kun_lenT (News.isTup N hm) (by simp) (by omega) h
local macro_rules | `(tactic| walk_at "call builtin:len") => `(tactic| k_dflt (refine' len_us (h := ?_)))
theorem count_deed {w : World} {ld news : List (Addr × Obj)} {W t p al : Addr} {x : Str} {tx t1 t2 : Tok} {us : List Value} {n n1 n2 n3 : Nat} (hb : ∀ p ∈ ld, p ∈ news) (hW : (W, tupO [.str (Str.ofString "tree") t1, .ref t] n1) ∈ ld) (ht : (t, tupO [.str (Str.ofString "expr") t2, .str x tx, .ref p] n2) ∈ ld) (hp : (p, tupO us n3) ∈ ld) (hu : us.length = 1 ∨ us.length = 2 ∨ us.length = 3) :
    Ctr w 212 8 ((al, listOf #[.ref W] n) :: news) [.none, .ref al] (fun r news' => ∃ R tR tS tk, r = .ref R ∧ news' = (R, tupO [.str (Str.ofString "int") tR, .str (Str.ofString "Int64") tS, .int (us.length : Int) tk] 0) :: news) := by
  unfold Ctr
  k_fill
  intro mean mg mb dp un gd cn cs ac ccd cl outer A₀ base h₀ L m s Q E B F X N T hk hd hun hret
  w_on
  refine wpAny_call ?_
  replace N : News h₀ L s.heap ((W, tupO [.str (Str.ofString "tree") t1, .ref t] n1) :: (t, tupO [.str (Str.ofString "expr") t2, .str x tx, .ref p] n2) :: (p, tupO us n3) :: (al, listOf #[.ref W] n) :: news) := fun q hq => by
    simp only [List.mem_cons] at hq
    rcases hq with h | h | h | h | h
    · exact N q (h ▸ .tail _ (hb _ hW))
    · exact N q (h ▸ .tail _ (hb _ ht))
    · exact N q (h ▸ .tail _ (hb _ hp))
    · exact N q (h ▸ .head _)
    · exact N q (.tail _ h)
  k_dflt ktr_enter
  k_steps
  (rename Fr _ _ _ _ => kF9); (rename News _ _ _ _ => kN9)
  exact hret _ _ _ _ kF9 (put1 kN9 (fun p hp => by simp only [List.mem_cons, hp, or_true])) ⟨_, _, _, _, rfl, rfl⟩
end

local macro_rules | `(tactic| walk_at "call ref") => `(tactic| (k_dflt (refine' pv_go ?_); kpc_piece))
section
set_option maxRecDepth 100000
set_option maxHeartbeats 4000000
local macro_rules | `(tactic| walk_at "eval ListComp") => `(tactic| (k_here; lcg_look; k_dflt (refine comp_tuple (F₀ := by k_asm) (by rfl) (by decide) (by rfl) (by decide) (by rfl) ?_)))
local macro_rules | `(tactic| walk_at "CompTu") => `(tactic| (k_here; k_dflt (refine CompTu.ledger (by rfl) (by k_asm) (by k_asm) (by k_mem) (by exact Nat.le_of_ble_eq_true rfl) ?_; intro g'; lcg_lit)))
local macro_rules | `(tactic| walk_at "CompRest") => `(tactic| (with_unfolding_all first
  | (refine LCg.CompRest.succ ?_; intro v' I' oI' C' oC' D' m' h' tk' E' hv' hC' hx' F' N' off' ne'; lcg_open hv')
  | refine LCg.CompRest.zero ?_))
local macro_rules | `(tactic| walk_at "CompEnd") => `(tactic| (k_dflt (refine ceX (by k_asm) (by k_asm) (by assumption) (by assumption) (Or.inr ⟨_, by k_mem, rfl, _, rfl⟩) ?_)))
local macro_rules | `(tactic| walk_at "eval ListComp") => `(tactic| ((rename CompMark => hM9); refine comp_here ?_))
theorem parts_close1 {h₀ h : Heap} {L : Addr} {q1 q2 q3 m1 m2 m3 m4 : Addr × Obj} {e1 news : List (Addr × Obj)} (N : News h₀ L h (q1 :: q2 :: q3 :: (e1 ++ m1 :: m2 :: m3 :: m4 :: news))) : News h₀ L h (q1 :: q2 :: (e1 ++ news)) :=
  cb_drop N fun p hp => by
    simp only [List.mem_cons, List.mem_append] at hp ⊢
    rcases hp with h | h | h | h <;> simp [h]
theorem parts_close2 {h₀ h : Heap} {L : Addr} {q1 q2 q3 m1 m2 m3 m4 : Addr × Obj} {e1 e2 news : List (Addr × Obj)} (N : News h₀ L h (q1 :: q2 :: q3 :: (e2 ++ (e1 ++ m1 :: m2 :: m3 :: m4 :: news)))) : News h₀ L h (q1 :: q2 :: ((e2 ++ e1) ++ news)) :=
  cb_drop N fun p hp => by
    simp only [List.mem_cons, List.mem_append] at hp ⊢
    rcases hp with h | h | (h | h) | h <;> simp [h]
theorem parts_close3 {h₀ h : Heap} {L : Addr} {q1 q2 q3 m1 m2 m3 m4 : Addr × Obj} {e1 e2 e3 news : List (Addr × Obj)} (N : News h₀ L h (q1 :: q2 :: q3 :: (e3 ++ (e2 ++ (e1 ++ m1 :: m2 :: m3 :: m4 :: news))))) : News h₀ L h (q1 :: q2 :: ((e3 ++ (e2 ++ e1)) ++ news)) :=
  cb_drop N fun p hp => by
    simp only [List.mem_cons, List.mem_append] at hp ⊢
    rcases hp with h | h | (h | h | h) | h <;> simp [h]
theorem SameL.app {news : List (Addr × Obj)} {k : Nat} {xs ys xs' ys' : List Value} (S : SameL news k xs ys) (S' : SameL news k xs' ys') : SameL news k (xs ++ xs') (ys ++ ys') := by
  induction S with
  | nil => exact S'
  | self _ i => exact .self (i S')
  | int _ i => exact .int (i S')
  | str _ i => exact .str (i S')
  | tup h h' s _ _ j => exact .tup h h' s (j S')
theorem sub1 {e1 ld : List (Addr × Obj)} {k : Nat} {a b : Value} (S : SameL (e1 ++ ld) k [a] [b]) : SameL (e1 ++ ld) k [a] [b] := S
theorem sub2 {e1 e2 ld : List (Addr × Obj)} {k : Nat} {a b a' b' : Value} (S : SameL (e1 ++ ld) k [a] [b]) (S' : SameL (e2 ++ ld) k [a'] [b']) : SameL ((e2 ++ e1) ++ ld) k [a, a'] [b, b'] :=
  (S.mono fun p hp => by simp only [List.mem_append] at hp ⊢; rcases hp with h | h <;> simp [h]).app (S'.mono fun p hp => by simp only [List.mem_append] at hp ⊢; rcases hp with h | h <;> simp [h])
theorem sub3 {e1 e2 e3 ld : List (Addr × Obj)} {k : Nat} {a b a' b' a'' b'' : Value} (S : SameL (e1 ++ ld) k [a] [b]) (S' : SameL (e2 ++ ld) k [a'] [b']) (S'' : SameL (e3 ++ ld) k [a''] [b'']) : SameL ((e3 ++ (e2 ++ e1)) ++ ld) k [a, a', a''] [b, b', b''] :=
  (S.mono fun p hp => by simp only [List.mem_append] at hp ⊢; rcases hp with h | h <;> simp [h]).app ((S'.mono fun p hp => by simp only [List.mem_append] at hp ⊢; rcases hp with h | h <;> simp [h]).app (S''.mono fun p hp => by simp only [List.mem_append] at hp ⊢; rcases hp with h | h <;> simp [h]))
theorem parts_deed {w : World} {ld news : List (Addr × Obj)} {W t p al : Addr} {x : Str} {tx t1 t2 : Tok} {us vs : List Value} {d c n n1 n2 n3 : Nat} (hb : ∀ p ∈ ld, p ∈ news) (hW : (W, tupO [.str (Str.ofString "tree") t1, .ref t] n1) ∈ ld) (ht : (t, tupO [.str (Str.ofString "expr") t2, .str x tx, .ref p] n2) ∈ ld) (hp : (p, tupO us n3) ∈ ld) (hP : Parts ld us vs d c) :
    Ctr w 191 12 ((al, listOf #[.ref W] n) :: news) [.none, .ref al] (fun r news' => ∃ R P rs ex tR, r = .ref R ∧ news' = (R, tupO [.str (Str.ofString "tuple") tR, .ref P] 0) :: (P, tupO rs 0) :: (ex ++ news) ∧ SameL (ex ++ ld) 2 rs vs) := by
  unfold Ctr
  k_fill
  intro mean mg mb dp un gd cn cs ac ccd cl outer A₀ base h₀ L m s Q E B F X N T hk hd hu hret
  w_on
  refine wpAny_call ?_
  replace N : News h₀ L s.heap ((W, tupO [.str (Str.ofString "tree") t1, .ref t] n1) :: (t, tupO [.str (Str.ofString "expr") t2, .str x tx, .ref p] n2) :: (p, tupO us n3) :: (al, listOf #[.ref W] n) :: news) := fun q hq => by
    simp only [List.mem_cons] at hq
    rcases hq with h | h | h | h | h
    · exact N q (h ▸ .tail _ (hb _ hW))
    · exact N q (h ▸ .tail _ (hb _ ht))
    · exact N q (h ▸ .tail _ (hb _ hp))
    · exact N q (h ▸ .head _)
    · exact N q (.tail _ h)
  have hMk : CompMark := trivial
  k_dflt ktr_enter
  k_steps
  unfold CompHere
  (rename CompMark => hMk); clear hMk
  cases hP with
  | one h1 =>
    k_steps
    (rename Fr _ _ _ _ => kF9); (rename News _ _ _ _ => kN9)
    exact hret _ _ _ _ kF9 (parts_close1 kN9) ⟨_, _, _, _, _, rfl, rfl, sub1 (by assumption)⟩
  | two h1 h2 =>
    k_steps
    (rename Fr _ _ _ _ => kF9); (rename News _ _ _ _ => kN9)
    exact hret _ _ _ _ kF9 (parts_close2 kN9) ⟨_, _, _, _, _, rfl, rfl, sub2 (by assumption) (by assumption)⟩
  | three h1 h2 h3 =>
    k_steps
    (rename Fr _ _ _ _ => kF9); (rename News _ _ _ _ => kN9)
    exact hret _ _ _ _ kF9 (parts_close3 kN9) ⟨_, _, _, _, _, rfl, rfl, sub3 (by assumption) (by assumption) (by assumption)⟩
end

section
set_option maxRecDepth 100000
set_option maxHeartbeats 4000000
inductive At (news : List (Addr × Obj)) : List Value → List Value → Int → Value → Value → Prop
  | a1 {u v : Value} {d c : Nat} : Part news u v d c → At news [u] [v] 1 u v
  | b1 {u v u2 v2 : Value} {d c : Nat} : Part news u v d c → At news [u, u2] [v, v2] 1 u v
  | b2 {u v u2 v2 : Value} {d c : Nat} : Part news u2 v2 d c → At news [u, u2] [v, v2] 2 u2 v2
  | c1 {u v u2 v2 u3 v3 : Value} {d c : Nat} : Part news u v d c → At news [u, u2, u3] [v, v2, v3] 1 u v
  | c2 {u v u2 v2 u3 v3 : Value} {d c : Nat} : Part news u2 v2 d c → At news [u, u2, u3] [v, v2, v3] 2 u2 v2
  | c3 {u v u2 v2 u3 v3 : Value} {d c : Nat} : Part news u3 v3 d c → At news [u, u2, u3] [v, v2, v3] 3 u3 v3
theorem part_close {h₀ h : Heap} {L : Addr} {q1 q2 q3 : Addr × Obj} {ex news : List (Addr × Obj)} (N : News h₀ L h (ex ++ q1 :: q2 :: q3 :: news)) (hf : ∀ q ∈ ex, AllLt q.1 (q1 :: q2 :: q3 :: news)) : News h₀ L h (ex ++ news) ∧ ∀ q ∈ ex, AllLt q.1 news :=
  ⟨cb_drop N fun p hp => by
    simp only [List.mem_cons, List.mem_append] at hp ⊢
    rcases hp with h | h <;> simp [h], fun q hq => allLt_sub (hf q hq) fun p hp => .tail _ (.tail _ (.tail _ hp))⟩
theorem part_deed {w : World} {ld news : List (Addr × Obj)} {W t p al : Addr} {x : Str} {tx t1 t2 : Tok} {us vs : List Value} {n n1 n2 n3 : Nat} (hb : ∀ p ∈ ld, p ∈ news) (hW : (W, tupO [.str (Str.ofString "tree") t1, .ref t] n1) ∈ ld) (ht : (t, tupO [.str (Str.ofString "expr") t2, .str x tx, .ref p] n2) ∈ ld) (hp : (p, tupO us n3) ∈ ld) {I : Addr} {ti tj tl : Tok} {nI : Nat} {i : Int} {u v : Value} (hA : At ld us vs i u v) :
    Ctr w 198 12 ((al, listOf #[.ref W, .ref I] n) :: (I, tupO [.str (Str.ofString "int") ti, .str (Str.ofString "Int64") tj, .int i tl] nI) :: news) [.none, .ref al]
      (fun r news' => ∃ ex, news' = ex ++ ((al, listOf #[.ref W, .ref I] n) :: (I, tupO [.str (Str.ofString "int") ti, .str (Str.ofString "Int64") tj, .int i tl] nI) :: news) ∧ (∀ q ∈ ex, AllLt q.1 ((al, listOf #[.ref W, .ref I] n) :: (I, tupO [.str (Str.ofString "int") ti, .str (Str.ofString "Int64") tj, .int i tl] nI) :: news)) ∧ SameL (ex ++ ld) 2 [r] [v]) := by
  unfold Ctr
  k_fill
  intro mean mg mb dp un gd cn cs ac ccd cl outer A₀ base h₀ L m s Q E B F X N T hk hd hu hret
  w_on
  refine wpAny_call ?_
  replace N : News h₀ L s.heap ((W, tupO [.str (Str.ofString "tree") t1, .ref t] n1) :: (t, tupO [.str (Str.ofString "expr") t2, .str x tx, .ref p] n2) :: (p, tupO us n3) :: (al, listOf #[.ref W, .ref I] n) :: (I, tupO [.str (Str.ofString "int") ti, .str (Str.ofString "Int64") tj, .int i tl] nI) :: news) := fun q hq => by
    simp only [List.mem_cons] at hq
    rcases hq with h | h | h | h | h | h
    · exact N q (h ▸ .tail _ (.tail _ (hb _ hW)))
    · exact N q (h ▸ .tail _ (.tail _ (hb _ ht)))
    · exact N q (h ▸ .tail _ (.tail _ (hb _ hp)))
    · exact N q (h ▸ .head _)
    · exact N q (h ▸ .tail _ (.head _))
    · exact N q (.tail _ (.tail _ h))
  cases hA with
  | a1 h1 =>
    k_dflt ktr_enter
    k_steps
    (rename Fr _ _ _ _ => kF9); (rename News _ _ _ _ => kN9)
    obtain ⟨n1, a1⟩ := part_close kN9 (by assumption)
    exact hret _ _ _ _ kF9 n1 ⟨_, rfl, a1, by assumption⟩

  | b1 h1 =>
    k_dflt ktr_enter
    k_steps
    (rename Fr _ _ _ _ => kF9); (rename News _ _ _ _ => kN9)
    obtain ⟨n1, a1⟩ := part_close kN9 (by assumption)
    exact hret _ _ _ _ kF9 n1 ⟨_, rfl, a1, by assumption⟩

  | b2 h1 =>
    k_dflt ktr_enter
    k_steps
    (rename Fr _ _ _ _ => kF9); (rename News _ _ _ _ => kN9)
    obtain ⟨n1, a1⟩ := part_close kN9 (by assumption)
    exact hret _ _ _ _ kF9 n1 ⟨_, rfl, a1, by assumption⟩

  | c1 h1 =>
    k_dflt ktr_enter
    k_steps
    (rename Fr _ _ _ _ => kF9); (rename News _ _ _ _ => kN9)
    obtain ⟨n1, a1⟩ := part_close kN9 (by assumption)
    exact hret _ _ _ _ kF9 n1 ⟨_, rfl, a1, by assumption⟩

  | c2 h1 =>
    k_dflt ktr_enter
    k_steps
    (rename Fr _ _ _ _ => kF9); (rename News _ _ _ _ => kN9)
    obtain ⟨n1, a1⟩ := part_close kN9 (by assumption)
    exact hret _ _ _ _ kF9 n1 ⟨_, rfl, a1, by assumption⟩

  | c3 h1 =>
    k_dflt ktr_enter
    k_steps
    (rename Fr _ _ _ _ => kF9); (rename News _ _ _ _ => kN9)
    obtain ⟨n1, a1⟩ := part_close kN9 (by assumption)
    exact hret _ _ _ _ kF9 n1 ⟨_, rfl, a1, by assumption⟩
end

section
set_option maxRecDepth 100000
set_option maxHeartbeats 4000000
theorem at_a1 {news : List (Addr × Obj)} {u v : Value} {d c dd cc : Nat} {i : Int} (hi : i = 1) (_hp : Parts news [u] [v] dd cc) (h : Part news u v d c) : At news [u] [v] i u v := hi ▸ .a1 h
theorem at_b1 {news : List (Addr × Obj)} {u v u2 v2 : Value} {d c dd cc : Nat} {i : Int} (hi : i = 1) (_hp : Parts news [u, u2] [v, v2] dd cc) (h : Part news u v d c) : At news [u, u2] [v, v2] i u v := hi ▸ .b1 h
theorem at_b2 {news : List (Addr × Obj)} {u v u2 v2 : Value} {d c dd cc : Nat} {i : Int} (hi : i = 2) (_hp : Parts news [u, u2] [v, v2] dd cc) (h : Part news u2 v2 d c) : At news [u, u2] [v, v2] i u2 v2 := hi ▸ .b2 h
theorem at_c1 {news : List (Addr × Obj)} {u v u2 v2 u3 v3 : Value} {d c dd cc : Nat} {i : Int} (hi : i = 1) (_hp : Parts news [u, u2, u3] [v, v2, v3] dd cc) (h : Part news u v d c) : At news [u, u2, u3] [v, v2, v3] i u v := hi ▸ .c1 h
theorem at_c2 {news : List (Addr × Obj)} {u v u2 v2 u3 v3 : Value} {d c dd cc : Nat} {i : Int} (hi : i = 2) (_hp : Parts news [u, u2, u3] [v, v2, v3] dd cc) (h : Part news u2 v2 d c) : At news [u, u2, u3] [v, v2, v3] i u2 v2 := hi ▸ .c2 h
theorem at_c3 {news : List (Addr × Obj)} {u v u2 v2 u3 v3 : Value} {d c dd cc : Nat} {i : Int} (hi : i = 3) (_hp : Parts news [u, u2, u3] [v, v2, v3] dd cc) (h : Part news u3 v3 d c) : At news [u, u2, u3] [v, v2, v3] i u3 v3 := hi ▸ .c3 h
theorem eq_lst2 {prog : Program} {w : World} {A : Around} {E : Value → Shared → Prop} {s : Shared} {h₀ : Heap} {L : Addr} {news : List (Addr × Obj)} {a b : Addr} {vs us : List Value} {n m k : Nat} {Q : Value → Shared → Prop} (N : News h₀ L s.heap news := by k_asm) (ha : (a, listOf vs.toArray n) ∈ news := by k_mem) (hb : (b, listOf us.toArray m) ∈ news := by k_mem) (S : SameL news k vs us := by keq_rows) (hu : A.units + (k + 1) < cLine := by k_units) (h : Q (.bool true) s) : wpAny (model prog w) A (compareOp .Eq (.ref a) (.ref b)) Q E s :=
  eq_lst (o := listOf #[] 0) (o' := listOf #[] 0) N ha hb S hu h
theorem SameL.cons1 {news : List (Addr × Obj)} {k : Nat} {a b : Value} {r r' : List Value} (S : SameL news k [a] [b]) (S' : SameL news k r r') : SameL news k (a :: r) (b :: r') := S.app S'
local macro_rules | `(tactic| keq_rows) => `(tactic| first | exact SameL.nil | (refine SameL.self ?_; keq_rows) | (refine SameL.int ?_; keq_rows) | (refine SameL.str ?_; keq_rows) | (refine' SameL.mono ?hs ?hm; (case hs => assumption); (case hm => kpc_g)) | (refine' SameL.cons1 (SameL.mono ?hs ?hm) ?hr; (case hs => assumption); (case hm => kpc_g); (case hr => keq_rows)) | (refine' SameL.tup ?ha ?hb ?hc ?hd; (case ha => k_mem); (case hb => k_mem); (case hc => keq_rows); (case hd => keq_rows)))
local macro_rules | `(tactic| walk_at "compareOp Eq ref ref") => `(tactic| k_dflt (refine' eq_lst2 (k := 2) (h := ?_)))
local macro_rules | `(tactic| walk_at "compareOp NotEq ref ref") => `(tactic| k_dflt (refine' ne_tup (k := 3) (h := ?_)))
theorem Parts.lens {news : List (Addr × Obj)} {us vs : List Value} {d c : Nat} (h : Parts news us vs d c) : us.length = 1 ∨ us.length = 2 ∨ us.length = 3 := by cases h <;> simp
theorem Parts.same {news : List (Addr × Obj)} {us vs : List Value} {d c : Nat} (h : Parts news us vs d c) : us.length = vs.length := by cases h <;> rfl
theorem len_vs {prog : Program} {w : World} {A : Around} {E : Value → Shared → Prop} {s : Shared} {h₀ : Heap} {L l : Addr} {ld news : List (Addr × Obj)} {us vs : List Value} {d c n : Nat} {Q : Value → Shared → Prop} (N : News h₀ L s.heap news := by k_asm) (hm : (l, listOf vs.toArray n) ∈ news := by k_mem) (hP : Parts ld us vs d c := by assumption)
    (h : Q (.int (vs.length : Int) (s.toks + 1)) { s with toks := s.toks + 1 + 1 }) : wpAny (model prog w) A (call (.builtin "len") [.ref l]) Q E s :=
  kun_lenL (News.isList N hm) (by simp) (by have := hP.lens; have := hP.same; omega) h
theorem tuple_vs {prog : Program} {w : World} {A : Around} {E : Value → Shared → Prop} {s : Shared} {h₀ : Heap} {L l : Addr} {m : Str → Option Value} {ld news : List (Addr × Obj)} {us vs : List Value} {d c n : Nat} {Q : Value → Shared → Prop} (F : Fr h₀ L s.heap m := by k_asm) (N : News h₀ L s.heap news := by k_asm) (hm : (l, listOf vs.toArray n) ∈ news := by k_mem) (hP : Parts ld us vs d c := by assumption)
    (h : ∀ D h', Fr h₀ L h' m → News h₀ L h' ((D, tupO vs) :: news) → (∀ p ∈ news, p.1 < D) → Q (.ref D) { s with heap := h' }) : wpAny (model prog w) A (call (.type "tuple") [.ref l]) Q E s :=
  kde_tupleOf F N (News.isList N hm) (by have := hP.lens; have := hP.same; simp; omega) (by simp) h
theorem head_go {w : World} {ld news : List (Addr × Obj)} {W t p al : Addr} {x : Str} {tx t1 t2 t9 : Tok} {n n1 n2 n3 : Nat} {us : List Value} {mean : ExcName → Option Value} {mg mb : Str → Option Value} {dp un : Nat} {gd : Option (List Code)} {cn : Str} {cs : Scope} {aF : Addr} {ccd : Value} {cl : List (Str × Addr)} {outer : List Env} {A₀ : Around} {base h₀ : Heap} {LF : Addr} {mF : Str → Option Value} {sF : Shared} {Q E : Value → Shared → Prop} {f9 : Addr} {vs9 : List Value} {news9 : List (Addr × Obj)}
    (ret : ∀ (h9 : Heap) (kk9 : Nat) (R : Addr) (tR : Tok), Fr h₀ LF h9 mF → News h₀ LF h9 ((R, tupO [.str (Str.ofString "sym") tR, .str x tx] 0) :: news) → Q (.ref R) { sF with heap := h9, toks := kk9 })
    (hf9 : f9 = 247 := by exact rfl) (hv9 : vs9 = [.str (Str.ofString "expr_head") t9, .ref al] := by exact rfl) (hB9 : Below A₀ base outer h₀ := by k_asm) (hF9 : Fr h₀ LF sF.heap mF := by k_asm) (hX9 : (hd.heap_1 w.params).In h₀ := by k_asm) (hN9 : News h₀ LF sF.heap news9 := by k_asm) (hs9 : ∀ q9 ∈ ((al, listOf #[.ref W] n) :: news : List (Addr × Obj)), q9 ∈ news9 := by exact fun _ h => h) (hT9 : Top hd.view_1 (looseW hd.view_1 [Str.ofString "RowsError", Str.ofString "int_value", Str.ofString "named"]) mean mg mb h₀ := by k_asm) (hk9 : cs.kind = .function := by first | exact rfl | assumption) (hd9 : dp + 32 < recursionLimit := by k_room) (hu9 : un + 8 * 32 < cLine := by k_units) (hW : (W, tupO [.str (Str.ofString "tree") t1, .ref t] n1) ∈ ld := by assumption) (ht : (t, tupO [.str (Str.ofString "expr") t2, .str x tx, .ref p] n2) ∈ ld := by assumption) (hp : (p, tupO us n3) ∈ ld := by assumption) (hb : ∀ p ∈ ld, p ∈ news := by kpc_g) :
    wpAny (model PySem.Challenge.rw_sf0040_01.row.prog w) (ktrTop dp un gd cn cs LF aF ccd cl outer) (call (.ref f9) vs9) Q E sF := by
  subst hf9 hv9
  refine Ctr.use (did_expr_head (by decide) (head_deed hb hW ht hp)) hB9 hF9 hX9 hN9 hs9 hT9 hk9 hd9 hu9 ?_
  rintro v9 h9 kk9 n9 hF8 hN8 ⟨R, tR, rfl, rfl⟩
  exact ret h9 kk9 _ _ hF8 hN8
theorem count_go {w : World} {ld news : List (Addr × Obj)} {W t p al : Addr} {x : Str} {tx t1 t2 t9 : Tok} {n n1 n2 n3 : Nat} {us vs : List Value} {d c : Nat} {mean : ExcName → Option Value} {mg mb : Str → Option Value} {dp un : Nat} {gd : Option (List Code)} {cn : Str} {cs : Scope} {aF : Addr} {ccd : Value} {cl : List (Str × Addr)} {outer : List Env} {A₀ : Around} {base h₀ : Heap} {LF : Addr} {mF : Str → Option Value} {sF : Shared} {Q E : Value → Shared → Prop} {f9 : Addr} {vs9 : List Value} {news9 : List (Addr × Obj)}
    (ret : ∀ (h9 : Heap) (kk9 : Nat) (R : Addr) (tR tS tk : Tok), Fr h₀ LF h9 mF → News h₀ LF h9 ((R, tupO [.str (Str.ofString "int") tR, .str (Str.ofString "Int64") tS, .int (vs.length : Int) tk] 0) :: news) → Q (.ref R) { sF with heap := h9, toks := kk9 })
    (hf9 : f9 = 247 := by exact rfl) (hv9 : vs9 = [.str (Str.ofString "expr_count") t9, .ref al] := by exact rfl) (hB9 : Below A₀ base outer h₀ := by k_asm) (hF9 : Fr h₀ LF sF.heap mF := by k_asm) (hX9 : (hd.heap_1 w.params).In h₀ := by k_asm) (hN9 : News h₀ LF sF.heap news9 := by k_asm) (hs9 : ∀ q9 ∈ ((al, listOf #[.ref W] n) :: news : List (Addr × Obj)), q9 ∈ news9 := by exact fun _ h => h) (hT9 : Top hd.view_1 (looseW hd.view_1 [Str.ofString "RowsError", Str.ofString "int_value", Str.ofString "named"]) mean mg mb h₀ := by k_asm) (hk9 : cs.kind = .function := by first | exact rfl | assumption) (hd9 : dp + 32 < recursionLimit := by k_room) (hu9 : un + 8 * 32 < cLine := by k_units) (hW : (W, tupO [.str (Str.ofString "tree") t1, .ref t] n1) ∈ ld := by assumption) (ht : (t, tupO [.str (Str.ofString "expr") t2, .str x tx, .ref p] n2) ∈ ld := by assumption) (hp : (p, tupO us n3) ∈ ld := by assumption) (hb : ∀ p ∈ ld, p ∈ news := by kpc_g) (hq : Parts ld us vs d c := by assumption) :
    wpAny (model PySem.Challenge.rw_sf0040_01.row.prog w) (ktrTop dp un gd cn cs LF aF ccd cl outer) (call (.ref f9) vs9) Q E sF := by
  subst hf9 hv9
  refine Ctr.use (did_expr_count (by decide) (count_deed hb hW ht hp hq.lens)) hB9 hF9 hX9 hN9 hs9 hT9 hk9 hd9 hu9 ?_
  rintro v9 h9 kk9 n9 hF8 hN8 ⟨R, tR, tS, tk, rfl, rfl⟩
  rw [hq.same] at hN8
  exact ret h9 kk9 _ _ _ _ hF8 hN8
theorem args_go {w : World} {ld news : List (Addr × Obj)} {W t p al : Addr} {x : Str} {tx t1 t2 t9 : Tok} {n n1 n2 n3 : Nat} {us vs : List Value} {d c : Nat} {mean : ExcName → Option Value} {mg mb : Str → Option Value} {dp un : Nat} {gd : Option (List Code)} {cn : Str} {cs : Scope} {aF : Addr} {ccd : Value} {cl : List (Str × Addr)} {outer : List Env} {A₀ : Around} {base h₀ : Heap} {LF : Addr} {mF : Str → Option Value} {sF : Shared} {Q E : Value → Shared → Prop} {f9 : Addr} {vs9 : List Value} {news9 : List (Addr × Obj)}
    (ret : ∀ (h9 : Heap) (kk9 : Nat) (R P : Addr) (rs : List Value) (ex : List (Addr × Obj)) (tR : Tok), Fr h₀ LF h9 mF → News h₀ LF h9 ((R, tupO [.str (Str.ofString "tuple") tR, .ref P] 0) :: (P, tupO rs 0) :: (ex ++ news)) → SameL (ex ++ ld) 2 rs vs → Q (.ref R) { sF with heap := h9, toks := kk9 })
    (hf9 : f9 = 247 := by exact rfl) (hv9 : vs9 = [.str (Str.ofString "expr_args") t9, .ref al] := by exact rfl) (hB9 : Below A₀ base outer h₀ := by k_asm) (hF9 : Fr h₀ LF sF.heap mF := by k_asm) (hX9 : (hd.heap_1 w.params).In h₀ := by k_asm) (hN9 : News h₀ LF sF.heap news9 := by k_asm) (hs9 : ∀ q9 ∈ ((al, listOf #[.ref W] n) :: news : List (Addr × Obj)), q9 ∈ news9 := by exact fun _ h => h) (hT9 : Top hd.view_1 (looseW hd.view_1 [Str.ofString "RowsError", Str.ofString "int_value", Str.ofString "named"]) mean mg mb h₀ := by k_asm) (hk9 : cs.kind = .function := by first | exact rfl | assumption) (hd9 : dp + 32 < recursionLimit := by k_room) (hu9 : un + 8 * 32 < cLine := by k_units) (hW : (W, tupO [.str (Str.ofString "tree") t1, .ref t] n1) ∈ ld := by assumption) (ht : (t, tupO [.str (Str.ofString "expr") t2, .str x tx, .ref p] n2) ∈ ld := by assumption) (hp : (p, tupO us n3) ∈ ld := by assumption) (hb : ∀ p ∈ ld, p ∈ news := by kpc_g) (hq : Parts ld us vs d c := by assumption) :
    wpAny (model PySem.Challenge.rw_sf0040_01.row.prog w) (ktrTop dp un gd cn cs LF aF ccd cl outer) (call (.ref f9) vs9) Q E sF := by
  subst hf9 hv9
  refine Ctr.use (did_expr_args (by decide) (parts_deed hb hW ht hp hq)) hB9 hF9 hX9 hN9 hs9 hT9 hk9 hd9 hu9 ?_
  rintro v9 h9 kk9 n9 hF8 hN8 ⟨R, P, rs, ex, tR, rfl, rfl, hs⟩
  exact ret h9 kk9 _ _ _ _ _ hF8 hN8 hs
theorem arg_go {w : World} {ld news : List (Addr × Obj)} {W t p al : Addr} {x : Str} {tx t1 t2 t9 : Tok} {n n1 n2 n3 : Nat} {us vs : List Value} {I : Addr} {ti tj tl : Tok} {nI : Nat} {i : Int} {u v : Value} {mean : ExcName → Option Value} {mg mb : Str → Option Value} {dp un : Nat} {gd : Option (List Code)} {cn : Str} {cs : Scope} {aF : Addr} {ccd : Value} {cl : List (Str × Addr)} {outer : List Env} {A₀ : Around} {base h₀ : Heap} {LF : Addr} {mF : Str → Option Value} {sF : Shared} {Q E : Value → Shared → Prop} {f9 : Addr} {vs9 : List Value} {news9 : List (Addr × Obj)}
    (ret : ∀ (h9 : Heap) (kk9 : Nat) (r9 : Value) (ex : List (Addr × Obj)), Fr h₀ LF h9 mF → News h₀ LF h9 (ex ++ (al, listOf #[.ref W, .ref I] n) :: (I, tupO [.str (Str.ofString "int") ti, .str (Str.ofString "Int64") tj, .int i tl] nI) :: news) → (∀ q ∈ ex, AllLt q.1 ((al, listOf #[.ref W, .ref I] n) :: (I, tupO [.str (Str.ofString "int") ti, .str (Str.ofString "Int64") tj, .int i tl] nI) :: news)) → SameL (ex ++ ld) 2 [r9] [v] → Q (r9) { sF with heap := h9, toks := kk9 })
    (hf9 : f9 = 247 := by exact rfl) (hv9 : vs9 = [.str (Str.ofString "expr_arg") t9, .ref al] := by exact rfl) (hB9 : Below A₀ base outer h₀ := by k_asm) (hF9 : Fr h₀ LF sF.heap mF := by k_asm) (hX9 : (hd.heap_1 w.params).In h₀ := by k_asm) (hN9 : News h₀ LF sF.heap news9 := by k_asm) (hs9 : ∀ q9 ∈ ((al, listOf #[.ref W, .ref I] n) :: (I, tupO [.str (Str.ofString "int") ti, .str (Str.ofString "Int64") tj, .int i tl] nI) :: news : List (Addr × Obj)), q9 ∈ news9 := by exact fun _ h => h) (hT9 : Top hd.view_1 (looseW hd.view_1 [Str.ofString "RowsError", Str.ofString "int_value", Str.ofString "named"]) mean mg mb h₀ := by k_asm) (hk9 : cs.kind = .function := by first | exact rfl | assumption) (hd9 : dp + 32 < recursionLimit := by k_room) (hu9 : un + 8 * 32 < cLine := by k_units) (hW : (W, tupO [.str (Str.ofString "tree") t1, .ref t] n1) ∈ ld := by assumption) (ht : (t, tupO [.str (Str.ofString "expr") t2, .str x tx, .ref p] n2) ∈ ld := by assumption) (hp : (p, tupO us n3) ∈ ld := by assumption) (hb : ∀ p ∈ ld, p ∈ news := by kpc_g) (hq : At ld us vs i u v := by first | exact at_a1 (by decide) (by assumption) (by assumption) | exact at_b1 (by decide) (by assumption) (by assumption) | exact at_b2 (by decide) (by assumption) (by assumption) | exact at_c1 (by decide) (by assumption) (by assumption) | exact at_c2 (by decide) (by assumption) (by assumption) | exact at_c3 (by decide) (by assumption) (by assumption)) :
    wpAny (model PySem.Challenge.rw_sf0040_01.row.prog w) (ktrTop dp un gd cn cs LF aF ccd cl outer) (call (.ref f9) vs9) Q E sF := by
  subst hf9 hv9
  refine Ctr.use (did_expr_arg (by decide) (part_deed hb hW ht hp hq)) hB9 hF9 hX9 hN9 hs9 hT9 hk9 hd9 hu9 ?_
  rintro v9 h9 kk9 n9 hF8 hN8 ⟨ex, rfl, hf, hs⟩
  exact ret h9 kk9 _ _ hF8 hN8 hf hs
local macro_rules | `(tactic| walk_at "call ref") => `(tactic| (k_dflt first | refine' head_go ?_ | refine' count_go ?_ | refine' args_go ?_ | refine' arg_go ?_); kpc_piece)
theorem ceY {h₀ : Heap} {L : Addr} {m : Str → Option Value} {I C D : Addr} {s₁ : Shared} {oI oC oD : Obj} {S : List (Addr × Obj) → Prop} {rest : Value → List (Addr × Obj) → Prop} {y : Value} {h' : Heap} {tk : Nat} {q1 q2 : Addr × Obj} {ex news : List (Addr × Obj)}
    (F : Fr h₀ L h' m) (N : News h₀ L h' (ex ++ q1 :: q2 :: (I, oI) :: (C, oC) :: (D, oD) :: news)) (off : LCg.Off3 I C D news) (hf : ∀ q ∈ ex, AllLt q.1 (q1 :: q2 :: (I, oI) :: (C, oC) :: (D, oD) :: news)) (hS : S (ex ++ news)) (r : rest y (ex ++ news)) : LCg.CompEnd h₀ L m s₁ I oI C oC D oD S rest y { s₁ with heap := h', toks := tk } :=
  ceX F (cb_drop N fun p hp => by
    simp only [List.mem_cons, List.mem_append] at hp ⊢
    rcases hp with h | h | h | h | h <;> simp [h]) off (fun q hq => allLt_sub (hf q hq) fun p hp => .tail _ (.tail _ hp)) hS r
local macro_rules | `(tactic| walk_at "eval ListComp") => `(tactic| (k_here; lcf_look; k_dflt (refine LCg.ListComp_U (F₀ := by k_asm) (by with_unfolding_all rfl) (by decide) (by rfl) (by decide) (by rfl) ?_)))
local macro_rules | `(tactic| walk_at "CompSrc") => `(tactic| (k_here; k_dflt (refine LCg.CompSrc.range (by rfl) (by k_asm) (by k_asm) (by assumption) (by first | decide | rfl) (by first | rfl | decide) (by exact Nat.le_of_ble_eq_true rfl) ?_; intro g'; lcg_lit)))
local macro_rules | `(tactic| walk_at "CompRest") => `(tactic| (with_unfolding_all first
  | (refine LCg.CompRest.succ ?_; intro v' I' oI' C' oC' D' m' h' tk' E' hv' hC' hx' F' N' off' ne'; obtain ⟨t9', hv9'⟩ := hv'; subst hv9')
  | refine LCg.CompRest.zero ?_))
local macro_rules | `(tactic| walk_at "CompEnd") => `(tactic| (k_dflt (refine ceY (by k_asm) (by k_asm) (by assumption) (by assumption) trivial ?_)))
local macro_rules | `(tactic| walk_at "call builtin:len") => `(tactic| ((rename CompMark => hM9); k_dflt (refine' len_vs (h := ?_))))
local macro_rules | `(tactic| walk_at "eval ListComp") => `(tactic| ((rename CompMark => hM9); refine comp_here ?_))
local macro_rules | `(tactic| walk_at "call type:tuple") => `(tactic| (k_dflt (refine' tuple_vs (h := ?_)); intro D' h' F' N' l1; (try k_lt l1); (try k_sweep)))
theorem told_ctr {w : World} {ld news : List (Addr × Obj)} {W t p : Addr} {x : Str} {tx t1 t2 : Tok} {us vs : List Value} {d c n1 n2 n3 : Nat} (hb : ∀ p ∈ ld, p ∈ news) (hW : (W, tupO [.str (Str.ofString "tree") t1, .ref t] n1) ∈ ld) (ht : (t, tupO [.str (Str.ofString "expr") t2, .str x tx, .ref p] n2) ∈ ld) (hp : (p, tupO us n3) ∈ ld) {vl : Addr} {nv : Nat} (hP : Parts ld us vs d c) (hvl : (vl, listOf vs.toArray nv) ∈ news) :
    Ctr w 252 44 news [.ref W, .str x tx, .ref vl] (fun r news' => r = .bool true ∧ news' = news) := by
  unfold Ctr
  k_fill
  intro mean mg mb dp un gd cn cs ac ccd cl outer A₀ base h₀ L m s Q E B F X N T hk hd hu hret
  w_on
  refine wpAny_call ?_
  have hP2 := hP
  have hMk : CompMark := trivial
  replace N : News h₀ L s.heap ((vl, listOf vs.toArray nv) :: news) := cb_drop N (List.forall_mem_cons.mpr ⟨hvl, fun _ h => h⟩)
  k_dflt (refine' code_defC ?k1 ?k2 ?k3 ?k4 ?k5 ?kA ?kF ?kK ?k6 ?k7 ?k8 ?k9 ?kB ?kD ?_ ?c2 ?c3 ?c4; (case kA => exact rfl); (case kF => exact rfl); (case kK => assumption); (case k1 => k_asm); (case k2 => k_asm); (case k3 => k_asm); (case k4 => k_asm); (case k5 => k_asm); (case k6 => k_is); (case k7 => k_is); (case k8 => k_room); (case k9 => exact BindsTo.of_eq rfl); (case kB => exact rfl); (case kD => decide +kernel); (case c2 => exact rfl); (case c3 => exact rfl); (case c4 => exact rfl); k_whole)
  intro g1 L1 h1 tk1 cells1 FG1 F1 N1 Y1 B1 X1 T1 l1
  replace l1 := allLt_of l1
  k_cells Y1
  (try simp only [List.cons_append, List.nil_append] at N1)
  (try dsimp only)
  (try k_fold)
  k_steps
  unfold CompHere
  (rename CompMark => hMk); clear hMk
  cases hP with
  | one h1 =>
    k_steps
    all_goals (rename Fr _ _ _ _ => kF9)
    all_goals (rename News _ _ _ _ => kN9)
    all_goals exact hret _ _ _ news kF9 (cb_drop kN9 (fun p hp => by simp only [List.mem_cons, List.mem_append, hp, or_true])) ⟨rfl, rfl⟩
  | two h1 h2 =>
    k_steps
    all_goals (rename Fr _ _ _ _ => kF9)
    all_goals (rename News _ _ _ _ => kN9)
    all_goals exact hret _ _ _ news kF9 (cb_drop kN9 (fun p hp => by simp only [List.mem_cons, List.mem_append, hp, or_true])) ⟨rfl, rfl⟩
  | three h1 h2 h3 =>
    k_steps
    all_goals (rename Fr _ _ _ _ => kF9)
    all_goals (rename News _ _ _ _ => kN9)
    all_goals exact hret _ _ _ news kF9 (cb_drop kN9 (fun p hp => by simp only [List.mem_cons, List.mem_append, hp, or_true])) ⟨rfl, rfl⟩
theorem told_go {w : World} {lp news : List (Addr × Obj)} {W t p : Addr} {x : Str} {tx t1 t2 : Tok} {us vs : List Value} {d c n1 n2 n3 : Nat} {vl : Addr} {nv : Nat} {mean : ExcName → Option Value} {mg mb : Str → Option Value} {dp un : Nat} {gd : Option (List Code)} {cn : Str} {cs : Scope} {aF : Addr} {ccd : Value} {cl : List (Str × Addr)} {outer : List Env} {A₀ : Around} {base h₀ : Heap} {LF : Addr} {mF : Str → Option Value} {sF : Shared} {Q E : Value → Shared → Prop} {f9 : Addr} {vs9 : List Value} {news9 : List (Addr × Obj)}
    (ret : ∀ (h9 : Heap) (kk9 : Nat), Fr h₀ LF h9 mF → News h₀ LF h9 (news) → Q (.bool true) { sF with heap := h9, toks := kk9 })
    (hf9 : f9 = 252 := by exact rfl) (hv9 : vs9 = [.ref W, .str x tx, .ref vl] := by exact rfl) (hB9 : Below A₀ base outer h₀ := by k_asm) (hF9 : Fr h₀ LF sF.heap mF := by k_asm) (hX9 : (hd.heap_1 w.params).In h₀ := by k_asm) (hN9 : News h₀ LF sF.heap news9 := by k_asm) (hs9 : ∀ q9 ∈ (news : List (Addr × Obj)), q9 ∈ news9 := by exact fun _ h => h) (hT9 : Top hd.view_1 (looseW hd.view_1 [Str.ofString "RowsError", Str.ofString "int_value", Str.ofString "named"]) mean mg mb h₀ := by k_asm) (hk9 : cs.kind = .function := by first | exact rfl | assumption) (hd9 : dp + 44 < recursionLimit := by k_room) (hu9 : un + 8 * 44 < cLine := by k_units) (hW : (W, tupO [.str (Str.ofString "tree") t1, .ref t] n1) ∈ news := by k_mem) (ht : (t, tupO [.str (Str.ofString "expr") t2, .str x tx, .ref p] n2) ∈ news := by k_mem) (hp : (p, tupO us n3) ∈ news := by k_mem) (hvl : (vl, listOf vs.toArray nv) ∈ news := by k_mem) (hP : Parts lp us vs d c := by assumption) (hm : ∀ p ∈ lp, p ∈ news := by kpc_g) :
    wpAny (model PySem.Challenge.rw_sf0040_01.row.prog w) (ktrTop dp un gd cn cs LF aF ccd cl outer) (call (.ref f9) vs9) Q E sF := by
  subst hf9 hv9
  refine Ctr.use (told_ctr (fun _ h => h) hW ht hp (hP.mono hm) hvl) hB9 hF9 hX9 hN9 hs9 hT9 hk9 hd9 hu9 ?_
  rintro v9 h9 kk9 n9 hF8 hN8 ⟨rfl, rfl⟩
  exact ret h9 kk9  hF8 hN8
end

section
set_option maxRecDepth 100000
set_option maxHeartbeats 4000000
section
open PySem.Calls
variable {prog : Program} {w : World} {A : Around} {E : Value → Shared → Prop} {s : Shared} {h₀ : Heap} {env : Env} {x : Str} {px : Pos} {body : List Stmt} {Q : Flow → Shared → Prop} {m : Str → Option Value} {news : List (Addr × Obj)}
/-- what a loop over a range leaves to show -/
def RangeLoop (prog : Program) (w : World) (A : Around) (h₀ : Heap) (env : Env) (x : Str) (px : Pos) (body : List Stmt) (Q : Flow → Shared → Prop) (E : Value → Shared → Prop) (b : Int) (m : Str → Option Value) (news : List (Addr × Obj)) (s : Shared) : Prop :=
  ∃ (n : Nat) (J : Nat → (Str → Option Value) → List (Addr × Obj) → Prop), (n : Int) = b ∧ J 0 m news ∧
    (∀ i t m₁ news₁ h₁ tk₁ I oI own, i < n → J i m₁ news₁ → (I, oI) ∈ own → (∀ p ∈ news₁, p.1 ≠ I) → Fr h₀ env.locals h₁ m₁ → News h₀ env.locals h₁ (own ++ news₁) →
      wpAny (model prog w) A (assign (.Name x px) env (.int (i : Int) t)) (fun _ s₂ => wpAny (model prog w) A (execs body env)
        (LoopStepV h₀ env.locals [I] own (J (i + 1)) { s with heap := h₁, toks := tk₁ } (fun v s' => Q (.ret v) s') fun s' => Q .next s') E s₂) E { s with heap := h₁, toks := tk₁ }) ∧
    (∀ h' tk m' news', Fr h₀ env.locals h' m' → News h₀ env.locals h' news' → J n m' news' → Q .next { s with heap := h', toks := tk })
theorem turns_range {r : Addr} {b : Int} {t u v : Tok} (hh : A.handled = none := by rfl) (F : Fr h₀ env.locals s.heap m := by k_asm) (N : News h₀ env.locals s.heap news := by k_asm) (hr : IsRange s.heap r 0 b 1 t u v := by assumption) (hb0 : 0 ≤ b := by first | decide | omega) (hb1 : b < 1000 := by first | decide | omega)
    (h : RangeLoop prog w A h₀ env x px body Q E b m news s) : wpAny (model prog w) A (pyIter (.ref r)) (fun it s₂ => TurnsAt prog w A h₀ env (.Name x px) body Q E it s₂) E s := by
  obtain ⟨n, J, hn, j0, step, fin⟩ := h
  have hsz : Builtin.Range.rangeSize 0 b 1 = (n : Int) := by
    rw [rangeSize_nat]; omega
  have hsm : Builtin.Range.small 0 b 1 = true := by
    simp only [Builtin.Range.small, hsz, Builtin.Range.rangeFitsLong]
    simp
    omega
  refine wpAny_pyIter_range hr hsm ?_
  have hI₀ := next_is_new F
  have hIL : env.locals ≠ s.heap.objs.size := Nat.ne_of_lt F.ns.lt
  refine ⟨s.heap.objs.size, [s.heap.objs.size], [s.heap.objs.size], n, _, _, _, m, news, J, rfl, KTurns.ofWalks (LCg.range_walks hh 0 n) ?_, by simpa using hIL, ?_, ?_, ?_, F.keeps fun _ _ e => Heap.get?_push_of_some _ e, N.grown fun _ _ e => Heap.get?_push_of_some _ e, j0, ?_, ?_⟩
  · intro i v s' Q' E' st hq
    unfold letOwnedTupleGo
    first
      | exact wpAny_pure hq
      | (cases v <;> first
          | exact wpAny_pure hq
          | (refine wpAny_bind (wpAny_load st ?_)
             exact wpAny_pure hq))
  · intro b' hb'
    rw [List.mem_singleton.mp hb']; exact hI₀
  · intro p hp
    simpa using Nat.ne_of_lt (Heap.lt_size (N p hp).1)
  · show IsRangeIter _ _ _ _ _
    rw [hsz]
    simpa using Heap.get?_push_size _ rfl
  · intro i v m₁ news₁ h₁ tk₁ own hi hP hJ hnw hown hgot hin hst F₁ N₁
    obtain ⟨t', rfl⟩ := hP
    rw [Int.zero_add]
    have hst' : h₁.get? s.heap.objs.size = some _ := hst
    exact step i t' m₁ news₁ h₁ tk₁ s.heap.objs.size _ own hi hJ (hin _ (by simp) hI₀ _ hst') (fun p hp => by simpa using hnw p hp) F₁ N₁
  · intro h' tk m' news' F' N' _ hJ
    exact fin h' tk m' news' F' N' hJ
end
end

section
set_option maxRecDepth 100000
set_option maxHeartbeats 4000000
theorem digit {w : World} {a : Addr} {x y : Int} {tx ty tm : Tok} {n : Nat} {mm : Int} {news : List (Addr × Obj)} (h0 : 0 ≤ x) (hy : 0 ≤ y) (hy2 : y < 2 ^ 33) (hm : 2 ≤ mm) (hm' : mm ≤ 4) (hne : ∀ p ∈ news, p.1 ≠ a) :
    Ctr w 233 2 ((a, listOf #[.int x tx, .int y ty] n) :: news) [.ref a, .int mm tm]
      (fun v news' => ∃ d t x' y' tx' ty' n', v = .int d t ∧ 0 ≤ d ∧ d < mm ∧ 0 ≤ x' ∧ 0 ≤ y' ∧ y' < 2 ^ 33 ∧ news' = (a, listOf #[.int x' tx', .int y' ty'] n') :: news) := digit_ctr w a x y tx ty tm n mm news h0 hy hy2 hm hm' hne
theorem digit_go {w : World} {a : Addr} {x y : Int} {tx ty tm : Tok} {n : Nat} {mm : Int} {news : List (Addr × Obj)} {mean : ExcName → Option Value} {mg mb : Str → Option Value} {dp un : Nat} {gd : Option (List Code)} {cn : Str} {cs : Scope} {aF : Addr} {ccd : Value} {cl : List (Str × Addr)} {outer : List Env} {A₀ : Around} {base h₀ : Heap} {LF : Addr} {mF : Str → Option Value} {sF : Shared} {Q E : Value → Shared → Prop} {f9 : Addr} {vs9 : List Value} {news9 : List (Addr × Obj)}
    (ret : ∀ (h9 : Heap) (kk9 : Nat) (dg : Int) (dt : Tok) (x2 y2 : Int) (tx2 ty2 : Tok) (n2 : Nat), Fr h₀ LF h9 mF → News h₀ LF h9 ((a, listOf #[.int x2 tx2, .int y2 ty2] n2) :: news) → 0 ≤ dg → dg < mm → 0 ≤ x2 → 0 ≤ y2 → y2 < 2 ^ 33 → Q (.int dg dt) { sF with heap := h9, toks := kk9 })
    (hf9 : f9 = 233 := by exact rfl) (hv9 : vs9 = [.ref a, .int mm tm] := by exact rfl) (hB9 : Below A₀ base outer h₀ := by k_asm) (hF9 : Fr h₀ LF sF.heap mF := by k_asm) (hX9 : (hd.heap_1 w.params).In h₀ := by k_asm) (hN9 : News h₀ LF sF.heap news9 := by k_asm) (hs9 : ∀ q9 ∈ ((a, listOf #[.int x tx, .int y ty] n) :: news : List (Addr × Obj)), q9 ∈ news9 := by exact fun _ h => h) (hT9 : Top hd.view_1 (looseW hd.view_1 [Str.ofString "RowsError", Str.ofString "int_value", Str.ofString "named"]) mean mg mb h₀ := by k_asm) (hk9 : cs.kind = .function := by first | exact rfl | assumption) (hd9 : dp + 2 < recursionLimit := by k_room) (hu9 : un + 8 * 2 < cLine := by k_units) (h0 : 0 ≤ x := by assumption) (hy : 0 ≤ y := by assumption) (hy2 : y < 2 ^ 33 := by assumption) (hm : 2 ≤ mm := by decide) (hm2 : mm ≤ 4 := by decide) (hne : ∀ p ∈ news, p.1 ≠ a := by first | assumption | k_all) :
    wpAny (model PySem.Challenge.rw_sf0040_01.row.prog w) (ktrTop dp un gd cn cs LF aF ccd cl outer) (call (.ref f9) vs9) Q E sF := by
  subst hf9 hv9
  refine Ctr.use (digit (tx := tx) (ty := ty) (n := n) h0 hy hy2 hm hm2 hne) hB9 hF9 hX9 hN9 hs9 hT9 hk9 hd9 hu9 ?_
  rintro v9 h9 kk9 n9 hF8 hN8 ⟨dg, dt, x2, y2, tx2, ty2, n2, rfl, b1, b2, b3, b4, b5, rfl⟩
  exact ret h9 kk9 _ _ _ _ _ _ _ hF8 hN8 b1 b2 b3 b4 b5
local macro_rules | `(tactic| walk_at "call ref") => `(tactic| (k_dflt (refine' digit_go ?_); kpc_piece))
def RLoop (p : Prop) : Prop := p
theorem rloop {p : Prop} (h : RLoop p) : p := h
local macro_rules | `(tactic| walk_at "exec For Name Call cons nil") => `(tactic| (k_here; k_dflt (refine For_turns (by k_asm) ?_)))
local macro_rules | `(tactic| walk_at "pyIter ref") => `(tactic| (k_dflt (refine' turns_range (h := ?_)); refine rloop ?_))
def LEnd (p : Prop) : Prop := p
theorem lend {p : Prop} (h : LEnd p) : p := h
local macro_rules | `(tactic| walk_at "LoopStepV") => `(tactic| (refine lend ?_))
def Begun (a : Addr) (news : List (Addr × Obj)) (v : Value) (news' : List (Addr × Obj)) : Prop :=
  ∃ (P T : Addr) (dd : Nat) (many : Int) (tk tx ty : Tok) (ex : List (Addr × Obj)) (x y : Int) (n : Nat), v = .ref P ∧ many = dd ∧ 96 ≤ dd ∧ dd ≤ 99 ∧ 0 ≤ x ∧ 0 ≤ y ∧ y < 2 ^ 33 ∧ news' = (P, tupO [.ref T, .int many tk] 0) :: (a, listOf #[.int x tx, .int y ty] n) :: (ex ++ news) ∧
    TreeIn ex (.ref T) dd (2 * dd - 1) ∧ (∃ p z t1 t2 k, (T, tupO [.str (Str.ofString "expr") t1, .str z t2, .ref p] k) ∈ ex) ∧ ∀ q ∈ ex, a < q.1
def BJ (a : Addr) (base : List (Addr × Obj)) (many : Int) (i : Nat) (m : Str → Option Value) (nw : List (Addr × Obj)) : Prop :=
  ∃ ex T tm, nw = ex ++ base ∧ m (Str.ofString "many") = some (.int many tm) ∧ m (Str.ofString "tree") = some (.ref T) ∧ TreeIn ex (.ref T) (i + 1) (2 * i + 1) ∧ (∀ q ∈ ex, a < q.1) ∧ (0 < i → ∃ p z t1 t2 k, (T, tupO [.str (Str.ofString "expr") t1, .str z t2, .ref p] k) ∈ ex)
theorem TreeIn.cast {news : List (Addr × Obj)} {v : Value} {d d' c c' : Nat} (h : TreeIn news v d c) (hd : d = d') (hc : c = c') : TreeIn news v d' c' := hd ▸ hc ▸ h
theorem TreeIn.more {news : List (Addr × Obj)} {v : Value} {d c : Nat} (h : TreeIn news v d c) (q1 q2 q3 : Addr × Obj) : TreeIn ([q1, q2, q3] ++ news) v d c := h.mono fun p hp => List.mem_append_right _ hp
theorem begun_fin {h₀ h : Heap} {L : Addr} {q b : Addr × Obj} {ex news : List (Addr × Obj)} (N : News h₀ L h (q :: (ex ++ b :: news))) : News h₀ L h (q :: b :: (ex ++ news)) :=
  cb_drop N fun p hp => by
    simp only [List.mem_cons, List.mem_append] at hp ⊢
    rcases hp with h | h | h | h <;> simp [h]
theorem begun_step1 {h₀ h₁ : Heap} {L a I T P F Tr : Addr} {oI bo : Obj} {own ex news : List (Addr × Obj)} {many : Int} {i tk : Nat} {m' : Str → Option Value} {s₁ : Shared} {Qr : Value → Shared → Prop} {Qb : Shared → Prop} {z : Str} {z2 : Str} {t1 t2 t3 t4 tm : Tok}
    (Fk : Fr h₀ L h₁ m') (N : News h₀ L h₁ ((T, tupO [.str (Str.ofString "expr") t1, .str z t2, .ref P] 0) :: (P, tupO [.ref F, .ref Tr] 0) :: (F, tupO [.str (Str.ofString "sym") t3, .str z2 t4] 0) :: (own ++ (ex ++ (a, bo) :: news)))) (lT : AllLt T (own ++ (ex ++ (a, bo) :: news))) (lP : AllLt P (own ++ (ex ++ (a, bo) :: news))) (lF : AllLt F (own ++ (ex ++ (a, bo) :: news)))
    (hI : (I, oI) ∈ own) (hnI : ∀ p ∈ ex ++ (a, bo) :: news, p.1 ≠ I) (hT : TreeIn ex (.ref Tr) (i + 1) (2 * i + 1)) (hex : ∀ q ∈ ex, a < q.1) (e1 : m' (Str.ofString "many") = some (.int many tm)) (e2 : m' (Str.ofString "tree") = some (.ref T)) :
    LEnd (LoopStepV h₀ L [I] own (BJ a ((a, bo) :: news) many (i + 1)) s₁ Qr Qb .next { s₁ with heap := h₁, toks := tk }) := by
  have gI : ∀ {d : Addr}, AllLt d (own ++ (ex ++ (a, bo) :: news)) → d ≠ I := fun h => Nat.ne_of_gt (tb_ltOf h (I, oI) (List.mem_append_left _ hI))
  have ga : ∀ {d : Addr}, AllLt d (own ++ (ex ++ (a, bo) :: news)) → a < d := fun h => tb_ltOf h (a, bo) (List.mem_append_right _ (List.mem_append_right _ (.head _)))
  refine LoopStepU.introHead [(T, tupO [.str (Str.ofString "expr") t1, .str z t2, .ref P] 0), (P, tupO [.ref F, .ref Tr] 0), (F, tupO [.str (Str.ofString "sym") t3, .str z2 t4] 0)] Fk N (fun p hp => ?_) ⟨[(T, _), (P, _), (F, _)] ++ ex, T, _, (List.append_assoc _ _ _).symm, e1, e2, ?_, fun q hq => ?_, fun _ => ⟨_, _, _, _, _, .head _⟩⟩
  · simp only [List.mem_append, List.mem_cons, List.not_mem_nil, or_false] at hp
    rw [List.mem_singleton]
    rcases hp with (h | h | h) | h
    · rw [h]; exact gI lT
    · rw [h]; exact gI lP
    · rw [h]; exact gI lF
    · exact hnI p (by simpa using h)
  · exact TreeIn.cast (.node2 (.head _) (.tail _ (.head _)) (.sym (.tail _ (.tail _ (.head _)))) (hT.more _ _ _)) (by omega) (by omega)
  · simp only [List.mem_append, List.mem_cons, List.not_mem_nil, or_false] at hq
    rcases hq with (h | h | h) | h
    · rw [h]; exact ga lT
    · rw [h]; exact ga lP
    · rw [h]; exact ga lF
    · exact hex q h
theorem begun_step2 {h₀ h₁ : Heap} {L a I T P F Tr : Addr} {oI bo : Obj} {own ex news : List (Addr × Obj)} {many : Int} {i tk : Nat} {m' : Str → Option Value} {s₁ : Shared} {Qr : Value → Shared → Prop} {Qb : Shared → Prop} {z : Str} {z2 : Int} {t1 t2 t3 t4 tm : Tok}
    (Fk : Fr h₀ L h₁ m') (N : News h₀ L h₁ ((T, tupO [.str (Str.ofString "expr") t1, .str z t2, .ref P] 0) :: (P, tupO [.ref Tr, .ref F] 0) :: (F, tupO [.str (Str.ofString "int") t3, .int z2 t4] 0) :: (own ++ (ex ++ (a, bo) :: news)))) (lT : AllLt T (own ++ (ex ++ (a, bo) :: news))) (lP : AllLt P (own ++ (ex ++ (a, bo) :: news))) (lF : AllLt F (own ++ (ex ++ (a, bo) :: news)))
    (hI : (I, oI) ∈ own) (hnI : ∀ p ∈ ex ++ (a, bo) :: news, p.1 ≠ I) (hT : TreeIn ex (.ref Tr) (i + 1) (2 * i + 1)) (hex : ∀ q ∈ ex, a < q.1) (e1 : m' (Str.ofString "many") = some (.int many tm)) (e2 : m' (Str.ofString "tree") = some (.ref T)) :
    LEnd (LoopStepV h₀ L [I] own (BJ a ((a, bo) :: news) many (i + 1)) s₁ Qr Qb .next { s₁ with heap := h₁, toks := tk }) := by
  have gI : ∀ {d : Addr}, AllLt d (own ++ (ex ++ (a, bo) :: news)) → d ≠ I := fun h => Nat.ne_of_gt (tb_ltOf h (I, oI) (List.mem_append_left _ hI))
  have ga : ∀ {d : Addr}, AllLt d (own ++ (ex ++ (a, bo) :: news)) → a < d := fun h => tb_ltOf h (a, bo) (List.mem_append_right _ (List.mem_append_right _ (.head _)))
  refine LoopStepU.introHead [(T, tupO [.str (Str.ofString "expr") t1, .str z t2, .ref P] 0), (P, tupO [.ref Tr, .ref F] 0), (F, tupO [.str (Str.ofString "int") t3, .int z2 t4] 0)] Fk N (fun p hp => ?_) ⟨[(T, _), (P, _), (F, _)] ++ ex, T, _, (List.append_assoc _ _ _).symm, e1, e2, ?_, fun q hq => ?_, fun _ => ⟨_, _, _, _, _, .head _⟩⟩
  · simp only [List.mem_append, List.mem_cons, List.not_mem_nil, or_false] at hp
    rw [List.mem_singleton]
    rcases hp with (h | h | h) | h
    · rw [h]; exact gI lT
    · rw [h]; exact gI lP
    · rw [h]; exact gI lF
    · exact hnI p (by simpa using h)
  · exact TreeIn.cast (.node2 (.head _) (.tail _ (.head _)) (hT.more _ _ _) (.int (.tail _ (.tail _ (.head _))))) (by omega) (by omega)
  · simp only [List.mem_append, List.mem_cons, List.not_mem_nil, or_false] at hq
    rcases hq with (h | h | h) | h
    · rw [h]; exact ga lT
    · rw [h]; exact ga lP
    · rw [h]; exact ga lF
    · exact hex q h
theorem begun_ctr {w : World} {a : Addr} {x y : Int} {tx ty : Tok} {n : Nat} {news : List (Addr × Obj)} (h0 : 0 ≤ x) (hy : 0 ≤ y) (hy2 : y < 2 ^ 33) (hne : ∀ p ∈ news, p.1 ≠ a) :
    Ctr w 240 10 ((a, listOf #[.int x tx, .int y ty] n) :: news) [.ref a] (Begun a news) := by
  unfold Ctr
  k_fill
  intro mean mg mb dp un gd cn cs ac ccd cl outer A₀ base h₀ L m s Q E B F X N T hk hd hu hret
  w_on
  refine wpAny_call ?_
  k_dflt ktr_enter
  k_steps
  rename Fr _ _ _ _ => F2
  rename News _ _ _ _ => N2
  rename_i dg' dt' x' y' tx' ty' nn' b1' b2' b3' b4' b5' D1 hh1 l1 D2 hh2 l2 hh3 hh4 hh5 Fx Nx hh6 tk6 t6 u6 v6 r6 kp6
  refine ⟨(95 + dg').toNat, BJ a ((a, listOf #[.int x' tx', .int y' ty'] nn') :: news) (96 + dg'), by omega, ⟨[(D2, _), (D1, _)], D1, _, rfl, rfl, rfl, .sym (.tail _ (.head _)), List.forall_mem_cons.mpr ⟨l2.2.1, List.forall_mem_cons.mpr ⟨l1.1, fun _ h => nomatch h⟩⟩, fun h => absurd h (Nat.lt_irrefl _)⟩, ?_, ?_⟩
  · intro i t m₁ news₁ h₁ tk₁ I oI own hi hJ hI hnI F1 N1
    obtain ⟨ex, Tr, tm, rfl, hm1, hm2, hT, hex, hx⟩ := hJ
    replace F1 := fr_put (fr_put F1 hm1) (x := Str.ofString "tree") (v := .ref Tr) ((if_neg (by decide)).trans hm2)
    clear F2 N2 Fx Nx
    k_steps
    all_goals (rename Fr _ _ _ _ => kF9)
    all_goals (rename News _ _ _ _ => kN9)
    · exact begun_step1 kF9 kN9 (by first | k_all | exact allLt_of (by assumption)) (by first | k_all | exact allLt_of (by assumption)) (by first | k_all | exact allLt_of (by assumption)) hI hnI hT hex rfl rfl
    · exact begun_step2 kF9 kN9 (by first | k_all | exact allLt_of (by assumption)) (by first | k_all | exact allLt_of (by assumption)) (by first | k_all | exact allLt_of (by assumption)) hI hnI hT hex rfl rfl
  · intro h' tk m' news' F' N' hJ
    obtain ⟨ex, Tr, tm, rfl, hm1, hm2, hT, hex, hx⟩ := hJ
    replace F' := fr_put (fr_put F' hm1) (x := Str.ofString "tree") (v := .ref Tr) ((if_neg (by decide)).trans hm2)
    clear F2 N2 Fx Nx
    dsimp only
    k_steps
    rename Fr _ _ _ _ => kF9
    rename News _ _ _ _ => kN9
    refine hret _ _ _ _ kF9 (begun_fin kN9) ⟨_, _, 96 + dg'.toNat, _, _, _, _, _, _, _, _, rfl, ?_, ?_, ?_, b3', b4', b5', rfl, hT.cast ?_ ?_, hx ?_, hex⟩
    all_goals omega
theorem begun_go {w : World} {a : Addr} {x y : Int} {tx ty : Tok} {n : Nat} {news : List (Addr × Obj)} {mean : ExcName → Option Value} {mg mb : Str → Option Value} {dp un : Nat} {gd : Option (List Code)} {cn : Str} {cs : Scope} {aF : Addr} {ccd : Value} {cl : List (Str × Addr)} {outer : List Env} {A₀ : Around} {base h₀ : Heap} {LF : Addr} {mF : Str → Option Value} {sF : Shared} {Q E : Value → Shared → Prop} {f9 : Addr} {vs9 : List Value} {news9 : List (Addr × Obj)}
    (ret : ∀ (h9 : Heap) (kk9 : Nat) (P T : Addr) (dd : Nat) (many : Int) (tk tx2 ty2 : Tok) (ex : List (Addr × Obj)) (x2 y2 : Int) (n2 : Nat), Fr h₀ LF h9 mF → News h₀ LF h9 ((P, tupO [.ref T, .int many tk] 0) :: (a, listOf #[.int x2 tx2, .int y2 ty2] n2) :: (ex ++ news)) → many = dd → 96 ≤ dd → dd ≤ 99 → 0 ≤ x2 → 0 ≤ y2 → y2 < 2 ^ 33 → TreeIn ex (.ref T) dd (2 * dd - 1) → (∃ p z t1 t2 k, (T, tupO [.str (Str.ofString "expr") t1, .str z t2, .ref p] k) ∈ ex) → (∀ q ∈ ex, a < q.1) → Q (.ref P) { sF with heap := h9, toks := kk9 })
    (hf9 : f9 = 240 := by exact rfl) (hv9 : vs9 = [.ref a] := by exact rfl) (hB9 : Below A₀ base outer h₀ := by k_asm) (hF9 : Fr h₀ LF sF.heap mF := by k_asm) (hX9 : (hd.heap_1 w.params).In h₀ := by k_asm) (hN9 : News h₀ LF sF.heap news9 := by k_asm) (hs9 : ∀ q9 ∈ ((a, listOf #[.int x tx, .int y ty] n) :: news : List (Addr × Obj)), q9 ∈ news9 := by exact fun _ h => h) (hT9 : Top hd.view_1 (looseW hd.view_1 [Str.ofString "RowsError", Str.ofString "int_value", Str.ofString "named"]) mean mg mb h₀ := by k_asm) (hk9 : cs.kind = .function := by first | exact rfl | assumption) (hd9 : dp + 10 < recursionLimit := by k_room) (hu9 : un + 8 * 10 < cLine := by k_units) (h0 : 0 ≤ x := by assumption) (hy : 0 ≤ y := by assumption) (hy2 : y < 2 ^ 33 := by assumption) (hne : ∀ p ∈ news, p.1 ≠ a := by exact fun _ h => nomatch h) :
    wpAny (model PySem.Challenge.rw_sf0040_01.row.prog w) (ktrTop dp un gd cn cs LF aF ccd cl outer) (call (.ref f9) vs9) Q E sF := by
  subst hf9 hv9
  refine Ctr.use (begun_ctr (tx := tx) (ty := ty) (n := n) h0 hy hy2 hne) hB9 hF9 hX9 hN9 hs9 hT9 hk9 hd9 hu9 ?_
  rintro v9 h9 kk9 n9 hF8 hN8 ⟨P, T, dd, many, tk, tx2, ty2, ex, x2, y2, n2, rfl, m1, m2, m3, b3, b4, b5, rfl, hT, hx, he⟩
  exact ret h9 kk9 _ _ _ _ _ _ _ _ _ _ _ hF8 hN8 m1 m2 m3 b3 b4 b5 hT hx he
end

section
set_option maxRecDepth 100000
set_option maxHeartbeats 4000000
def CtrL (w : World) (f : Addr) (need : Nat) (news : List (Addr × Obj)) (vs : List Value) (al : Addr) (ws : List Value) (Post : Value → List (Addr × Obj) → Prop) : Prop :=
  ∀ (mean : ExcName → Option Value) (mg mb : Str → Option Value) (dp un : Nat) (gd : Option (List Code)) (cn : Str) (cs : Scope) (a : Addr) (ccd : Value) (cl : List (Str × Addr)) (outer : List Env) (A₀ : Around) (base h₀ : Heap) (L : Addr) (m : Str → Option Value) (s : Shared)
    (Q E : Value → Shared → Prop),
    h₀.IsList al ws.toArray → Below A₀ base outer h₀ → Fr h₀ L s.heap m → (hd.heap_1 w.params).In h₀ → News h₀ L s.heap news → Top hd.view_1 (looseW hd.view_1 [Str.ofString "RowsError", Str.ofString "int_value", Str.ofString "named"]) mean mg mb h₀ → cs.kind = .function → dp + need < recursionLimit → un + 8 * need < cLine →
    (∀ v h' tk' news', Fr h₀ L h' m → News h₀ L h' news' → Post v news' → Q v { s with heap := h', toks := tk' }) →
    wpAny (model PySem.Challenge.rw_sf0040_01.row.prog w) (ktrTop dp un gd cn cs L a ccd cl outer) (call (.ref f) vs) Q E s
theorem CtrL.use {w : World} {f : Addr} {need : Nat} {news₀ news : List (Addr × Obj)} {vs : List Value} {al : Addr} {ws : List Value} {Post : Value → List (Addr × Obj) → Prop}
    {mean : ExcName → Option Value} {mg mb : Str → Option Value} {dp un : Nat} {gd : Option (List Code)} {cn : Str} {cs : Scope} {a : Addr} {ccd : Value} {cl : List (Str × Addr)} {outer : List Env} {A₀ : Around} {base h₀ : Heap} {L : Addr} {m : Str → Option Value} {s : Shared}
    {Q E : Value → Shared → Prop} (C : CtrL w f need news vs al ws Post)
    (hL : h₀.IsList al ws.toArray) (B : Below A₀ base outer h₀) (F : Fr h₀ L s.heap m) (X : (hd.heap_1 w.params).In h₀) (N : News h₀ L s.heap news₀) (hs : ∀ p ∈ news, p ∈ news₀) (T : Top hd.view_1 (looseW hd.view_1 [Str.ofString "RowsError", Str.ofString "int_value", Str.ofString "named"]) mean mg mb h₀) (hk : cs.kind = .function) (hd : dp + need < recursionLimit) (hu : un + 8 * need < cLine)
    (ret : ∀ v h' tk' news', Fr h₀ L h' m → News h₀ L h' news' → Post v news' → Q v { s with heap := h', toks := tk' }) :
    wpAny (model PySem.Challenge.rw_sf0040_01.row.prog w) (ktrTop dp un gd cn cs L a ccd cl outer) (call (.ref f) vs) Q E s :=
  C _ _ _ _ _ _ _ _ _ _ _ _ _ _ _ _ _ _ _ _ hL B F X (fun p hp => N p (hs p hp)) T hk hd hu ret
theorem src_y0 (x : Int) : 0 ≤ x.fmod 2147483647 + 43 := by
  have := Int.fmod_nonneg_of_pos x (b := 2147483647) (by decide)
  omega
theorem src_y1 (x : Int) : x.fmod 2147483647 + 43 < 2 ^ 33 := by
  have := Int.fmod_lt_of_pos x (b := 2147483647) (by decide)
  omega
theorem source_ctr {w : World} {al : Addr} {ws : List Value} {l : List Int} {news : List (Addr × Obj)} (hI : IntsAre ws l) (hlen : l.length < 64) :
    CtrL w 226 8 news [.ref al] al ws (fun v news' => ∃ src x y tx ty n, v = .ref src ∧ 0 ≤ x ∧ 0 ≤ y ∧ y < 2 ^ 33 ∧ AllLt src news ∧ news' = (src, listOf #[.int x tx, .int y ty] n) :: news) := by
  unfold CtrL
  k_fill
  intro mean mg mb dp un gd cn cs ac ccd cl outer A₀ base h₀ L m s Q E hL B F X N T hk hd hu hret
  w_on
  refine wpAny_call ?_
  k_dflt ktr_enter
  rename Fr h₀ L _ _ => FGx
  have hG := FGx.lst hL
  have hlen2 := hI.length
  k_steps
  all_goals (rename Fr _ _ _ _ => kF9)
  all_goals (rename News _ _ _ _ => kN9)
  all_goals (refine hret _ _ _ _ kF9 kN9 ⟨_, _, _, _, _, _, rfl, ?_, src_y0 _, src_y1 _, ?_, rfl⟩)
  all_goals first
    | exact Int.le_refl 0
    | assumption
    | exact allLt_of (by assumption)
    | (clear kF9 kN9; omega)
theorem source_go {w : World} {al : Addr} {ws : List Value} {l : List Int} {news : List (Addr × Obj)} {mean : ExcName → Option Value} {mg mb : Str → Option Value} {dp un : Nat} {gd : Option (List Code)} {cn : Str} {cs : Scope} {aF : Addr} {ccd : Value} {cl : List (Str × Addr)} {outer : List Env} {A₀ : Around} {base h₀ : Heap} {LF : Addr} {mF : Str → Option Value} {sF : Shared} {Q E : Value → Shared → Prop} {f9 : Addr} {vs9 : List Value} {news9 : List (Addr × Obj)}
    (ret : ∀ (h9 : Heap) (kk9 : Nat) (src : Addr) (x y : Int) (tx ty : Tok) (n : Nat), Fr h₀ LF h9 mF → News h₀ LF h9 ((src, listOf #[.int x tx, .int y ty] n) :: news) → 0 ≤ x → 0 ≤ y → y < 2 ^ 33 → AllLt src news → Q (.ref src) { sF with heap := h9, toks := kk9 })
    (hf9 : f9 = 226 := by exact rfl) (hv9 : vs9 = [.ref al] := by exact rfl) (hL0 : h₀.IsList al ws.toArray := by assumption) (hB9 : Below A₀ base outer h₀ := by k_asm) (hF9 : Fr h₀ LF sF.heap mF := by k_asm) (hX9 : (hd.heap_1 w.params).In h₀ := by k_asm) (hN9 : News h₀ LF sF.heap news9 := by k_asm) (hs9 : ∀ q9 ∈ (news : List (Addr × Obj)), q9 ∈ news9 := by exact fun _ h => h) (hT9 : Top hd.view_1 (looseW hd.view_1 [Str.ofString "RowsError", Str.ofString "int_value", Str.ofString "named"]) mean mg mb h₀ := by k_asm) (hk9 : cs.kind = .function := by first | exact rfl | assumption) (hd9 : dp + 8 < recursionLimit := by k_room) (hu9 : un + 8 * 8 < cLine := by k_units) (hI : IntsAre ws l := by assumption) (hl : l.length < 64 := by omega) :
    wpAny (model PySem.Challenge.rw_sf0040_01.row.prog w) (ktrTop dp un gd cn cs LF aF ccd cl outer) (call (.ref f9) vs9) Q E sF := by
  subst hf9 hv9
  refine CtrL.use (source_ctr hI hl) hL0 hB9 hF9 hX9 hN9 hs9 hT9 hk9 hd9 hu9 ?_
  rintro v9 h9 kk9 n9 hF8 hN8 ⟨src, x, y, tx, ty, n, rfl, b3, b4, b5, ls, rfl⟩
  exact ret h9 kk9 _ _ _ _ _ _ hF8 hN8 b3 b4 b5 ls
end

section
set_option maxRecDepth 100000
set_option maxHeartbeats 4000000
theorem digitU {w : World} {a : Addr} {x y : Int} {tx ty tm : Tok} {n : Nat} {mm : Int} {news : List (Addr × Obj)} {news' : Obj → List (Addr × Obj)} (h0 : 0 ≤ x) (hy : 0 ≤ y) (hy2 : y < 2 ^ 33) (hm : 2 ≤ mm) (hm' : mm ≤ 4) (U : ∀ o, Upd a (listOf #[.int x tx, .int y ty] n) o news (news' o)) :
    Ctr w 233 2 news [.ref a, .int mm tm]
      (fun v nw => ∃ d t x' y' tx' ty' n', v = .int d t ∧ 0 ≤ d ∧ d < mm ∧ 0 ≤ x' ∧ 0 ≤ y' ∧ y' < 2 ^ 33 ∧ nw = news' (listOf #[.int x' tx', .int y' ty'] n')) := by
  intro mean mg mb dp un gd cn cs ac ccd cl outer A₀ base h₀ L m s Q E B F X N T hk hd hu hret
  obtain ⟨pre, post, e1, e2, a1, a2⟩ := (U (listOf #[] 0)).split
  have hne : ∀ p ∈ pre ++ post, p.1 ≠ a := fun p hp => (List.mem_append.mp hp).elim (a1 p) (a2 p)
  refine Ctr.use (digit (tx := tx) (ty := ty) (n := n) (news := pre ++ post) h0 hy hy2 hm hm' hne) B F X N (fun p hp => ?_) T hk hd hu ?_
  · rw [e1]
    simp only [List.mem_cons, List.mem_append] at hp ⊢
    rcases hp with h | h | h <;> simp [h]
  · rintro v h' tk' nw F' N' ⟨d, t, x', y', tx', ty', n', rfl, b1, b2, b3, b4, b5, rfl⟩
    refine hret _ _ _ _ F' ?_ ⟨d, t, x', y', tx', ty', n', rfl, b1, b2, b3, b4, b5, rfl⟩
    obtain ⟨pre', post', f1, f2, c1, c2⟩ := (U (listOf #[.int x' tx', .int y' ty'] n')).split
    rw [f2]
    have key : ∀ p ∈ news, p.1 ≠ a → News h₀ L h' [p] := fun p hp hpa => by
      rw [e1] at hp
      intro q hq
      rw [List.mem_singleton.mp hq]
      rcases List.mem_append.mp hp with h | h
      · exact N' p (.tail _ (List.mem_append_left _ h))
      · rcases List.mem_cons.mp h with h | h
        · exact absurd (by rw [h]) hpa
        · exact N' p (.tail _ (List.mem_append_right _ h))
    intro p hp
    rcases List.mem_append.mp hp with h | h
    · exact key p (by rw [f1]; exact List.mem_append_left _ h) (c1 p h) p (.head _)
    · rcases List.mem_cons.mp h with h | h
      · rw [h]; exact N' _ (.head _)
      · exact key p (by rw [f1]; exact List.mem_append_right _ (.tail _ h)) (c2 p h) p (.head _)
section
variable {prog : Program} {w : World} {A : Around} {E : Value → Shared → Prop} {s : Shared} {h₀ : Heap} {L : Addr} {news : List (Addr × Obj)}
theorem sub4 {value slice : PySem.Expr} {l : Addr} {a b c d : Str} {ta tb tc td : Tok} {n : Nat} {k : Int} {u : Tok} {Q : Value → Shared → Prop} (h0 : 0 ≤ k := by with_reducible assumption) (h4 : k < 4 := by with_reducible assumption) (N : News h₀ L s.heap news := by k_asm) (hl : (l, listOf #[.str a ta, .str b tb, .str c tc, .str d td] n) ∈ news := by k_mem) (h : ∀ x t, Q (.str x t) s)
    (hs : subscripted slice false (.ref l) (.int k u) = operate [.ref l, .int k u] (getItem (.ref l) (.int k u)) := by with_unfolding_all rfl) :
    wpAny (model prog w) A (subscriptTail value slice (.ref l) (.int k u)) Q E s := by
  have hL := News.isList N hl
  have : k = 0 ∨ k = 1 ∨ k = 2 ∨ k = 3 := by omega
  rcases this with rfl | rfl | rfl | rfl
  · exact item_litK hL (by decide) (by decide) rfl (h _ _) hs
  · exact item_litK hL (by decide) (by decide) rfl (h _ _) hs
  · exact item_litK hL (by decide) (by decide) rfl (h _ _) hs
  · exact item_litK hL (by decide) (by decide) rfl (h _ _) hs
end
theorem Ctr.imp {w : World} {f : Addr} {need : Nat} {news : List (Addr × Obj)} {vs : List Value} {P P' : Value → List (Addr × Obj) → Prop} (C : Ctr w f need news vs P) (h : ∀ v n, P v n → P' v n) : Ctr w f need news vs P' := by
  intro mean mg mb dp un gd cn cs ac ccd cl outer A₀ base h₀ L m s Q E B F X N T hk hd hu hret
  exact C mean mg mb dp un gd cn cs ac ccd cl outer A₀ base h₀ L m s Q E B F X N T hk hd hu fun v h' tk n F N p => hret v h' tk n F N (h v n p)
theorem Vals.cast {news : List (Addr × Obj)} {vs : List Value} {d d' c c' : Nat} (h : Vals news vs d c) (hd : d = d') (hc : c = c') : Vals news vs d' c' := hd ▸ hc ▸ h
theorem digit4_go {w : World} {a : Addr} {x y : Int} {tx ty tm : Tok} {n : Nat} {news : List (Addr × Obj)} {newsU : Obj → List (Addr × Obj)} {mean : ExcName → Option Value} {mg mb : Str → Option Value} {dp un : Nat} {gd : Option (List Code)} {cn : Str} {cs : Scope} {aF : Addr} {ccd : Value} {cl : List (Str × Addr)} {outer : List Env} {A₀ : Around} {base h₀ : Heap} {LF : Addr} {mF : Str → Option Value} {sF : Shared} {Q E : Value → Shared → Prop} {f9 : Addr} {vs9 : List Value} {news9 : List (Addr × Obj)}
    (ret : ∀ (h9 : Heap) (kk9 : Nat) (dg : Int) (dt : Tok) (x2 y2 : Int) (tx2 ty2 : Tok) (n2 : Nat), Fr h₀ LF h9 mF → News h₀ LF h9 (newsU (listOf #[.int x2 tx2, .int y2 ty2] n2)) → 0 ≤ dg → dg < 4 → 0 ≤ x2 → 0 ≤ y2 → y2 < 2 ^ 33 → Q (.int dg dt) { sF with heap := h9, toks := kk9 })
    (hf9 : f9 = 233 := by exact rfl) (hv9 : vs9 = [.ref a, .int 4 tm] := by exact rfl) (hB9 : Below A₀ base outer h₀ := by k_asm) (hF9 : Fr h₀ LF sF.heap mF := by k_asm) (hX9 : (hd.heap_1 w.params).In h₀ := by k_asm) (hN9 : News h₀ LF sF.heap news9 := by k_asm) (hs9 : ∀ q9 ∈ (news : List (Addr × Obj)), q9 ∈ news9 := by exact fun _ h => h) (hT9 : Top hd.view_1 (looseW hd.view_1 [Str.ofString "RowsError", Str.ofString "int_value", Str.ofString "named"]) mean mg mb h₀ := by k_asm) (hk9 : cs.kind = .function := by first | exact rfl | assumption) (hd9 : dp + 2 < recursionLimit := by k_room) (hu9 : un + 8 * 2 < cLine := by k_units) (hU : ∀ o, Upd a (listOf #[.int x tx, .int y ty] n) o news (newsU o) := by intro o9; k_upd) (h0 : 0 ≤ x := by assumption) (hy : 0 ≤ y := by assumption) (hy2 : y < 2 ^ 33 := by assumption) :
    wpAny (model PySem.Challenge.rw_sf0040_01.row.prog w) (ktrTop dp un gd cn cs LF aF ccd cl outer) (call (.ref f9) vs9) Q E sF := by
  subst hf9 hv9
  refine Ctr.use (digitU (tm := tm) h0 hy hy2 (mm := 4) (by decide) (by decide) hU) hB9 hF9 hX9 hN9 hs9 hT9 hk9 hd9 hu9 ?_
  rintro v9 h9 kk9 n9 hF8 hN8 ⟨dg, dt, x2, y2, tx2, ty2, n2, rfl, b1, b2, b3, b4, b5, rfl⟩
  exact ret h9 kk9 _ _ _ _ _ _ _ hF8 hN8 b1 b2 b3 b4 b5
theorem digit2_go {w : World} {a : Addr} {x y : Int} {tx ty tm : Tok} {n : Nat} {news : List (Addr × Obj)} {newsU : Obj → List (Addr × Obj)} {mean : ExcName → Option Value} {mg mb : Str → Option Value} {dp un : Nat} {gd : Option (List Code)} {cn : Str} {cs : Scope} {aF : Addr} {ccd : Value} {cl : List (Str × Addr)} {outer : List Env} {A₀ : Around} {base h₀ : Heap} {LF : Addr} {mF : Str → Option Value} {sF : Shared} {Q E : Value → Shared → Prop} {f9 : Addr} {vs9 : List Value} {news9 : List (Addr × Obj)}
    (ret : ∀ (h9 : Heap) (kk9 : Nat) (dg : Int) (dt : Tok) (x2 y2 : Int) (tx2 ty2 : Tok) (n2 : Nat), Fr h₀ LF h9 mF → News h₀ LF h9 (newsU (listOf #[.int x2 tx2, .int y2 ty2] n2)) → 0 ≤ dg → dg < 2 → 0 ≤ x2 → 0 ≤ y2 → y2 < 2 ^ 33 → Q (.int dg dt) { sF with heap := h9, toks := kk9 })
    (hf9 : f9 = 233 := by exact rfl) (hv9 : vs9 = [.ref a, .int 2 tm] := by exact rfl) (hB9 : Below A₀ base outer h₀ := by k_asm) (hF9 : Fr h₀ LF sF.heap mF := by k_asm) (hX9 : (hd.heap_1 w.params).In h₀ := by k_asm) (hN9 : News h₀ LF sF.heap news9 := by k_asm) (hs9 : ∀ q9 ∈ (news : List (Addr × Obj)), q9 ∈ news9 := by exact fun _ h => h) (hT9 : Top hd.view_1 (looseW hd.view_1 [Str.ofString "RowsError", Str.ofString "int_value", Str.ofString "named"]) mean mg mb h₀ := by k_asm) (hk9 : cs.kind = .function := by first | exact rfl | assumption) (hd9 : dp + 2 < recursionLimit := by k_room) (hu9 : un + 8 * 2 < cLine := by k_units) (hU : ∀ o, Upd a (listOf #[.int x tx, .int y ty] n) o news (newsU o) := by intro o9; k_upd) (h0 : 0 ≤ x := by assumption) (hy : 0 ≤ y := by assumption) (hy2 : y < 2 ^ 33 := by assumption) :
    wpAny (model PySem.Challenge.rw_sf0040_01.row.prog w) (ktrTop dp un gd cn cs LF aF ccd cl outer) (call (.ref f9) vs9) Q E sF := by
  subst hf9 hv9
  refine Ctr.use (digitU (tm := tm) h0 hy hy2 (mm := 2) (by decide) (by decide) hU) hB9 hF9 hX9 hN9 hs9 hT9 hk9 hd9 hu9 ?_
  rintro v9 h9 kk9 n9 hF8 hN8 ⟨dg, dt, x2, y2, tx2, ty2, n2, rfl, b1, b2, b3, b4, b5, rfl⟩
  exact ret h9 kk9 _ _ _ _ _ _ _ hF8 hN8 b1 b2 b3 b4 b5
theorem digit3_go {w : World} {a : Addr} {x y : Int} {tx ty tm : Tok} {n : Nat} {news : List (Addr × Obj)} {newsU : Obj → List (Addr × Obj)} {mean : ExcName → Option Value} {mg mb : Str → Option Value} {dp un : Nat} {gd : Option (List Code)} {cn : Str} {cs : Scope} {aF : Addr} {ccd : Value} {cl : List (Str × Addr)} {outer : List Env} {A₀ : Around} {base h₀ : Heap} {LF : Addr} {mF : Str → Option Value} {sF : Shared} {Q E : Value → Shared → Prop} {f9 : Addr} {vs9 : List Value} {news9 : List (Addr × Obj)}
    (r0 : ∀ (h9 : Heap) (kk9 : Nat) (dt : Tok) (x2 y2 : Int) (tx2 ty2 : Tok) (n2 : Nat), Fr h₀ LF h9 mF → News h₀ LF h9 (newsU (listOf #[.int x2 tx2, .int y2 ty2] n2)) → 0 ≤ x2 → 0 ≤ y2 → y2 < 2 ^ 33 → Q (.int 0 dt) { sF with heap := h9, toks := kk9 }) (r1 : ∀ (h9 : Heap) (kk9 : Nat) (dt : Tok) (x2 y2 : Int) (tx2 ty2 : Tok) (n2 : Nat), Fr h₀ LF h9 mF → News h₀ LF h9 (newsU (listOf #[.int x2 tx2, .int y2 ty2] n2)) → 0 ≤ x2 → 0 ≤ y2 → y2 < 2 ^ 33 → Q (.int 1 dt) { sF with heap := h9, toks := kk9 }) (r2 : ∀ (h9 : Heap) (kk9 : Nat) (dt : Tok) (x2 y2 : Int) (tx2 ty2 : Tok) (n2 : Nat), Fr h₀ LF h9 mF → News h₀ LF h9 (newsU (listOf #[.int x2 tx2, .int y2 ty2] n2)) → 0 ≤ x2 → 0 ≤ y2 → y2 < 2 ^ 33 → Q (.int 2 dt) { sF with heap := h9, toks := kk9 })
    (hf9 : f9 = 233 := by exact rfl) (hv9 : vs9 = [.ref a, .int 3 tm] := by exact rfl) (hB9 : Below A₀ base outer h₀ := by k_asm) (hF9 : Fr h₀ LF sF.heap mF := by k_asm) (hX9 : (hd.heap_1 w.params).In h₀ := by k_asm) (hN9 : News h₀ LF sF.heap news9 := by k_asm) (hs9 : ∀ q9 ∈ (news : List (Addr × Obj)), q9 ∈ news9 := by exact fun _ h => h) (hT9 : Top hd.view_1 (looseW hd.view_1 [Str.ofString "RowsError", Str.ofString "int_value", Str.ofString "named"]) mean mg mb h₀ := by k_asm) (hk9 : cs.kind = .function := by first | exact rfl | assumption) (hd9 : dp + 2 < recursionLimit := by k_room) (hu9 : un + 8 * 2 < cLine := by k_units) (hU : ∀ o, Upd a (listOf #[.int x tx, .int y ty] n) o news (newsU o) := by intro o9; k_upd) (h0 : 0 ≤ x := by assumption) (hy : 0 ≤ y := by assumption) (hy2 : y < 2 ^ 33 := by assumption) :
    wpAny (model PySem.Challenge.rw_sf0040_01.row.prog w) (ktrTop dp un gd cn cs LF aF ccd cl outer) (call (.ref f9) vs9) Q E sF := by
  subst hf9 hv9
  refine Ctr.use (digitU (tm := tm) h0 hy hy2 (mm := 3) (by decide) (by decide) hU) hB9 hF9 hX9 hN9 hs9 hT9 hk9 hd9 hu9 ?_
  rintro v9 h9 kk9 n9 hF8 hN8 ⟨dg, dt, x2, y2, tx2, ty2, n2, rfl, b1, b2, b3, b4, b5, rfl⟩
  rcases (show dg = 0 ∨ dg = 1 ∨ dg = 2 by omega) with rfl | rfl | rfl
  · exact r0 h9 kk9 _ _ _ _ _ _ hF8 hN8 b3 b4 b5
  · exact r1 h9 kk9 _ _ _ _ _ _ hF8 hN8 b3 b4 b5
  · exact r2 h9 kk9 _ _ _ _ _ _ hF8 hN8 b3 b4 b5
theorem dmk1 {w : World} {tl news : List (Addr × Obj)} {Tr q al s0 a : Addr} {lv C n ns : Nat} {x z : Str} {tx ts t u1 u2 k1 : Tok} {u3 k2 : Nat} (hT : TreeIn tl (.ref Tr) lv C) (hx : (Tr, tupO [.str (Str.ofString "expr") u1, .str z u2, .ref q] u3) ∈ tl) (htl : ∀ p ∈ tl, p ∈ news) (ma : (a, tupO [.str (Str.ofString "tree") k1, .ref Tr] k2) ∈ news) (h96 : 96 ≤ lv) (hC : C ≤ 300) (h99 : lv ≤ 99) :
    Ctr w 247 32 ((al, listOf #[.ref s0, .ref a] n) :: (s0, tupO [.str (Str.ofString "sym") ts, .str x tx] ns) :: news) [.str (Str.ofString "make_expr") t, .ref al] (fun r n' => Made [.ref a] lv (C + 0) x tx ([(a, tupO [.str (Str.ofString "tree") k1, .ref Tr] k2)] ++ tl) news r n' ∧ ∀ p ∈ [(a, tupO [.str (Str.ofString "tree") k1, .ref Tr] k2)] ++ tl, p ∈ news) := by
  have hb : ∀ p ∈ [(a, tupO [.str (Str.ofString "tree") k1, .ref Tr] k2)] ++ tl, p ∈ news := fun p hp => by
    simp only [List.mem_append, List.mem_cons, List.not_mem_nil, or_false] at hp
    rcases hp with h | h
    · rw [h]; exact ma
    · exact htl p h
  exact Ctr.imp (did_make (vs := [.ref a]) hb (Vals.cast (.one (.tree (.head _) (List.mem_append_right _ hx) (hT.mono fun p hp => List.mem_append_right _ hp))) (by omega) (by omega)) (by omega) (by omega)) fun v n p => ⟨p, hb⟩
theorem dto1 {w : World} {tl news : List (Addr × Obj)} {Tr q al s0 a : Addr} {lv C n ns : Nat} {x z : Str} {tx ts t u1 u2 k1 : Tok} {u3 k2 : Nat} (hT : TreeIn tl (.ref Tr) lv C) (hx : (Tr, tupO [.str (Str.ofString "expr") u1, .str z u2, .ref q] u3) ∈ tl) (htl : ∀ p ∈ tl, p ∈ news) (ma : (a, tupO [.str (Str.ofString "tree") k1, .ref Tr] k2) ∈ news) (h96 : 96 ≤ lv) (hC : C ≤ 300) (h99 : 100 ≤ lv) :
    Ctr0 w 247 32 ((al, listOf #[.ref s0, .ref a] n) :: (s0, tupO [.str (Str.ofString "sym") ts, .str x tx] ns) :: news) [.str (Str.ofString "make_expr") t, .ref al] (fun v n' => (∃ t, v = .str (Str.ofString "ErrorException") t) ∧ n' = news) := by
  have hb : ∀ p ∈ [(a, tupO [.str (Str.ofString "tree") k1, .ref Tr] k2)] ++ tl, p ∈ news := fun p hp => by
    simp only [List.mem_append, List.mem_cons, List.not_mem_nil, or_false] at hp
    rcases hp with h | h
    · rw [h]; exact ma
    · exact htl p h
  exact did_too (vs := [.ref a]) hb (Vals.cast (d' := lv) (c' := C + 0) (.one (.tree (.head _) (List.mem_append_right _ hx) (hT.mono fun p hp => List.mem_append_right _ hp))) (by omega) (by omega)) (by omega) (by omega)
theorem dx1_go {w : World} {tl news : List (Addr × Obj)} {Tr q al s0 a : Addr} {lv C n ns : Nat} {x z : Str} {tx ts t u1 u2 k1 : Tok} {u3 k2 : Nat} {mean : ExcName → Option Value} {mg mb : Str → Option Value} {dp un : Nat} {gd : Option (List Code)} {cn : Str} {cs : Scope} {aF : Addr} {ccd : Value} {A₀ : Around} {h₀ : Heap} {LF : Addr} {mF : Str → Option Value} {sF : Shared} {Q E : Value → Shared → Prop} {f9 : Addr} {vs9 : List Value} {news9 : List (Addr × Obj)}
    (ret1 : ∀ (h9 : Heap) (kk9 : Nat) (W t p : Addr) (us : List Value) (ex : List (Addr × Obj)) (t1 t2 : Tok), Fr h₀ LF h9 mF → News h₀ LF h9 ((W, tupO [.str (Str.ofString "tree") t1, .ref t] 0) :: (t, tupO [.str (Str.ofString "expr") t2, .str x tx, .ref p] 0) :: (p, tupO us 0) :: (ex ++ news)) → AllLt W news → AllLt t news → AllLt p news → (∀ q ∈ ex, AllLt q.1 news) → Parts (ex ++ ([(a, tupO [.str (Str.ofString "tree") k1, .ref Tr] k2)] ++ tl)) us [.ref a] lv (C + 0) → (∀ p ∈ [(a, tupO [.str (Str.ofString "tree") k1, .ref Tr] k2)] ++ tl, p ∈ news) → lv ≤ 99 → Q (.ref W) { sF with heap := h9, toks := kk9 }) (ret2 : ∀ (h9 : Heap) (kk9 : Nat) (t7 : Tok), Fr h₀ LF h9 mF → News h₀ LF h9 (news) → 100 ≤ lv → Q (.str (Str.ofString "ErrorException") t7) { sF with heap := h9, toks := kk9 })
    (hf9 : f9 = 247 := by exact rfl) (hv9 : vs9 = [.str (Str.ofString "make_expr") t, .ref al] := by exact rfl) (hB9 : Below A₀ h₀ [] h₀ := by k_asm) (hF9 : Fr h₀ LF sF.heap mF := by k_asm) (hX9 : (hd.heap_1 w.params).In h₀ := by k_asm) (hN9 : News h₀ LF sF.heap news9 := by k_asm) (hs9 : ∀ q9 ∈ ((al, listOf #[.ref s0, .ref a] n) :: (s0, tupO [.str (Str.ofString "sym") ts, .str x tx] ns) :: news : List (Addr × Obj)), q9 ∈ news9 := by refine List.forall_mem_cons.mpr ⟨?_, List.forall_mem_cons.mpr ⟨?_, fun _ h => h⟩⟩ <;> k_mem) (hT9 : Top hd.view_1 (looseW hd.view_1 [Str.ofString "RowsError", Str.ofString "int_value", Str.ofString "named"]) mean mg mb h₀ := by k_asm) (hk9 : cs.kind = .function := by first | exact rfl | assumption) (hd9 : dp + 32 < recursionLimit := by k_room) (hu9 : un + 8 * 32 < cLine := by k_units) (ma : (a, tupO [.str (Str.ofString "tree") k1, .ref Tr] k2) ∈ news := by k_mem) (hT : TreeIn tl (.ref Tr) lv C := by assumption) (hx : (Tr, tupO [.str (Str.ofString "expr") u1, .str z u2, .ref q] u3) ∈ tl := by assumption) (htl : ∀ p ∈ tl, p ∈ news := by kpc_g) (h96 : 96 ≤ lv := by omega) (hC : C ≤ 300 := by omega) :
    wpAny (model PySem.Challenge.rw_sf0040_01.row.prog w) (ktrTop dp un gd cn cs LF aF ccd [] []) (call (.ref f9) vs9) Q E sF := by
  subst hf9 hv9
  rcases Nat.lt_or_ge 99 lv with h99 | h99
  · refine Ctr0.use (dto1 (al := al) (n := n) (s0 := s0) (ts := ts) (ns := ns) (x := x) (tx := tx) (t := t) hT hx htl ma h96 hC (by omega)) hB9 hF9 hX9 hN9 hs9 hT9 hk9 hd9 hu9 ?_
    rintro v9 h9 kk9 n9 hF8 hN8 ⟨⟨t7, rfl⟩, rfl⟩
    exact ret2 h9 kk9 _ hF8 hN8 h99
  · refine Ctr.use (dmk1 (al := al) (n := n) (s0 := s0) (ts := ts) (ns := ns) (x := x) (tx := tx) (t := t) hT hx htl ma h96 hC (by omega)) hB9 hF9 hX9 hN9 hs9 hT9 hk9 hd9 hu9 ?_
    rintro v9 h9 kk9 n9 hF8 hN8 ⟨⟨W, t, p, us, ex, t1, t2, rfl, rfl, a1, a2, a3, a4, hp⟩, hbk⟩
    exact ret1 h9 kk9 _ _ _ _ _ _ _ hF8 hN8 a1 a2 a3 a4 hp hbk (by omega)
theorem dmk2 {w : World} {tl news : List (Addr × Obj)} {Tr q al s0 a b : Addr} {lv C n ns : Nat} {x z : Str} {tx ts t u1 u2 k1 k3 k4 : Tok} {u3 k2 k5 : Nat} {z3 : Str} (hT : TreeIn tl (.ref Tr) lv C) (hx : (Tr, tupO [.str (Str.ofString "expr") u1, .str z u2, .ref q] u3) ∈ tl) (htl : ∀ p ∈ tl, p ∈ news) (ma : (a, tupO [.str (Str.ofString "tree") k1, .ref Tr] k2) ∈ news) (mb : (b, tupO [.str (Str.ofString "sym") k3, .str z3 k4] k5) ∈ news) (h96 : 96 ≤ lv) (hC : C ≤ 300) (h99 : lv ≤ 99) :
    Ctr w 247 32 ((al, listOf #[.ref s0, .ref b, .ref a] n) :: (s0, tupO [.str (Str.ofString "sym") ts, .str x tx] ns) :: news) [.str (Str.ofString "make_expr") t, .ref al] (fun r n' => Made [.ref b, .ref a] lv (C + 1) x tx ([(a, tupO [.str (Str.ofString "tree") k1, .ref Tr] k2), (b, tupO [.str (Str.ofString "sym") k3, .str z3 k4] k5)] ++ tl) news r n' ∧ ∀ p ∈ [(a, tupO [.str (Str.ofString "tree") k1, .ref Tr] k2), (b, tupO [.str (Str.ofString "sym") k3, .str z3 k4] k5)] ++ tl, p ∈ news) := by
  have hb : ∀ p ∈ [(a, tupO [.str (Str.ofString "tree") k1, .ref Tr] k2), (b, tupO [.str (Str.ofString "sym") k3, .str z3 k4] k5)] ++ tl, p ∈ news := fun p hp => by
    simp only [List.mem_append, List.mem_cons, List.not_mem_nil, or_false] at hp
    rcases hp with (h | h) | h
    · rw [h]; exact ma
    · rw [h]; exact mb
    · exact htl p h
  exact Ctr.imp (did_make (vs := [.ref b, .ref a]) hb (Vals.cast (.two (.sym (.tail _ (.head _))) (.tree (.head _) (List.mem_append_right _ hx) (hT.mono fun p hp => List.mem_append_right _ hp))) (by omega) (by omega)) (by omega) (by omega)) fun v n p => ⟨p, hb⟩
theorem dto2 {w : World} {tl news : List (Addr × Obj)} {Tr q al s0 a b : Addr} {lv C n ns : Nat} {x z : Str} {tx ts t u1 u2 k1 k3 k4 : Tok} {u3 k2 k5 : Nat} {z3 : Str} (hT : TreeIn tl (.ref Tr) lv C) (hx : (Tr, tupO [.str (Str.ofString "expr") u1, .str z u2, .ref q] u3) ∈ tl) (htl : ∀ p ∈ tl, p ∈ news) (ma : (a, tupO [.str (Str.ofString "tree") k1, .ref Tr] k2) ∈ news) (mb : (b, tupO [.str (Str.ofString "sym") k3, .str z3 k4] k5) ∈ news) (h96 : 96 ≤ lv) (hC : C ≤ 300) (h99 : 100 ≤ lv) :
    Ctr0 w 247 32 ((al, listOf #[.ref s0, .ref b, .ref a] n) :: (s0, tupO [.str (Str.ofString "sym") ts, .str x tx] ns) :: news) [.str (Str.ofString "make_expr") t, .ref al] (fun v n' => (∃ t, v = .str (Str.ofString "ErrorException") t) ∧ n' = news) := by
  have hb : ∀ p ∈ [(a, tupO [.str (Str.ofString "tree") k1, .ref Tr] k2), (b, tupO [.str (Str.ofString "sym") k3, .str z3 k4] k5)] ++ tl, p ∈ news := fun p hp => by
    simp only [List.mem_append, List.mem_cons, List.not_mem_nil, or_false] at hp
    rcases hp with (h | h) | h
    · rw [h]; exact ma
    · rw [h]; exact mb
    · exact htl p h
  exact did_too (vs := [.ref b, .ref a]) hb (Vals.cast (d' := lv) (c' := C + 1) (.two (.sym (.tail _ (.head _))) (.tree (.head _) (List.mem_append_right _ hx) (hT.mono fun p hp => List.mem_append_right _ hp))) (by omega) (by omega)) (by omega) (by omega)
theorem dx2_go {w : World} {tl news : List (Addr × Obj)} {Tr q al s0 a b : Addr} {lv C n ns : Nat} {x z : Str} {tx ts t u1 u2 k1 k3 k4 : Tok} {u3 k2 k5 : Nat} {z3 : Str} {mean : ExcName → Option Value} {mg mb : Str → Option Value} {dp un : Nat} {gd : Option (List Code)} {cn : Str} {cs : Scope} {aF : Addr} {ccd : Value} {A₀ : Around} {h₀ : Heap} {LF : Addr} {mF : Str → Option Value} {sF : Shared} {Q E : Value → Shared → Prop} {f9 : Addr} {vs9 : List Value} {news9 : List (Addr × Obj)}
    (ret1 : ∀ (h9 : Heap) (kk9 : Nat) (W t p : Addr) (us : List Value) (ex : List (Addr × Obj)) (t1 t2 : Tok), Fr h₀ LF h9 mF → News h₀ LF h9 ((W, tupO [.str (Str.ofString "tree") t1, .ref t] 0) :: (t, tupO [.str (Str.ofString "expr") t2, .str x tx, .ref p] 0) :: (p, tupO us 0) :: (ex ++ news)) → AllLt W news → AllLt t news → AllLt p news → (∀ q ∈ ex, AllLt q.1 news) → Parts (ex ++ ([(a, tupO [.str (Str.ofString "tree") k1, .ref Tr] k2), (b, tupO [.str (Str.ofString "sym") k3, .str z3 k4] k5)] ++ tl)) us [.ref b, .ref a] lv (C + 1) → (∀ p ∈ [(a, tupO [.str (Str.ofString "tree") k1, .ref Tr] k2), (b, tupO [.str (Str.ofString "sym") k3, .str z3 k4] k5)] ++ tl, p ∈ news) → lv ≤ 99 → Q (.ref W) { sF with heap := h9, toks := kk9 }) (ret2 : ∀ (h9 : Heap) (kk9 : Nat) (t7 : Tok), Fr h₀ LF h9 mF → News h₀ LF h9 (news) → 100 ≤ lv → Q (.str (Str.ofString "ErrorException") t7) { sF with heap := h9, toks := kk9 })
    (hf9 : f9 = 247 := by exact rfl) (hv9 : vs9 = [.str (Str.ofString "make_expr") t, .ref al] := by exact rfl) (hB9 : Below A₀ h₀ [] h₀ := by k_asm) (hF9 : Fr h₀ LF sF.heap mF := by k_asm) (hX9 : (hd.heap_1 w.params).In h₀ := by k_asm) (hN9 : News h₀ LF sF.heap news9 := by k_asm) (hs9 : ∀ q9 ∈ ((al, listOf #[.ref s0, .ref b, .ref a] n) :: (s0, tupO [.str (Str.ofString "sym") ts, .str x tx] ns) :: news : List (Addr × Obj)), q9 ∈ news9 := by refine List.forall_mem_cons.mpr ⟨?_, List.forall_mem_cons.mpr ⟨?_, fun _ h => h⟩⟩ <;> k_mem) (hT9 : Top hd.view_1 (looseW hd.view_1 [Str.ofString "RowsError", Str.ofString "int_value", Str.ofString "named"]) mean mg mb h₀ := by k_asm) (hk9 : cs.kind = .function := by first | exact rfl | assumption) (hd9 : dp + 32 < recursionLimit := by k_room) (hu9 : un + 8 * 32 < cLine := by k_units) (ma : (a, tupO [.str (Str.ofString "tree") k1, .ref Tr] k2) ∈ news := by k_mem) (mb : (b, tupO [.str (Str.ofString "sym") k3, .str z3 k4] k5) ∈ news := by k_mem) (hT : TreeIn tl (.ref Tr) lv C := by assumption) (hx : (Tr, tupO [.str (Str.ofString "expr") u1, .str z u2, .ref q] u3) ∈ tl := by assumption) (htl : ∀ p ∈ tl, p ∈ news := by kpc_g) (h96 : 96 ≤ lv := by omega) (hC : C ≤ 300 := by omega) :
    wpAny (model PySem.Challenge.rw_sf0040_01.row.prog w) (ktrTop dp un gd cn cs LF aF ccd [] []) (call (.ref f9) vs9) Q E sF := by
  subst hf9 hv9
  rcases Nat.lt_or_ge 99 lv with h99 | h99
  · refine Ctr0.use (dto2 (al := al) (n := n) (s0 := s0) (ts := ts) (ns := ns) (x := x) (tx := tx) (t := t) hT hx htl ma mb h96 hC (by omega)) hB9 hF9 hX9 hN9 hs9 hT9 hk9 hd9 hu9 ?_
    rintro v9 h9 kk9 n9 hF8 hN8 ⟨⟨t7, rfl⟩, rfl⟩
    exact ret2 h9 kk9 _ hF8 hN8 h99
  · refine Ctr.use (dmk2 (al := al) (n := n) (s0 := s0) (ts := ts) (ns := ns) (x := x) (tx := tx) (t := t) hT hx htl ma mb h96 hC (by omega)) hB9 hF9 hX9 hN9 hs9 hT9 hk9 hd9 hu9 ?_
    rintro v9 h9 kk9 n9 hF8 hN8 ⟨⟨W, t, p, us, ex, t1, t2, rfl, rfl, a1, a2, a3, a4, hp⟩, hbk⟩
    exact ret1 h9 kk9 _ _ _ _ _ _ _ hF8 hN8 a1 a2 a3 a4 hp hbk (by omega)
theorem dmk3 {w : World} {tl news : List (Addr × Obj)} {Tr q al s0 a b : Addr} {lv C n ns : Nat} {x z : Str} {tx ts t u1 u2 k1 k3 k4 : Tok} {u3 k2 k5 : Nat} {z3 : Str} (hT : TreeIn tl (.ref Tr) lv C) (hx : (Tr, tupO [.str (Str.ofString "expr") u1, .str z u2, .ref q] u3) ∈ tl) (htl : ∀ p ∈ tl, p ∈ news) (ma : (a, tupO [.str (Str.ofString "tree") k1, .ref Tr] k2) ∈ news) (mb : (b, tupO [.str (Str.ofString "sym") k3, .str z3 k4] k5) ∈ news) (h96 : 96 ≤ lv) (hC : C ≤ 300) (h99 : lv ≤ 99) :
    Ctr w 247 32 ((al, listOf #[.ref s0, .ref a, .ref b] n) :: (s0, tupO [.str (Str.ofString "sym") ts, .str x tx] ns) :: news) [.str (Str.ofString "make_expr") t, .ref al] (fun r n' => Made [.ref a, .ref b] lv (C + 1) x tx ([(a, tupO [.str (Str.ofString "tree") k1, .ref Tr] k2), (b, tupO [.str (Str.ofString "sym") k3, .str z3 k4] k5)] ++ tl) news r n' ∧ ∀ p ∈ [(a, tupO [.str (Str.ofString "tree") k1, .ref Tr] k2), (b, tupO [.str (Str.ofString "sym") k3, .str z3 k4] k5)] ++ tl, p ∈ news) := by
  have hb : ∀ p ∈ [(a, tupO [.str (Str.ofString "tree") k1, .ref Tr] k2), (b, tupO [.str (Str.ofString "sym") k3, .str z3 k4] k5)] ++ tl, p ∈ news := fun p hp => by
    simp only [List.mem_append, List.mem_cons, List.not_mem_nil, or_false] at hp
    rcases hp with (h | h) | h
    · rw [h]; exact ma
    · rw [h]; exact mb
    · exact htl p h
  exact Ctr.imp (did_make (vs := [.ref a, .ref b]) hb (Vals.cast (.two (.tree (.head _) (List.mem_append_right _ hx) (hT.mono fun p hp => List.mem_append_right _ hp)) (.sym (.tail _ (.head _)))) (by omega) (by omega)) (by omega) (by omega)) fun v n p => ⟨p, hb⟩
theorem dto3 {w : World} {tl news : List (Addr × Obj)} {Tr q al s0 a b : Addr} {lv C n ns : Nat} {x z : Str} {tx ts t u1 u2 k1 k3 k4 : Tok} {u3 k2 k5 : Nat} {z3 : Str} (hT : TreeIn tl (.ref Tr) lv C) (hx : (Tr, tupO [.str (Str.ofString "expr") u1, .str z u2, .ref q] u3) ∈ tl) (htl : ∀ p ∈ tl, p ∈ news) (ma : (a, tupO [.str (Str.ofString "tree") k1, .ref Tr] k2) ∈ news) (mb : (b, tupO [.str (Str.ofString "sym") k3, .str z3 k4] k5) ∈ news) (h96 : 96 ≤ lv) (hC : C ≤ 300) (h99 : 100 ≤ lv) :
    Ctr0 w 247 32 ((al, listOf #[.ref s0, .ref a, .ref b] n) :: (s0, tupO [.str (Str.ofString "sym") ts, .str x tx] ns) :: news) [.str (Str.ofString "make_expr") t, .ref al] (fun v n' => (∃ t, v = .str (Str.ofString "ErrorException") t) ∧ n' = news) := by
  have hb : ∀ p ∈ [(a, tupO [.str (Str.ofString "tree") k1, .ref Tr] k2), (b, tupO [.str (Str.ofString "sym") k3, .str z3 k4] k5)] ++ tl, p ∈ news := fun p hp => by
    simp only [List.mem_append, List.mem_cons, List.not_mem_nil, or_false] at hp
    rcases hp with (h | h) | h
    · rw [h]; exact ma
    · rw [h]; exact mb
    · exact htl p h
  exact did_too (vs := [.ref a, .ref b]) hb (Vals.cast (d' := lv) (c' := C + 1) (.two (.tree (.head _) (List.mem_append_right _ hx) (hT.mono fun p hp => List.mem_append_right _ hp)) (.sym (.tail _ (.head _)))) (by omega) (by omega)) (by omega) (by omega)
theorem dx3_go {w : World} {tl news : List (Addr × Obj)} {Tr q al s0 a b : Addr} {lv C n ns : Nat} {x z : Str} {tx ts t u1 u2 k1 k3 k4 : Tok} {u3 k2 k5 : Nat} {z3 : Str} {mean : ExcName → Option Value} {mg mb : Str → Option Value} {dp un : Nat} {gd : Option (List Code)} {cn : Str} {cs : Scope} {aF : Addr} {ccd : Value} {A₀ : Around} {h₀ : Heap} {LF : Addr} {mF : Str → Option Value} {sF : Shared} {Q E : Value → Shared → Prop} {f9 : Addr} {vs9 : List Value} {news9 : List (Addr × Obj)}
    (ret1 : ∀ (h9 : Heap) (kk9 : Nat) (W t p : Addr) (us : List Value) (ex : List (Addr × Obj)) (t1 t2 : Tok), Fr h₀ LF h9 mF → News h₀ LF h9 ((W, tupO [.str (Str.ofString "tree") t1, .ref t] 0) :: (t, tupO [.str (Str.ofString "expr") t2, .str x tx, .ref p] 0) :: (p, tupO us 0) :: (ex ++ news)) → AllLt W news → AllLt t news → AllLt p news → (∀ q ∈ ex, AllLt q.1 news) → Parts (ex ++ ([(a, tupO [.str (Str.ofString "tree") k1, .ref Tr] k2), (b, tupO [.str (Str.ofString "sym") k3, .str z3 k4] k5)] ++ tl)) us [.ref a, .ref b] lv (C + 1) → (∀ p ∈ [(a, tupO [.str (Str.ofString "tree") k1, .ref Tr] k2), (b, tupO [.str (Str.ofString "sym") k3, .str z3 k4] k5)] ++ tl, p ∈ news) → lv ≤ 99 → Q (.ref W) { sF with heap := h9, toks := kk9 }) (ret2 : ∀ (h9 : Heap) (kk9 : Nat) (t7 : Tok), Fr h₀ LF h9 mF → News h₀ LF h9 (news) → 100 ≤ lv → Q (.str (Str.ofString "ErrorException") t7) { sF with heap := h9, toks := kk9 })
    (hf9 : f9 = 247 := by exact rfl) (hv9 : vs9 = [.str (Str.ofString "make_expr") t, .ref al] := by exact rfl) (hB9 : Below A₀ h₀ [] h₀ := by k_asm) (hF9 : Fr h₀ LF sF.heap mF := by k_asm) (hX9 : (hd.heap_1 w.params).In h₀ := by k_asm) (hN9 : News h₀ LF sF.heap news9 := by k_asm) (hs9 : ∀ q9 ∈ ((al, listOf #[.ref s0, .ref a, .ref b] n) :: (s0, tupO [.str (Str.ofString "sym") ts, .str x tx] ns) :: news : List (Addr × Obj)), q9 ∈ news9 := by refine List.forall_mem_cons.mpr ⟨?_, List.forall_mem_cons.mpr ⟨?_, fun _ h => h⟩⟩ <;> k_mem) (hT9 : Top hd.view_1 (looseW hd.view_1 [Str.ofString "RowsError", Str.ofString "int_value", Str.ofString "named"]) mean mg mb h₀ := by k_asm) (hk9 : cs.kind = .function := by first | exact rfl | assumption) (hd9 : dp + 32 < recursionLimit := by k_room) (hu9 : un + 8 * 32 < cLine := by k_units) (ma : (a, tupO [.str (Str.ofString "tree") k1, .ref Tr] k2) ∈ news := by k_mem) (mb : (b, tupO [.str (Str.ofString "sym") k3, .str z3 k4] k5) ∈ news := by k_mem) (hT : TreeIn tl (.ref Tr) lv C := by assumption) (hx : (Tr, tupO [.str (Str.ofString "expr") u1, .str z u2, .ref q] u3) ∈ tl := by assumption) (htl : ∀ p ∈ tl, p ∈ news := by kpc_g) (h96 : 96 ≤ lv := by omega) (hC : C ≤ 300 := by omega) :
    wpAny (model PySem.Challenge.rw_sf0040_01.row.prog w) (ktrTop dp un gd cn cs LF aF ccd [] []) (call (.ref f9) vs9) Q E sF := by
  subst hf9 hv9
  rcases Nat.lt_or_ge 99 lv with h99 | h99
  · refine Ctr0.use (dto3 (al := al) (n := n) (s0 := s0) (ts := ts) (ns := ns) (x := x) (tx := tx) (t := t) hT hx htl ma mb h96 hC (by omega)) hB9 hF9 hX9 hN9 hs9 hT9 hk9 hd9 hu9 ?_
    rintro v9 h9 kk9 n9 hF8 hN8 ⟨⟨t7, rfl⟩, rfl⟩
    exact ret2 h9 kk9 _ hF8 hN8 h99
  · refine Ctr.use (dmk3 (al := al) (n := n) (s0 := s0) (ts := ts) (ns := ns) (x := x) (tx := tx) (t := t) hT hx htl ma mb h96 hC (by omega)) hB9 hF9 hX9 hN9 hs9 hT9 hk9 hd9 hu9 ?_
    rintro v9 h9 kk9 n9 hF8 hN8 ⟨⟨W, t, p, us, ex, t1, t2, rfl, rfl, a1, a2, a3, a4, hp⟩, hbk⟩
    exact ret1 h9 kk9 _ _ _ _ _ _ _ hF8 hN8 a1 a2 a3 a4 hp hbk (by omega)
theorem dmk4 {w : World} {tl news : List (Addr × Obj)} {Tr q al s0 a b i : Addr} {lv C n ns : Nat} {x z : Str} {tx ts t u1 u2 k1 k3 k4 k6 k7 k8 : Tok} {u3 k2 k5 k9 : Nat} {z3 : Str} (hT : TreeIn tl (.ref Tr) lv C) (hx : (Tr, tupO [.str (Str.ofString "expr") u1, .str z u2, .ref q] u3) ∈ tl) (htl : ∀ p ∈ tl, p ∈ news) (ma : (a, tupO [.str (Str.ofString "tree") k1, .ref Tr] k2) ∈ news) (mb : (b, tupO [.str (Str.ofString "sym") k3, .str z3 k4] k5) ∈ news) (mi : (i, tupO [.str (Str.ofString "int") k6, .str (Str.ofString "Int64") k7, .int 5 k8] k9) ∈ news) (h96 : 96 ≤ lv) (hC : C ≤ 300) (h99 : lv ≤ 99) :
    Ctr w 247 32 ((al, listOf #[.ref s0, .ref b, .ref i, .ref a] n) :: (s0, tupO [.str (Str.ofString "sym") ts, .str x tx] ns) :: news) [.str (Str.ofString "make_expr") t, .ref al] (fun r n' => Made [.ref b, .ref i, .ref a] lv (C + 2) x tx ([(a, tupO [.str (Str.ofString "tree") k1, .ref Tr] k2), (b, tupO [.str (Str.ofString "sym") k3, .str z3 k4] k5), (i, tupO [.str (Str.ofString "int") k6, .str (Str.ofString "Int64") k7, .int 5 k8] k9)] ++ tl) news r n' ∧ ∀ p ∈ [(a, tupO [.str (Str.ofString "tree") k1, .ref Tr] k2), (b, tupO [.str (Str.ofString "sym") k3, .str z3 k4] k5), (i, tupO [.str (Str.ofString "int") k6, .str (Str.ofString "Int64") k7, .int 5 k8] k9)] ++ tl, p ∈ news) := by
  have hb : ∀ p ∈ [(a, tupO [.str (Str.ofString "tree") k1, .ref Tr] k2), (b, tupO [.str (Str.ofString "sym") k3, .str z3 k4] k5), (i, tupO [.str (Str.ofString "int") k6, .str (Str.ofString "Int64") k7, .int 5 k8] k9)] ++ tl, p ∈ news := fun p hp => by
    simp only [List.mem_append, List.mem_cons, List.not_mem_nil, or_false] at hp
    rcases hp with (h | h | h) | h
    · rw [h]; exact ma
    · rw [h]; exact mb
    · rw [h]; exact mi
    · exact htl p h
  exact Ctr.imp (did_make (vs := [.ref b, .ref i, .ref a]) hb (Vals.cast (.three (.sym (.tail _ (.head _))) (.int (.tail _ (.tail _ (.head _)))) (.tree (.head _) (List.mem_append_right _ hx) (hT.mono fun p hp => List.mem_append_right _ hp))) (by omega) (by omega)) (by omega) (by omega)) fun v n p => ⟨p, hb⟩
theorem dto4 {w : World} {tl news : List (Addr × Obj)} {Tr q al s0 a b i : Addr} {lv C n ns : Nat} {x z : Str} {tx ts t u1 u2 k1 k3 k4 k6 k7 k8 : Tok} {u3 k2 k5 k9 : Nat} {z3 : Str} (hT : TreeIn tl (.ref Tr) lv C) (hx : (Tr, tupO [.str (Str.ofString "expr") u1, .str z u2, .ref q] u3) ∈ tl) (htl : ∀ p ∈ tl, p ∈ news) (ma : (a, tupO [.str (Str.ofString "tree") k1, .ref Tr] k2) ∈ news) (mb : (b, tupO [.str (Str.ofString "sym") k3, .str z3 k4] k5) ∈ news) (mi : (i, tupO [.str (Str.ofString "int") k6, .str (Str.ofString "Int64") k7, .int 5 k8] k9) ∈ news) (h96 : 96 ≤ lv) (hC : C ≤ 300) (h99 : 100 ≤ lv) :
    Ctr0 w 247 32 ((al, listOf #[.ref s0, .ref b, .ref i, .ref a] n) :: (s0, tupO [.str (Str.ofString "sym") ts, .str x tx] ns) :: news) [.str (Str.ofString "make_expr") t, .ref al] (fun v n' => (∃ t, v = .str (Str.ofString "ErrorException") t) ∧ n' = news) := by
  have hb : ∀ p ∈ [(a, tupO [.str (Str.ofString "tree") k1, .ref Tr] k2), (b, tupO [.str (Str.ofString "sym") k3, .str z3 k4] k5), (i, tupO [.str (Str.ofString "int") k6, .str (Str.ofString "Int64") k7, .int 5 k8] k9)] ++ tl, p ∈ news := fun p hp => by
    simp only [List.mem_append, List.mem_cons, List.not_mem_nil, or_false] at hp
    rcases hp with (h | h | h) | h
    · rw [h]; exact ma
    · rw [h]; exact mb
    · rw [h]; exact mi
    · exact htl p h
  exact did_too (vs := [.ref b, .ref i, .ref a]) hb (Vals.cast (d' := lv) (c' := C + 2) (.three (.sym (.tail _ (.head _))) (.int (.tail _ (.tail _ (.head _)))) (.tree (.head _) (List.mem_append_right _ hx) (hT.mono fun p hp => List.mem_append_right _ hp))) (by omega) (by omega)) (by omega) (by omega)
theorem dx4_go {w : World} {tl news : List (Addr × Obj)} {Tr q al s0 a b i : Addr} {lv C n ns : Nat} {x z : Str} {tx ts t u1 u2 k1 k3 k4 k6 k7 k8 : Tok} {u3 k2 k5 k9 : Nat} {z3 : Str} {mean : ExcName → Option Value} {mg mb : Str → Option Value} {dp un : Nat} {gd : Option (List Code)} {cn : Str} {cs : Scope} {aF : Addr} {ccd : Value} {A₀ : Around} {h₀ : Heap} {LF : Addr} {mF : Str → Option Value} {sF : Shared} {Q E : Value → Shared → Prop} {f9 : Addr} {vs9 : List Value} {news9 : List (Addr × Obj)}
    (ret1 : ∀ (h9 : Heap) (kk9 : Nat) (W t p : Addr) (us : List Value) (ex : List (Addr × Obj)) (t1 t2 : Tok), Fr h₀ LF h9 mF → News h₀ LF h9 ((W, tupO [.str (Str.ofString "tree") t1, .ref t] 0) :: (t, tupO [.str (Str.ofString "expr") t2, .str x tx, .ref p] 0) :: (p, tupO us 0) :: (ex ++ news)) → AllLt W news → AllLt t news → AllLt p news → (∀ q ∈ ex, AllLt q.1 news) → Parts (ex ++ ([(a, tupO [.str (Str.ofString "tree") k1, .ref Tr] k2), (b, tupO [.str (Str.ofString "sym") k3, .str z3 k4] k5), (i, tupO [.str (Str.ofString "int") k6, .str (Str.ofString "Int64") k7, .int 5 k8] k9)] ++ tl)) us [.ref b, .ref i, .ref a] lv (C + 2) → (∀ p ∈ [(a, tupO [.str (Str.ofString "tree") k1, .ref Tr] k2), (b, tupO [.str (Str.ofString "sym") k3, .str z3 k4] k5), (i, tupO [.str (Str.ofString "int") k6, .str (Str.ofString "Int64") k7, .int 5 k8] k9)] ++ tl, p ∈ news) → lv ≤ 99 → Q (.ref W) { sF with heap := h9, toks := kk9 }) (ret2 : ∀ (h9 : Heap) (kk9 : Nat) (t7 : Tok), Fr h₀ LF h9 mF → News h₀ LF h9 (news) → 100 ≤ lv → Q (.str (Str.ofString "ErrorException") t7) { sF with heap := h9, toks := kk9 })
    (hf9 : f9 = 247 := by exact rfl) (hv9 : vs9 = [.str (Str.ofString "make_expr") t, .ref al] := by exact rfl) (hB9 : Below A₀ h₀ [] h₀ := by k_asm) (hF9 : Fr h₀ LF sF.heap mF := by k_asm) (hX9 : (hd.heap_1 w.params).In h₀ := by k_asm) (hN9 : News h₀ LF sF.heap news9 := by k_asm) (hs9 : ∀ q9 ∈ ((al, listOf #[.ref s0, .ref b, .ref i, .ref a] n) :: (s0, tupO [.str (Str.ofString "sym") ts, .str x tx] ns) :: news : List (Addr × Obj)), q9 ∈ news9 := by refine List.forall_mem_cons.mpr ⟨?_, List.forall_mem_cons.mpr ⟨?_, fun _ h => h⟩⟩ <;> k_mem) (hT9 : Top hd.view_1 (looseW hd.view_1 [Str.ofString "RowsError", Str.ofString "int_value", Str.ofString "named"]) mean mg mb h₀ := by k_asm) (hk9 : cs.kind = .function := by first | exact rfl | assumption) (hd9 : dp + 32 < recursionLimit := by k_room) (hu9 : un + 8 * 32 < cLine := by k_units) (ma : (a, tupO [.str (Str.ofString "tree") k1, .ref Tr] k2) ∈ news := by k_mem) (mb : (b, tupO [.str (Str.ofString "sym") k3, .str z3 k4] k5) ∈ news := by k_mem) (mi : (i, tupO [.str (Str.ofString "int") k6, .str (Str.ofString "Int64") k7, .int 5 k8] k9) ∈ news := by k_mem) (hT : TreeIn tl (.ref Tr) lv C := by assumption) (hx : (Tr, tupO [.str (Str.ofString "expr") u1, .str z u2, .ref q] u3) ∈ tl := by assumption) (htl : ∀ p ∈ tl, p ∈ news := by kpc_g) (h96 : 96 ≤ lv := by omega) (hC : C ≤ 300 := by omega) :
    wpAny (model PySem.Challenge.rw_sf0040_01.row.prog w) (ktrTop dp un gd cn cs LF aF ccd [] []) (call (.ref f9) vs9) Q E sF := by
  subst hf9 hv9
  rcases Nat.lt_or_ge 99 lv with h99 | h99
  · refine Ctr0.use (dto4 (al := al) (n := n) (s0 := s0) (ts := ts) (ns := ns) (x := x) (tx := tx) (t := t) hT hx htl ma mb mi h96 hC (by omega)) hB9 hF9 hX9 hN9 hs9 hT9 hk9 hd9 hu9 ?_
    rintro v9 h9 kk9 n9 hF8 hN8 ⟨⟨t7, rfl⟩, rfl⟩
    exact ret2 h9 kk9 _ hF8 hN8 h99
  · refine Ctr.use (dmk4 (al := al) (n := n) (s0 := s0) (ts := ts) (ns := ns) (x := x) (tx := tx) (t := t) hT hx htl ma mb mi h96 hC (by omega)) hB9 hF9 hX9 hN9 hs9 hT9 hk9 hd9 hu9 ?_
    rintro v9 h9 kk9 n9 hF8 hN8 ⟨⟨W, t, p, us, ex, t1, t2, rfl, rfl, a1, a2, a3, a4, hp⟩, hbk⟩
    exact ret1 h9 kk9 _ _ _ _ _ _ _ hF8 hN8 a1 a2 a3 a4 hp hbk (by omega)
theorem dmk5 {w : World} {tl news : List (Addr × Obj)} {Tr q al s0 a b i : Addr} {lv C n ns : Nat} {x z : Str} {tx ts t u1 u2 k1 k3 k4 k6 k7 k8 : Tok} {u3 k2 k5 k9 : Nat} {z3 : Str} (hT : TreeIn tl (.ref Tr) lv C) (hx : (Tr, tupO [.str (Str.ofString "expr") u1, .str z u2, .ref q] u3) ∈ tl) (htl : ∀ p ∈ tl, p ∈ news) (ma : (a, tupO [.str (Str.ofString "tree") k1, .ref Tr] k2) ∈ news) (mb : (b, tupO [.str (Str.ofString "sym") k3, .str z3 k4] k5) ∈ news) (mi : (i, tupO [.str (Str.ofString "int") k6, .str (Str.ofString "Int64") k7, .int 5 k8] k9) ∈ news) (h96 : 96 ≤ lv) (hC : C ≤ 300) (h99 : lv ≤ 99) :
    Ctr w 247 32 ((al, listOf #[.ref s0, .ref a, .ref b, .ref i] n) :: (s0, tupO [.str (Str.ofString "sym") ts, .str x tx] ns) :: news) [.str (Str.ofString "make_expr") t, .ref al] (fun r n' => Made [.ref a, .ref b, .ref i] lv (C + 2) x tx ([(a, tupO [.str (Str.ofString "tree") k1, .ref Tr] k2), (b, tupO [.str (Str.ofString "sym") k3, .str z3 k4] k5), (i, tupO [.str (Str.ofString "int") k6, .str (Str.ofString "Int64") k7, .int 5 k8] k9)] ++ tl) news r n' ∧ ∀ p ∈ [(a, tupO [.str (Str.ofString "tree") k1, .ref Tr] k2), (b, tupO [.str (Str.ofString "sym") k3, .str z3 k4] k5), (i, tupO [.str (Str.ofString "int") k6, .str (Str.ofString "Int64") k7, .int 5 k8] k9)] ++ tl, p ∈ news) := by
  have hb : ∀ p ∈ [(a, tupO [.str (Str.ofString "tree") k1, .ref Tr] k2), (b, tupO [.str (Str.ofString "sym") k3, .str z3 k4] k5), (i, tupO [.str (Str.ofString "int") k6, .str (Str.ofString "Int64") k7, .int 5 k8] k9)] ++ tl, p ∈ news := fun p hp => by
    simp only [List.mem_append, List.mem_cons, List.not_mem_nil, or_false] at hp
    rcases hp with (h | h | h) | h
    · rw [h]; exact ma
    · rw [h]; exact mb
    · rw [h]; exact mi
    · exact htl p h
  exact Ctr.imp (did_make (vs := [.ref a, .ref b, .ref i]) hb (Vals.cast (.three (.tree (.head _) (List.mem_append_right _ hx) (hT.mono fun p hp => List.mem_append_right _ hp)) (.sym (.tail _ (.head _))) (.int (.tail _ (.tail _ (.head _))))) (by omega) (by omega)) (by omega) (by omega)) fun v n p => ⟨p, hb⟩
theorem dto5 {w : World} {tl news : List (Addr × Obj)} {Tr q al s0 a b i : Addr} {lv C n ns : Nat} {x z : Str} {tx ts t u1 u2 k1 k3 k4 k6 k7 k8 : Tok} {u3 k2 k5 k9 : Nat} {z3 : Str} (hT : TreeIn tl (.ref Tr) lv C) (hx : (Tr, tupO [.str (Str.ofString "expr") u1, .str z u2, .ref q] u3) ∈ tl) (htl : ∀ p ∈ tl, p ∈ news) (ma : (a, tupO [.str (Str.ofString "tree") k1, .ref Tr] k2) ∈ news) (mb : (b, tupO [.str (Str.ofString "sym") k3, .str z3 k4] k5) ∈ news) (mi : (i, tupO [.str (Str.ofString "int") k6, .str (Str.ofString "Int64") k7, .int 5 k8] k9) ∈ news) (h96 : 96 ≤ lv) (hC : C ≤ 300) (h99 : 100 ≤ lv) :
    Ctr0 w 247 32 ((al, listOf #[.ref s0, .ref a, .ref b, .ref i] n) :: (s0, tupO [.str (Str.ofString "sym") ts, .str x tx] ns) :: news) [.str (Str.ofString "make_expr") t, .ref al] (fun v n' => (∃ t, v = .str (Str.ofString "ErrorException") t) ∧ n' = news) := by
  have hb : ∀ p ∈ [(a, tupO [.str (Str.ofString "tree") k1, .ref Tr] k2), (b, tupO [.str (Str.ofString "sym") k3, .str z3 k4] k5), (i, tupO [.str (Str.ofString "int") k6, .str (Str.ofString "Int64") k7, .int 5 k8] k9)] ++ tl, p ∈ news := fun p hp => by
    simp only [List.mem_append, List.mem_cons, List.not_mem_nil, or_false] at hp
    rcases hp with (h | h | h) | h
    · rw [h]; exact ma
    · rw [h]; exact mb
    · rw [h]; exact mi
    · exact htl p h
  exact did_too (vs := [.ref a, .ref b, .ref i]) hb (Vals.cast (d' := lv) (c' := C + 2) (.three (.tree (.head _) (List.mem_append_right _ hx) (hT.mono fun p hp => List.mem_append_right _ hp)) (.sym (.tail _ (.head _))) (.int (.tail _ (.tail _ (.head _))))) (by omega) (by omega)) (by omega) (by omega)
theorem dx5_go {w : World} {tl news : List (Addr × Obj)} {Tr q al s0 a b i : Addr} {lv C n ns : Nat} {x z : Str} {tx ts t u1 u2 k1 k3 k4 k6 k7 k8 : Tok} {u3 k2 k5 k9 : Nat} {z3 : Str} {mean : ExcName → Option Value} {mg mb : Str → Option Value} {dp un : Nat} {gd : Option (List Code)} {cn : Str} {cs : Scope} {aF : Addr} {ccd : Value} {A₀ : Around} {h₀ : Heap} {LF : Addr} {mF : Str → Option Value} {sF : Shared} {Q E : Value → Shared → Prop} {f9 : Addr} {vs9 : List Value} {news9 : List (Addr × Obj)}
    (ret1 : ∀ (h9 : Heap) (kk9 : Nat) (W t p : Addr) (us : List Value) (ex : List (Addr × Obj)) (t1 t2 : Tok), Fr h₀ LF h9 mF → News h₀ LF h9 ((W, tupO [.str (Str.ofString "tree") t1, .ref t] 0) :: (t, tupO [.str (Str.ofString "expr") t2, .str x tx, .ref p] 0) :: (p, tupO us 0) :: (ex ++ news)) → AllLt W news → AllLt t news → AllLt p news → (∀ q ∈ ex, AllLt q.1 news) → Parts (ex ++ ([(a, tupO [.str (Str.ofString "tree") k1, .ref Tr] k2), (b, tupO [.str (Str.ofString "sym") k3, .str z3 k4] k5), (i, tupO [.str (Str.ofString "int") k6, .str (Str.ofString "Int64") k7, .int 5 k8] k9)] ++ tl)) us [.ref a, .ref b, .ref i] lv (C + 2) → (∀ p ∈ [(a, tupO [.str (Str.ofString "tree") k1, .ref Tr] k2), (b, tupO [.str (Str.ofString "sym") k3, .str z3 k4] k5), (i, tupO [.str (Str.ofString "int") k6, .str (Str.ofString "Int64") k7, .int 5 k8] k9)] ++ tl, p ∈ news) → lv ≤ 99 → Q (.ref W) { sF with heap := h9, toks := kk9 }) (ret2 : ∀ (h9 : Heap) (kk9 : Nat) (t7 : Tok), Fr h₀ LF h9 mF → News h₀ LF h9 (news) → 100 ≤ lv → Q (.str (Str.ofString "ErrorException") t7) { sF with heap := h9, toks := kk9 })
    (hf9 : f9 = 247 := by exact rfl) (hv9 : vs9 = [.str (Str.ofString "make_expr") t, .ref al] := by exact rfl) (hB9 : Below A₀ h₀ [] h₀ := by k_asm) (hF9 : Fr h₀ LF sF.heap mF := by k_asm) (hX9 : (hd.heap_1 w.params).In h₀ := by k_asm) (hN9 : News h₀ LF sF.heap news9 := by k_asm) (hs9 : ∀ q9 ∈ ((al, listOf #[.ref s0, .ref a, .ref b, .ref i] n) :: (s0, tupO [.str (Str.ofString "sym") ts, .str x tx] ns) :: news : List (Addr × Obj)), q9 ∈ news9 := by refine List.forall_mem_cons.mpr ⟨?_, List.forall_mem_cons.mpr ⟨?_, fun _ h => h⟩⟩ <;> k_mem) (hT9 : Top hd.view_1 (looseW hd.view_1 [Str.ofString "RowsError", Str.ofString "int_value", Str.ofString "named"]) mean mg mb h₀ := by k_asm) (hk9 : cs.kind = .function := by first | exact rfl | assumption) (hd9 : dp + 32 < recursionLimit := by k_room) (hu9 : un + 8 * 32 < cLine := by k_units) (ma : (a, tupO [.str (Str.ofString "tree") k1, .ref Tr] k2) ∈ news := by k_mem) (mb : (b, tupO [.str (Str.ofString "sym") k3, .str z3 k4] k5) ∈ news := by k_mem) (mi : (i, tupO [.str (Str.ofString "int") k6, .str (Str.ofString "Int64") k7, .int 5 k8] k9) ∈ news := by k_mem) (hT : TreeIn tl (.ref Tr) lv C := by assumption) (hx : (Tr, tupO [.str (Str.ofString "expr") u1, .str z u2, .ref q] u3) ∈ tl := by assumption) (htl : ∀ p ∈ tl, p ∈ news := by kpc_g) (h96 : 96 ≤ lv := by omega) (hC : C ≤ 300 := by omega) :
    wpAny (model PySem.Challenge.rw_sf0040_01.row.prog w) (ktrTop dp un gd cn cs LF aF ccd [] []) (call (.ref f9) vs9) Q E sF := by
  subst hf9 hv9
  rcases Nat.lt_or_ge 99 lv with h99 | h99
  · refine Ctr0.use (dto5 (al := al) (n := n) (s0 := s0) (ts := ts) (ns := ns) (x := x) (tx := tx) (t := t) hT hx htl ma mb mi h96 hC (by omega)) hB9 hF9 hX9 hN9 hs9 hT9 hk9 hd9 hu9 ?_
    rintro v9 h9 kk9 n9 hF8 hN8 ⟨⟨t7, rfl⟩, rfl⟩
    exact ret2 h9 kk9 _ hF8 hN8 h99
  · refine Ctr.use (dmk5 (al := al) (n := n) (s0 := s0) (ts := ts) (ns := ns) (x := x) (tx := tx) (t := t) hT hx htl ma mb mi h96 hC (by omega)) hB9 hF9 hX9 hN9 hs9 hT9 hk9 hd9 hu9 ?_
    rintro v9 h9 kk9 n9 hF8 hN8 ⟨⟨W, t, p, us, ex, t1, t2, rfl, rfl, a1, a2, a3, a4, hp⟩, hbk⟩
    exact ret1 h9 kk9 _ _ _ _ _ _ _ hF8 hN8 a1 a2 a3 a4 hp hbk (by omega)
theorem text_go {w : World} {a b : Addr} {t1 t2 t3 : Tok} {n n2 : Nat} {news : List (Addr × Obj)} {mean : ExcName → Option Value} {mg mb : Str → Option Value} {dp un : Nat} {gd : Option (List Code)} {cn : Str} {cs : Scope} {aF : Addr} {ccd : Value} {A₀ : Around} {h₀ : Heap} {LF : Addr} {mF : Str → Option Value} {sF : Shared} {Q E : Value → Shared → Prop} {f9 : Addr} {vs9 : List Value} {news9 : List (Addr × Obj)}
    (ret : ∀ (h9 : Heap) (kk9 : Nat) (t7 : Tok), Fr h₀ LF h9 mF → News h₀ LF h9 (news) → Q (.str (Str.ofString "TypeError") t7) { sF with heap := h9, toks := kk9 })
    (hf9 : f9 = 247 := by exact rfl) (hv9 : vs9 = [.str (Str.ofString "make_expr") t3, .ref a] := by exact rfl) (hB9 : Below A₀ h₀ [] h₀ := by k_asm) (hF9 : Fr h₀ LF sF.heap mF := by k_asm) (hX9 : (hd.heap_1 w.params).In h₀ := by k_asm) (hN9 : News h₀ LF sF.heap news9 := by k_asm) (hs9 : ∀ q9 ∈ ((a, listOf #[.ref b] n) :: (b, tupO [.str (Str.ofString "text") t1, .bytes #[98, 108, 111, 99, 107] t2] n2) :: news : List (Addr × Obj)), q9 ∈ news9 := by refine List.forall_mem_cons.mpr ⟨?_, List.forall_mem_cons.mpr ⟨?_, fun _ h => h⟩⟩ <;> k_mem) (hT9 : Top hd.view_1 (looseW hd.view_1 [Str.ofString "RowsError", Str.ofString "int_value", Str.ofString "named"]) mean mg mb h₀ := by k_asm) (hk9 : cs.kind = .function := by first | exact rfl | assumption) (hd9 : dp + 12 < recursionLimit := by k_room) (hu9 : un + 8 * 12 < cLine := by k_units)  :
    wpAny (model PySem.Challenge.rw_sf0040_01.row.prog w) (ktrTop dp un gd cn cs LF aF ccd [] []) (call (.ref f9) vs9) Q E sF := by
  subst hf9 hv9
  refine Ctr0.use (did_text w a b t1 t2 t3 n n2 news) hB9 hF9 hX9 hN9 hs9 hT9 hk9 hd9 hu9 ?_
  rintro v9 h9 kk9 n9 hF8 hN8 ⟨⟨t7, rfl⟩, rfl⟩
  exact ret h9 kk9 _ hF8 hN8
theorem sym_go {w : World} {a b : Addr} {t1 t2 t3 : Tok} {n n2 : Nat} {x : Str} {news : List (Addr × Obj)} {mean : ExcName → Option Value} {mg mb : Str → Option Value} {dp un : Nat} {gd : Option (List Code)} {cn : Str} {cs : Scope} {aF : Addr} {ccd : Value} {A₀ : Around} {h₀ : Heap} {LF : Addr} {mF : Str → Option Value} {sF : Shared} {Q E : Value → Shared → Prop} {f9 : Addr} {vs9 : List Value} {news9 : List (Addr × Obj)}
    (ret : ∀ (h9 : Heap) (kk9 : Nat) (t7 : Tok), Fr h₀ LF h9 mF → News h₀ LF h9 (news) → Q (.str (Str.ofString "TypeError") t7) { sF with heap := h9, toks := kk9 })
    (hf9 : f9 = 247 := by exact rfl) (hv9 : vs9 = [.str (Str.ofString "expr_head") t3, .ref a] := by exact rfl) (hB9 : Below A₀ h₀ [] h₀ := by k_asm) (hF9 : Fr h₀ LF sF.heap mF := by k_asm) (hX9 : (hd.heap_1 w.params).In h₀ := by k_asm) (hN9 : News h₀ LF sF.heap news9 := by k_asm) (hs9 : ∀ q9 ∈ ((a, listOf #[.ref b] n) :: (b, tupO [.str (Str.ofString "sym") t1, .str x t2] n2) :: news : List (Addr × Obj)), q9 ∈ news9 := by refine List.forall_mem_cons.mpr ⟨?_, List.forall_mem_cons.mpr ⟨?_, fun _ h => h⟩⟩ <;> k_mem) (hT9 : Top hd.view_1 (looseW hd.view_1 [Str.ofString "RowsError", Str.ofString "int_value", Str.ofString "named"]) mean mg mb h₀ := by k_asm) (hk9 : cs.kind = .function := by first | exact rfl | assumption) (hd9 : dp + 16 < recursionLimit := by k_room) (hu9 : un + 8 * 16 < cLine := by k_units)  :
    wpAny (model PySem.Challenge.rw_sf0040_01.row.prog w) (ktrTop dp un gd cn cs LF aF ccd [] []) (call (.ref f9) vs9) Q E sF := by
  subst hf9 hv9
  refine Ctr0.use (did_sym) hB9 hF9 hX9 hN9 hs9 hT9 hk9 hd9 hu9 ?_
  rintro v9 h9 kk9 n9 hF8 hN8 ⟨⟨t7, rfl⟩, rfl⟩
  exact ret h9 kk9 _ hF8 hN8
end

section
set_option maxRecDepth 100000
set_option maxHeartbeats 4000000
def LJ (src : Addr) (i : Nat) (m : Str → Option Value) (nw : List (Addr × Obj)) : Prop :=
  ∃ (x y : Int) (tx ty : Tok) (ns : Nat) (tl : List (Addr × Obj)) (T : Addr) (lv C : Nat) (tkl : Tok) (z : Str) (t1 t2 : Tok) (p : Addr) (k : Nat), (∀ q ∈ (src, listOf #[.int x tx, .int y ty] ns) :: tl, q ∈ nw) ∧ 0 ≤ x ∧ 0 ≤ y ∧ y < 2 ^ 33 ∧ (∀ q ∈ tl, q.1 ≠ src) ∧
    m (Str.ofString "source") = some (.ref src) ∧ m (Str.ofString "tree") = some (.ref T) ∧ m (Str.ofString "levels") = some (.int (lv : Int) tkl) ∧ 96 ≤ lv ∧ lv ≤ 100 ∧ TreeIn tl (.ref T) lv C ∧ C ≤ 200 + 3 * i ∧ (T, tupO [.str (Str.ofString "expr") t1, .str z t2, .ref p] k) ∈ tl
theorem law_j0 {src P T : Addr} {ob : Obj} {x y many : Int} {tx ty tkl : Tok} {ns dd : Nat} {ex : List (Addr × Obj)} {m : Str → Option Value} (hT : TreeIn ex (.ref T) dd (2 * dd - 1)) (hx : ∃ p z t1 t2 k, (T, tupO [.str (Str.ofString "expr") t1, .str z t2, .ref p] k) ∈ ex) (he : ∀ q ∈ ex, src < q.1)
    (hm : many = dd) (h1 : 96 ≤ dd) (h2 : dd ≤ 99) (h0 : 0 ≤ x) (hy : 0 ≤ y) (hy2 : y < 2 ^ 33) (e1 : m (Str.ofString "source") = some (.ref src)) (e2 : m (Str.ofString "tree") = some (.ref T)) (e3 : m (Str.ofString "levels") = some (.int many tkl)) :
    LJ src 0 m ((P, ob) :: (src, listOf #[.int x tx, .int y ty] ns) :: (ex ++ [])) := by
  obtain ⟨p, z, t1, t2, k, hx⟩ := hx
  subst hm
  exact ⟨x, y, tx, ty, ns, ex, T, dd, _, tkl, z, t1, t2, p, k, fun q hq => by
    simp only [List.append_nil]; exact .tail _ hq, h0, hy, hy2, fun q hq => Nat.ne_of_gt (he q hq), e1, e2, e3, h1, by omega, hT, by omega, hx⟩
theorem turn_prep2 {h₀ h : Heap} {L src I : Addr} {so : Obj} {own nw tl : List (Addr × Obj)} {G : Prop} (N : News h₀ L h (own ++ nw)) (hsub : ∀ q ∈ (src, so) :: tl, q ∈ nw) (hne : ∀ q ∈ tl, q.1 ≠ src) (hnI : ∀ p ∈ nw, p.1 ≠ I) (hown : ∀ p ∈ own, p.1 = I)
    (k : News h₀ L h ((src, so) :: (own ++ tl)) → (∀ q ∈ own ++ tl, q.1 ≠ src) → src ≠ I → G) : G := by
  have hs : src ≠ I := hnI _ (hsub _ (.head _))
  refine k (fun q hq => ?_) (fun q hq => ?_) hs
  · rcases List.mem_cons.mp hq with h | h
    · exact N q (List.mem_append_right _ (h ▸ hsub _ (.head _)))
    · rcases List.mem_append.mp h with h | h
      · exact N q (List.mem_append_left _ h)
      · exact N q (List.mem_append_right _ (hsub _ (.tail _ h)))
  · rcases List.mem_append.mp hq with h | h
    · rw [hown q h]; exact Ne.symm hs
    · exact hne q h
theorem turn_same {h₀ h₁ : Heap} {L src I Tr p : Addr} {own NEWS tl : List (Addr × Obj)} {x y : Int} {tx ty tkl t1 t2 : Tok} {ns lv C i tk k : Nat} {z : Str} {m' : Str → Option Value} {s₁ : Shared} {Qr : Value → Shared → Prop} {Qb : Shared → Prop}
    (Fk : Fr h₀ L h₁ m') (N : News h₀ L h₁ NEWS) (hsrc : (src, listOf #[.int x tx, .int y ty] ns) ∈ NEWS) (hown : ∀ q ∈ own, q ∈ NEWS) (htl : ∀ q ∈ tl, q ∈ NEWS) (hne : ∀ q ∈ tl, q.1 ≠ src) (hnI : ∀ q ∈ tl, q.1 ≠ I) (hsI : src ≠ I)
    (hx0 : 0 ≤ x) (hy0 : 0 ≤ y) (hy2 : y < 2 ^ 33) (e1 : m' (Str.ofString "source") = some (.ref src)) (e2 : m' (Str.ofString "tree") = some (.ref Tr)) (e3 : m' (Str.ofString "levels") = some (.int (lv : Int) tkl)) (h96 : 96 ≤ lv) (h100 : lv ≤ 100) (hT : TreeIn tl (.ref Tr) lv C) (hC : C ≤ 200 + 3 * i) (hx : (Tr, tupO [.str (Str.ofString "expr") t1, .str z t2, .ref p] k) ∈ tl) :
    LEnd (LoopStepV h₀ L [I] own (LJ src (i + 1)) s₁ Qr Qb .cont { s₁ with heap := h₁, toks := tk }) := by
  refine LoopStepU.intro (news₂ := (src, listOf #[.int x tx, .int y ty] ns) :: tl) Fk (cb_drop N fun q hq => ?_) (fun q hq => ?_) ⟨x, y, tx, ty, ns, tl, Tr, lv, C, tkl, z, t1, t2, p, k, fun q hq => hq, hx0, hy0, hy2, hne, e1, e2, e3, h96, h100, hT, by omega, hx⟩
  · rcases List.mem_append.mp hq with h | h
    · exact hown q h
    · rcases List.mem_cons.mp h with h | h
      · rw [h]; exact hsrc
      · exact htl q h
  · rw [List.mem_singleton]
    rcases List.mem_cons.mp hq with h | h
    · rw [h]; exact hsI
    · exact hnI q h
theorem turn_next {h₀ h₁ : Heap} {L src I W t p : Addr} {oW oI : Obj} {d0 : Addr × Obj} {us vs : List Value} {own NEWS tl ex ld : List (Addr × Obj)} {x y : Int} {tx ty tkl t2 tz : Tok} {ns lv C i tk : Nat} {z : Str} {m' : Str → Option Value} {s₁ : Shared} {Qr : Value → Shared → Prop} {Qb : Shared → Prop}
    (Fk : Fr h₀ L h₁ m') (N : News h₀ L h₁ (d0 :: (W, oW) :: (t, tupO [.str (Str.ofString "expr") t2, .str z tz, .ref p] 0) :: (p, tupO us 0) :: (ex ++ NEWS))) (hbk : ∀ q ∈ ld ++ tl, q ∈ NEWS) (hP : Parts (ex ++ (ld ++ tl)) us vs lv C) (at' : AllLt t NEWS) (ap : AllLt p NEWS) (hex : ∀ q ∈ ex, AllLt q.1 NEWS)
    (hsrc : (src, listOf #[.int x tx, .int y ty] ns) ∈ NEWS) (hown : ∀ q ∈ own, q ∈ NEWS) (hI : (I, oI) ∈ own) (hld : ∀ q ∈ ld, src < q.1 ∧ AllLt q.1 (own ++ tl)) (hne : ∀ q ∈ tl, q.1 ≠ src) (hnI : ∀ q ∈ tl, q.1 ≠ I) (hsI : src ≠ I)
    (hx0 : 0 ≤ x) (hy0 : 0 ≤ y) (hy2 : y < 2 ^ 33) (e1 : m' (Str.ofString "source") = some (.ref src)) (e2 : m' (Str.ofString "tree") = some (.ref t)) (e3 : m' (Str.ofString "levels") = some (.int ((lv : Int) + 1) tkl)) (h96 : 96 ≤ lv) (h99 : lv ≤ 99) (hC : C ≤ 202 + 3 * i) :
    LEnd (LoopStepV h₀ L [I] own (LJ src (i + 1)) s₁ Qr Qb .next { s₁ with heap := h₁, toks := tk }) := by
  have key : ∀ q ∈ (t, tupO [.str (Str.ofString "expr") t2, .str z tz, .ref p] 0) :: (p, tupO us 0) :: (ex ++ (ld ++ tl)), q.1 ≠ src ∧ q.1 ≠ I ∧ q ∈ d0 :: (W, oW) :: (t, tupO [.str (Str.ofString "expr") t2, .str z tz, .ref p] 0) :: (p, tupO us 0) :: (ex ++ NEWS) := fun q hq => by
    rcases List.mem_cons.mp hq with h | h
    · rw [h]; exact ⟨Nat.ne_of_gt (tb_ltOf at' _ hsrc), Nat.ne_of_gt (tb_ltOf at' _ (hown _ hI)), .tail _ (.tail _ (.head _))⟩
    · rcases List.mem_cons.mp h with h | h
      · rw [h]; exact ⟨Nat.ne_of_gt (tb_ltOf ap _ hsrc), Nat.ne_of_gt (tb_ltOf ap _ (hown _ hI)), .tail _ (.tail _ (.tail _ (.head _)))⟩
      · rcases List.mem_append.mp h with h | h
        · exact ⟨Nat.ne_of_gt (tb_ltOf (hex q h) _ hsrc), Nat.ne_of_gt (tb_ltOf (hex q h) _ (hown _ hI)), .tail _ (.tail _ (.tail _ (.tail _ (List.mem_append_left _ h))))⟩
        · have hm := hbk q h
          rcases List.mem_append.mp h with h | h
          · exact ⟨Nat.ne_of_gt (hld q h).1, Nat.ne_of_gt (tb_ltOf (hld q h).2 _ (List.mem_append_left _ hI)), .tail _ (.tail _ (.tail _ (.tail _ (List.mem_append_right _ hm))))⟩
          · exact ⟨hne q h, hnI q h, .tail _ (.tail _ (.tail _ (.tail _ (List.mem_append_right _ hm))))⟩
  refine LoopStepU.intro (news₂ := (src, listOf #[.int x tx, .int y ty] ns) :: (t, tupO [.str (Str.ofString "expr") t2, .str z tz, .ref p] 0) :: (p, tupO us 0) :: (ex ++ (ld ++ tl))) Fk (cb_drop N fun q hq => ?_) (fun q hq => ?_)
    ⟨x, y, tx, ty, ns, (t, tupO [.str (Str.ofString "expr") t2, .str z tz, .ref p] 0) :: (p, tupO us 0) :: (ex ++ (ld ++ tl)), t, lv + 1, C + 1, tkl, z, t2, tz, p, 0, fun q hq => hq, hx0, hy0, hy2, fun q hq => (key q hq).1, e1, e2, e3, by omega, by omega, (hP.mono fun q hq => .tail _ (.tail _ hq)).tree (.head _) (.tail _ (.head _)), by omega, .head _⟩
  · rcases List.mem_append.mp hq with h | h
    · exact .tail _ (.tail _ (.tail _ (.tail _ (List.mem_append_right _ (hown q h)))))
    · rcases List.mem_cons.mp h with h | h
      · rw [h]; exact .tail _ (.tail _ (.tail _ (.tail _ (List.mem_append_right _ hsrc))))
      · exact (key q h).2.2
  · rw [List.mem_singleton]
    rcases List.mem_cons.mp hq with h | h
    · rw [h]; exact hsI
    · exact (key q h).2.1
end

section
set_option maxRecDepth 100000
set_option maxHeartbeats 9000000
theorem sl_lit {prog : Program} {w : World} {A : Around} {E : Value → Shared → Prop} {s : Shared} {h₀ : Heap} {L : Addr} {m : Str → Option Value} {news : List (Addr × Obj)} {value slice : PySem.Expr} {l : Addr} {v1 v2 : Value} {n : Nat} {k : Int} {t : Tok} {zs : List Value} {Q : Value → Shared → Prop}
    (F : Fr h₀ L s.heap m := by k_asm) (N : News h₀ L s.heap news := by k_asm) (hl : (l, listOf #[v1, v2] n) ∈ news := by k_mem) (e : (slicePick #[v1, v2] none (some k) none).toList = zs := by exact rfl)
    (h : ∀ D h', Fr h₀ L h' m → News h₀ L h' ((D, listOf zs.toArray 0) :: news) → (∀ p ∈ news, p.1 < D) → Q (.ref D) { s with heap := h' })
    (hs : subscripted slice false (.ref l) (.ref s.heap.objs.size) = operate [.ref s.heap.objs.size, .ref l] (getItem (.ref l) (.ref s.heap.objs.size)) := by with_unfolding_all rfl) (ht : ∀ r, letTemporaryGo value (.ref l) r = pure () := by intro _; with_unfolding_all rfl) :
    wpAny (model prog w) A (subscriptTail value slice (.ref l) (.ref s.heap.objs.size)) Q E { s with heap := s.heap.push { cls := .type "slice", data := .fields #[.none, .int k t, .none] } } :=
  kmk_slice_lit F N (News.isList N hl) .none (.int _ _) e h hs ht (by show 2 ≤ PySem.sizeLine; decide)
local macro_rules | `(tactic| walk_at "subscriptTail") => `(tactic| ((with_reducible show wpAny _ _ (subscriptTail _ _ (Value.ref _) (Value.ref _)) _ _ _); k_dflt (refine' sl_lit (s := ⟨_, _, _, _, _⟩) (h := ?_)); intro D' h' F' N' l1; (try dsimp only at N'); (try k_lt l1); (try k_sweep)))
section
open PySem.Calls
variable {prog : Program} {w : World} {A : Around} {E : Value → Shared → Prop} {s : Shared} {h₀ : Heap} {env : Env} {x : Str} {px : Pos} {body : List Stmt} {Q : Flow → Shared → Prop} {m : Str → Option Value} {news : List (Addr × Obj)}
/-- what a loop over a range leaves to show -/
def RangeLoop2 (prog : Program) (w : World) (A : Around) (h₀ : Heap) (env : Env) (x : Str) (px : Pos) (body : List Stmt) (Q : Flow → Shared → Prop) (E : Value → Shared → Prop) (b : Int) (m : Str → Option Value) (news : List (Addr × Obj)) (s : Shared) : Prop :=
  ∃ (n : Nat) (J : Nat → (Str → Option Value) → List (Addr × Obj) → Prop), (n : Int) = b ∧ J 0 m news ∧
    (∀ i t m₁ news₁ h₁ tk₁ I oI own, i < n → J i m₁ news₁ → (I, oI) ∈ own → (∀ p ∈ news₁, p.1 ≠ I) → (∀ p ∈ own, p.1 = I) → Fr h₀ env.locals h₁ m₁ → News h₀ env.locals h₁ (own ++ news₁) →
      wpAny (model prog w) A (assign (.Name x px) env (.int (i : Int) t)) (fun _ s₂ => wpAny (model prog w) A (execs body env)
        (LoopStepV h₀ env.locals [I] own (J (i + 1)) { s with heap := h₁, toks := tk₁ } (fun v s' => Q (.ret v) s') fun s' => Q .next s') E s₂) E { s with heap := h₁, toks := tk₁ }) ∧
    (∀ h' tk m' news', Fr h₀ env.locals h' m' → News h₀ env.locals h' news' → J n m' news' → Q .next { s with heap := h', toks := tk })
theorem turns_range2 {r : Addr} {b : Int} {t u v : Tok} (hh : A.handled = none := by rfl) (F : Fr h₀ env.locals s.heap m := by k_asm) (N : News h₀ env.locals s.heap news := by k_asm) (hr : IsRange s.heap r 0 b 1 t u v := by assumption) (hb0 : 0 ≤ b := by first | decide | omega) (hb1 : b < 1000 := by first | decide | omega)
    (h : RangeLoop2 prog w A h₀ env x px body Q E b m news s) : wpAny (model prog w) A (pyIter (.ref r)) (fun it s₂ => TurnsAt prog w A h₀ env (.Name x px) body Q E it s₂) E s := by
  obtain ⟨n, J, hn, j0, step, fin⟩ := h
  have hsz : Builtin.Range.rangeSize 0 b 1 = (n : Int) := by
    rw [rangeSize_nat]; omega
  have hsm : Builtin.Range.small 0 b 1 = true := by
    simp only [Builtin.Range.small, hsz, Builtin.Range.rangeFitsLong]
    simp
    omega
  refine wpAny_pyIter_range hr hsm ?_
  have hI₀ := next_is_new F
  have hIL : env.locals ≠ s.heap.objs.size := Nat.ne_of_lt F.ns.lt
  refine ⟨s.heap.objs.size, [s.heap.objs.size], [s.heap.objs.size], n, _, _, _, m, news, J, rfl, KTurns.ofWalks (LCg.range_walks hh 0 n) ?_, by simpa using hIL, ?_, ?_, ?_, F.keeps fun _ _ e => Heap.get?_push_of_some _ e, N.grown fun _ _ e => Heap.get?_push_of_some _ e, j0, ?_, ?_⟩
  · intro i v s' Q' E' st hq
    unfold letOwnedTupleGo
    first
      | exact wpAny_pure hq
      | (cases v <;> first
          | exact wpAny_pure hq
          | (refine wpAny_bind (wpAny_load st ?_)
             exact wpAny_pure hq))
  · intro b' hb'
    rw [List.mem_singleton.mp hb']; exact hI₀
  · intro p hp
    simpa using Nat.ne_of_lt (Heap.lt_size (N p hp).1)
  · show IsRangeIter _ _ _ _ _
    rw [hsz]
    simpa using Heap.get?_push_size _ rfl
  · intro i v m₁ news₁ h₁ tk₁ own hi hP hJ hnw hown hgot hin hst F₁ N₁
    obtain ⟨t', rfl⟩ := hP
    rw [Int.zero_add]
    have hst' : h₁.get? s.heap.objs.size = some _ := hst
    exact step i t' m₁ news₁ h₁ tk₁ s.heap.objs.size _ own hi hJ (hin _ (by simp) hI₀ _ hst') (fun p hp => by simpa using hnw p hp) (fun p hp => by simpa using hown p hp) F₁ N₁
  · intro h' tk m' news' F' N' _ hJ
    exact fin h' tk m' news' F' N' hJ
end
local macro_rules | `(tactic| walk_at "call ref") => `(tactic| (k_dflt (refine' source_go ?_); kpc_piece))
local macro_rules | `(tactic| walk_at "call ref") => `(tactic| (k_dflt (refine' begun_go ?_); kpc_piece))
def RLoop2 (p : Prop) : Prop := p
theorem rloop2 {p : Prop} (h : RLoop2 p) : p := h
local macro_rules | `(tactic| walk_at "exec For Name Call cons nil") => `(tactic| (k_here; k_dflt (refine For_turns (by k_asm) ?_)))
local macro_rules | `(tactic| walk_at "pyIter ref") => `(tactic| (k_dflt (refine' turns_range2 (h := ?_)); refine rloop2 ?_))
local macro_rules | `(tactic| walk_at "LoopStepV") => `(tactic| (refine lend ?_))
local macro_rules | `(tactic| walk_at "call ref") => `(tactic| (k_dflt first | refine' digit4_go ?_ | refine' digit3_go ?_ ?_ ?_ | refine' digit2_go ?_); all_goals kpc_piece)
local macro_rules | `(tactic| walk_at "subscriptTail") => `(tactic| ((with_reducible show wpAny _ _ (subscriptTail _ _ (Value.ref _) (Value.int _ _)) _ _ _); (with_unfolding_all refine' sub4 (h := ?_)); intros; (try k_sweep)))
local macro_rules | `(tactic| walk_at "call ref") => `(tactic| (k_dflt first | refine' dx1_go ?_ ?_ | refine' dx2_go ?_ ?_ | refine' dx3_go ?_ ?_ | refine' dx4_go ?_ ?_ | refine' dx5_go ?_ ?_); all_goals kpc_piece)
local macro_rules | `(tactic| walk_at "call ref") => `(tactic| (k_dflt first | refine' text_go ?_ | refine' sym_go ?_); kpc_piece)
local macro_rules | `(tactic| walk_at "call ref") => `(tactic| (k_dflt (refine' told_go ?_); kpc_piece))
local macro_rules | `(tactic| k_qdec) => `(tactic| kernel_rfl)
theorem law : PySem.Challenge.rw_sf0040_01.Holds := by
  refine Mine.hd ?_
  w_strict (k_go0; (all_goals try k_fold); k_steps)
  refine ⟨3, LJ _, rfl, law_j0 (by assumption) (by assumption) (by assumption) (by assumption) (by assumption) (by assumption) (by assumption) (by assumption) (by assumption) rfl rfl rfl, ?_, ?_⟩
  · intro i t m₁ news₁ h₁ tk₁ I oI own hi hJ hI hnI hown F1 N1
    obtain ⟨x, y, tx, ty, ns, tl, Tr, lv, C, tkl, z, t1, t2, p, k, hsub, hx0, hy0, hy2, hne, e1, e2, e3, h96, h100, hT, hC, hx⟩ := hJ
    refine turn_prep2 N1 hsub hne hnI hown ?_
    clear N1; intro N1 hOT hsI
    replace F1 := fr_put (fr_put (fr_put F1 e1) (x := Str.ofString "tree") ((if_neg (by decide)).trans e2)) (x := Str.ofString "levels") ((if_neg (by decide)).trans ((if_neg (by decide)).trans e3))
    k_steps
    all_goals (rename Fr _ _ _ _ => kF9)
    all_goals (rename News _ _ _ _ => kN9)
    all_goals first | exact turn_next kF9 kN9 (by assumption) (by assumption) (by assumption) (by assumption) (by assumption) (by k_mem) (fun q hp => by (repeat (first | exact List.mem_append_left _ hp | exact hp | (refine (?_ : ∀ q : Addr × Obj, q ∈ (_ : List (Addr × Obj)) → q ∈ (_ : List (Addr × Obj))) _ hp; with_reducible assumption) | refine List.Mem.tail _ ?_ | refine List.mem_append_right _ ?_))) hI (by repeat (first | exact List.forall_mem_nil _ | refine List.forall_mem_cons.mpr ⟨by dsimp only; k_all, ?_⟩)) hne (fun q hq => hnI q (hsub q (.tail _ hq))) hsI (by assumption) (by assumption) (by assumption) rfl rfl rfl h96 (by assumption) (by omega) | exact turn_same kF9 kN9 (by k_mem) (fun q hp => by (repeat (first | exact List.mem_append_left _ hp | exact hp | (refine (?_ : ∀ q : Addr × Obj, q ∈ (_ : List (Addr × Obj)) → q ∈ (_ : List (Addr × Obj))) _ hp; with_reducible assumption) | refine List.Mem.tail _ ?_ | refine List.mem_append_right _ ?_))) (fun q hp => by (repeat (first | exact List.mem_append_left _ hp | exact hp | (refine (?_ : ∀ q : Addr × Obj, q ∈ (_ : List (Addr × Obj)) → q ∈ (_ : List (Addr × Obj))) _ hp; with_reducible assumption) | refine List.Mem.tail _ ?_ | refine List.mem_append_right _ ?_))) hne (fun q hq => hnI q (hsub q (.tail _ hq))) hsI (by assumption) (by assumption) (by assumption) rfl rfl rfl h96 h100 hT hC hx
  · intro h' tk m' news' F' N' hJ
    clear hJ
    dsimp only
    k_steps
end

end Mine
theorem PySem.Challenge.cw_sf0040_01_holds : PySem.Challenge.rw_sf0040_01.Holds := by
  exact Mine.law
